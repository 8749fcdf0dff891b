import PyProof.Rows.All
import Wide.All
import OpenK.AllK
import Wide.FinOn
import HandS.ForMost
import HandS.ForExc
import HandS.HeadHook1
import HandS.ExcCtx
import HandS.TupAny
import HandS.TupMul
import HandS.Style
import HandS.Wide
import HandS.IsInst
import KE.KDictPairs
import KE.KRevSl
import HandS.More
import HandS.Flow
import HandS.Zip
import HandS.Small
import KE.KStateDown
import HandS.Words
import HandS.WordsExc
import HandS.Defaults
import HandS.Ends
import HandS.Head0
import HandS.Head1
import HandS.Head2
import HandS.HeadEnd
import HandS.HeadHook2
import HandS.Strs
import HandS.HeadHook4
import HandS.RaiseMore
import PyProof.Rows.StrMul
import HandS.ExcInit
import HandS.TryOnly
import HandS.ExcIs
import HandS.HotCalls
import HandS.ExcField
import KE.KEqDict
import HandS.ExcValue
import HandS.SortKw
import KE.SortKeyHeap
import KE.DataFind
import PyProof.ReprBulk
import PySem.Challenge.RW_ruleplans_k03_trees_in_order
section
set_option Elab.async false
set_option linter.all false
set_option maxRecDepth 100000
namespace RP
open PySem

inductive D where
  | non | bl (b : Bool) | int (i : Int) | str (x : Str) | tup (xs : List D) | lst (xs : List D) | dct (ks vs : List D) | set (xs : List D) | frz (ns : List Int) | ref (n : Nat) | exc (a : Nat) | exf (a d : Nat) (ks : List Str) (vs : List D)
  deriving Inhabited

inductive Cell where
  | lst (xs : List D) | dct (ks vs : List D) | ins (c : Str) (fs : List (Str × D))
  deriving Inhabited
abbrev St := List Cell
abbrev Env := List (Option D)
structure Xc where
  cls : Str
  fs : List (Str × D)
inductive R (α : Type) where
  | ok (a : α) (st : St)
  | er (x : Xc) (st : St)
  | no
inductive RS where
  | nx (env : Env) (st : St)
  | rt (d : D) (st : St)
  | bk (env : Env) (st : St)
  | ct (env : Env) (st : St)
  | er (x : Xc) (env : Env) (st : St)
  | no
def R.bind {α β : Type} (r : R α) (k : α → St → R β) : R β := match r with
  | .ok a st => k a st
  | .er x st => .er x st
  | .no => .no
def R.of {α : Type} (o : Option α) (st : St) : R α := match o with
  | some a => .ok a st
  | none => .no

def big : Nat := 1000000
mutual
def dep : D → Nat
  | .tup xs => deps xs + 1
  | .lst xs => deps xs + 1
  | _ => 0
def deps : List D → Nat
  | [] => 0
  | x :: xs => max (dep x) (deps xs)
end
mutual
def pln : D → Bool
  | .tup xs => plns xs
  | .lst xs => plns xs
  | .dct _ _ => false
  | .set _ => false
  | .ref _ => false
  | .frz _ => false
  | .exc _ => false
  | .exf _ _ _ _ => false
  | _ => true
def plns : List D → Bool
  | [] => true
  | x :: xs => pln x && plns xs
end
mutual
def eqD : D → D → Bool
  | .non, .non => true
  | .bl a, .bl b => a == b
  | .bl a, .int j => (if a then 1 else 0) == j
  | .int i, .bl b => i == (if b then 1 else 0)
  | .int i, .int j => i == j
  | .str x, .str y => x == y
  | .lst xs, .lst ys => eqDs xs ys
  | .tup xs, .tup ys => eqDs xs ys
  | _, _ => false
def eqDs : List D → List D → Bool
  | [], [] => true
  | x :: xs, y :: ys => eqD x y && eqDs xs ys
  | _, _ => false
end
def see (st : St) : D → D
  | .ref n => match st[n]? with
    | some (.lst xs) => .lst xs
    | some (.dct ks vs) => .dct ks vs
    | _ => .ref n
  | d => d
def tru (st : St) (d : D) : Option Bool := match see st d with
  | .non => some false
  | .bl b => some b
  | .int i => some (i != 0)
  | .str x => if x.length ≤ big then some ((x.length : Int) != 0) else none
  | .tup xs => some (!xs.isEmpty)
  | .lst xs => some (!xs.isEmpty)
  | _ => none
def eqO (st : St) (x y : D) : Option Bool :=
  if (pln (see st x) && pln (see st y)) && decide (min (dep (see st x)) (dep (see st y)) ≤ 500) then some (eqD (see st x) (see st y)) else none

def slen (x : Str) : Nat := x.length
def addD (st : St) (x y : D) : Option D := match see st x, see st y with
  | .int i, .int j => some (.int (i + j))
  | .str a, .str b => if a.length + b.length ≤ big then some (.str (a ++ b)) else none
  | .tup a, .tup b => if a.length + b.length ≤ big then some (.tup (a ++ b)) else none
  | .lst a, .lst b => if a.length + b.length ≤ big then some (.lst (a ++ b)) else none
  | _, _ => none
def subD (st : St) (x y : D) : Option D := match x, y with
  | .int i, .int j => some (.int (i - j))
  | _, _ => none
def mulD (st : St) (x y : D) : Option D := match see st x, y with
  | .int i, .int j => if (decide (-(2 ^ 64) < i) && decide (i < 2 ^ 64)) || (decide (-(2 ^ 64) < j) && decide (j < 2 ^ 64)) then some (.int (i * j)) else none
  | .tup a, .int j => if decide (0 ≤ j) && decide (j ≤ 1000) && decide (a.length ≤ 1000) then some (.tup (List.replicate j.toNat a).flatten) else none
  | .lst a, .int j => if decide (0 ≤ j) && decide (j ≤ 1000) && decide (a.length ≤ 1000) then some (.lst (List.replicate j.toNat a).flatten) else none
  | _, _ => none
def modD (st : St) (x y : D) : Option D := match x, y with
  | .int i, .int j => if 0 < j then some (.int (i % j)) else none
  | _, _ => none
def fdivD (st : St) (x y : D) : Option D := match x, y with
  | .int i, .int j => if decide (0 < j) && decide (j < 2 ^ 64) then some (.int (i / j)) else none
  | _, _ => none
def powD (st : St) (x y : D) : Option D := match x, y with
  | .int i, .int j => if decide (0 ≤ i) && decide (i ≤ 10) && decide (0 ≤ j) && decide (j ≤ 20) then some (.int (i ^ j.toNat)) else none
  | _, _ => none
def bD (o : Option Bool) : Option D := o.map D.bl
def eqB (st : St) (x y : D) : Option D := bD (eqO st x y)
def neB (st : St) (x y : D) : Option D := bD ((eqO st x y).map not)
def ltB (st : St) (x y : D) : Option D := match x, y with
  | .int i, .int j => some (.bl (decide (i < j)))
  | _, _ => none
def leB (st : St) (x y : D) : Option D := match x, y with
  | .int i, .int j => some (.bl (decide (i ≤ j)))
  | _, _ => none
def gtB (st : St) (x y : D) : Option D := match x, y with
  | .int i, .int j => some (.bl (decide (j < i)))
  | _, _ => none
def geB (st : St) (x y : D) : Option D := match x, y with
  | .int i, .int j => some (.bl (decide (j ≤ i)))
  | _, _ => none
def isNon : D → Bool
  | .non => true
  | _ => false
def isB (st : St) (x y : D) : Option D := match x, y with
  | x, .non => some (.bl (isNon x))
  | .bl c, .bl b => some (.bl (decide (c = b)))
  | _, _ => none
def isnB (st : St) (x y : D) : Option D := match x, y with
  | x, .non => some (.bl (!isNon x))
  | .bl c, .bl b => some (.bl (!decide (c = b)))
  | _, _ => none
def keyish : D → Bool
  | .int _ => true
  | .str _ => true
  | _ => false
def look : List D → List D → D → Option D
  | k :: ks, v :: vs, x => if eqD k x then some v else look ks vs x
  | _, _, _ => none
def inO (st : St) (x y : D) : Option Bool := match see st y with
  | .tup ys => if (pln (see st x) && plns ys) && decide (min (dep (see st x)) (deps ys) ≤ 500) then some (ys.any fun z => eqD z (see st x)) else none
  | .lst ys => if (pln (see st x) && plns ys) && decide (min (dep (see st x)) (deps ys) ≤ 500) then some (ys.any fun z => eqD z (see st x)) else none
  | .str z => match x with
    | .str a => match a.cps.toList with
      | [c] => some (decide (c ∈ z.cps.toList))
      | _ => none
    | _ => none
  | .dct ks vs => if keyish x then some (look ks vs x).isSome else none
  | _ => none
def inB (st : St) (x y : D) : Option D := bD (inO st x y)
def ninB (st : St) (x y : D) : Option D := bD ((inO st x y).map not)
def negD (st : St) (x : D) : Option D := match x with
  | .int i => some (.int (-i))
  | _ => none

def idxD (st : St) (x y : D) : Option D := match see st x, y with
  | .tup xs, .int i => L2.atI xs i
  | .lst xs, .int i => L2.atI xs i
  | .frz ns, .int i => (L2.atI ns i).map D.int
  | .str z, .int i => if z.length ≤ big then (L2.atI z.cps.toList i).map fun c => .str ⟨#[c]⟩ else none
  | .dct ks vs, k => if keyish k then look ks vs k else none
  | _, _ => none
def cut {α : Type} (xs : List α) (lo hi : Option Int) : List α := (xs.drop (HT.sIx xs.length 0 lo)).take (HT.sIx xs.length xs.length hi - HT.sIx xs.length 0 lo)
def sliceD (st : St) (x : D) (lo hi : Option Int) : Option D := match see st x with
  | .tup xs => some (.tup (cut xs lo hi))
  | .lst xs => some (.lst (cut xs lo hi))
  | .str z => if z.length ≤ big then some (.str ⟨(cut z.cps.toList lo hi).toArray⟩) else none
  | _ => none
def revD (st : St) (x : D) : Option D := match see st x with
  | .tup xs => some (.tup xs.reverse)
  | .lst xs => some (.lst xs.reverse)
  | _ => none

def lenD (st : St) (x : D) : Option D := match see st x with
  | .tup xs => some (.int xs.length)
  | .lst xs => some (.int xs.length)
  | .frz ns => some (.int ns.length)
  | .str z => if z.length ≤ big then some (.int z.length) else none
  | .set xs => some (.int xs.length)
  | .dct ks _ => some (.int ks.length)
  | _ => none
def asBools : List D → Option (List Bool)
  | [] => some []
  | .bl b :: xs => (asBools xs).map (b :: ·)
  | _ :: _ => none
def asInts : List D → Option (List Int)
  | [] => some []
  | .int i :: xs => (asInts xs).map (i :: ·)
  | _ :: _ => none
def asStrs : List D → Option (List Str)
  | [] => some []
  | .str i :: xs => (asStrs xs).map (i :: ·)
  | _ :: _ => none
def allD (st : St) (x : D) : Option D := match see st x with
  | .lst xs => (asBools xs).map fun bs => .bl (bs.all id)
  | _ => none
def anyD (st : St) (x : D) : Option D := match see st x with
  | .lst xs => (asBools xs).map fun bs => .bl (bs.any id)
  | _ => none
def sumD (st : St) (x : D) : Option D := match see st x with
  | .lst xs => (asInts xs).map fun ns => .int ns.sum
  | _ => none
def absD (st : St) (x : D) : Option D := match x with
  | .int i => some (.int (if i < 0 then -i else i))
  | _ => none
def tupleD (st : St) (x : D) : Option D := match see st x with
  | .lst xs => some (.tup xs)
  | .tup xs => some (.tup xs)
  | _ => none
def listD (st : St) (x : D) : Option D := match see st x with
  | .lst xs => some (.lst xs)
  | .tup xs => some (.lst xs)
  | _ => none
def firsts : List D → List D → List D
  | acc, [] => acc
  | acc, x :: xs => if acc.any (fun z => eqD z x) then firsts acc xs else firsts (acc ++ [x]) xs
def dPut (ks vs : List D) (x y : D) : List D × List D :=
  if ks.any (fun k => eqD k x) then (ks, List.zipWith (fun k v => if eqD k x then y else v) ks vs) else (ks ++ [x], vs ++ [y])
def dPuts : List D → List D → List (D × D) → List D × List D
  | ks, vs, [] => (ks, vs)
  | ks, vs, (x, y) :: r => dPuts (dPut ks vs x y).1 (dPut ks vs x y).2 r
def prs : List D → Option (List (D × D))
  | [] => some []
  | .tup [k, v] :: xs => if keyish k then (prs xs).map ((k, v) :: ·) else none
  | _ :: _ => none
def dictD (st : St) (x : D) : Option D := match see st x with
  | .tup xs => (prs xs).map fun ps => .dct (dPuts [] [] ps).1 (dPuts [] [] ps).2
  | .lst xs => (prs xs).map fun ps => .dct (dPuts [] [] ps).1 (dPuts [] [] ps).2
  | .dct ks vs => some (.dct ks vs)
  | _ => none
inductive Kd where
  | str | int | bool | tuple | list | dict
def isiD (k : Kd) (st : St) (x : D) : Option D := match k, see st x with
  | .str, .str _ => some (.bl true)
  | .int, .int _ => some (.bl true)
  | .int, .bl _ => some (.bl true)
  | .bool, .bl _ => some (.bl true)
  | .tuple, .tup _ => some (.bl true)
  | .list, .lst _ => some (.bl true)
  | .list, .frz _ => some (.bl true)
  | .dict, .dct _ _ => some (.bl true)
  | _, .ref _ => none
  | _, .set _ => none
  | _, .exc _ => none
  | _, .exf _ _ _ _ => none
  | _, _ => some (.bl false)

mutual
def bel (n : Nat) : D → Bool
  | .tup xs => bels n xs
  | .lst xs => bels n xs
  | .dct ks vs => bels n ks && bels n vs
  | .set xs => bels n xs
  | .ref k => decide (k < n)
  | .exf _ _ _ vs => bels n vs
  | _ => true
def bels (n : Nat) : List D → Bool
  | [] => true
  | x :: xs => bel n x && bels n xs
end
def belC (n : Nat) : Cell → Bool
  | .lst xs => bels n xs
  | .dct ks vs => bels n ks && bels n vs
  | .ins _ fs => bels n (fs.map (·.2))
def Old (st st' : St) : Prop := ∀ (i : Nat) (c : Cell), i < st.length → st'[i]? = some c → st[i]? = some c ∨ belC st.length c = true
def isRef : D → Option Nat
  | .ref k => some k
  | _ => none
open Classical in
noncomputable def gc (st : St) (d : D) (st' : St) : R D :=
  if st'.length = st.length then .ok d st'
  else if st.length ≤ st'.length ∧ Old st st' then
    (if bel st.length d = true then .ok d (st'.take st.length)
    else match (isRef d).bind (st'[·]?) with
      | some c => if belC st.length c = true then .ok (.ref st.length) (st'.take st.length ++ [c]) else .ok d st'
      | none => .ok d st')
  else .ok d st'
open Classical in
noncomputable def ice (st : St) (r : R D) : R D := match r with
  | .ok (.ref k) st' => if k = st.length ∧ st'.length = st.length + 1 ∧ Old st st' then
      (match st'[k]? with
      | some (.lst xs) => if bels k xs = true then .ok (.lst xs) (st'.take k) else .ok (.ref k) st'
      | some (.dct ks vs) => if (bels k ks && bels k vs) = true then .ok (.dct ks vs) (st'.take k) else .ok (.ref k) st'
      | _ => .ok (.ref k) st')
    else .ok (.ref k) st'
  | r => r

abbrev Call := Str → List D → St → R D
abbrev ME := Call → Env → St → R D
abbrev MA := Call → Env → St → R (List D)
abbrev MT := Call → Env → St → R Bool
abbrev MS := Call → Env → St → RS
abbrev MG := D → Env → Option Env
abbrev MI := Call → Env → St → R (List D × Option Nat)
def mVar (i : Nat) : ME := fun _ env st => match env[i]? with
  | some (some d) => .ok d st
  | _ => .no
def mCst (d : D) : ME := fun _ _ st => .ok d st
def mArgs : List ME → MA
  | [] => fun _ _ st => .ok [] st
  | m :: ms => fun c env st => (m c env st).bind fun d st1 => (mArgs ms c env st1).bind fun ds st2 => .ok (d :: ds) st2
def mTup (ms : List ME) : ME := fun c env st => (mArgs ms c env st).bind fun ds st1 => .ok (.tup ds) st1
def mLst (ms : List ME) : ME := fun c env st => (mArgs ms c env st).bind fun ds st1 => .ok (.lst ds) st1
def mLstM (ms : List ME) : ME := fun c env st => (mArgs ms c env st).bind fun ds st1 => .ok (.ref st1.length) (st1 ++ [.lst ds])
def mOp2 (f : St → D → D → Option D) (a b : ME) : ME := fun c env st => (a c env st).bind fun x st1 => (b c env st1).bind fun y st2 => R.of (f st2 x y) st2
def mOp1 (f : St → D → Option D) (a : ME) : ME := fun c env st => (a c env st).bind fun x st1 => R.of (f st1 x) st1
def mChain (f g : St → D → D → Option D) (a b e : ME) : ME := fun c env st => (a c env st).bind fun x st1 => (b c env st1).bind fun y st2 => match f st2 x y with
  | some (.bl true) => (e c env st2).bind fun z st3 => R.of (g st3 y z) st3
  | some (.bl false) => .ok (.bl false) st2
  | _ => .no
def mAnd (a b : ME) : ME := fun c env st => (a c env st).bind fun x st1 => match tru st1 x with
  | some true => b c env st1
  | some false => .ok x st1
  | none => .no
def mOr (a b : ME) : ME := fun c env st => (a c env st).bind fun x st1 => match tru st1 x with
  | some true => .ok x st1
  | some false => b c env st1
  | none => .no
def mNot (a : ME) : ME := fun c env st => (a c env st).bind fun x st1 => R.of ((tru st1 x).map fun b => .bl (!b)) st1
def tVal (a : ME) : MT := fun c env st => (a c env st).bind fun x st1 => R.of (tru st1 x) st1
def bAnd (a b : MT) : MT := fun c env st => (a c env st).bind fun x st1 => if x = true then b c env st1 else .ok false st1
def bOr (a b : MT) : MT := fun c env st => (a c env st).bind fun x st1 => if x = true then .ok true st1 else b c env st1
def bNot (a : MT) : MT := fun c env st => (a c env st).bind fun x st1 => .ok (!x) st1
def mIf (t : MT) (a b : ME) : ME := fun c env st => (t c env st).bind fun x st1 => if x = true then a c env st1 else b c env st1
noncomputable def mCall (f : Str) (ms : List ME) : ME := fun c env st => (mArgs ms c env st).bind fun ds st1 => ice st1 (c f ds st1)
def mCallM (f : Str) (ms : List ME) : ME := fun c env st => (mArgs ms c env st).bind fun ds st1 => c f ds st1
def optI (o : Option ME) : Call → Env → St → R (Option Int) := fun c env st => match o with
  | none => .ok none st
  | some e => (e c env st).bind fun d st1 => match d with
    | .int i => .ok (some i) st1
    | _ => .no
def mSlice (a : ME) (lo hi : Option ME) : ME := fun c env st => (a c env st).bind fun x st1 => (optI lo c env st1).bind fun i st2 => (optI hi c env st2).bind fun j st3 => R.of (sliceD st3 x i j) st3

def itD (st : St) (d : D) : Option (List D × Option Nat) := match d with
  | .tup xs => some (xs, none)
  | .lst xs => some (xs, none)
  | .str z => if z.length ≤ big then some (z.cps.toList.map fun c => .str ⟨#[c]⟩, none) else none
  | .ref n => match st[n]? with
    | some (.lst xs) => some (xs, some n)
    | _ => none
  | _ => none
def iVal (a : ME) : MI := fun c env st => (a c env st).bind fun x st1 => R.of (itD st1 x) st1
def iRange1 (a : ME) : MI := fun c env st => (a c env st).bind fun x st1 => match x with
  | .int n => if decide (-(big : Int) ≤ n) && decide (n ≤ (big : Int)) then .ok ((List.range n.toNat).map fun (k : Nat) => .int k, none) st1 else .no
  | _ => .no
def iRange2 (a b : ME) : MI := fun c env st => (a c env st).bind fun x st1 => (b c env st1).bind fun y st2 => match x, y with
  | .int m, .int n => if decide (-(big : Int) ≤ m) && decide (m ≤ (big : Int)) && decide (-(big : Int) ≤ n) && decide (n ≤ (big : Int)) then .ok ((List.range (n - m).toNat).map fun (k : Nat) => .int (m + k), none) st2 else .no
  | _, _ => .no
def iZip (a b : ME) : MI := fun c env st => (mArgs [a, b] c env st).bind fun ds st1 => match ds with
  | [.tup xs, .tup ys] => .ok (List.zipWith (fun x y => D.tup [x, y]) xs ys, none) st1
  | _ => .no
def gOk (g : Option Nat) (xs : List D) (st : St) : Prop := ∀ n, g = some n → st[n]? = some (.lst xs)
def R.calm {α : Type} : R α → R α
  | .er _ _ => .no
  | r => r
open Classical in
noncomputable def compL (c : Call) (gd : Option Nat) (all : List D) (g : MG) (ts : MT) (elt : ME) (env : Env) : List D → St → R (List D)
  | [], st => if gOk gd all st then .ok [] st else .no
  | x :: xs, st => if gOk gd all st then
      (match g x env with
      | none => .no
      | some env1 => (ts c env1 st).calm.bind fun b st1 =>
        if b = true then (elt c env1 st1).calm.bind fun y st2 => (compL c gd all g ts elt env xs st2).bind fun ys st3 => .ok (y :: ys) st3
        else compL c gd all g ts elt env xs st1)
    else .no
def wipeE (env : Env) : List Nat → Env
  | [] => env
  | v :: vs => (wipeE env vs).set v none
noncomputable def mComp (own : List Nat) (it : MI) (g : MG) (ts : MT) (elt : ME) : ME := fun c env st => (it c env st).bind fun p st1 => (compL c p.2 p.1 g ts elt (wipeE env own) p.1 st1).bind fun ys st2 => .ok (.lst ys) st2
noncomputable def mCompM (own : List Nat) (it : MI) (g : MG) (ts : MT) (elt : ME) : ME := fun c env st => (it c env st).bind fun p st1 => (compL c p.2 p.1 g ts elt (wipeE env own) p.1 st1).bind fun ys st2 => .ok (.ref st2.length) (st2 ++ [.lst ys])
def tYesM : MT := fun _ _ st => .ok true st
def gNm (i : Nat) : MG := fun d env => if i < env.length then some (env.set i (some d)) else none
def gNms : List Nat → List D → Env → Option Env
  | [], [], env => some env
  | i :: is, d :: ds, env => (gNm i d env).bind (gNms is ds)
  | _, _, _ => none
def gTp (is : List Nat) : MG := fun d env => match d with
  | .tup ds => gNms is ds env
  | _ => none

def RS.bind (r : RS) (k : Env → St → RS) : RS := match r with
  | .nx env st => k env st
  | r => r
def RS.ofR {α : Type} (r : R α) (env : Env) (k : α → St → RS) : RS := match r with
  | .ok a st => k a st
  | .er x st => .er x env st
  | .no => .no
def sSkip : MS := fun _ env st => .nx env st
def sSeq (a b : MS) : MS := fun c env st => (a c env st).bind fun env1 st1 => b c env1 st1
def sExpr (e : ME) : MS := fun c env st => RS.ofR (e c env st) env fun _ st1 => .nx env st1
def sAsg (g : MG) (e : ME) : MS := fun c env st => RS.ofR (e c env st) env fun d st1 => match g d env with
  | some env1 => .nx env1 st1
  | none => .no
def putIx (st : St) (o i d : D) : Option St := match o with
  | .ref n => match st[n]?, i with
    | some (.lst xs), .int k => (L2.ixN xs.length k).map fun j => st.set n (.lst (xs.set j d))
    | some (.dct ks vs), k => if keyish k && decide (ks.length ≤ big) then some (st.set n (.dct (dPut ks vs k d).1 (dPut ks vs k d).2)) else none
    | _, _ => none
  | _ => none
def sPut (o i e : ME) : MS := fun c env st => RS.ofR (e c env st) env fun d st1 => RS.ofR (o c env st1) env fun x st2 => RS.ofR (i c env st2) env fun y st3 => match putIx st3 x y d with
  | some st4 => .nx env st4
  | none => .no
def sRet (e : ME) : MS := fun c env st => RS.ofR (e c env st) env fun d st1 => .rt d st1
def sRetN : MS := fun _ env st => .rt .non st
def sIf (t : MT) (a b : MS) : MS := fun c env st => RS.ofR (t c env st) env fun x st1 => if x = true then a c env st1 else b c env st1
def sBrk : MS := fun _ env st => .bk env st
def sCnt : MS := fun _ env st => .ct env st
open Classical in
noncomputable def forL (c : Call) (gd : Option Nat) (all : List D) (g : MG) (body : MS) : List D → Env → St → RS
  | [], env, st => if gOk gd all st then .nx env st else .no
  | x :: xs, env, st => if gOk gd all st then
      (match g x env with
      | none => .no
      | some env1 => match body c env1 st with
        | .nx env2 st2 => forL c gd all g body xs env2 st2
        | .ct env2 st2 => forL c gd all g body xs env2 st2
        | .bk env2 st2 => .nx env2 st2
        | r => r)
    else .no
noncomputable def sFor (it : MI) (g : MG) (body : MS) : MS := fun c env st => RS.ofR (it c env st) env fun p st1 => forL c p.2 p.1 g body p.1 env st1
def whileN (c : Call) (t : MT) (body : MS) : Nat → Env → St → RS
  | 0, _, _ => .no
  | n + 1, env, st => RS.ofR (t c env st) env fun b st1 => if b = true then
      (match body c env st1 with
        | .nx env2 st2 => whileN c t body n env2 st2
        | .ct env2 st2 => whileN c t body n env2 st2
        | .bk env2 st2 => .nx env2 st2
        | r => r)
    else .nx env st1
def wMost : Nat := 1000000
def sWhile (t : MT) (body : MS) : MS := fun c env st => whileN c t body wMost env st

abbrev Meth := St → D → List D → Option (D × St)
def mMeth (f : Meth) (o : ME) (ms : List ME) : ME := fun c env st => (o c env st).bind fun x st1 => (mArgs ms c env st1).bind fun ds st2 => match f st2 x ds with
  | some (d, st3) => .ok d st3
  | none => .no
def xAppend : Meth := fun st o ds => match o, ds with
  | .ref n, [d] => match st[n]? with
    | some (.lst xs) => if xs.length < big then some (.non, st.set n (.lst (xs ++ [d]))) else none
    | _ => none
  | _, _ => none
def xExtend : Meth := fun st o ds => match o, ds with
  | .ref n, [d] => match st[n]?, see st d with
    | some (.lst xs), .lst ys => if xs.length + ys.length ≤ big then some (.non, st.set n (.lst (xs ++ ys))) else none
    | _, _ => none
  | _, _ => none

structure Fn where
  np : Nat
  ns : Nat
  body : MS
abbrev Tab := Str → Option Fn
noncomputable def runFn (c : Call) (f : Fn) (ds : List D) (st : St) : R D :=
  if ds.length = f.np then
    (match f.body c (ds.map some ++ List.replicate (f.ns - f.np) none) st with
    | .nx _ st1 => gc st .non st1
    | .rt d st1 => gc st d st1
    | .er x _ st1 => .er x st1
    | _ => .no)
  else .no
noncomputable def run (T : Tab) : Nat → Call
  | 0 => fun _ _ _ => .no
  | n + 1 => fun f ds st => match T f with
    | some fn => runFn (run T n) fn ds st
    | none => .no
end RP
end
section
set_option Elab.async false
set_option linter.all false
set_option maxRecDepth 100000
namespace RP
open PySem L2

structure Wd where
  rho : List Addr
  B : List Addr
def KL (K : PySem.W.Frag) (a : Addr) (xs : List V) : Prop :=
  ∃ (o : Obj) (its : Array Value) (n : Nat), K.lookup a = some o ∧ o.cls = .type "list" ∧ o.dict = none ∧ o.data = .seq its n ∧ its.size ≤ sizeLine ∧ Vals xs its.toList
def Tp (K : PySem.W.Frag) (H : Hp) (a : Addr) (xs : List V) : Prop := (∃ o, H a = some (.frz o (.tup xs)) ∧ o.dict = none) ∨
  ∃ (o : Obj) (its : Array Value) (n : Nat), K.lookup a = some o ∧ o.cls = .type "tuple" ∧ o.dict = none ∧ o.data = .seq its n ∧ its.size ≤ sizeLine ∧ Vals xs its.toList
theorem Tp.sq {K : PySem.W.Frag} {H : Hp} {a : Addr} {xs : List V} (h : Tp K H a xs) : SqT K H a xs := by
  rcases h with ⟨o, h, _⟩ | ⟨o, its, n, h1, h2, _, h3⟩
  · exact .inl (.inr ⟨o, h⟩)
  · exact .inr ⟨o, its, n, h1, h2, h3⟩

mutual
inductive Rep (K : PySem.W.Frag) (H : Hp) (W : Wd) : V → D → Prop
  | non : Rep K H W .non .non
  | bl (b : Bool) : Rep K H W (.bl b) (.bl b)
  | int (i : Int) : Rep K H W (.int i) (.int i)
  | str (x : Str) : Rep K H W (.str x) (.str x)
  | tup {a : Addr} {xs : List V} {ds : List D} : Tp K H a xs → Reps K H W xs ds → Rep K H W (.ref a) (.tup ds)
  | lst {a : Addr} {xs : List V} {ds : List D} : H a = some (.lst xs) → a ∉ W.rho → a ∉ W.B → Reps K H W xs ds → Rep K H W (.ref a) (.lst ds)
  | dct {a : Addr} {kvs : List (Key × V)} {ks vs : List D} : Rd H a (.dK kvs) → a ∉ W.rho → a ∉ W.B → Reps K H W (kvs.map fun kv => kV kv.1) ks → Reps K H W (kvs.map (·.2)) vs → Rep K H W (.ref a) (.dct ks vs)
  | frz {a : Addr} {ns : List Int} : (∃ o, H a = some (.frz o (.lst (ns.map V.int)))) ∨ KL K a (ns.map V.int) → Rep K H W (.ref a) (.frz ns)
  | ref {a : Addr} {n : Nat} : W.rho[n]? = some a → Rep K H W (.ref a) (.ref n)
  | exc (a : Addr) : Rep K H W (.ref a) (.exc a)
  | exf {a b : Addr} {fs : List (Str × V)} {ks : List Str} {vs : List D} : H b = some (.xd fs) → fs.map (·.1) = ks → Reps K H W (fs.map (·.2)) vs → Rep K H W (.ref a) (.exf a b ks vs)
inductive Reps (K : PySem.W.Frag) (H : Hp) (W : Wd) : List V → List D → Prop
  | nil : Reps K H W [] []
  | cons {v : V} {vs : List V} {d : D} {ds : List D} : Rep K H W v d → Reps K H W vs ds → Reps K H W (v :: vs) (d :: ds)
end

def CellOk (K : PySem.W.Frag) (H : Hp) (W : Wd) (a : Addr) : Cell → Prop
  | .lst ds => ∃ xs, H a = some (.lst xs) ∧ Reps K H W xs ds
  | .dct ks vs => ∃ kvs : List (Key × V), H a = some (.dK kvs) ∧ Reps K H W (kvs.map fun kv => kV kv.1) ks ∧ Reps K H W (kvs.map (·.2)) vs
  | .ins c fs => ∃ dx fs', H a = some (.ins (He.ga K c) dx fs') ∧ fs'.map (·.1) = fs.map (·.1) ∧ Reps K H W (fs'.map (·.2)) (fs.map (·.2))

structure Sim (K : PySem.W.Frag) (H : Hp) (W : Wd) (st : St) : Prop where
  len : W.rho.length = st.length
  nd : W.rho.Nodup
  bt : ∀ a ∈ W.B, ∃ o, H a = some o
  dis : ∀ a ∈ W.rho, a ∉ W.B
  cell : ∀ (i : Nat) (a : Addr) (c : Cell), W.rho[i]? = some a → st[i]? = some c → CellOk K H W a c

structure Step (H : Hp) (W : Wd) (H' : Hp) (W' : Wd) : Prop where
  pre : ∃ more, W'.rho = W.rho ++ more
  B : ∀ a ∈ W'.B, a ∈ W.B ∨ (H a = none ∧ a ∉ W.rho)
  sub : ∀ a ∈ W.B, a ∈ W'.B
  keep : ∀ a o, H a = some o → a ∉ W.rho → H' a = some o ∧ a ∉ W'.rho
theorem Step.refl (H : Hp) (W : Wd) : Step H W H W := ⟨⟨[], by simp⟩, fun _ h => .inl h, fun _ h => h, fun a o h n => ⟨h, n⟩⟩
theorem Step.trans {H H1 H2 : Hp} {W W1 W2 : Wd} (a : Step H W H1 W1) (b : Step H1 W1 H2 W2) : Step H W H2 W2 := by
  have hr : ∀ c, c ∉ W1.rho → c ∉ W.rho := fun c h hc => by
    obtain ⟨m, e⟩ := a.pre
    exact h (by rw [e]; exact List.mem_append_left _ hc)
  refine ⟨?_, fun c hc => ?_, fun c hc => b.sub c (a.sub c hc), fun c o h n => ?_⟩
  · obtain ⟨m, e⟩ := a.pre
    obtain ⟨m', e'⟩ := b.pre
    exact ⟨m ++ m', by rw [e', e, List.append_assoc]⟩
  · rcases b.B c hc with h | ⟨h, n⟩
    · exact a.B c h
    · refine .inr ⟨?_, hr c n⟩
      cases q : H c with
      | none => rfl
      | some o =>
        rw [(a.keep c o q (hr c n)).1] at h
        cases h
  · obtain ⟨h1, n1⟩ := a.keep c o h n
    exact b.keep c o h1 n1
theorem CellOk.obj {K : PySem.W.Frag} {H : Hp} {W : Wd} {a : Addr} {c : Cell} (h : CellOk K H W a c) : ∃ o, H a = some o ∧ Mut (some o) := by
  cases c with
  | lst ds => obtain ⟨xs, h, _⟩ := h; exact ⟨_, h, trivial⟩
  | dct ks vs => obtain ⟨xs, h, _⟩ := h; exact ⟨_, h, trivial⟩
  | ins c fs => obtain ⟨dx, xs, h, _⟩ := h; exact ⟨_, h, trivial⟩
section
variable {K : PySem.W.Frag} {H H' : Hp} {W W' : Wd} {st : St}
theorem Sim.at (S : Sim K H W st) {a : Addr} (ha : a ∈ W.rho) : ∃ (i : Nat) (c : Cell), W.rho[i]? = some a ∧ st[i]? = some c ∧ CellOk K H W a c := by
  obtain ⟨i, hi, e⟩ := List.getElem_of_mem ha
  have h1 : W.rho[i]? = some a := by rw [List.getElem?_eq_getElem hi, e]
  have hi2 : i < st.length := by rw [← S.len]; exact hi
  have h2 : st[i]? = some (st[i]) := List.getElem?_eq_getElem hi2
  exact ⟨i, _, h1, h2, S.cell i a _ h1 h2⟩
theorem Sim.obj (S : Sim K H W st) {a : Addr} (ha : a ∈ W.rho) : ∃ o, H a = some o ∧ Mut (some o) := by
  obtain ⟨_, _, _, _, h⟩ := S.at ha
  exact h.obj
theorem Sim.notin (S : Sim K H W st) {a : Addr} {o : HO} (h : H a = some o) (hm : ¬ Mut (some o)) : a ∉ W.rho := fun ha => by
  obtain ⟨o', h', m⟩ := S.obj ha
  rw [h] at h'; cases h'
  exact hm m
theorem Sim.fresh (S : Sim K H W st) {a : Addr} (h : H a = none) : a ∉ W.rho := fun ha => by
  obtain ⟨o', h', m⟩ := S.obj ha
  rw [h] at h'; cases h'
theorem Sim.freshB (S : Sim K H W st) {a : Addr} (h : H a = none) : a ∉ W.B := fun ha => by
  obtain ⟨o', h'⟩ := S.bt a ha
  rw [h] at h'; cases h'
theorem Rd.step (S : Sim K H W st) (T : Step H W H' W') {a : Addr} {u : HO} (h : Rd H a u) (hn : a ∉ W.rho) : Rd H' a u := by
  rcases h with h | ⟨o, h⟩
  · exact .inl (T.keep _ _ h hn).1
  · exact .inr ⟨o, (T.keep _ _ h hn).1⟩
theorem Tp.step (S : Sim K H W st) (T : Step H W H' W') {a : Addr} {xs : List V} (h : Tp K H a xs) : Tp K H' a xs := by
  rcases h with ⟨o, h, d⟩ | h
  · exact .inl ⟨o, (T.keep _ _ h (S.notin h (fun z => z))).1, d⟩
  · exact .inr h
theorem Step.rho (T : Step H W H' W') {n : Nat} {a : Addr} (h : W.rho[n]? = some a) : W'.rho[n]? = some a := by
  obtain ⟨m, e⟩ := T.pre
  rw [e, List.getElem?_append_left (List.getElem?_eq_some_iff.mp h).1]
  exact h
mutual
theorem Rep.step (S : Sim K H W st) (T : Step H W H' W') : ∀ {v : V} (d : D), Rep K H W v d → Rep K H' W' v d
  | _, .non, .non => .non
  | _, .bl b, .bl _ => .bl b
  | _, .int i, .int _ => .int i
  | _, .str x, .str _ => .str x
  | _, .tup ds, .tup h r => .tup (Tp.step S T h) (Reps.step S T ds r)
  | _, .lst ds, .lst h n1 n2 r => .lst (T.keep _ _ h n1).1 (T.keep _ _ h n1).2 (fun z => by
      rcases T.B _ z with z | ⟨z, _⟩
      · exact n2 z
      · rw [h] at z; cases z) (Reps.step S T ds r)
  | _, .dct ks vs, .dct h n1 n2 r1 r2 => .dct (Rd.step S T h n1) (by
      rcases h with h | ⟨o, h⟩
      · exact (T.keep _ _ h n1).2
      · exact (T.keep _ _ h n1).2) (fun z => by
      rcases T.B _ z with z | ⟨z, _⟩
      · exact n2 z
      · rcases h with h | ⟨o, h⟩
        · rw [h] at z; cases z
        · rw [h] at z; cases z) (Reps.step S T ks r1) (Reps.step S T vs r2)
  | _, .frz ns, .frz h => .frz (by
      rcases h with ⟨o, h⟩ | h
      · exact .inl ⟨o, (T.keep _ _ h (S.notin h (fun z => z))).1⟩
      · exact .inr h)
  | _, .ref n, .ref h => .ref (T.rho h)
  | _, .exc a, .exc _ => .exc a
  | _, .exf _ _ _ vs, .exf h e r => .exf (T.keep _ _ h (S.notin h (fun z => z))).1 e (Reps.step S T vs r)
theorem Reps.step (S : Sim K H W st) (T : Step H W H' W') : ∀ {vs : List V} (ds : List D), Reps K H W vs ds → Reps K H' W' vs ds
  | _, [], .nil => .nil
  | _, d :: ds, .cons h r => .cons (Rep.step S T d h) (Reps.step S T ds r)
end
theorem CellOk.step (S : Sim K H W st) (T : Step H W H' W') {a : Addr} {c : Cell} (e : H' a = H a) (h : CellOk K H W a c) : CellOk K H' W' a c := by
  cases c with
  | lst ds => obtain ⟨xs, h, r⟩ := h; exact ⟨xs, e.trans h, r.step S T⟩
  | dct ks vs => obtain ⟨xs, h, r, r2⟩ := h; exact ⟨xs, e.trans h, r.step S T, r2.step S T⟩
  | ins c fs => obtain ⟨dx, xs, h, q, r⟩ := h; exact ⟨dx, xs, e.trans h, q, r.step S T⟩

theorem Step.temp (S : Sim K H W st) {p : Addr} {o : HO} (h : H p = none) : Step H W (upd H p o) W :=
  ⟨⟨[], by simp⟩, fun _ h => .inl h, fun _ h => h, fun a u e n => ⟨by rw [upd_ne (ne_of_none e h)]; exact e, n⟩⟩
theorem Sim.temp (S : Sim K H W st) {p : Addr} {o : HO} (h : H p = none) : Sim K (upd H p o) W st := by
  refine ⟨S.len, S.nd, fun a ha => ?_, S.dis, fun i a c h1 h2 => ?_⟩
  · obtain ⟨u, e⟩ := S.bt a ha
    exact ⟨u, by rw [upd_ne (ne_of_none e h)]; exact e⟩
  · have q := S.cell i a c h1 h2
    obtain ⟨u, e, _⟩ := q.obj
    exact q.step S (Step.temp S h) (by rw [upd_ne (ne_of_none e h)])
theorem Step.cell (S : Sim K H W st) {p : Addr} {o : HO} (h : H p = none) : Step H W (upd H p o) ⟨W.rho ++ [p], W.B⟩ := by
  refine ⟨⟨[p], rfl⟩, fun _ h => .inl h, fun _ h => h, fun a u e n => ⟨by rw [upd_ne (ne_of_none e h)]; exact e, fun hm => ?_⟩⟩
  rcases List.mem_append.mp hm with z | z
  · exact n z
  · exact ne_of_none e h (by simpa using z)
theorem Sim.newcell (S : Sim K H W st) {p : Addr} {o : HO} {c : Cell} (h : H p = none) (hc : CellOk K (upd H p o) ⟨W.rho ++ [p], W.B⟩ p c) : Sim K (upd H p o) ⟨W.rho ++ [p], W.B⟩ (st ++ [c]) := by
  have hf := S.fresh h
  refine ⟨by simp [S.len], ?_, fun a ha => ?_, fun a ha => ?_, fun i a c' h1 h2 => ?_⟩
  · show (W.rho ++ [p]).Nodup
    rw [List.nodup_append]
    refine ⟨S.nd, by simp, fun a ha b hb => ?_⟩
    have e : b = p := by simpa using hb
    subst e
    intro z; subst z; exact hf ha
  · obtain ⟨u, e⟩ := S.bt a ha
    exact ⟨u, by rw [upd_ne (ne_of_none e h)]; exact e⟩
  · rcases List.mem_append.mp ha with z | z
    · exact S.dis a z
    · have e : a = p := by simpa using z
      subst e
      exact S.freshB h
  · by_cases hi : i < W.rho.length
    · have h1' : W.rho[i]? = some a := by
        have : (W.rho ++ [p])[i]? = some a := h1
        rw [List.getElem?_append_left hi] at this; exact this
      have h2' : st[i]? = some c' := by rw [List.getElem?_append_left (by rw [← S.len]; exact hi)] at h2; exact h2
      have q := S.cell i a c' h1' h2'
      obtain ⟨u, e, _⟩ := q.obj
      exact q.step S (Step.cell S h) (by rw [upd_ne (ne_of_none e h)])
    · have hi2 : i = W.rho.length := by
        have := (List.getElem?_eq_some_iff.mp h1).1
        simp at this; omega
      subst hi2
      have e1 : p = a := by
        have : (W.rho ++ [p])[W.rho.length]? = some a := h1
        simpa using this
      have e2 : c = c' := by rw [S.len] at h2; simpa using h2
      subst e1 e2
      exact hc
theorem Step.write (S : Sim K H W st) {i : Nat} {a : Addr} {o : HO} (h : W.rho[i]? = some a) : Step H W (upd H a o) W :=
  ⟨⟨[], by simp⟩, fun _ h => .inl h, fun _ h => h, fun b u e n => ⟨by
    have hne : b ≠ a := fun z => n (by rw [z]; exact List.mem_of_getElem? h)
    rw [upd_ne hne]; exact e, n⟩⟩
theorem Sim.write (S : Sim K H W st) {i : Nat} {a : Addr} {o : HO} {c : Cell} (h : W.rho[i]? = some a) (hc : CellOk K (upd H a o) W a c) : Sim K (upd H a o) W (st.set i c) := by
  refine ⟨by simp [S.len], S.nd, fun b hb => ?_, S.dis, fun j b c' h1 h2 => ?_⟩
  · obtain ⟨u, e⟩ := S.bt b hb
    refine ⟨u, ?_⟩
    have hne : b ≠ a := fun z => S.dis a (List.mem_of_getElem? h) (by rw [← z]; exact hb)
    rw [upd_ne hne]; exact e
  · by_cases hj : j = i
    · subst hj
      have e1 : a = b := by rw [h] at h1; exact Option.some.inj h1
      subst e1
      rw [List.getElem?_set_self (by rw [← S.len]; exact (List.getElem?_eq_some_iff.mp h).1)] at h2
      cases h2
      exact hc
    · rw [List.getElem?_set_ne (Ne.symm hj)] at h2
      have q := S.cell j b c' h1 h2
      refine q.step S (Step.write S h) ?_
      rw [upd_ne (fun z => hj ?_)]
      subst z
      obtain ⟨l1, e1⟩ := List.getElem?_eq_some_iff.mp h
      obtain ⟨l2, e2⟩ := List.getElem?_eq_some_iff.mp h1
      exact (List.getElem_inj S.nd).mp (e2.trans e1.symm)
theorem Step.busy (S : Sim K H W st) {p : Addr} {o : HO} (h : H p = none) : Step H W (upd H p o) ⟨W.rho, p :: W.B⟩ :=
  ⟨⟨[], by simp⟩, fun a ha => by
    rcases List.mem_cons.mp ha with z | z
    · subst z; exact .inr ⟨h, S.fresh h⟩
    · exact .inl z, fun a ha => List.mem_cons_of_mem _ ha, fun a u e n => ⟨by rw [upd_ne (ne_of_none e h)]; exact e, n⟩⟩
theorem Sim.busy (S : Sim K H W st) {p : Addr} {o : HO} (h : H p = none) : Sim K (upd H p o) ⟨W.rho, p :: W.B⟩ st := by
  refine ⟨S.len, S.nd, fun a ha => ?_, fun a ha hb => ?_, fun i a c h1 h2 => ?_⟩
  · rcases List.mem_cons.mp ha with z | z
    · subst z; exact ⟨o, upd_same⟩
    · obtain ⟨u, e⟩ := S.bt a z
      exact ⟨u, by rw [upd_ne (ne_of_none e h)]; exact e⟩
  · rcases List.mem_cons.mp hb with z | z
    · subst z; exact S.fresh h ha
    · exact S.dis a ha z
  · have q := S.cell i a c h1 h2
    obtain ⟨u, e, _⟩ := q.obj
    exact q.step S (Step.busy S h) (by rw [upd_ne (ne_of_none e h)])
mutual
theorem Rep.unB {rho B B' : List Addr} (hb : ∀ a ∈ B', a ∈ B) : ∀ {v : V} (d : D), Rep K H ⟨rho, B⟩ v d → Rep K H ⟨rho, B'⟩ v d
  | _, .non, .non => .non
  | _, .bl b, .bl _ => .bl b
  | _, .int i, .int _ => .int i
  | _, .str x, .str _ => .str x
  | _, .tup ds, .tup h r => .tup h (Reps.unB hb ds r)
  | _, .lst ds, .lst h n1 n2 r => .lst h n1 (fun z => n2 (hb _ z)) (Reps.unB hb ds r)
  | _, .dct ks vs, .dct h n1 n2 r1 r2 => .dct h n1 (fun z => n2 (hb _ z)) (Reps.unB hb ks r1) (Reps.unB hb vs r2)
  | _, .frz ns, .frz h => .frz h
  | _, .ref n, .ref h => .ref h
  | _, .exc a, .exc _ => .exc a
  | _, .exf _ _ _ vs, .exf h e r => .exf h e (Reps.unB hb vs r)
theorem Reps.unB {rho B B' : List Addr} (hb : ∀ a ∈ B', a ∈ B) : ∀ {vs : List V} (ds : List D), Reps K H ⟨rho, B⟩ vs ds → Reps K H ⟨rho, B'⟩ vs ds
  | _, [], .nil => .nil
  | _, d :: ds, .cons h r => .cons (Rep.unB hb d h) (Reps.unB hb ds r)
end
theorem Sim.unB {rho B B' : List Addr} (hb : ∀ a ∈ B', a ∈ B) (S : Sim K H ⟨rho, B⟩ st) : Sim K H ⟨rho, B'⟩ st := by
  refine ⟨S.len, S.nd, fun a ha => S.bt a (hb a ha), fun a ha hb' => S.dis a ha (hb a hb'), fun i a c h1 h2 => ?_⟩
  have q := S.cell i a c h1 h2
  cases c with
  | lst ds => obtain ⟨xs, h, r⟩ := q; exact ⟨xs, h, r.unB hb⟩
  | dct ks vs => obtain ⟨xs, h, r, r2⟩ := q; exact ⟨xs, h, r.unB hb, r2.unB hb⟩
  | ins c fs => obtain ⟨dx, xs, h, q, r⟩ := q; exact ⟨dx, xs, h, q, r.unB hb⟩
mutual
theorem Rep.wr {p : Addr} {o u : HO} (hp : p ∈ W.B) (e : H p = some u) (hf : Mut (some u)) : ∀ {v : V} (d : D), Rep K H W v d → Rep K (upd H p o) W v d
  | _, .non, .non => .non
  | _, .bl b, .bl _ => .bl b
  | _, .int i, .int _ => .int i
  | _, .str x, .str _ => .str x
  | _, .tup ds, .tup h r => .tup (by
      rcases h with ⟨ob, h, hd⟩ | h
      · exact .inl ⟨ob, by rw [upd_ne (fun z => by subst z; rw [e] at h; cases h; exact hf)]; exact h, hd⟩
      · exact .inr h) (Reps.wr hp e hf ds r)
  | _, .lst ds, .lst h n1 n2 r => .lst (by rw [upd_ne (fun z => n2 (by rw [z]; exact hp))]; exact h) n1 n2 (Reps.wr hp e hf ds r)
  | _, .dct ks vs, .dct h n1 n2 r1 r2 => .dct (by
      rcases h with h | ⟨ob, h⟩
      · exact .inl (by rw [upd_ne (fun z => n2 (by rw [z]; exact hp))]; exact h)
      · exact .inr ⟨ob, by rw [upd_ne (fun z => n2 (by rw [z]; exact hp))]; exact h⟩) n1 n2 (Reps.wr hp e hf ks r1) (Reps.wr hp e hf vs r2)
  | _, .frz ns, .frz h => .frz (by
      rcases h with ⟨ob, h⟩ | h
      · exact .inl ⟨ob, by rw [upd_ne (fun z => by subst z; rw [e] at h; cases h; exact hf)]; exact h⟩
      · exact .inr h)
  | _, .ref n, .ref h => .ref h
  | _, .exc a, .exc _ => .exc a
  | _, .exf _ _ _ vs, .exf h q r => .exf (by rw [upd_ne (fun z => by subst z; rw [e] at h; cases h; exact hf)]; exact h) q (Reps.wr hp e hf vs r)
theorem Reps.wr {p : Addr} {o u : HO} (hp : p ∈ W.B) (e : H p = some u) (hf : Mut (some u)) : ∀ {vs : List V} (ds : List D), Reps K H W vs ds → Reps K (upd H p o) W vs ds
  | _, [], .nil => .nil
  | _, d :: ds, .cons h r => .cons (Rep.wr hp e hf d h) (Reps.wr hp e hf ds r)
end
theorem Sim.wr (S : Sim K H W st) {p : Addr} {o u : HO} (hp : p ∈ W.B) (e : H p = some u) (hf : Mut (some u)) : Sim K (upd H p o) W st := by
  refine ⟨S.len, S.nd, fun a ha => ?_, S.dis, fun i a c h1 h2 => ?_⟩
  · by_cases h : a = p
    · subst h; exact ⟨o, upd_same⟩
    · obtain ⟨v, q⟩ := S.bt a ha
      exact ⟨v, by rw [upd_ne h]; exact q⟩
  · have q := S.cell i a c h1 h2
    have hne : a ≠ p := fun z => S.dis a (List.mem_of_getElem? h1) (by rw [z]; exact hp)
    cases c with
    | lst ds => obtain ⟨xs, h, r⟩ := q; exact ⟨xs, by rw [upd_ne hne]; exact h, r.wr hp e hf⟩
    | dct ks vs => obtain ⟨xs, h, r, r2⟩ := q; exact ⟨xs, by rw [upd_ne hne]; exact h, r.wr hp e hf, r2.wr hp e hf⟩
    | ins c fs => obtain ⟨dx, xs, h, q, r⟩ := q; exact ⟨dx, xs, by rw [upd_ne hne]; exact h, q, r.wr hp e hf⟩
end

section
variable {K : PySem.W.Frag} {H : Hp} {W : Wd}
theorem Reps.length : ∀ {vs : List V} {ds : List D}, Reps K H W vs ds → vs.length = ds.length
  | _, _, .nil => rfl
  | _, _, .cons _ r => by simp [Reps.length r]
theorem Reps.get : ∀ {vs : List V} {ds : List D} {i : Nat} {d : D}, Reps K H W vs ds → ds[i]? = some d → ∃ v, vs[i]? = some v ∧ Rep K H W v d
  | _, _, _, _, .nil, e => by simp at e
  | _, _, 0, _, .cons h _, e => by simp at e; subst e; exact ⟨_, rfl, h⟩
  | _, _, i + 1, d, .cons _ r, e => by
    obtain ⟨v, h1, h2⟩ := Reps.get (i := i) (d := d) r (by simpa using e)
    exact ⟨v, by simpa using h1, h2⟩
theorem Reps.getV : ∀ {vs : List V} {ds : List D} {i : Nat} {v : V}, Reps K H W vs ds → vs[i]? = some v → ∃ d, ds[i]? = some d ∧ Rep K H W v d
  | _, _, _, _, .nil, e => by simp at e
  | _, _, 0, _, .cons h _, e => by simp at e; subst e; exact ⟨_, rfl, h⟩
  | _, _, i + 1, d, .cons _ r, e => by
    obtain ⟨v, h1, h2⟩ := Reps.getV (i := i) (v := d) r (by simpa using e)
    exact ⟨v, by simpa using h1, h2⟩
theorem Reps.append : ∀ {vs us : List V} {ds es : List D}, Reps K H W vs ds → Reps K H W us es → Reps K H W (vs ++ us) (ds ++ es)
  | _, _, _, _, .nil, s => s
  | _, _, _, _, .cons h r, s => .cons h (Reps.append r s)
theorem Reps.take : ∀ {vs : List V} {ds : List D} (n : Nat), Reps K H W vs ds → Reps K H W (vs.take n) (ds.take n)
  | _, _, 0, _ => .nil
  | _, _, _ + 1, .nil => .nil
  | _, _, n + 1, .cons h r => .cons h (Reps.take n r)
theorem Reps.drop : ∀ {vs : List V} {ds : List D} (n : Nat), Reps K H W vs ds → Reps K H W (vs.drop n) (ds.drop n)
  | _, _, 0, r => r
  | _, _, _ + 1, .nil => .nil
  | _, _, n + 1, .cons _ r => Reps.drop n r
theorem Reps.reverse : ∀ {vs : List V} {ds : List D}, Reps K H W vs ds → Reps K H W vs.reverse ds.reverse
  | _, _, .nil => .nil
  | _, _, .cons h r => by
    rw [List.reverse_cons, List.reverse_cons]
    exact (Reps.reverse r).append (.cons h .nil)
theorem Reps.set {v : V} {d : D} (h : Rep K H W v d) : ∀ {vs : List V} {ds : List D} (i : Nat), Reps K H W vs ds → Reps K H W (vs.set i v) (ds.set i d)
  | _, _, _, .nil => .nil
  | _, _, 0, .cons _ r => .cons h r
  | _, _, i + 1, .cons q r => .cons q (Reps.set h i r)
theorem Reps.replicate {vs : List V} {ds : List D} (h : Reps K H W vs ds) : ∀ n, Reps K H W (List.replicate n vs).flatten (List.replicate n ds).flatten
  | 0 => by simpa using Reps.nil
  | n + 1 => by
    rw [List.replicate_succ, List.replicate_succ, List.flatten_cons, List.flatten_cons]
    exact h.append (Reps.replicate h n)
theorem Reps.asInts : ∀ {vs : List V} {ds : List D} {ns : List Int}, Reps K H W vs ds → asInts ds = some ns → vs = ns.map V.int
  | _, _, _, .nil, e => by cases e; rfl
  | _, d :: ds, ns, .cons h r, e => by
    cases h with
    | int i =>
      unfold RP.asInts at e
      obtain ⟨ms, e1, rfl⟩ := Option.map_eq_some_iff.mp e
      rw [Reps.asInts r e1]; rfl
    | _ => cases e
theorem Reps.asBools : ∀ {vs : List V} {ds : List D} {ns : List Bool}, Reps K H W vs ds → asBools ds = some ns → vs = ns.map V.bl
  | _, _, _, .nil, e => by cases e; rfl
  | _, d :: ds, ns, .cons h r, e => by
    cases h with
    | bl i =>
      unfold RP.asBools at e
      obtain ⟨ms, e1, rfl⟩ := Option.map_eq_some_iff.mp e
      rw [Reps.asBools r e1]; rfl
    | _ => cases e
theorem Reps.asStrs : ∀ {vs : List V} {ds : List D} {ns : List Str}, Reps K H W vs ds → asStrs ds = some ns → vs = ns.map V.str
  | _, _, _, .nil, e => by cases e; rfl
  | _, d :: ds, ns, .cons h r, e => by
    cases h with
    | str i =>
      unfold RP.asStrs at e
      obtain ⟨ms, e1, rfl⟩ := Option.map_eq_some_iff.mp e
      rw [Reps.asStrs r e1]; rfl
    | _ => cases e
end
inductive Saw (K : PySem.W.Frag) (H : Hp) (W : Wd) : V → D → Prop
  | lst {a : Addr} {xs : List V} {ds : List D} : H a = some (.lst xs) → Reps K H W xs ds → Saw K H W (.ref a) (.lst ds)
  | dct {a : Addr} {kvs : List (Key × V)} {ks vs : List D} : Rd H a (.dK kvs) → Reps K H W (kvs.map fun kv => kV kv.1) ks → Reps K H W (kvs.map (·.2)) vs → Saw K H W (.ref a) (.dct ks vs)
  | rep {v : V} {d : D} : Rep K H W v d → (∀ xs, d ≠ .lst xs) → (∀ ks vs, d ≠ .dct ks vs) → Saw K H W v d
theorem Rep.saw {K : PySem.W.Frag} {H : Hp} {W : Wd} {st : St} (S : Sim K H W st) {v : V} {d : D} (h : Rep K H W v d) : Saw K H W v (see st d) := by
  cases h with
  | lst h n1 n2 r => exact .lst h r
  | dct h n1 n2 r r2 => exact .dct h r r2
  | ref hn =>
    rename_i a n
    cases e : st[n]? with
    | none =>
      have q : see st (.ref n) = .ref n := by simp only [see, e]
      rw [q]
      exact .rep (.ref hn) (fun _ z => nomatch z) (fun _ _ z => nomatch z)
    | some c =>
      have q := S.cell n a c hn e
      cases c with
      | lst ds =>
        obtain ⟨xs, h, r⟩ := q
        have q : see st (.ref n) = .lst ds := by simp only [see, e]
        rw [q]
        exact .lst h r
      | dct ks vs =>
        obtain ⟨kvs, h, r, r2⟩ := q
        have q : see st (.ref n) = .dct ks vs := by simp only [see, e]
        rw [q]
        exact .dct (.inl h) r r2
      | ins c fs =>
        have q : see st (.ref n) = .ref n := by simp only [see, e]
        rw [q]
        exact .rep (.ref hn) (fun _ z => nomatch z) (fun _ _ z => nomatch z)
  | non => exact .rep .non (fun _ z => nomatch z) (fun _ _ z => nomatch z)
  | bl b => exact .rep (.bl b) (fun _ z => nomatch z) (fun _ _ z => nomatch z)
  | int b => exact .rep (.int b) (fun _ z => nomatch z) (fun _ _ z => nomatch z)
  | str b => exact .rep (.str b) (fun _ z => nomatch z) (fun _ _ z => nomatch z)
  | tup h r => exact .rep (.tup h r) (fun _ z => nomatch z) (fun _ _ z => nomatch z)
  | frz h => exact .rep (.frz h) (fun _ z => nomatch z) (fun _ _ z => nomatch z)
  | exc a => exact .rep (.exc a) (fun _ z => nomatch z) (fun _ _ z => nomatch z)
  | exf h q r => exact .rep (.exf h q r) (fun _ z => nomatch z) (fun _ _ z => nomatch z)
end RP
end
section
set_option Elab.async false
set_option linter.all false
set_option maxRecDepth 100000
namespace RP
open PySem L2 PySem.SeqAt

mutual
inductive Pl (K : PySem.W.Frag) (H : Hp) : V → D → Prop
  | non : Pl K H .non .non
  | bl (b : Bool) : Pl K H (.bl b) (.bl b)
  | int (i : Int) : Pl K H (.int i) (.int i)
  | str (x : Str) : Pl K H (.str x) (.str x)
  | tup {a : Addr} {xs : List V} {ds : List D} : SqT K H a xs → Pls K H xs ds → Pl K H (.ref a) (.tup ds)
  | lst {a : Addr} {xs : List V} {ds : List D} : H a = some (.lst xs) → Pls K H xs ds → Pl K H (.ref a) (.lst ds)
inductive Pls (K : PySem.W.Frag) (H : Hp) : List V → List D → Prop
  | nil : Pls K H [] []
  | cons {v : V} {vs : List V} {d : D} {ds : List D} : Pl K H v d → Pls K H vs ds → Pls K H (v :: vs) (d :: ds)
end
section
variable {K : PySem.W.Frag} {H : Hp} {W : Wd}
mutual
theorem Rep.pl : ∀ {v : V} (d : D), Rep K H W v d → pln d = true → Pl K H v d
  | _, .non, .non, _ => .non
  | _, .bl b, .bl _, _ => .bl b
  | _, .int b, .int _, _ => .int b
  | _, .str b, .str _, _ => .str b
  | _, .tup ds, .tup h r, e => .tup h.sq (Reps.pl ds r (by simpa [pln] using e))
  | _, .lst ds, .lst h _ _ r, e => .lst h (Reps.pl ds r (by simpa [pln] using e))
  | _, .dct _ _, _, e => by simp [pln] at e
  | _, .set _, _, e => by simp [pln] at e
  | _, .frz _, _, e => by simp [pln] at e
  | _, .ref _, _, e => by simp [pln] at e
  | _, .exc _, _, e => by simp [pln] at e
  | _, .exf _ _ _ _, _, e => by simp [pln] at e
theorem Reps.pl : ∀ {vs : List V} (ds : List D), Reps K H W vs ds → plns ds = true → Pls K H vs ds
  | _, [], .nil, _ => .nil
  | _, d :: ds, .cons h r, e => by
    have e' : pln d = true ∧ plns ds = true := by simpa [plns] using e
    exact .cons (Rep.pl d h e'.1) (Reps.pl ds r e'.2)
end
theorem Saw.pl {v : V} {d : D} (h : Saw K H W v d) (e : pln d = true) : Pl K H v d := by
  cases h with
  | lst h r => exact .lst h (r.pl _ (by simpa [pln] using e))
  | dct h r r2 => simp [pln] at e
  | rep h _ _ => exact h.pl _ e
theorem Pls.length : ∀ {vs : List V} {ds : List D}, Pls K H vs ds → vs.length = ds.length
  | _, _, .nil => rfl
  | _, _, .cons _ r => by simp [Pls.length r]
mutual
theorem eqD_refl : ∀ d : D, pln d = true → eqD d d = true
  | .non, _ => by simp [eqD]
  | .bl _, _ => by simp [eqD]
  | .int _, _ => by simp [eqD]
  | .str _, _ => by simp [eqD]
  | .tup xs, h => by simpa [eqD] using eqDs_refl xs (by simpa [pln] using h)
  | .lst xs, h => by simpa [eqD] using eqDs_refl xs (by simpa [pln] using h)
  | .dct _ _, e => by simp [pln] at e
  | .set _, e => by simp [pln] at e
  | .frz _, e => by simp [pln] at e
  | .ref _, e => by simp [pln] at e
  | .exc _, e => by simp [pln] at e
  | .exf _ _ _ _, e => by simp [pln] at e
theorem eqDs_refl : ∀ ds : List D, plns ds = true → eqDs ds ds = true
  | [], _ => by simp [eqDs]
  | d :: ds, h => by
    have e' : pln d = true ∧ plns ds = true := by simpa [plns] using h
    simp [eqDs, eqD_refl d e'.1, eqDs_refl ds e'.2]
end
mutual
theorem Pl.plain : ∀ {v : V} (d : D), Pl K H v d → pln d = true
  | _, .non, _ => rfl
  | _, .bl b, _ => rfl
  | _, .int b, _ => rfl
  | _, .str b, _ => rfl
  | _, .tup ds, .tup h r => by simpa [pln] using Pls.plain ds r
  | _, .lst ds, .lst h r => by simpa [pln] using Pls.plain ds r
theorem Pls.plain : ∀ {vs : List V} (ds : List D), Pls K H vs ds → plns ds = true
  | _, [], .nil => rfl
  | _, d :: ds, .cons h r => by simp [plns, Pl.plain d h, Pls.plain ds r]
end
end
section
variable {X : Cx} {pins : List (Addr × Obj)} {σ : L2.St} {H : Hp} {s : Shared}
theorem lt_ne (I : Inv X pins σ H s) {a : Addr} {xs ys : List V} (h : H a = some (.lst xs)) (h' : SqT X.K H a ys) : False := by
  obtain ⟨its, _, hl, _⟩ := I.list (SqL.of h)
  obtain ⟨its', _, ht, _⟩ := I.tuple h'
  exact ne_of_list_tuple hl.isList ht rfl
mutual
theorem Pl.inj (I : Inv X pins σ H s) : ∀ {v : V} (d e : D), Pl X.K H v d → Pl X.K H v e → d = e
  | _, .non, _, .non, .non => rfl
  | _, .bl _, _, .bl _, .bl _ => rfl
  | _, .int _, _, .int _, .int _ => rfl
  | _, .str _, _, .str _, .str _ => rfl
  | _, .tup ds, _, .tup h r, .tup h' r' => by
    rw [I.tuple_inj h h'] at r
    rw [Pls.inj I _ _ r r']
  | _, .tup ds, _, .tup h r, .lst h' r' => (lt_ne I h' h).elim
  | _, .lst ds, _, .lst h r, .tup h' r' => (lt_ne I h h').elim
  | _, .lst ds, _, .lst h r, .lst h' r' => by
    rw [h] at h'; cases h'
    rw [Pls.inj I _ _ r r']
theorem Pls.inj (I : Inv X pins σ H s) : ∀ {vs : List V} (ds es : List D), Pls X.K H vs ds → Pls X.K H vs es → ds = es
  | _, [], _, .nil, h' => by cases h'; rfl
  | _, d :: ds, _, .cons h r, h' => by
    cases h' with
    | cons h' r' => rw [Pl.inj I d _ h h', Pls.inj I ds _ r r']
end
theorem eqDs_at : ∀ (xs ys : List D) , xs.length = ys.length → eqDs xs ys = (List.range xs.length).all fun i => match xs[i]?, ys[i]? with
    | some x, some y => eqD x y
    | _, _ => false
  | [], [], _ => by simp [eqDs]
  | [], _ :: _, h => by simp at h
  | _ :: _, [], h => by simp at h
  | x :: xs, y :: ys, h => by
    have ih := eqDs_at xs ys (by simpa using h)
    rw [eqDs, ih, List.length_cons, List.range_succ_eq_map, List.all_cons, List.all_map]
    rfl
theorem eqDs_len : ∀ (xs ys : List D), xs.length ≠ ys.length → eqDs xs ys = false
  | [], [], h => absurd rfl h
  | [], _ :: _, _ => by simp [eqDs]
  | _ :: _, [], _ => by simp [eqDs]
  | x :: xs, y :: ys, h => by simp [eqDs, eqDs_len xs ys (by simpa using h)]

theorem in1_units (A : Around) : A.in1.units = A.units + 1 := rfl
theorem deps_get : ∀ {xs : List D} {i : Nat} {x : D}, xs[i]? = some x → dep x ≤ deps xs
  | [], _, _, h => by simp at h
  | y :: ys, 0, x, h => by simp at h; subst h; rw [deps]; exact Nat.le_max_left _ _
  | y :: ys, i + 1, x, h => by rw [deps]; exact Nat.le_trans (deps_get (by simpa using h)) (Nat.le_max_right _ _)
theorem Pls.get {K : PySem.W.Frag} : ∀ {vs : List V} {ds : List D} {i : Nat} {v : V}, Pls K H vs ds → vs[i]? = some v → ∃ d, ds[i]? = some d ∧ Pl K H v d
  | _, _, _, _, .nil, e => by simp at e
  | _, _, 0, _, .cons h _, e => by simp at e; subst e; exact ⟨_, rfl, h⟩
  | _, _, i + 1, d, .cons _ r, e => by
    obtain ⟨v, h1, h2⟩ := Pls.get (i := i) (v := d) r (by simpa using e)
    exact ⟨v, by simpa using h1, h2⟩
theorem vals_getV {vs : List V} {us : List Value} (r : Vals vs us) {i : Nat} {u : Value} (h : us[i]? = some u) : ∃ v, vs[i]? = some v ∧ RelV v u := by
  have hl := r.length
  obtain ⟨hi, _⟩ := List.getElem?_eq_some_iff.mp h
  obtain ⟨u', e, q⟩ := r.get (List.getElem?_eq_getElem (show i < vs.length by omega))
  rw [h] at e; cases e
  exact ⟨_, List.getElem?_eq_getElem (show i < vs.length by omega), q⟩
theorem seq_all {xs ys : List V} {us ws : List Value} {ds es : List D} {A : Around} (r1 : Vals xs us) (r2 : Vals ys ws) (p1 : Pls X.K H xs ds) (p2 : Pls X.K H ys es)
    (ih : ∀ (x y : D) (v w : V) (u u' : Value), x ∈ ds → y ∈ es → Pl X.K H v x → Pl X.K H w y → RelV v u → RelV w u' → EqAt A s u u' (eqD x y)) :
    ∀ (j : Nat) (h1 : j < us.toArray.size) (h2 : j < ws.toArray.size), EqAt A s us.toArray[j] ws.toArray[j] (match ds[j]?, es[j]? with
    | some x, some y => eqD x y
    | _, _ => false) := by
  intro j h1 h2
  have h1' : j < us.length := by simpa using h1
  have h2' : j < ws.length := by simpa using h2
  obtain ⟨v, e1, q1⟩ := vals_getV r1 (List.getElem?_eq_getElem h1')
  obtain ⟨w, e2, q2⟩ := vals_getV r2 (List.getElem?_eq_getElem h2')
  obtain ⟨d, f1, g1⟩ := p1.get e1
  obtain ⟨d', f2, g2⟩ := p2.get e2
  rw [f1, f2]
  have := ih d d' v w _ _ (List.mem_of_getElem? f1) (List.mem_of_getElem? f2) g1 g2 q1 q2
  simpa using this
theorem plEq (I : Inv X pins σ H s) : ∀ (n : Nat) (A : Around) (x y : D) (v w : V) (u u' : Value), min (dep x) (dep y) ≤ n → A.units + n < cLine → Pl X.K H v x → Pl X.K H w y → RelV v u → RelV w u' → EqAt A s u u' (eqD x y) := by
  intro n
  induction n with
  | zero =>
    intro A x y v w u u' hd hu p q r r'
    have hu0 : A.units < cLine := by omega
    cases p with
    | non =>
      cases r
      cases q with
      | non => cases r'; simpa [eqD] using EqAt.same (A := A) (s := s) Value.none
      | bl b => cases r'; simpa [eqD] using EqAt.none_bool (A := A) (s := s) b
      | int b => obtain ⟨t, rfl⟩ := r'; simpa [eqD] using EqAt.none_int (A := A) (s := s) b t
      | str b => obtain ⟨t, rfl⟩ := r'; simpa [eqD] using EqAt.none_str (A := A) (s := s) b t
      | tup h _ => cases r'; obtain ⟨_, _, ht, _⟩ := I.tuple h; simpa [eqD] using EqAt.none_tuple (A := A) (s := s) ht hu0
      | lst h _ => cases r'; obtain ⟨_, _, ht, _⟩ := I.list (SqL.of h); simpa [eqD] using EqAt.none_list (A := A) (s := s) ht.isList hu0
    | bl a =>
      cases r
      cases q with
      | non => cases r'; simpa [eqD] using EqAt.bool_none (A := A) (s := s) a
      | bl b => cases r'; simpa [eqD] using EqAt.bool_bool (A := A) (s := s) a b
      | int b => obtain ⟨t, rfl⟩ := r'; simpa [eqD] using EqAt.bool_int (A := A) (s := s) a b t
      | str b => obtain ⟨t, rfl⟩ := r'; simpa [eqD] using EqAt.bool_str (A := A) (s := s) a b t
      | tup h _ => cases r'; obtain ⟨_, _, ht, _⟩ := I.tuple h; simpa [eqD] using EqAt.bool_tuple (A := A) (s := s) a ht hu0
      | lst h _ => cases r'; obtain ⟨_, _, ht, _⟩ := I.list (SqL.of h); simpa [eqD] using EqAt.bool_list (A := A) (s := s) a ht.isList hu0
    | int a =>
      obtain ⟨ta, rfl⟩ := r
      cases q with
      | non => cases r'; simpa [eqD] using EqAt.int_none (A := A) (s := s) a ta
      | bl b => cases r'; simpa [eqD] using EqAt.int_bool (A := A) (s := s) a ta b
      | int b => obtain ⟨t, rfl⟩ := r'; simpa [eqD] using EqAt.int_int (A := A) (s := s) a ta b t
      | str b => obtain ⟨t, rfl⟩ := r'; simpa [eqD] using EqAt.int_str (A := A) (s := s) a ta b t
      | tup h _ => cases r'; obtain ⟨_, _, ht, _⟩ := I.tuple h; simpa [eqD] using EqAt.int_tuple (A := A) (s := s) a ta ht hu0
      | lst h _ => cases r'; obtain ⟨_, _, ht, _⟩ := I.list (SqL.of h); simpa [eqD] using EqAt.int_list (A := A) (s := s) a ta ht.isList hu0
    | str a =>
      obtain ⟨ta, rfl⟩ := r
      cases q with
      | non => cases r'; simpa [eqD] using EqAt.str_none (A := A) (s := s) a ta
      | bl b => cases r'; simpa [eqD] using EqAt.str_bool (A := A) (s := s) a ta b
      | int b => obtain ⟨t, rfl⟩ := r'; simpa [eqD] using EqAt.str_int (A := A) (s := s) a ta b t
      | str b => obtain ⟨t, rfl⟩ := r'; simpa [eqD] using EqAt.str_str (A := A) (s := s) a ta b t
      | tup h _ => cases r'; obtain ⟨_, _, ht, _⟩ := I.tuple h; simpa [eqD] using EqAt.str_tuple (A := A) (s := s) a ta ht hu0
      | lst h _ => cases r'; obtain ⟨_, _, ht, _⟩ := I.list (SqL.of h); simpa [eqD] using EqAt.str_list (A := A) (s := s) a ta ht.isList hu0
    | tup h _ =>
      cases r
      obtain ⟨_, _, ht0, _⟩ := I.tuple h
      cases q with
      | non => cases r'; simpa [eqD] using EqAt.tuple_none (A := A) (s := s) ht0 hu0
      | bl b => cases r'; simpa [eqD] using EqAt.tuple_bool (A := A) (s := s) b ht0 hu0
      | int b => obtain ⟨t, rfl⟩ := r'; simpa [eqD] using EqAt.tuple_int (A := A) (s := s) b t ht0 hu0
      | str b => obtain ⟨t, rfl⟩ := r'; simpa [eqD] using EqAt.tuple_str (A := A) (s := s) b t ht0 hu0
      | tup h _ => simp [dep] at hd
      | lst h _ => simp [dep] at hd
    | lst h _ =>
      cases r
      obtain ⟨_, _, ht0, _⟩ := I.list (SqL.of h)
      cases q with
      | non => cases r'; simpa [eqD] using EqAt.list_none (A := A) (s := s) ht0.isList hu0
      | bl b => cases r'; simpa [eqD] using EqAt.list_bool (A := A) (s := s) b ht0.isList hu0
      | int b => obtain ⟨t, rfl⟩ := r'; simpa [eqD] using EqAt.list_int (A := A) (s := s) b t ht0.isList hu0
      | str b => obtain ⟨t, rfl⟩ := r'; simpa [eqD] using EqAt.list_str (A := A) (s := s) b t ht0.isList hu0
      | tup h _ => simp [dep] at hd
      | lst h _ => simp [dep] at hd
  | succ n ih =>
    intro A x y v w u u' hd hu p q r r'
    have hu0 : A.units < cLine := by omega
    by_cases hz : min (dep x) (dep y) ≤ n
    · exact ih A x y v w u u' hz (by omega) p q r r'
    cases p with
    | tup h p1 =>
      rename_i a xs ds
      cases r
      cases q with
      | tup h' p2 =>
        rename_i b ys es
        cases r'
        by_cases hab : a = b
        · subst hab
          have e := Pl.inj I _ _ (.tup h p1) (.tup h' p2)
          rw [← e, eqD_refl _ (Pl.plain _ (.tup h p1))]
          exact EqAt.same _
        · obtain ⟨us, r1, t1, _⟩ := I.tuple h
          obtain ⟨ws, r2, t2, _⟩ := I.tuple h'
          have hA := seq_all (A := A.in1) (s := s) r1 r2 p1 p2 (fun x y v w u u' hx hy p q r r' => ih A.in1 x y v w u u' (by
            obtain ⟨i, hi⟩ := List.getElem?_of_mem hx
            obtain ⟨j, hj⟩ := List.getElem?_of_mem hy
            have h1 := deps_get hi
            have h2 := deps_get hj
            simp only [dep] at hd
            omega) (by rw [in1_units]; omega) p q r r')
          have R := RcAt.tuples (A := A) (s := s) t1 t2 hu0 hA
          refine EqAt.of_refs hab ?_
          have l1 := r1.length
          have l2 := r2.length
          have m1 := p1.length
          have m2 := p2.length
          rw [eqD]
          by_cases hl : ds.length = es.length
          · rw [eqDs_at _ _ hl]
            have e1 : us.toArray.size = ds.length := by simp; omega
            have e2 : ws.toArray.size = ds.length := by simp; omega
            rw [e1, e2] at R
            simpa using R
          · rw [eqDs_len _ _ hl]
            have e3 : (us.toArray.size == ws.toArray.size) = false := by
              rw [beq_eq_false_iff_ne]; simp; omega
            rw [e3] at R
            simpa using R
      | lst h' p2 =>
        cases r'
        obtain ⟨us, r1, t1, _⟩ := I.tuple h
        obtain ⟨ws, r2, t2, _⟩ := I.list (SqL.of h')
        simpa [eqD] using EqAt.tuple_list (A := A) (s := s) t1 t2.isList hu0
      | _ => simp [dep] at hz
    | lst h p1 =>
      rename_i a xs ds
      cases r
      cases q with
      | lst h' p2 =>
        rename_i b ys es
        cases r'
        by_cases hab : a = b
        · subst hab
          have e := Pl.inj I _ _ (.lst h p1) (.lst h' p2)
          rw [← e, eqD_refl _ (Pl.plain _ (.lst h p1))]
          exact EqAt.same _
        · obtain ⟨us, r1, t1, _⟩ := I.list (SqL.of h)
          obtain ⟨ws, r2, t2, _⟩ := I.list (SqL.of h')
          have hA := seq_all (A := A.in1) (s := s) r1 r2 p1 p2 (fun x y v w u u' hx hy p q r r' => ih A.in1 x y v w u u' (by
            obtain ⟨i, hi⟩ := List.getElem?_of_mem hx
            obtain ⟨j, hj⟩ := List.getElem?_of_mem hy
            have h1 := deps_get hi
            have h2 := deps_get hj
            simp only [dep] at hd
            omega) (by rw [in1_units]; omega) p q r r')
          refine EqAt.of_refs hab ?_
          have l1 := r1.length
          have l2 := r2.length
          have m1 := p1.length
          have m2 := p2.length
          rw [eqD]
          by_cases hl : ds.length = es.length
          · have R := RcAt.lists (A := A) (s := s) t1.isList t2.isList (by simp; omega) hu0 hA
            rw [eqDs_at _ _ hl]
            have e1 : us.toArray.size = ds.length := by simp; omega
            rw [e1] at R
            exact R
          · rw [eqDs_len _ _ hl]
            exact RcAt.lists_lengths (A := A) (s := s) t1.isList t2.isList (by simp; omega) hu0
      | tup h' p2 =>
        cases r'
        obtain ⟨us, r1, t1, _⟩ := I.list (SqL.of h)
        obtain ⟨ws, r2, t2, _⟩ := I.tuple h'
        simpa [eqD] using EqAt.list_tuple (A := A) (s := s) t1.isList t2 hu0
      | _ => simp [dep] at hz
    | _ => simp [dep] at hz
theorem plRc (I : Inv X pins σ H s) (A : Around) (x y : D) (v w : V) (u u' : Value) (hd : min (dep x) (dep y) ≤ 500) (hu : A.units + 501 < cLine) (p : Pl X.K H v x) (q : Pl X.K H w y) (r : RelV v u) (r' : RelV w u') : RcAt A s u u' (eqD x y) := by
  have hu0 : A.units < cLine := by omega
  cases p with
  | non =>
    cases r
    cases q with
    | non => cases r'; simpa [eqD] using RcAt.none_none (A := A) (s := s) 
    | bl b => cases r'; simpa [eqD] using RcAt.none_bool (A := A) (s := s) b
    | int b => obtain ⟨t, rfl⟩ := r'; simpa [eqD] using RcAt.none_int (A := A) (s := s) b t
    | str b => obtain ⟨t, rfl⟩ := r'; simpa [eqD] using RcAt.none_str (A := A) (s := s) b t
    | tup h' p2 =>
      rename_i lb ys es
      cases r'
      obtain ⟨ws, r2, t2, _⟩ := I.tuple h'
      simpa [eqD] using RcAt.none_tuple (A := A) (s := s) t2 hu0
    | lst h' p2 =>
      rename_i lb ys es
      cases r'
      obtain ⟨ws, r2, t2, _⟩ := I.list (SqL.of h')
      simpa [eqD] using RcAt.none_list (A := A) (s := s) t2.isList hu0
  | bl a =>
    cases r
    cases q with
    | non => cases r'; simpa [eqD] using RcAt.bool_none (A := A) (s := s) a
    | bl b => cases r'; simpa [eqD] using RcAt.bool_bool (A := A) (s := s) a b
    | int b => obtain ⟨t, rfl⟩ := r'; simpa [eqD] using RcAt.bool_int (A := A) (s := s) a b t
    | str b => obtain ⟨t, rfl⟩ := r'; simpa [eqD] using RcAt.bool_str (A := A) (s := s) a b t
    | tup h' p2 =>
      rename_i lb ys es
      cases r'
      obtain ⟨ws, r2, t2, _⟩ := I.tuple h'
      simpa [eqD] using RcAt.bool_tuple (A := A) (s := s) a t2 hu0
    | lst h' p2 =>
      rename_i lb ys es
      cases r'
      obtain ⟨ws, r2, t2, _⟩ := I.list (SqL.of h')
      simpa [eqD] using RcAt.bool_list (A := A) (s := s) a t2.isList hu0
  | int a =>
    obtain ⟨ta, rfl⟩ := r
    cases q with
    | non => cases r'; simpa [eqD] using RcAt.int_none (A := A) (s := s) a ta
    | bl b => cases r'; simpa [eqD] using RcAt.int_bool (A := A) (s := s) a ta b
    | int b => obtain ⟨t, rfl⟩ := r'; simpa [eqD] using RcAt.int_int (A := A) (s := s) a ta b t
    | str b => obtain ⟨t, rfl⟩ := r'; simpa [eqD] using RcAt.int_str (A := A) (s := s) a ta b t
    | tup h' p2 =>
      rename_i lb ys es
      cases r'
      obtain ⟨ws, r2, t2, _⟩ := I.tuple h'
      simpa [eqD] using RcAt.int_tuple (A := A) (s := s) a ta t2 hu0
    | lst h' p2 =>
      rename_i lb ys es
      cases r'
      obtain ⟨ws, r2, t2, _⟩ := I.list (SqL.of h')
      simpa [eqD] using RcAt.int_list (A := A) (s := s) a ta t2.isList hu0
  | str a =>
    obtain ⟨ta, rfl⟩ := r
    cases q with
    | non => cases r'; simpa [eqD] using RcAt.str_none (A := A) (s := s) a ta
    | bl b => cases r'; simpa [eqD] using RcAt.str_bool (A := A) (s := s) a ta b
    | int b => obtain ⟨t, rfl⟩ := r'; simpa [eqD] using RcAt.str_int (A := A) (s := s) a ta b t
    | str b => obtain ⟨t, rfl⟩ := r'; simpa [eqD] using RcAt.str_str (A := A) (s := s) a ta b t
    | tup h' p2 =>
      rename_i lb ys es
      cases r'
      obtain ⟨ws, r2, t2, _⟩ := I.tuple h'
      simpa [eqD] using RcAt.str_tuple (A := A) (s := s) a ta t2 hu0
    | lst h' p2 =>
      rename_i lb ys es
      cases r'
      obtain ⟨ws, r2, t2, _⟩ := I.list (SqL.of h')
      simpa [eqD] using RcAt.str_list (A := A) (s := s) a ta t2.isList hu0
  | tup h p1 =>
    rename_i la xs ds
    cases r
    obtain ⟨us, r1, t1, _⟩ := I.tuple h
    cases q with
    | non => cases r'; simpa [eqD] using RcAt.tuple_none (A := A) (s := s) t1 hu0
    | bl b => cases r'; simpa [eqD] using RcAt.tuple_bool (A := A) (s := s) b t1 hu0
    | int b => obtain ⟨t, rfl⟩ := r'; simpa [eqD] using RcAt.tuple_int (A := A) (s := s) b t t1 hu0
    | str b => obtain ⟨t, rfl⟩ := r'; simpa [eqD] using RcAt.tuple_str (A := A) (s := s) b t t1 hu0
    | tup h' p2 =>
      rename_i lb ys es
      cases r'
      obtain ⟨ws, r2, t2, _⟩ := I.tuple h'
      have hA := seq_all (A := A.in1) (s := s) r1 r2 p1 p2 (fun x y v w u u' hx hy p q r r' => plEq I 500 A.in1 x y v w u u' (by
        obtain ⟨i, hi⟩ := List.getElem?_of_mem hx
        obtain ⟨j, hj⟩ := List.getElem?_of_mem hy
        have h1 := deps_get hi
        have h2 := deps_get hj
        simp only [dep] at hd
        omega) (by rw [in1_units]; omega) p q r r')
      have l1 := r1.length
      have l2 := r2.length
      have m1 := p1.length
      have m2 := p2.length
      rw [eqD]
      by_cases hl : ds.length = es.length
      · have R := RcAt.tuples (A := A) (s := s) t1 t2 hu0 hA
        rw [eqDs_at _ _ hl]
        have e1 : us.toArray.size = ds.length := by simp; omega
        have e2 : ws.toArray.size = ds.length := by simp; omega
        rw [e1, e2] at R
        simpa using R
      · have R := RcAt.tuples (A := A) (s := s) t1 t2 hu0 hA
        rw [eqDs_len _ _ hl]
        have e3 : (us.toArray.size == ws.toArray.size) = false := by
          rw [beq_eq_false_iff_ne]; simp; omega
        rw [e3] at R
        simpa using R
    | lst h' p2 =>
      rename_i lb ys es
      cases r'
      obtain ⟨ws, r2, t2, _⟩ := I.list (SqL.of h')
      simpa [eqD] using RcAt.tuple_list (A := A) (s := s) t1 t2.isList hu0
  | lst h p1 =>
    rename_i la xs ds
    cases r
    obtain ⟨us, r1, t1, _⟩ := I.list (SqL.of h)
    cases q with
    | non => cases r'; simpa [eqD] using RcAt.list_none (A := A) (s := s) t1.isList hu0
    | bl b => cases r'; simpa [eqD] using RcAt.list_bool (A := A) (s := s) b t1.isList hu0
    | int b => obtain ⟨t, rfl⟩ := r'; simpa [eqD] using RcAt.list_int (A := A) (s := s) b t t1.isList hu0
    | str b => obtain ⟨t, rfl⟩ := r'; simpa [eqD] using RcAt.list_str (A := A) (s := s) b t t1.isList hu0
    | tup h' p2 =>
      rename_i lb ys es
      cases r'
      obtain ⟨ws, r2, t2, _⟩ := I.tuple h'
      simpa [eqD] using RcAt.list_tuple (A := A) (s := s) t1.isList t2 hu0
    | lst h' p2 =>
      rename_i lb ys es
      cases r'
      obtain ⟨ws, r2, t2, _⟩ := I.list (SqL.of h')
      have hA := seq_all (A := A.in1) (s := s) r1 r2 p1 p2 (fun x y v w u u' hx hy p q r r' => plEq I 500 A.in1 x y v w u u' (by
        obtain ⟨i, hi⟩ := List.getElem?_of_mem hx
        obtain ⟨j, hj⟩ := List.getElem?_of_mem hy
        have h1 := deps_get hi
        have h2 := deps_get hj
        simp only [dep] at hd
        omega) (by rw [in1_units]; omega) p q r r')
      have l1 := r1.length
      have l2 := r2.length
      have m1 := p1.length
      have m2 := p2.length
      rw [eqD]
      by_cases hl : ds.length = es.length
      · have R := RcAt.lists (A := A) (s := s) t1.isList t2.isList (by simp; omega) hu0 hA
        rw [eqDs_at _ _ hl]
        have e1 : us.toArray.size = ds.length := by simp; omega
        rw [e1] at R
        exact R
      · rw [eqDs_len _ _ hl]
        exact RcAt.lists_lengths (A := A) (s := s) t1.isList t2.isList (by simp; omega) hu0
theorem plNe (I : Inv X pins σ H s) (A : Around) (x y : D) (v w : V) (u u' : Value) (hd : min (dep x) (dep y) ≤ 500) (hu : A.units + 501 < cLine) (p : Pl X.K H v x) (q : Pl X.K H w y) (r : RelV v u) (r' : RelV w u') : RcNeAt A s u u' (!eqD x y) := by
  have hu0 : A.units < cLine := by omega
  cases p with
  | non =>
    cases r
    cases q with
    | non => cases r'; simpa [eqD] using RcNeAt.none_none (A := A) (s := s) 
    | bl b => cases r'; simpa [eqD] using RcNeAt.none_bool (A := A) (s := s) b
    | int b => obtain ⟨t, rfl⟩ := r'; simpa [eqD] using RcNeAt.none_int (A := A) (s := s) b t
    | str b => obtain ⟨t, rfl⟩ := r'; simpa [eqD] using RcNeAt.none_str (A := A) (s := s) b t
    | tup h' p2 =>
      rename_i lb ys es
      cases r'
      obtain ⟨ws, r2, t2, _⟩ := I.tuple h'
      simpa [eqD] using RcNeAt.none_tuple (A := A) (s := s) t2 hu0
    | lst h' p2 =>
      rename_i lb ys es
      cases r'
      obtain ⟨ws, r2, t2, _⟩ := I.list (SqL.of h')
      simpa [eqD] using RcNeAt.none_list (A := A) (s := s) t2.isList hu0
  | bl a =>
    cases r
    cases q with
    | non => cases r'; simpa [eqD] using RcNeAt.bool_none (A := A) (s := s) a
    | bl b => cases r'; simpa [eqD] using RcNeAt.bool_bool (A := A) (s := s) a b
    | int b => obtain ⟨t, rfl⟩ := r'; simpa [eqD] using RcNeAt.bool_int (A := A) (s := s) a b t
    | str b => obtain ⟨t, rfl⟩ := r'; simpa [eqD] using RcNeAt.bool_str (A := A) (s := s) a b t
    | tup h' p2 =>
      rename_i lb ys es
      cases r'
      obtain ⟨ws, r2, t2, _⟩ := I.tuple h'
      simpa [eqD] using RcNeAt.bool_tuple (A := A) (s := s) a t2 hu0
    | lst h' p2 =>
      rename_i lb ys es
      cases r'
      obtain ⟨ws, r2, t2, _⟩ := I.list (SqL.of h')
      simpa [eqD] using RcNeAt.bool_list (A := A) (s := s) a t2.isList hu0
  | int a =>
    obtain ⟨ta, rfl⟩ := r
    cases q with
    | non => cases r'; simpa [eqD] using RcNeAt.int_none (A := A) (s := s) a ta
    | bl b => cases r'; simpa [eqD] using RcNeAt.int_bool (A := A) (s := s) a ta b
    | int b => obtain ⟨t, rfl⟩ := r'; simpa [eqD] using RcNeAt.int_int (A := A) (s := s) a ta b t
    | str b => obtain ⟨t, rfl⟩ := r'; simpa [eqD] using RcNeAt.int_str (A := A) (s := s) a ta b t
    | tup h' p2 =>
      rename_i lb ys es
      cases r'
      obtain ⟨ws, r2, t2, _⟩ := I.tuple h'
      simpa [eqD] using RcNeAt.int_tuple (A := A) (s := s) a ta t2 hu0
    | lst h' p2 =>
      rename_i lb ys es
      cases r'
      obtain ⟨ws, r2, t2, _⟩ := I.list (SqL.of h')
      simpa [eqD] using RcNeAt.int_list (A := A) (s := s) a ta t2.isList hu0
  | str a =>
    obtain ⟨ta, rfl⟩ := r
    cases q with
    | non => cases r'; simpa [eqD] using RcNeAt.str_none (A := A) (s := s) a ta
    | bl b => cases r'; simpa [eqD] using RcNeAt.str_bool (A := A) (s := s) a ta b
    | int b => obtain ⟨t, rfl⟩ := r'; simpa [eqD] using RcNeAt.str_int (A := A) (s := s) a ta b t
    | str b => obtain ⟨t, rfl⟩ := r'; simpa [eqD] using RcNeAt.str_str (A := A) (s := s) a ta b t
    | tup h' p2 =>
      rename_i lb ys es
      cases r'
      obtain ⟨ws, r2, t2, _⟩ := I.tuple h'
      simpa [eqD] using RcNeAt.str_tuple (A := A) (s := s) a ta t2 hu0
    | lst h' p2 =>
      rename_i lb ys es
      cases r'
      obtain ⟨ws, r2, t2, _⟩ := I.list (SqL.of h')
      simpa [eqD] using RcNeAt.str_list (A := A) (s := s) a ta t2.isList hu0
  | tup h p1 =>
    rename_i la xs ds
    cases r
    obtain ⟨us, r1, t1, _⟩ := I.tuple h
    cases q with
    | non => cases r'; simpa [eqD] using RcNeAt.tuple_none (A := A) (s := s) t1 hu0
    | bl b => cases r'; simpa [eqD] using RcNeAt.tuple_bool (A := A) (s := s) b t1 hu0
    | int b => obtain ⟨t, rfl⟩ := r'; simpa [eqD] using RcNeAt.tuple_int (A := A) (s := s) b t t1 hu0
    | str b => obtain ⟨t, rfl⟩ := r'; simpa [eqD] using RcNeAt.tuple_str (A := A) (s := s) b t t1 hu0
    | tup h' p2 =>
      rename_i lb ys es
      cases r'
      obtain ⟨ws, r2, t2, _⟩ := I.tuple h'
      have hA := seq_all (A := A.in1) (s := s) r1 r2 p1 p2 (fun x y v w u u' hx hy p q r r' => plEq I 500 A.in1 x y v w u u' (by
        obtain ⟨i, hi⟩ := List.getElem?_of_mem hx
        obtain ⟨j, hj⟩ := List.getElem?_of_mem hy
        have h1 := deps_get hi
        have h2 := deps_get hj
        simp only [dep] at hd
        omega) (by rw [in1_units]; omega) p q r r')
      have l1 := r1.length
      have l2 := r2.length
      have m1 := p1.length
      have m2 := p2.length
      rw [eqD]
      by_cases hl : ds.length = es.length
      · have R := RcNeAt.tuples (A := A) (s := s) t1 t2 hu0 hA
        rw [eqDs_at _ _ hl]
        have e1 : us.toArray.size = ds.length := by simp; omega
        have e2 : ws.toArray.size = ds.length := by simp; omega
        rw [e1, e2] at R
        simpa using R
      · have R := RcNeAt.tuples (A := A) (s := s) t1 t2 hu0 hA
        rw [eqDs_len _ _ hl]
        have e3 : (us.toArray.size == ws.toArray.size) = false := by
          rw [beq_eq_false_iff_ne]; simp; omega
        rw [e3] at R
        simpa using R
    | lst h' p2 =>
      rename_i lb ys es
      cases r'
      obtain ⟨ws, r2, t2, _⟩ := I.list (SqL.of h')
      simpa [eqD] using RcNeAt.tuple_list (A := A) (s := s) t1 t2.isList hu0
  | lst h p1 =>
    rename_i la xs ds
    cases r
    obtain ⟨us, r1, t1, _⟩ := I.list (SqL.of h)
    cases q with
    | non => cases r'; simpa [eqD] using RcNeAt.list_none (A := A) (s := s) t1.isList hu0
    | bl b => cases r'; simpa [eqD] using RcNeAt.list_bool (A := A) (s := s) b t1.isList hu0
    | int b => obtain ⟨t, rfl⟩ := r'; simpa [eqD] using RcNeAt.list_int (A := A) (s := s) b t t1.isList hu0
    | str b => obtain ⟨t, rfl⟩ := r'; simpa [eqD] using RcNeAt.list_str (A := A) (s := s) b t t1.isList hu0
    | tup h' p2 =>
      rename_i lb ys es
      cases r'
      obtain ⟨ws, r2, t2, _⟩ := I.tuple h'
      simpa [eqD] using RcNeAt.list_tuple (A := A) (s := s) t1.isList t2 hu0
    | lst h' p2 =>
      rename_i lb ys es
      cases r'
      obtain ⟨ws, r2, t2, _⟩ := I.list (SqL.of h')
      have hA := seq_all (A := A.in1) (s := s) r1 r2 p1 p2 (fun x y v w u u' hx hy p q r r' => plEq I 500 A.in1 x y v w u u' (by
        obtain ⟨i, hi⟩ := List.getElem?_of_mem hx
        obtain ⟨j, hj⟩ := List.getElem?_of_mem hy
        have h1 := deps_get hi
        have h2 := deps_get hj
        simp only [dep] at hd
        omega) (by rw [in1_units]; omega) p q r r')
      have l1 := r1.length
      have l2 := r2.length
      have m1 := p1.length
      have m2 := p2.length
      rw [eqD]
      by_cases hl : ds.length = es.length
      · have R := RcNeAt.lists (A := A) (s := s) t1.isList t2.isList (by simp; omega) hu0 hA
        rw [eqDs_at _ _ hl]
        have e1 : us.toArray.size = ds.length := by simp; omega
        rw [e1] at R
        exact R
      · rw [eqDs_len _ _ hl]
        exact RcNeAt.lists_lengths (A := A) (s := s) t1.isList t2.isList (by simp; omega) hu0

open Classical in
noncomputable def eqAtV (K : PySem.W.Frag) (H : Hp) (x : D) (u : Value) : Bool := if h : ∃ v d, RelV v u ∧ Pl K H v d then eqD (Classical.choose (Classical.choose_spec h)) x else false
theorem eqAtV_of (I : Inv X pins σ H s) {x d : D} {v : V} {u : Value} (r : RelV v u) (p : Pl X.K H v d) : eqAtV X.K H x u = eqD d x := by
  unfold eqAtV
  have h : ∃ v d, RelV v u ∧ Pl X.K H v d := ⟨v, d, r, p⟩
  rw [dif_pos h]
  have q := Classical.choose_spec (Classical.choose_spec h)
  have e : Classical.choose h = v := q.1.inj r
  have p2 := q.2
  generalize Classical.choose (Classical.choose_spec h) = d' at p2 ⊢
  rw [e] at p2
  rw [Pl.inj I _ _ p2 p]
theorem any_eq (I : Inv X pins σ H s) {x : D} : ∀ {vs : List V} {us : List Value} {ds : List D}, Vals vs us → Pls X.K H vs ds → us.any (eqAtV X.K H x) = ds.any fun z => eqD z x
  | _, _, _, .nil, .nil => rfl
  | _, _, _, .cons r rs, .cons p ps => by rw [List.any_cons, List.any_cons, eqAtV_of I r p, any_eq I rs ps]
theorem items_eq (I : Inv X pins σ H s) {A : Around} {x : D} {v : V} {u : Value} {vs : List V} {us : List Value} {ds : List D} (hu : A.units + 501 < cLine) (hd : min (dep x) (deps ds) ≤ 500) (p : Pl X.K H v x) (r : RelV v u) (rs : Vals vs us) (ps : Pls X.K H vs ds) :
    ∀ y, y ∈ us.toArray → EqAt A.in1 s y u (eqAtV X.K H x y) := by
  intro y hy
  have hy' : y ∈ us := by simpa using hy
  obtain ⟨i, hi⟩ := List.getElem?_of_mem hy'
  obtain ⟨w, e1, q1⟩ := vals_getV rs hi
  obtain ⟨d, f1, g1⟩ := ps.get e1
  rw [eqAtV_of I q1 g1]
  have h1 := deps_get f1
  exact plEq I 500 A.in1 d x w v y u (by omega) (by rw [in1_units]; omega) g1 p q1 r
end
end RP
end
section
set_option Elab.async false
set_option linter.all false
set_option maxRecDepth 100000
namespace RP
open PySem L2 PySem.SeqAt

def lift2 (K : PySem.W.Frag) (f : St → D → D → Option D) : R2 := fun x y H Q => ∃ W st dx dy d, Sim K H W st ∧ Rep K H W x dx ∧ Rep K H W y dy ∧ f st dx dy = some d ∧ ∀ v H', Step H W H' W → Sim K H' W st → Rep K H' W v d → Q v H'
def lift1 (K : PySem.W.Frag) (f : St → D → Option D) : V → Hp → VK → Prop := fun x H Q => ∃ W st dx d, Sim K H W st ∧ Rep K H W x dx ∧ f st dx = some d ∧ ∀ v H', Step H W H' W → Sim K H' W st → Rep K H' W v d → Q v H'
def liftN (K : PySem.W.Frag) (f : St → List D → Option D) : List V → Hp → VK → Prop := fun xs H Q => ∃ W st ds d, Sim K H W st ∧ Reps K H W xs ds ∧ f st ds = some d ∧ ∀ v H', Step H W H' W → Sim K H' W st → Rep K H' W v d → Q v H'
section
variable {K : PySem.W.Frag} {H : Hp} {W : Wd} {st : St} {Q : VK}
theorem newT (S : Sim K H W st) {xs : List V} {ds : List D} (rs : Reps K H W xs ds) (q : ∀ v H', Step H W H' W → Sim K H' W st → Rep K H' W v (.tup ds) → Q v H') (p : Addr) (o : Obj) (hp : H p = none) (ho : o.dict = none) : Q (.ref p) (upd H p (.frz o (.tup xs))) :=
  q _ _ (Step.temp S hp) (S.temp hp) (.tup (.inl ⟨o, upd_same, ho⟩) (rs.step S (Step.temp S hp)))
theorem newL (S : Sim K H W st) {xs : List V} {ds : List D} (rs : Reps K H W xs ds) (q : ∀ v H', Step H W H' W → Sim K H' W st → Rep K H' W v (.lst ds) → Q v H') (p : Addr) (hp : H p = none) : Q (.ref p) (upd H p (.lst xs)) :=
  q _ _ (Step.temp S hp) (S.temp hp) (.lst upd_same (S.fresh hp) (S.freshB hp) (rs.step S (Step.temp S hp)))
theorem newD (S : Sim K H W st) {kvs : List (Key × V)} {ks vs : List D} (r1 : Reps K H W (kvs.map fun kv => kV kv.1) ks) (r2 : Reps K H W (kvs.map (·.2)) vs) (q : ∀ v H', Step H W H' W → Sim K H' W st → Rep K H' W v (.dct ks vs) → Q v H') (p : Addr) (hp : H p = none) : Q (.ref p) (upd H p (.dK kvs)) :=
  q _ _ (Step.temp S hp) (S.temp hp) (.dct (.inl upd_same) (S.fresh hp) (S.freshB hp) (r1.step S (Step.temp S hp)) (r2.step S (Step.temp S hp)))
theorem saw_int {v : V} {i : Int} (h : Saw K H W v (.int i)) : v = .int i := by
  cases h with
  | rep h _ _ => cases h; rfl
theorem saw_str {v : V} {i : Str} (h : Saw K H W v (.str i)) : v = .str i := by
  cases h with
  | rep h _ _ => cases h; rfl
theorem saw_bl {v : V} {i : Bool} (h : Saw K H W v (.bl i)) : v = .bl i := by
  cases h with
  | rep h _ _ => cases h; rfl
theorem saw_non {v : V} (h : Saw K H W v .non) : v = .non := by
  cases h with
  | rep h _ _ => cases h; rfl
theorem saw_tup {v : V} {ds : List D} (h : Saw K H W v (.tup ds)) : ∃ a xs, v = .ref a ∧ Tp K H a xs ∧ Reps K H W xs ds := by
  cases h with
  | rep h _ _ => cases h with
    | tup h r => exact ⟨_, _, rfl, h, r⟩
theorem saw_lst {v : V} {ds : List D} (h : Saw K H W v (.lst ds)) : ∃ a xs, v = .ref a ∧ H a = some (.lst xs) ∧ Reps K H W xs ds := by
  cases h with
  | lst h r => exact ⟨_, _, rfl, h, r⟩
  | rep _ n _ => exact absurd rfl (n _)
theorem saw_frz {v : V} {ns : List Int} (h : Saw K H W v (.frz ns)) : ∃ a, v = .ref a ∧ SqL K H a (ns.map V.int) := by
  cases h with
  | rep h _ _ => cases h with
    | frz h =>
      rcases h with ⟨o, h⟩ | h
      · exact ⟨_, rfl, .inl (.inr ⟨o, h⟩)⟩
      · exact ⟨_, rfl, .inr h⟩
theorem saw_dct {v : V} {ks vs : List D} (h : Saw K H W v (.dct ks vs)) : ∃ a kvs, v = .ref a ∧ Rd H a (.dK kvs) ∧ Reps K H W (kvs.map fun kv => kV kv.1) ks ∧ Reps K H W (kvs.map (·.2)) vs := by
  cases h with
  | dct h r r2 => exact ⟨_, _, rfl, h, r, r2⟩
  | rep _ _ n => exact absurd rfl (n _ _)
theorem rep_int {v : V} {i : Int} (h : Rep K H W v (.int i)) : v = .int i := by cases h; rfl
theorem rep_bl {v : V} {i : Bool} (h : Rep K H W v (.bl i)) : v = .bl i := by cases h; rfl
theorem rep_str {v : V} {i : Str} (h : Rep K H W v (.str i)) : v = .str i := by cases h; rfl
theorem rep_non {v : V} (h : Rep K H W v .non) : v = .non := by cases h; rfl
theorem Reps.cut {xs : List V} {ds : List D} (r : Reps K H W xs ds) (lo hi : Option Int) : Reps K H W (cutV xs lo hi) (cut ds lo hi) := by
  have e := r.length
  unfold cutV RP.cut
  rw [e]
  exact (r.drop _).take _
end
section
open PySem.Spec PyProof.Rows
variable {X : Cx}
theorem laidT {pins : List (Addr × Obj)} {σ : L2.St} {H : Hp} {s : Shared} {xs : List V} {us : List Value} {t' : Nat} (I : Inv X pins σ H s) (hz : xs.length ≤ sizeLine) (r : Vals xs us) :
    Inv X pins σ (upd H s.heap.objs.size (.frz { cls := .type "tuple", data := .seq us.toArray } (.tup xs))) { s with heap := s.heap.push { cls := .type "tuple", data := .seq us.toArray }, toks := t' } :=
  I.laid (fun b ob q => Heap.get?_push_of_some _ q) (Nat.le_refl _) ⟨Heap.get?_push_size _ rfl, hz, us, r, IsTup.new _ _⟩
def tTupF (t : TA) : TE := fun σ H Q => t σ H fun xs H1 => xs.length ≤ sizeLine ∧ ∀ p o, H1 p = none → o.dict = none → Q (.ref p) (upd H1 p (.frz o (.tup xs)))
theorem pe_tupF {es : List Expr} {t : TA} {pos : Pos} {x1} (h : PA X es t) : PE X (.Tuple es x1 pos) (tTupF t) := by
  refine ⟨fun pins s σ H Q I hq => ?_⟩
  refine wpAny_Tuple_spliced (thn (h.run pos pins s σ H _ I hq) fun us s1 ⟨xs, H1, I1, r, z, q⟩ => ⟨by rw [← r.length]; exact z, ?_⟩)
  have hf : H1 s1.heap.objs.size = none := I1.hok.fresh (Nat.le_refl _)
  exact ⟨.ref s1.heap.objs.size, _, laidT (t' := s1.toks) I1 z r, rfl, q _ _ hf rfl⟩
theorem op_catF (pins : List (Addr × Obj)) (s : Shared) (σ : L2.St) (H : Hp) (a b : Addr) (xs ys : List V) (v u : Value) (Q : VK) (I : Inv X pins σ H s) (rx : RelV (.ref a) v) (ry : RelV (.ref b) u)
    (ha : SqT X.K H a xs) (hb : SqT X.K H b ys) (hz : xs.length + ys.length ≤ sizeLine) (q0 : xs = [] → Q (.ref b) H) (q1 : xs ≠ [] → ys = [] → Q (.ref a) H) (q2 : ∀ p o, H p = none → o.dict = none → Q (.ref p) (upd H p (.frz o (.tup (xs ++ ys))))) :
    wpAny (model X.prog X.w) X.A (binaryOp .Add v u) (EP X pins σ Q) X.xe s := by
  cases rx
  cases ry
  obtain ⟨its, r1, p1, _⟩ := I.tuple ha
  obtain ⟨its2, r2, p2, _⟩ := I.tuple hb
  by_cases hx : xs = []
  · subst hx
    cases r1
    exact cat_tup0 p1 p2 ⟨.ref b, H, I, rfl, q0 rfl⟩
  · refine HT.cat_tup p1 p2 (fun z => hx (r1.nil_iff.mp z)) (fun z => ⟨.ref a, H, I, rfl, q1 hx (r2.nil_iff.mp z)⟩) (fun z => ?_) (by rw [← r1.length, ← r2.length]; exact hz)
    exact ⟨.ref s.heap.objs.size, _, laidT (t' := s.toks) I (by rw [List.length_append]; exact hz) (r1.append r2), rfl, q2 _ _ (I.hok.fresh (Nat.le_refl _)) rfl⟩
def rSlF (K : PySem.W.Frag) : V → Option Int → Option Int → Hp → VK → Prop := fun x lo hi H Q => ∃ a xs, x = .ref a ∧ SqT K H a xs ∧
  (HT.sIx xs.length 0 lo = 0 ∧ HT.sIx xs.length xs.length hi = xs.length → Q (.ref a) H) ∧ (∀ p o, H p = none → o.dict = none → Q (.ref p) (upd H p (.frz o (.tup (cutV xs lo hi)))))
theorem sl_tupF : SlR X (rSlF X.K) := by
  intro pins s σ H x v vl vu lo hi sl Q I rx hs pl pu h
  obtain ⟨a, xs, rfl, hx, q1, q2⟩ := h
  cases rx
  obtain ⟨its, r, ht, hz⟩ := I.tuple hx
  have hlen : its.toArray.size = xs.length := by rw [List.size_toArray]; exact r.length.symm
  refine ⟨"tuple", _, PyProof.Rows.slot_tuple_getitem.lookup, ht.typeIs, ?_⟩
  by_cases hw : HT.sIx xs.length 0 lo = 0 ∧ HT.sIx xs.length xs.length hi = xs.length
  · exact getItem_tuple_whole ht hs pl pu (by rw [hlen]; exact hw) ⟨.ref a, H, I, rfl, q1 hw⟩
  · refine HT.getItem_tuple_cut ht hs pl pu (by rw [hlen]; exact hw) ?_ (by rw [hlen]; exact hz)
    rw [hlen]
    exact ⟨.ref s.heap.objs.size, _, laidT (t' := s.toks) I (Nat.le_trans (cutV_length xs lo hi) hz) ((r.drop (HT.sIx xs.length 0 lo)).take (HT.sIx xs.length xs.length hi - HT.sIx xs.length 0 lo)), rfl, q2 _ _ (I.hok.fresh (Nat.le_refl _)) rfl⟩
theorem call_tuple_ofF : CallR X (.type "tuple") (fun xs H Q => ∃ p ys, xs = [.ref p] ∧ ((SqL X.K H p ys ∧ ∀ l o, H l = none → o.dict = none → Q (.ref l) (upd H l (.frz o (.tup ys)))) ∨ (SqT X.K H p ys ∧ Q (.ref p) H))) := by
  intro pins s σ H xs us Q I r h
  obtain ⟨p, ys, rfl, h⟩ := h
  obtain ⟨u, rfl, rx⟩ := vals1 r
  cases rx
  rcases h with ⟨hq, q⟩ | ⟨hq, q⟩
  · obtain ⟨its, r', pl, hz⟩ := I.list hq
    have hlen := r'.length
    refine call_tuple_list pl.isList (fun h' kp => ?_) (by simp only [List.size_toArray] <;> omega)
    have I1 : Inv X pins σ H { s with heap := h' } := I.kept (t' := s.toks) kp
    exact ⟨.ref h'.objs.size, _, laidT (t' := s.toks) I1 hz r', rfl, q _ _ (I1.hok.fresh (Nat.le_refl _)) rfl⟩
  · obtain ⟨its, r', pl, hz⟩ := I.tuple hq
    exact call_tuple_same pl ⟨.ref p, H, I, rfl, q⟩
end
theorem bigLine : big ≤ sizeLine := by decide
section
variable {X : Cx}
theorem op_addL : OpR X (binaryOp .Add) (lift2 X.K addD) := by
  intro pins s σ H x y v u Q I rx ry h
  obtain ⟨W, st, dx, dy, d, S, r1, r2, e, q⟩ := h
  have s1 := r1.saw S
  have s2 := r2.saw S
  have bl := bigLine
  unfold addD at e
  generalize see st dx = ex at s1 e
  generalize see st dy = ey at s2 e
  split at e
  · cases e
    exact op_add pins s σ H x y v u Q I rx ry ⟨_, _, saw_int s1, saw_int s2, q _ H (Step.refl _ _) S (.int _)⟩
  · split at e
    · cases e
      exact op_add_str pins s σ H x y v u Q I rx ry ⟨_, _, saw_str s1, saw_str s2, by omega, q _ H (Step.refl _ _) S (.str _)⟩
    · cases e
  · split at e
    · cases e
      obtain ⟨a, xs, rfl, h1, q1⟩ := saw_tup s1
      obtain ⟨b, ys, rfl, h2, q2⟩ := saw_tup s2
      have l1 := q1.length
      have l2 := q2.length
      refine op_catF pins s σ H a b xs ys v u Q I rx ry h1.sq h2.sq (by omega) (fun e => ?_) (fun _ e => ?_) (newT S (q1.append q2) q)
      · subst e
        cases q1
        exact q _ H (Step.refl _ _) S (.tup h2 q2)
      · subst e
        cases q2
        exact q _ H (Step.refl _ _) S (.tup h1 (by simpa using q1))
    · cases e
  · split at e
    · cases e
      obtain ⟨a, xs, rfl, h1, q1⟩ := saw_lst s1
      obtain ⟨b, ys, rfl, h2, q2⟩ := saw_lst s2
      have l1 := q1.length
      have l2 := q2.length
      exact op_cat pins s σ H _ _ v u Q I rx ry ⟨a, b, xs, ys, rfl, rfl, h1, h2, by omega, newL S (q1.append q2) q⟩
    · cases e
  · cases e
theorem op_subL : OpR X (binaryOp .Sub) (lift2 X.K subD) := by
  intro pins s σ H x y v u Q I rx ry h
  obtain ⟨W, st, dx, dy, d, S, r1, r2, e, q⟩ := h
  unfold subD at e
  split at e
  · cases e
    exact op_sub pins s σ H x y v u Q I rx ry ⟨_, _, rep_int r1, rep_int r2, q _ H (Step.refl _ _) S (.int _)⟩
  · cases e
theorem op_modL : OpR X (binaryOp .Mod) (lift2 X.K modD) := by
  intro pins s σ H x y v u Q I rx ry h
  obtain ⟨W, st, dx, dy, d, S, r1, r2, e, q⟩ := h
  unfold modD at e
  split at e
  · split at e
    · cases e
      exact op_mod pins s σ H x y v u Q I rx ry ⟨_, _, rep_int r1, rep_int r2, by assumption, q _ H (Step.refl _ _) S (.int _)⟩
    · cases e
  · cases e
theorem op_fdivL : OpR X (binaryOp .FloorDiv) (lift2 X.K fdivD) := by
  intro pins s σ H x y v u Q I rx ry h
  obtain ⟨W, st, dx, dy, d, S, r1, r2, e, q⟩ := h
  unfold fdivD at e
  split at e
  · rename_i i j
    split at e
    · rename_i hc
      cases e
      have hc' : 0 < j ∧ j < 2 ^ 64 := by simpa using hc
      refine op_fdivW pins s σ H x y v u Q I rx ry ⟨_, _, rep_int r1, rep_int r2, wide_div (b := 64) hc'.1 (by omega) (by decide) (by decide), q _ H (Step.refl _ _) S (.int _)⟩
    · cases e
  · cases e
theorem op_powL : OpR X (binaryOp .Pow) (lift2 X.K powD) := by
  intro pins s σ H x y v u Q I rx ry h
  obtain ⟨W, st, dx, dy, d, S, r1, r2, e, q⟩ := h
  unfold powD at e
  split at e
  · rename_i i j
    split at e
    · rename_i hc
      cases e
      have hc' : ((0 ≤ i ∧ i ≤ 10) ∧ 0 ≤ j) ∧ j ≤ 20 := by simpa using hc
      exact op_pow pins s σ H x y v u Q I rx ry ⟨_, _, rep_int r1, rep_int r2, ⟨by omega, by omega, by omega⟩, q _ H (Step.refl _ _) S (.int _)⟩
    · cases e
  · cases e
theorem tuple_mul_same (l : Addr) (items : Array Value) (n : Nat) (dd : Option Addr) (sl : Array (Option Value)) (x : Int) (u : Tok) (c0 : (decide (x < -(2 ^ 63)) || decide (x ≥ 2 ^ 63)) = false) (c1 : (items.isEmpty || x == 1) = true) :
    Meets (Builtin.«tuple.__mul__» ⟨[.ref l, .int x u], []⟩) (fun _ R s => s.heap.get? l = some { cls := .type "tuple", dict := dd, data := .seq items n, slots := sl } ∧ R (.ok (.ret (Value.ref l))) s) :=
  .of_wp fun prog w A R s h => by
    obtain ⟨hp, g, d, tk, os⟩ := s
    obtain ⟨hl, h⟩ := h
    have f1 := AutoSeq1.idx_int
    wp_walk using wpAny_loadPart' hl
    repeat (first
      | (refine wpAny_ite_false (decide_eq_false (by rw [c0]; exact Bool.false_ne_true)) ?_; wp_walk using wpAny_loadPart' hl)
      | (refine wpAny_ite_true (decide_eq_true c1) ?_; wp_walk using wpAny_loadPart' hl))
    exact ⟨_, rfl, h⟩
theorem tuple_mul_none (l : Addr) (items : Array Value) (n : Nat) (dd : Option Addr) (sl : Array (Option Value)) (x : Int) (u : Tok) (c0 : (decide (x < -(2 ^ 63)) || decide (x ≥ 2 ^ 63)) = false) (c1 : (items.isEmpty || x == 1) = false) (c2 : (decide (x ≤ 0) || items.isEmpty) = true) :
    Meets (Builtin.«tuple.__mul__» ⟨[.ref l, .int x u], []⟩) (fun _ R s => s.heap.get? l = some { cls := .type "tuple", dict := dd, data := .seq items n, slots := sl } ∧
      R (.ok (.ret (Value.ref s.heap.objs.size))) { s with heap := s.heap.push { cls := Value.type "tuple", data := Data.seq #[] }, toks := s.toks }) :=
  .of_wp fun prog w A R s h => by
    obtain ⟨hp, g, d, tk, os⟩ := s
    obtain ⟨hl, h⟩ := h
    have f1 := AutoSeq1.idx_int
    have hsz : ¬ ((#[] : Array Value).size > sizeLine) := by decide
    wp_walk using wpAny_loadPart' hl
    repeat (first
      | (refine wpAny_ite_false (decide_eq_false (by rw [c0]; exact Bool.false_ne_true)) ?_; wp_walk using wpAny_loadPart' hl)
      | (refine wpAny_ite_false (decide_eq_false (by rw [c1]; exact Bool.false_ne_true)) ?_; wp_walk using wpAny_loadPart' hl)
      | (refine wpAny_ite_true (decide_eq_true c2) ?_; wp_walk using wpAny_loadPart' hl)
      | (refine wpAny_ite_false (decide_eq_false hsz) ?_; wp_walk using wpAny_loadPart' hl))
    exact ⟨_, rfl, h⟩
end
section
open PySem.Spec PyProof.Rows
variable {X : Cx}
theorem tupMul (pins : List (Addr × Obj)) (s : Shared) (σ : L2.St) (H : Hp) (l : Addr) (k : Int) (xs : List V) (v u : Value) (Q : VK) (I : Inv X pins σ H s) (rx : RelV (.ref l) v) (ry : RelV (.int k) u)
    (hT : SqT X.K H l xs) (h0 : 0 ≤ k) (h1 : k ≤ 1000) (hz : xs.length ≤ 1000) (qs : xs = [] ∨ k = 1 → Q (.ref l) H) (q : ∀ p o, H p = none → o.dict = none → Q (.ref p) (upd H p (.frz o (.tup (List.replicate k.toNat xs).flatten)))) :
    wpAny (model X.prog X.w) X.A (binaryOp .Mult v u) (EP X pins σ Q) X.xe s := by
  cases rx
  obtain ⟨t, rfl⟩ := ry
  obtain ⟨its, r, ⟨⟨cls, dd, data, sl⟩, ho, hc, n, hd⟩, hs⟩ := I.tuple hT
  simp only at hc hd
  subst hc hd
  have hle : its.length = xs.length := r.length.symm
  have c0 : (decide (k < -(2 ^ 63)) || decide (k ≥ 2 ^ 63)) = false := by
    rw [decide_eq_false (by omega), decide_eq_false (by omega)] <;> rfl
  by_cases hbig : xs ≠ [] ∧ 2 ≤ k
  · have hn : its ≠ [] := fun e => hbig.1 (by
      rw [e] at hle
      exact List.eq_nil_of_length_eq_zero hle.symm)
    have hi : its.toArray.isEmpty = false := by
      cases its with
      | nil => exact absurd rfl hn
      | cons a b => rfl
    have hsz0 : its.toArray.size = xs.length := by rw [List.size_toArray, hle]
    have hm : ((its.toArray.size : Nat) : Int) * k ≤ 1000000 := by
      rw [hsz0]
      have a1 : ((xs.length : Nat) : Int) * k ≤ 1000 * k := Int.mul_le_mul_of_nonneg_right (by omega) (by omega)
      omega
    have flen : (List.replicate k.toNat its).flatten.length ≤ sizeLine := by
      rw [PyProof.Rows.lm_len_rep_flat, hle, sizeLine_eq]
      have a1 : k.toNat * xs.length ≤ 1000 * 1000 := Nat.mul_le_mul (by omega) hz
      omega
    have c1 : (its.toArray.isEmpty || k == 1) = false := by
      rw [hi, Bool.false_or]
      exact beq_eq_false_iff_ne.mpr (by omega)
    have c2 : (decide (k ≤ 0) || its.toArray.isEmpty) = false := by
      rw [hi, Bool.or_false]
      exact decide_eq_false (by omega)
    have c4 : Builtin.Tuple.tupleTooMany (((its.toArray.size : Nat) : Int) * k) = false := by
      unfold Builtin.Tuple.tupleTooMany
      rw [sizeLine_eq]
      exact decide_eq_false (by omega)
    refine wpAny_binaryOp_repeat_ref (T := "tuple") (U := "int") (by decide) ⟨_, ho, rfl⟩ (fun s' => typeIs_int s' k t) noFill_tuple_mul F.fills_int_mul F.slot_int_rmul repeat_tuple F.slot_int_index.lookup
      (call_meets F.slot_int_rmul (typeIs_int s k t) F.entry_int_rmul (F.args_int_rmul_2 _ _) (int_rmul_tuple k t l its.toArray n dd sl)
        ⟨ho, rfl, ⟨_, ho, rfl⟩, call_meets F.slot_tuple_mul ⟨_, ho, rfl⟩ F.entry_tuple_mul (F.args_tuple_mul_2 _ _) (tuple_mulW l its.toArray n dd sl k t c0 c1 c2 (by omega) c4 (by rw [size_rep, List.size_toArray]; exact flen)) ⟨ho, ?_⟩⟩)
    rw [size_rep]
    exact ⟨.ref s.heap.objs.size, _, laidT (t' := s.toks) I (by rw [PyProof.Rows.lm_len_rep_flat, sizeLine_eq]; have a1 : k.toNat * xs.length ≤ 1000 * 1000 := Nat.mul_le_mul (by omega) hz; omega) (r.rep k.toNat), rfl, q _ _ (I.hok.fresh (Nat.le_refl _)) rfl⟩
  by_cases hsame : xs = [] ∨ k = 1
  · have c1 : (its.toArray.isEmpty || k == 1) = true := by
      rcases hsame with e | e
      · subst e
        have : its = [] := List.eq_nil_of_length_eq_zero (by simpa using hle)
        subst this; rfl
      · subst e; simp
    exact wpAny_binaryOp_repeat_ref (T := "tuple") (U := "int") (by decide) ⟨_, ho, rfl⟩ (fun s' => typeIs_int s' k t) noFill_tuple_mul F.fills_int_mul F.slot_int_rmul repeat_tuple F.slot_int_index.lookup
      (call_meets F.slot_int_rmul (typeIs_int s k t) F.entry_int_rmul (F.args_int_rmul_2 _ _) (int_rmul_tuple k t l its.toArray n dd sl)
        ⟨ho, rfl, ⟨_, ho, rfl⟩, call_meets F.slot_tuple_mul ⟨_, ho, rfl⟩ F.entry_tuple_mul (F.args_tuple_mul_2 _ _) (tuple_mul_same l its.toArray n dd sl k t c0 c1) ⟨ho, ⟨.ref l, H, I, rfl, qs hsame⟩⟩⟩)
  · have hne : xs ≠ [] := fun e => hsame (.inl e)
    have hk : k = 0 := by
      have : ¬ 2 ≤ k := fun e => hbig ⟨hne, e⟩
      have : k ≠ 1 := fun e => hsame (.inr e)
      omega
    subst hk
    have hi : its.toArray.isEmpty = false := by
      cases its with
      | nil => exact absurd (List.eq_nil_of_length_eq_zero (by simpa using hle.symm)) hne
      | cons a b => rfl
    have c1 : (its.toArray.isEmpty || (0 : Int) == 1) = false := by rw [hi]; rfl
    have c2 : (decide ((0 : Int) ≤ 0) || its.toArray.isEmpty) = true := by simp
    refine wpAny_binaryOp_repeat_ref (T := "tuple") (U := "int") (by decide) ⟨_, ho, rfl⟩ (fun s' => typeIs_int s' 0 t) noFill_tuple_mul F.fills_int_mul F.slot_int_rmul repeat_tuple F.slot_int_index.lookup
      (call_meets F.slot_int_rmul (typeIs_int s 0 t) F.entry_int_rmul (F.args_int_rmul_2 _ _) (int_rmul_tuple 0 t l its.toArray n dd sl)
        ⟨ho, rfl, ⟨_, ho, rfl⟩, call_meets F.slot_tuple_mul ⟨_, ho, rfl⟩ F.entry_tuple_mul (F.args_tuple_mul_2 _ _) (tuple_mul_none l its.toArray n dd sl 0 t c0 c1 c2) ⟨ho, ?_⟩⟩)
    exact ⟨.ref s.heap.objs.size, _, laidT (xs := []) (us := []) (t' := s.toks) I (Nat.zero_le _) .nil, rfl, q _ _ (I.hok.fresh (Nat.le_refl _)) rfl⟩
end
section
variable {X : Cx}
theorem op_mulL : OpR X (binaryOp .Mult) (lift2 X.K mulD) := by
  intro pins s σ H x y v u Q I rx ry h
  obtain ⟨W, st, dx, dy, d, S, r1, r2, e, q⟩ := h
  have s1 := r1.saw S
  have bl := bigLine
  unfold mulD at e
  generalize see st dx = ex at s1 e
  split at e
  · split at e
    · rename_i hc
      cases e
      refine op_mul pins s σ H x y v u Q I rx ry ⟨_, _, saw_int s1, rep_int r2, ?_, q _ H (Step.refl _ _) S (.int _)⟩
      unfold CMul
      simpa using hc
    · cases e
  · rename_i a j
    split at e
    · rename_i hc
      cases e
      have hc' : (0 ≤ j ∧ j ≤ 1000) ∧ a.length ≤ 1000 := by simpa using hc
      obtain ⟨p, xs, rfl, h1, q1⟩ := saw_tup s1
      have l1 := q1.length
      have ev := rep_int r2
      subst ev
      refine tupMul pins s σ H p j xs v u Q I rx ry h1.sq hc'.1.1 hc'.1.2 (by omega) (fun hs => ?_) (newT S (q1.replicate _) q)
      rcases hs with hs | hs
      · have ha : a = [] := List.eq_nil_of_length_eq_zero (by rw [← l1, hs]; rfl)
        have e0 : (List.replicate j.toNat a).flatten = [] := by rw [ha]; simp
        rw [e0] at q
        exact q _ H (Step.refl _ _) S (.tup h1 (by rw [hs]; exact .nil))
      · subst hs
        exact q _ H (Step.refl _ _) S (.tup h1 (by simpa using q1))
    · cases e
  · rename_i a j
    split at e
    · rename_i hc
      cases e
      have hc' : (0 ≤ j ∧ j ≤ 1000) ∧ a.length ≤ 1000 := by simpa using hc
      obtain ⟨p, xs, rfl, h1, q1⟩ := saw_lst s1
      have l1 := q1.length
      have ev := rep_int r2
      subst ev
      have hm : xs.length * j.toNat ≤ 1000 * 1000 := Nat.mul_le_mul (by omega) (by omega)
      exact op_rep pins s σ H _ _ v u Q I rx ry ⟨p, j, xs, rfl, rfl, h1, by omega, by omega, by unfold big at bl; omega, newL S (q1.replicate _) q⟩
    · cases e
  · cases e
theorem eqO_pl {K : PySem.W.Frag} {H : Hp} {W : Wd} {st : St} {x y : D} {b : Bool} {v w : V} (S : Sim K H W st) (h : eqO st x y = some b) (r1 : Rep K H W v x) (r2 : Rep K H W w y) :
    Pl K H v (see st x) ∧ Pl K H w (see st y) ∧ min (dep (see st x)) (dep (see st y)) ≤ 500 ∧ b = eqD (see st x) (see st y) := by
  unfold eqO at h
  split at h
  · rename_i hc
    cases h
    have hc' : (pln (see st x) = true ∧ pln (see st y) = true) ∧ min (dep (see st x)) (dep (see st y)) ≤ 500 := by simpa using hc
    exact ⟨(r1.saw S).pl hc'.1.1, (r2.saw S).pl hc'.1.2, hc'.2, rfl⟩
  · cases h
theorem op_eqL (hu : X.A.units + 501 < cLine) : OpR X (compareOp .Eq) (lift2 X.K eqB) := by
  intro pins s σ H x y v u Q I rx ry h
  obtain ⟨W, st, dx, dy, d, S, r1, r2, e, q⟩ := h
  unfold eqB bD at e
  obtain ⟨b, eb, rfl⟩ := Option.map_eq_some_iff.mp e
  obtain ⟨p1, p2, hd, rfl⟩ := eqO_pl S eb r1 r2
  exact plRc I X.A _ _ x y v u hd hu p1 p2 rx ry X.prog X.w X.xe _ ⟨.bl _, H, I, rfl, q _ H (Step.refl _ _) S (.bl _)⟩
theorem op_neL (hu : X.A.units + 501 < cLine) : OpR X (compareOp .NotEq) (lift2 X.K neB) := by
  intro pins s σ H x y v u Q I rx ry h
  obtain ⟨W, st, dx, dy, d, S, r1, r2, e, q⟩ := h
  unfold neB bD at e
  obtain ⟨b, eb, rfl⟩ := Option.map_eq_some_iff.mp e
  obtain ⟨b', eb2, rfl⟩ := Option.map_eq_some_iff.mp eb
  obtain ⟨p1, p2, hd, rfl⟩ := eqO_pl S eb2 r1 r2
  exact plNe I X.A _ _ x y v u hd hu p1 p2 rx ry X.prog X.w X.xe _ ⟨.bl _, H, I, rfl, q _ H (Step.refl _ _) S (.bl _)⟩
theorem op_ltL : OpR X (compareOp .Lt) (lift2 X.K ltB) := by
  intro pins s σ H x y v u Q I rx ry h
  obtain ⟨W, st, dx, dy, d, S, r1, r2, e, q⟩ := h
  unfold ltB at e
  split at e
  · cases e
    exact op_lt pins s σ H x y v u Q I rx ry ⟨_, _, rep_int r1, rep_int r2, q _ H (Step.refl _ _) S (.bl _)⟩
  · cases e
theorem op_leL : OpR X (compareOp .LtE) (lift2 X.K leB) := by
  intro pins s σ H x y v u Q I rx ry h
  obtain ⟨W, st, dx, dy, d, S, r1, r2, e, q⟩ := h
  unfold leB at e
  split at e
  · cases e
    exact op_le pins s σ H x y v u Q I rx ry ⟨_, _, rep_int r1, rep_int r2, q _ H (Step.refl _ _) S (.bl _)⟩
  · cases e
theorem op_gtL : OpR X (compareOp .Gt) (lift2 X.K gtB) := by
  intro pins s σ H x y v u Q I rx ry h
  obtain ⟨W, st, dx, dy, d, S, r1, r2, e, q⟩ := h
  unfold gtB at e
  split at e
  · cases e
    exact op_gt pins s σ H x y v u Q I rx ry ⟨_, _, rep_int r1, rep_int r2, q _ H (Step.refl _ _) S (.bl _)⟩
  · cases e
theorem op_geL : OpR X (compareOp .GtE) (lift2 X.K geB) := by
  intro pins s σ H x y v u Q I rx ry h
  obtain ⟨W, st, dx, dy, d, S, r1, r2, e, q⟩ := h
  unfold geB at e
  split at e
  · cases e
    exact op_ge pins s σ H x y v u Q I rx ry ⟨_, _, rep_int r1, rep_int r2, q _ H (Step.refl _ _) S (.bl _)⟩
  · cases e
theorem rep_isnon {K : PySem.W.Frag} {H : Hp} {W : Wd} {v : V} {d : D} (h : Rep K H W v d) : decide (v = V.non) = isNon d := by
  cases h <;> simp [isNon]
theorem op_isL : OpR X (compareOp .Is) (lift2 X.K isB) := by
  intro pins s σ H x y v u Q I rx ry h
  obtain ⟨W, st, dx, dy, d, S, r1, r2, e, q⟩ := h
  unfold isB at e
  split at e
  · cases e
    refine op_isN pins s σ H x y v u Q I rx ry ⟨rep_non r2, ?_⟩
    rw [rep_isnon r1]
    exact q _ H (Step.refl _ _) S (.bl _)
  · cases e
    exact op_isBl pins s σ H x y v u Q I rx ry ⟨_, _, rep_bl r1, rep_bl r2, q _ H (Step.refl _ _) S (.bl _)⟩
  · cases e
theorem op_isnL : OpR X (compareOp .IsNot) (lift2 X.K isnB) := by
  intro pins s σ H x y v u Q I rx ry h
  obtain ⟨W, st, dx, dy, d, S, r1, r2, e, q⟩ := h
  unfold isnB at e
  split at e
  · cases e
    refine op_notN pins s σ H x y v u Q I rx ry ⟨rep_non r2, ?_⟩
    rw [rep_isnon r1]
    exact q _ H (Step.refl _ _) S (.bl _)
  · cases e
    exact op_notBl pins s σ H x y v u Q I rx ry ⟨_, _, rep_bl r1, rep_bl r2, q _ H (Step.refl _ _) S (.bl _)⟩
  · cases e
theorem un_negL : UnR X (unaryOp .USub) (lift1 X.K negD) := by
  intro pins s σ H x v Q I rx h
  obtain ⟨W, st, dx, d, S, r1, e, q⟩ := h
  unfold negD at e
  split at e
  · cases e
    exact un_neg pins s σ H x v Q I rx ⟨_, rep_int r1, q _ H (Step.refl _ _) S (.int _)⟩
  · cases e
end
end RP
end
section
set_option Elab.async false
set_option linter.all false
set_option maxRecDepth 100000
namespace RP
open PySem L2 PySem.SeqAt

section
variable {K : PySem.W.Frag} {H : Hp} {W : Wd} {st : St}
theorem key_rep {v : V} {d : D} (h : Rep K H W v d) (hk : keyish d = true) : ∃ k : Key, v = kV k := by
  cases h with
  | int i => exact ⟨.inl i, rfl⟩
  | str i => exact ⟨.inr i, rfl⟩
  | _ => simp [keyish] at hk
theorem key_eq {k k' : Key} {d e : D} (h : Rep K H W (kV k) d) (h' : Rep K H W (kV k') e) : eqD d e = decide (k = k') := by
  cases k with
  | inl i =>
    cases h
    cases k' with
    | inl j =>
      cases h'
      show (i == j) = _
      rw [key_ll]
    | inr y =>
      cases h'
      simp [eqD]
  | inr x =>
    cases h
    cases k' with
    | inl j => cases h'; simp [eqD]
    | inr y =>
      cases h'
      show (x == y) = _
      rw [key_rr]
      exact Bool.beq_eq_decide_eq x y
theorem look_val : ∀ {kvs : List (Key × V)} {ks vs : List D} {k : Key} {e : D}, Reps K H W (kvs.map fun kv => kV kv.1) ks → Reps K H W (kvs.map (·.2)) vs → Rep K H W (kV k) e →
    (∀ d, look ks vs e = some d → ∃ v, valV kvs k = some v ∧ Rep K H W v d) ∧ (look ks vs e = none → valV kvs k = none)
  | [], _, _, k, e, .nil, .nil, _ => ⟨fun d h => by simp [look] at h, fun _ => rfl⟩
  | (k0, v0) :: r, _, _, k, e, .cons h1 r1, .cons h2 r2, he => by
    have q := key_eq h1 he
    have ih := look_val r1 r2 he
    by_cases hk : k0 = k
    · rw [decide_eq_true hk] at q
      refine ⟨fun d h => ?_, fun h => ?_⟩
      · rw [look, if_pos q] at h
        cases h
        exact ⟨v0, valV_pos hk, h2⟩
      · rw [look, if_pos q] at h
        cases h
    · rw [decide_eq_false hk] at q
      refine ⟨fun d h => ?_, fun h => ?_⟩
      · rw [look, if_neg (by rw [q]; exact Bool.false_ne_true)] at h
        obtain ⟨v, e1, e2⟩ := ih.1 d h
        exact ⟨v, by rw [valV_neg hk]; exact e1, e2⟩
      · rw [look, if_neg (by rw [q]; exact Bool.false_ne_true)] at h
        rw [valV_neg hk]
        exact ih.2 h
theorem look_isSome {kvs : List (Key × V)} {ks vs : List D} {k : Key} {e : D} (r1 : Reps K H W (kvs.map fun kv => kV kv.1) ks) (r2 : Reps K H W (kvs.map (·.2)) vs) (he : Rep K H W (kV k) e) : (valV kvs k).isSome = (look ks vs e).isSome := by
  have q := look_val r1 r2 he
  cases h : look ks vs e with
  | none => rw [q.2 h]; rfl
  | some d =>
    obtain ⟨v, e1, _⟩ := q.1 d h
    rw [e1]; rfl
end
section
variable {X : Cx}
theorem in_core (neg : Bool) (hu : X.A.units + 501 < cLine) (pins : List (Addr × Obj)) (s : Shared) (σ : L2.St) (H : Hp) (x y : V) (v u : Value) (Q : VK) (I : Inv X pins σ H s) (rx : RelV x v) (ry : RelV y u)
    {W : Wd} {st : St} {dx dy : D} {b : Bool} (S : Sim X.K H W st) (r1 : Rep X.K H W x dx) (r2 : Rep X.K H W y dy) (e : inO st dx dy = some b) (q : Q (.bl (if neg then !b else b)) H) :
    wpAny (model X.prog X.w) X.A (compareOp (if neg then .NotIn else .In) v u) (EP X pins σ Q) X.xe s := by
  have s2 := r2.saw S
  unfold inO at e
  generalize see st dy = ey at s2 e
  split at e
  · rename_i ys
    split at e
    · rename_i hc
      cases e
      have hc' : (pln (see st dx) = true ∧ plns ys = true) ∧ min (dep (see st dx)) (deps ys) ≤ 500 := by simpa using hc
      obtain ⟨a, xs, rfl, ht, q1⟩ := saw_tup s2
      cases ry
      obtain ⟨us, rv, hp, _⟩ := I.tuple ht.sq
      have pl := (r1.saw S).pl hc'.1.1
      have pls := q1.pl _ hc'.1.2
      have hI := items_eq I (A := X.A) hu hc'.2 pl rx rv pls
      have ha := any_eq I (x := see st dx) rv pls
      have ha' : us.toArray.any (eqAtV X.K H (see st dx)) = ys.any fun z => eqD z (see st dx) := by rw [← ha]; simp
      cases neg with
      | false => exact in_tupleAt (eqAtV X.K H (see st dx)) hp hI ⟨.bl _, H, I, by rw [ha']; rfl, q⟩
      | true => exact notIn_tupleAt (eqAtV X.K H (see st dx)) hp hI ⟨.bl _, H, I, by rw [ha']; rfl, q⟩
    · cases e
  · rename_i ys
    split at e
    · rename_i hc
      cases e
      have hc' : (pln (see st dx) = true ∧ plns ys = true) ∧ min (dep (see st dx)) (deps ys) ≤ 500 := by simpa using hc
      obtain ⟨a, xs, rfl, ht, q1⟩ := saw_lst s2
      cases ry
      obtain ⟨us, rv, hp, _⟩ := I.list (SqL.of ht)
      have pl := (r1.saw S).pl hc'.1.1
      have pls := q1.pl _ hc'.1.2
      have hI := items_eq I (A := X.A) hu hc'.2 pl rx rv pls
      have ha := any_eq I (x := see st dx) rv pls
      have ha' : us.toArray.any (eqAtV X.K H (see st dx)) = ys.any fun z => eqD z (see st dx) := by rw [← ha]; simp
      cases neg with
      | false => exact in_listAt (eqAtV X.K H (see st dx)) hp.isList hI ⟨.bl _, H, I, by rw [ha']; rfl, q⟩
      | true => exact notIn_listAt (eqAtV X.K H (see st dx)) hp.isList hI ⟨.bl _, H, I, by rw [ha']; rfl, q⟩
    · cases e
  · rename_i z
    have ez := saw_str s2
    subst ez
    split at e
    · rename_i a
      split at e
      · rename_i c hcs
        cases e
        have ea : a = ⟨#[c]⟩ := by
          obtain ⟨cs⟩ := a
          have : cs = #[c] := by
            apply Array.ext'
            simpa using hcs
          rw [this]
        subst ea
        have ex := rep_str r1
        subst ex
        cases neg with
        | false => exact op_in_sign pins s σ H _ _ v u Q I rx ry ⟨c, z, rfl, rfl, q⟩
        | true => exact op_notIn_sign pins s σ H _ _ v u Q I rx ry ⟨c, z, rfl, rfl, q⟩
      · cases e
    · cases e
  · rename_i ks vs
    split at e
    · rename_i hk
      cases e
      obtain ⟨k, rfl⟩ := key_rep r1 hk
      obtain ⟨a, kvs, rfl, hr, q1, q2⟩ := saw_dct s2
      cases ry
      have hs := look_isSome q1 q2 r1
      have g : DGet H a (kV k) (valV kvs k) := .inl ⟨kvs, k, hr, rfl, rfl⟩
      cases neg with
      | false => exact d_in (by omega) I g rx fun s3 I3 => ⟨.bl _, H, I3, by rw [hs]; rfl, q⟩
      | true => exact d_notIn (by omega) I g rx fun s3 I3 => ⟨.bl _, H, I3, by rw [hs]; rfl, q⟩
    · cases e
  · cases e
theorem op_inL (hu : X.A.units + 501 < cLine) : OpR X (compareOp .In) (lift2 X.K inB) := by
  intro pins s σ H x y v u Q I rx ry h
  obtain ⟨W, st, dx, dy, d, S, r1, r2, e, q⟩ := h
  unfold inB bD at e
  obtain ⟨b, eb, rfl⟩ := Option.map_eq_some_iff.mp e
  exact in_core false hu pins s σ H x y v u Q I rx ry S r1 r2 eb (q _ H (Step.refl _ _) S (.bl _))
theorem op_ninL (hu : X.A.units + 501 < cLine) : OpR X (compareOp .NotIn) (lift2 X.K ninB) := by
  intro pins s σ H x y v u Q I rx ry h
  obtain ⟨W, st, dx, dy, d, S, r1, r2, e, q⟩ := h
  unfold ninB bD at e
  obtain ⟨b, eb, rfl⟩ := Option.map_eq_some_iff.mp e
  obtain ⟨b', eb2, rfl⟩ := Option.map_eq_some_iff.mp eb
  exact in_core true hu pins s σ H x y v u Q I rx ry S r1 r2 eb2 (q _ H (Step.refl _ _) S (.bl _))
theorem at_rep {K : PySem.W.Frag} {H : Hp} {W : Wd} {xs : List V} {ds : List D} {i : Int} {d : D} (r : Reps K H W xs ds) (h : atI ds i = some d) : ∃ v, atI xs i = some v ∧ Rep K H W v d := by
  unfold atI at h ⊢
  rw [r.length]
  obtain ⟨j, e1, e2⟩ := Option.bind_eq_some_iff.mp h
  obtain ⟨v, h1, h2⟩ := r.get e2
  exact ⟨v, by rw [e1]; exact h1, h2⟩
theorem ix_L (hu : X.A.units + 501 < cLine) : IxR X (lift2 X.K idxD) := by
  intro value slice pins s σ H x y v u Q I rx ry h hs
  obtain ⟨W, st, dx, dy, d, S, r1, r2, e, q⟩ := h
  have s1 := r1.saw S
  have bl := bigLine
  unfold idxD at e
  generalize see st dx = ex at s1 e
  split at e
  · obtain ⟨a, xs, rfl, ht, q1⟩ := saw_tup s1
    have ey := rep_int r2
    subst ey
    obtain ⟨w, e1, e2⟩ := at_rep q1 e
    exact ix_tup value slice pins s σ H _ _ v u Q I rx ry ⟨a, xs, _, w, rfl, rfl, ht.sq, e1, q _ H (Step.refl _ _) S e2⟩ hs
  · obtain ⟨a, xs, rfl, ht, q1⟩ := saw_lst s1
    have ey := rep_int r2
    subst ey
    obtain ⟨w, e1, e2⟩ := at_rep q1 e
    exact ix_list value slice pins s σ H _ _ v u Q I rx ry ⟨a, xs, _, w, rfl, rfl, SqL.of ht, e1, q _ H (Step.refl _ _) S e2⟩ hs
  · rename_i ns i
    obtain ⟨a, rfl, ht⟩ := saw_frz s1
    have ey := rep_int r2
    subst ey
    obtain ⟨n, e1, rfl⟩ := Option.map_eq_some_iff.mp e
    have e2 : atI (ns.map V.int) i = some (.int n) := by
      unfold atI at e1 ⊢
      rw [List.length_map]
      obtain ⟨j, f1, f2⟩ := Option.bind_eq_some_iff.mp e1
      rw [f1]
      show (ns.map V.int)[j]? = _
      rw [List.getElem?_map, f2]; rfl
    exact ix_list value slice pins s σ H _ _ v u Q I rx ry ⟨a, _, _, _, rfl, rfl, ht, e2, q _ H (Step.refl _ _) S (.int _)⟩ hs
  · split at e
    · have ex := saw_str s1
      subst ex
      have ey := rep_int r2
      subst ey
      obtain ⟨n, e1, rfl⟩ := Option.map_eq_some_iff.mp e
      exact ix_str value slice pins s σ H _ _ v u Q I rx ry ⟨_, _, n, rfl, rfl, by omega, e1, q _ H (Step.refl _ _) S (.str _)⟩ hs
    · cases e
  · split at e
    · rename_i hk
      obtain ⟨k, rfl⟩ := key_rep r2 hk
      obtain ⟨a, kvs, rfl, hr, q1, q2⟩ := saw_dct s1
      obtain ⟨w, e1, e2⟩ := (look_val q1 q2 r2).1 d e
      cases rx
      have g : DGet H a (kV k) (some w) := .inl ⟨kvs, k, hr, rfl, e1.symm⟩
      exact PyProof.Rows.tail_any (dict_typeIs I g) PySem.F.slot_dict_getitem.lookup (d_getItem (by omega) I g ry fun w' s3 I3 rw' => ⟨w, H, I3, rw', q _ H (Step.refl _ _) S e2⟩) hs
    · cases e
  · cases e
def liftS (K : PySem.W.Frag) : V → Option Int → Option Int → Hp → VK → Prop := fun x lo hi H Q => ∃ W st dx d, Sim K H W st ∧ Rep K H W x dx ∧ sliceD st dx lo hi = some d ∧ ∀ v H', Step H W H' W → Sim K H' W st → Rep K H' W v d → Q v H'
theorem cutS_eq (z : Str) (lo hi : Option Int) : cutS z lo hi = ⟨(cut z.cps.toList lo hi).toArray⟩ := by
  unfold cutS cut
  have e : z.cps.toList.length = z.length := by simp [Str.length]
  rw [e]
theorem sl_L : SlR X (liftS X.K) := by
  intro pins s σ H x v vl vu lo hi sl Q I rx hs pl pu h
  obtain ⟨W, st, dx, d, S, r1, e, q⟩ := h
  have s1 := r1.saw S
  have bl := bigLine
  unfold sliceD at e
  generalize see st dx = ex at s1 e
  split at e
  · cases e
    obtain ⟨a, xs, rfl, ht, q1⟩ := saw_tup s1
    refine sl_tupF pins s σ H _ v vl vu lo hi sl Q I rx hs pl pu ⟨a, xs, rfl, ht.sq, fun hw => q _ H (Step.refl _ _) S (.tup ht ?_), newT S (q1.cut lo hi) q⟩
    have hc := q1.cut lo hi
    have e1 : cutV xs lo hi = xs := by
      unfold cutV
      rw [hw.1, hw.2]
      simp
    rw [e1] at hc
    exact hc
  · cases e
    obtain ⟨a, xs, rfl, ht, q1⟩ := saw_lst s1
    exact sl_list pins s σ H _ v vl vu lo hi sl Q I rx hs pl pu ⟨a, xs, rfl, SqL.of ht, newL S (q1.cut lo hi) q⟩
  · split at e
    · cases e
      have ex := saw_str s1
      subst ex
      refine sl_str pins s σ H _ v vl vu lo hi sl Q I rx hs pl pu ⟨_, rfl, by omega, ?_⟩
      rw [cutS_eq]
      exact q _ H (Step.refl _ _) S (.str _)
    · cases e
  · cases e
theorem reps1 {K : PySem.W.Frag} {H : Hp} {W : Wd} {xs : List V} {d : D} (r : Reps K H W xs [d]) : ∃ v, xs = [v] ∧ Rep K H W v d := by
  cases r with
  | cons h r => cases r; exact ⟨_, rfl, h⟩
def un1 (f : St → D → Option D) (st : St) : List D → Option D
  | [x] => f st x
  | _ => none
theorem call_un1 {fv : Value} {f : St → D → Option D} (h : ∀ (pins : List (Addr × Obj)) (s : Shared) (σ : L2.St) (H : Hp) (x : V) (us : List Value) (Q : VK) (W : Wd) (st : St) (dx d : D), Inv X pins σ H s → Vals [x] us → Sim X.K H W st → Rep X.K H W x dx → f st dx = some d →
    (∀ v H', Step H W H' W → Sim X.K H' W st → Rep X.K H' W v d → Q v H') → wpAny (model X.prog X.w) X.A (call fv us) (EP X pins σ Q) X.xe s) : CallR X fv (liftN X.K (un1 f)) := by
  intro pins s σ H xs us Q I r hh
  obtain ⟨W, st, ds, d, S, rs, e, q⟩ := hh
  unfold un1 at e
  split at e
  · obtain ⟨x, rfl, rx⟩ := reps1 rs
    exact h pins s σ H x us Q W st _ d I r S rx e q
  · cases e
theorem call_lenL : CallR X (.builtin "len") (liftN X.K (un1 lenD)) := call_un1 fun pins s σ H x us Q W st dx d I r S rx e q => by
  have s1 := rx.saw S
  have bl := bigLine
  unfold lenD at e
  generalize see st dx = ex at s1 e
  split at e
  · cases e
    obtain ⟨a, xs, rfl, ht, q1⟩ := saw_tup s1
    refine call_len_seq pins s σ H _ us Q I r ⟨a, xs, rfl, .inr ht.sq, ?_⟩
    rw [q1.length]
    exact q _ H (Step.refl _ _) S (.int _)
  · cases e
    obtain ⟨a, xs, rfl, ht, q1⟩ := saw_lst s1
    refine call_len_seq pins s σ H _ us Q I r ⟨a, xs, rfl, .inl (SqL.of ht), ?_⟩
    rw [q1.length]
    exact q _ H (Step.refl _ _) S (.int _)
  · cases e
    obtain ⟨a, rfl, ht⟩ := saw_frz s1
    refine call_len_seq pins s σ H _ us Q I r ⟨a, _, rfl, .inl ht, ?_⟩
    rw [List.length_map]
    exact q _ H (Step.refl _ _) S (.int _)
  · split at e
    · cases e
      have ex := saw_str s1
      subst ex
      exact call_len_str pins s σ H _ us Q I r ⟨_, rfl, by omega, q _ H (Step.refl _ _) S (.int _)⟩
    · cases e
  · cases s1 with
    | rep h _ _ => cases h
  · cases e
    obtain ⟨a, kvs, rfl, hr, q1, q2⟩ := saw_dct s1
    obtain ⟨u, rfl, ru⟩ := vals1 r
    cases ru
    refine d_len I hr fun t s3 I3 => ⟨.int _, H, I3, ⟨t, rfl⟩, ?_⟩
    have e1 := q1.length
    rw [List.length_map] at e1
    rw [e1]
    exact q _ H (Step.refl _ _) S (.int _)
  · cases e
theorem call_absL : CallR X (.builtin "abs") (liftN X.K (un1 absD)) := call_un1 fun pins s σ H x us Q W st dx d I r S rx e q => by
  unfold absD at e
  split at e
  · cases e
    have ex := rep_int rx
    subst ex
    exact call_abs pins s σ H _ us Q I r ⟨_, rfl, q _ H (Step.refl _ _) S (.int _)⟩
  · cases e
theorem call_allL (hc : X.calm = true) : CallR X (.builtin "all") (liftN X.K (un1 allD)) := call_un1 fun pins s σ H x us Q W st dx d I r S rx e q => by
  have s1 := rx.saw S
  unfold allD at e
  generalize see st dx = ex at s1 e
  split at e
  · obtain ⟨bs, e1, rfl⟩ := Option.map_eq_some_iff.mp e
    obtain ⟨a, xs, rfl, ht, q1⟩ := saw_lst s1
    rw [q1.asBools e1] at ht
    exact cr_all hc pins s σ H _ us Q I r ⟨a, bs, rfl, SqL.of ht, q _ H (Step.refl _ _) S (.bl _)⟩
  · cases e
theorem call_anyL (hc : X.calm = true) : CallR X (.builtin "any") (liftN X.K (un1 anyD)) := call_un1 fun pins s σ H x us Q W st dx d I r S rx e q => by
  have s1 := rx.saw S
  unfold anyD at e
  generalize see st dx = ex at s1 e
  split at e
  · obtain ⟨bs, e1, rfl⟩ := Option.map_eq_some_iff.mp e
    obtain ⟨a, xs, rfl, ht, q1⟩ := saw_lst s1
    rw [q1.asBools e1] at ht
    exact cr_any hc pins s σ H _ us Q I r ⟨a, bs, rfl, SqL.of ht, q _ H (Step.refl _ _) S (.bl _)⟩
  · cases e
theorem call_sumL (hc : X.calm = true) : CallR X (.builtin "sum") (liftN X.K (un1 sumD)) := call_un1 fun pins s σ H x us Q W st dx d I r S rx e q => by
  have s1 := rx.saw S
  unfold sumD at e
  generalize see st dx = ex at s1 e
  split at e
  · obtain ⟨bs, e1, rfl⟩ := Option.map_eq_some_iff.mp e
    obtain ⟨a, xs, rfl, ht, q1⟩ := saw_lst s1
    rw [q1.asInts e1] at ht
    exact cr_sum hc pins s σ H _ us Q I r ⟨a, bs, rfl, SqL.of ht, q _ H (Step.refl _ _) S (.int _)⟩
  · cases e
theorem call_tupleL : CallR X (.type "tuple") (liftN X.K (un1 tupleD)) := call_un1 fun pins s σ H x us Q W st dx d I r S rx e q => by
  have s1 := rx.saw S
  unfold tupleD at e
  generalize see st dx = ex at s1 e
  split at e
  · cases e
    obtain ⟨a, xs, rfl, ht, q1⟩ := saw_lst s1
    exact call_tuple_ofF pins s σ H _ us Q I r ⟨a, xs, rfl, .inl ⟨SqL.of ht, newT S q1 q⟩⟩
  · cases e
    obtain ⟨a, xs, rfl, ht, q1⟩ := saw_tup s1
    exact call_tuple_ofF pins s σ H _ us Q I r ⟨a, xs, rfl, .inr ⟨ht.sq, q _ H (Step.refl _ _) S (.tup ht q1)⟩⟩
  · cases e
theorem call_listL : CallR X (.type "list") (liftN X.K (un1 listD)) := call_un1 fun pins s σ H x us Q W st dx d I r S rx e q => by
  have s1 := rx.saw S
  unfold listD at e
  generalize see st dx = ex at s1 e
  split at e
  · cases e
    obtain ⟨a, xs, rfl, ht, q1⟩ := saw_lst s1
    exact call_list_of pins s σ H _ us Q I r ⟨a, xs, rfl, .inl (SqL.of ht), newL S q1 q⟩
  · cases e
    obtain ⟨a, xs, rfl, ht, q1⟩ := saw_tup s1
    exact call_list_of pins s σ H _ us Q I r ⟨a, xs, rfl, .inr ht.sq, newL S q1 q⟩
  · cases e
end
end RP
end
section
set_option Elab.async false
set_option linter.all false
set_option maxRecDepth 100000
namespace RP
open PySem L2 PySem.SeqAt
section
open PySem.Spec PyProof.Rows
variable {prog : Program} {w : World} {A : Around} {E : Value → Shared → Prop} {s : Shared}
theorem sliceApplied_rev {sl : Addr} {vl vu vs : Value} {n : Nat} {Q : Int × Int × Nat → Shared → Prop} (hs : s.heap.IsSliceOf sl vl vu vs) (pl : IsPart vl none) (pu : IsPart vu none) (ps : IsPart vs (some (-1)))
    (h : Q ((n : Int) - 1, -1, n) s) : wpAny (model prog w) A (Builtin.Slice.sliceApplied (.ref sl) (pure (n : Int))) Q E s := by
  obtain ⟨os, hos, hcs, hds⟩ := id hs
  unfold Builtin.Slice.sliceApplied Builtin.Slice.sliceFields
  refine wpAny_bind (wpAny_bind (wpAny_field hos hds (x := vl) rfl (wpAny_bind (wpAny_field hos hds (x := vu) rfl (wpAny_bind (wpAny_field hos hds (x := vs) rfl (wpAny_pure ?_)))))))
  refine wpAny_bind (HT.slicePart_ ps ?_)
  show wpAny _ _ (if ((-1 : Int) == 0) = true then _ else _) _ _ s
  rw [if_neg (by decide)]
  refine wpAny_bind (HT.slicePart_ pl (wpAny_bind (HT.slicePart_ pu (wpAny_bind (wpAny_pure ?_)))))
  show wpAny _ _ (match Builtin.Slice.sliceAdjust none none (-1) (n : Int) with | (lo, hi) => pure (lo, (-1 : Int), Builtin.Slice.slicePlaces lo hi (-1))) _ _ s
  have e1 : Builtin.Slice.sliceAdjust none none (-1) (n : Int) = ((n : Int) - 1, -1) := by
    simp [Builtin.Slice.sliceAdjust]
  rw [e1]
  have e2 : Builtin.Slice.slicePlaces ((n : Int) - 1) (-1) (-1) = n := by
    unfold Builtin.Slice.slicePlaces
    by_cases h0 : n = 0
    · subst h0; simp
    · have : (-1 : Int) < (n : Int) - 1 := by omega
      simp [this]
  show wpAny _ _ (pure ((n : Int) - 1, (-1 : Int), Builtin.Slice.slicePlaces ((n : Int) - 1) (-1) (-1))) _ _ s
  rw [e2]
  exact wpAny_pure h
theorem fm_congr {α β : Type} {f g : α → Option β} : ∀ (l : List α), (∀ x ∈ l, f x = g x) → l.filterMap f = l.filterMap g
  | [], _ => rfl
  | x :: r, h => by
    rw [List.filterMap_cons, List.filterMap_cons, h x List.mem_cons_self, fm_congr r fun y hy => h y (List.mem_cons_of_mem _ hy)]
theorem pick_rev (xs : Array Value) : ((List.range xs.size).filterMap fun (m : Nat) => xs[(((xs.size : Int) - 1) + (m : Int) * (-1)).toNat]?).toArray = xs.toList.reverse.toArray := by
  have e : ((List.range xs.size).filterMap fun (m : Nat) => xs[(((xs.size : Int) - 1) + (m : Int) * (-1)).toNat]?) = (((List.range xs.size).map fun k => xs.size - 1 - k).filterMap (xs[·]?)) := by
    rw [List.filterMap_map]
    refine fm_congr _ fun m hm => ?_
    have := List.mem_range.mp hm
    have q : (((xs.size : Int) - 1) + (m : Int) * (-1)).toNat = xs.size - 1 - m := by omega
    rw [q]; rfl
  rw [e, PySem.W.krv_range, List.filterMap_reverse, PySem.W.krv_all]
theorem getItem_tuple_rev {t sl : Addr} {items : Array Value} {vl vu vs : Value} {Q : Value → Shared → Prop} (ht : IsTup s.heap t items) (hs : s.heap.IsSliceOf sl vl vu vs) (pl : IsPart vl none) (pu : IsPart vu none) (ps : IsPart vs (some (-1)))
    (h : Q (.ref s.heap.objs.size) { s with heap := s.heap.push { cls := .type "tuple", data := .seq items.toList.reverse.toArray } })
    (hsz : items.size ≤ sizeLine) : wpAny (model prog w) A (getItem (.ref t) (.ref sl)) Q E s := by
  have htake : sizeOk (.seq items.toList.reverse.toArray) := by
    show items.toList.reverse.toArray.size ≤ sizeLine
    simpa using hsz
  obtain ⟨os, hos, hcs, hds⟩ := id hs
  have hTs : s.TypeIs (.ref sl) "slice" := ⟨os, hos, hcs⟩
  unfold getItem
  try with_reducible refine wpAny_holding ?_
  first | refine wpAny_bind (wpAny_pure ?_) | skip
  refine wpAny_bind (wpAny_sequenceKey ht.typeIs (by decide) ?_)
  refine wpAny_bind (wpAny_callSpecial?_slot (name := Str.ofString "__getitem__") ht.typeIs PyProof.Rows.slot_tuple_getitem
    (wpAny_call_entry PyProof.Rows.slot_tuple_getitem ht.typeIs entry_tuple_getitem ?_ (args_tuple_getitem _ _)))
  show wpAny _ _ (Builtin.Tuple.tupleItemsOf (.ref t) >>= _) _ _ s
  refine wpAny_bind (tupleItemsOf_ ht ?_)
  refine wpAny_bind (wpAny_typeOf hTs ?_)
  rw [if_pos (by decide)]
  refine wpAny_bind (sliceApplied_rev hs pl pu ps ?_)
  have hno : ¬ ((((items.size : Int) - 1) == 0 && (-1 : Int) == 1 && items.size == items.size) = true) := by
    simp
  show wpAny _ _ (if (((items.size : Int) - 1) == 0 && (-1 : Int) == 1 && items.size == items.size) = true then _ else _) _ _ s
  rw [if_neg hno, pick_rev]
  first
    | exact wpAny_bind (m := Builtin.Tuple.tupleExact _) (wpAny_newObj_type (wpAny_pure ⟨_, rfl, wpAny_pure h⟩) htake)
    | exact wpAny_bind (m := Builtin.Tuple.tupleExact _) (wpAny_newObj_type (wpAny_bind (wpAny_pure (wpAny_pure ⟨_, rfl, wpAny_pure h⟩))) htake)
    | exact wpAny_bind (wpAny_bind (m := Builtin.Tuple.tupleExact _) (wpAny_newObj_type (wpAny_pure (wpAny_pure ⟨_, rfl, wpAny_pure h⟩)) htake))
    | exact wpAny_bind (wpAny_bind (m := Builtin.Tuple.tupleExact _) (wpAny_newObj_type (wpAny_pure ⟨_, rfl, wpAny_pure h⟩) htake))
variable {X : Cx}
def tRevD (K : PySem.W.Frag) (te : TE) : TE := fun σ H Q => te σ H fun x H1 => lift1 K revD x H1 Q
theorem pe_revD {e : Expr} {te : TE} {k : Nat} {p1 p2 p3 pos : Pos} (he : PE X e te) : PE X (.Subscript e (.Slice none none (some (.UnaryOp .USub (.Constant (.int 1) k p1) p2)) p3) pos) (tRevD X.K te) := by
  refine ⟨fun pins s σ H Q I h => ?_⟩
  refine Subscript_ (thn (he.run pins s σ H _ I h) fun v s1 ⟨x, H1, I1, r1, q1⟩ => ?_)
  obtain ⟨W, st, dx, d, S, rx, e, q⟩ := q1
  have sw := rx.saw S
  have hst : PO X (some (.UnaryOp .USub (.Constant (.int 1) k p1) p2)) (tPart (tUn (rU fun i => .int (-i)) (tC (.int 1)))) := po_some (pe_un un_neg pe_int)
  refine wpAny_Slice (thn (po_none.run pins s1 σ H1 (fun o H2 => o = none ∧ H2 = H1) I1 ⟨rfl, rfl⟩) fun vl s2 ⟨l, H2, I2, pl, el, e2⟩ => ?_)
  subst el e2
  refine thn (po_none.run pins s2 σ H2 (fun o H3 => o = none ∧ H3 = H2) I2 ⟨rfl, rfl⟩) fun vu s3 ⟨u, H3, I3, pu, eu, e3⟩ => ?_
  subst eu e3
  refine thn (hst.run pins s3 σ H3 (fun o H4 => o = some (-1) ∧ H4 = H3) I3 ⟨1, rfl, -1, rfl, rfl, rfl⟩) fun vs s4 ⟨o, H4, I4, ps, eo, e4⟩ => ?_
  subst eo e4
  have I5 : Inv X pins σ H4 { s4 with heap := s4.heap.push { cls := .type "slice", data := .fields #[vl, vu, vs] } } := I4.kept (t' := s4.toks) fun b ob q => Heap.get?_push_of_some _ q
  unfold revD at e
  generalize see st dx = ex at sw e
  split at e
  · cases e
    obtain ⟨a, xs, rfl, ht0, q1⟩ := saw_tup sw
    cases r1
    obtain ⟨its, r, ht, hz⟩ := I5.tuple ht0.sq
    have hlen := r.length
    show wpAny (model X.prog X.w) X.A (subscriptTail _ (.Slice none none (some (.UnaryOp .USub (.Constant (.int 1) k p1) p2)) p3) (.ref a) (.ref s4.heap.objs.size)) (EP X pins σ Q) X.xe { s4 with heap := s4.heap.push { cls := .type "slice", data := .fields #[vl, vu, vs] } }
    refine tail_any (ops := [.ref a, .ref s4.heap.objs.size]) ht.typeIs (PyProof.Rows.slot_tuple_getitem.lookup) ?_ (by with_unfolding_all rfl)
    refine getItem_tuple_rev ht (Heap.IsSliceOf.new _ vl vu vs) pl pu ps ?_ (by rw [List.size_toArray]; omega)
    exact ⟨.ref _, _, laidT (t' := s4.toks) I5 (by rw [List.length_reverse]; exact hz) r.reverse, rfl, newT S q1.reverse q _ _ (I5.hok.fresh (Nat.le_refl _)) rfl⟩
  · cases e
    obtain ⟨a, xs, rfl, hx, q1⟩ := saw_lst sw
    cases r1
    obtain ⟨its, r, ht, hz⟩ := I5.list (SqL.of hx)
    have hlen := r.length
    show wpAny (model X.prog X.w) X.A (subscriptTail _ (.Slice none none (some (.UnaryOp .USub (.Constant (.int 1) k p1) p2)) p3) (.ref a) (.ref s4.heap.objs.size)) (EP X pins σ Q) X.xe { s4 with heap := s4.heap.push { cls := .type "slice", data := .fields #[vl, vu, vs] } }
    refine tail_any (ops := [.ref a, .ref s4.heap.objs.size]) ht.isList.typeIs (PySem.slot_list_getitem.lookup) ?_ (by with_unfolding_all rfl)
    refine wpAny_getItem_list_slice ht.isList (Heap.IsSliceOf.new _ vl vu vs) pl pu ps (by decide) ?_ (by rw [List.size_toArray]; omega)
    rw [PySem.W.krv_pick]
    refine ⟨.ref _, _, I5.laid (t' := s4.toks) (o := .lst xs.reverse) (fun b ob q => Heap.get?_push_of_some _ q) (Nat.le_refl _) ?_, rfl, newL S q1.reverse q _ (I5.hok.fresh (Nat.le_refl _))⟩
    exact ⟨by rw [List.length_reverse]; exact hz, _, 0, r.reverse, Heap.get?_push_size _ rfl⟩
  · cases e
end
def kdName : Kd → String
  | .str => "str" | .int => "int" | .bool => "bool" | .tuple => "tuple" | .list => "list" | .dict => "dict"
def tyN : D → String
  | .non => "NoneType" | .bl _ => "bool" | .int _ => "int" | .str _ => "str" | .tup _ => "tuple" | .lst _ => "list" | .dct _ _ => "dict" | .frz _ => "list" | _ => ""
theorem boot_kd (k : Kd) : ∃ x : Str, x = Str.ofString (kdName k) := ⟨_, rfl⟩
section
variable {X : Cx}
theorem saw_ty {K : PySem.W.Frag} {H : Hp} {W : Wd} {v : V} {d : D} (h : Saw K H W v d) (hr : ∀ n, d ≠ .ref n) (hs : ∀ n, d ≠ .set n) (hx : ∀ n, d ≠ .exc n) (hy : ∀ a b ks vs, d ≠ .exf a b ks vs) : TyX K H v (.type (tyN d)) := by
  cases h with
  | lst h r => exact .base (.lst h)
  | dct h r r2 =>
    rcases h with h | ⟨o, h⟩
    · exact .base (.dK h)
    · exact .fDict h
  | rep h n1 n2 =>
    cases h with
    | non => exact .base .non
    | bl b => exact .base (.bl b)
    | int b => exact .base (.int b)
    | str b => exact .base (.str b)
    | tup h r =>
      rcases h with ⟨o, h, _⟩ | ⟨o, its, n, h1, h2, _⟩
      · exact .fTuple h
      · exact .kTuple h1 h2
    | lst h _ _ r => exact absurd rfl (n1 _)
    | dct h _ _ r => exact absurd rfl (n2 _ _)
    | frz h =>
      rcases h with ⟨o, h⟩ | ⟨o, its, n, h1, h2, _⟩
      · exact .base (.frz h)
      · exact .kList h1 h2
    | ref h => exact absurd rfl (hr _)
    | exc a => exact absurd rfl (hx _)
    | exf h q r => exact absurd rfl (hy _ _ _ _)
theorem isi_kit {K : PySem.W.Frag} {k : Kd} {st : St} {x : D} {d : D} (h : isiD k st x = some d) : (∀ n, see st x ≠ .ref n) ∧ (∀ n, see st x ≠ .set n) ∧ (∀ n, see st x ≠ .exc n) ∧ (∀ a b ks vs, see st x ≠ .exf a b ks vs) ∧ ∃ b, d = .bl b ∧ PySem.W.kitOne K (.type (tyN (see st x))) (.type (kdName k)) = some b := by
  unfold isiD at h
  generalize see st x = ex at h ⊢
  cases k <;> cases ex <;> first
    | (cases h; done)
    | (cases h; exact ⟨(fun _ z => nomatch z), (fun _ z => nomatch z), (fun _ z => nomatch z), (fun _ _ _ _ z => nomatch z), _, rfl, kit_ty (by simp only [tyN, kdName]; decide +kernel)⟩)
theorem call_isiL (k : Kd) : CallR X (.builtin "isinstance") (fun xs H Q => ∃ x W st dx d, xs = [x, .ty (kdName k)] ∧ Sim X.K H W st ∧ Rep X.K H W x dx ∧ isiD k st dx = some d ∧ ∀ v, Rep X.K H W v d → Q v H) := by
  intro pins s σ H xs us Q I r h
  obtain ⟨x, W, st, dx, d, rfl, S, rx, e, q⟩ := h
  obtain ⟨n1, n2, n3, n4, b, rfl, hk⟩ := isi_kit (K := X.K) e
  exact call_isi pins s σ H _ us Q I r ⟨x, _, _, _, b, rfl, .ty _, saw_ty (rx.saw S) n1 n2 n3 n4, hk, q _ (.bl b)⟩
end
section
variable {K : PySem.W.Frag} {H : Hp} {W : Wd}
theorem any_keys {k : Key} {e : D} (he : Rep K H W (kV k) e) : ∀ {kvs : List (Key × V)} {ks : List D}, Reps K H W (kvs.map fun kv => kV kv.1) ks → ks.any (fun d => eqD d e) = kvs.any fun kv => decide (kv.1 = k)
  | [], _, .nil => rfl
  | p :: r, _, .cons h rs => by rw [List.any_cons, List.any_cons, key_eq h he, any_keys he rs]
theorem repl_keys {k : Key} (y : V) : ∀ (kvs : List (Key × V)), (kvs.map fun kv => if kv.1 = k then (kv.1, y) else kv).map (fun kv => kV kv.1) = kvs.map fun kv => kV kv.1
  | [] => rfl
  | p :: r => by
    rw [List.map_cons, List.map_cons, repl_keys y r, List.map_cons]
    by_cases h : p.1 = k
    · rw [if_pos h]
    · rw [if_neg h]
theorem repl_vals {k : Key} {e d : D} {y : V} (he : Rep K H W (kV k) e) (hy : Rep K H W y d) : ∀ {kvs : List (Key × V)} {ks vs : List D}, Reps K H W (kvs.map fun kv => kV kv.1) ks → Reps K H W (kvs.map (·.2)) vs →
    Reps K H W ((kvs.map fun kv => if kv.1 = k then (kv.1, y) else kv).map (·.2)) (List.zipWith (fun k v => if eqD k e then d else v) ks vs)
  | [], _, _, .nil, .nil => .nil
  | p :: r, _, _, .cons h rs, .cons h2 rs2 => by
    rw [List.map_cons, List.map_cons, List.zipWith_cons_cons]
    refine .cons ?_ (repl_vals he hy rs rs2)
    rw [key_eq h he]
    by_cases hk : p.1 = k
    · rw [if_pos hk, decide_eq_true hk]; exact hy
    · rw [if_neg hk, decide_eq_false hk]; exact h2
theorem put_rep {k : Key} {e d : D} {y : V} {kvs : List (Key × V)} {ks vs : List D} (he : Rep K H W (kV k) e) (hy : Rep K H W y d) (r1 : Reps K H W (kvs.map fun kv => kV kv.1) ks) (r2 : Reps K H W (kvs.map (·.2)) vs) :
    Reps K H W ((putK kvs k y).map fun kv => kV kv.1) (dPut ks vs e d).1 ∧ Reps K H W ((putK kvs k y).map (·.2)) (dPut ks vs e d).2 := by
  unfold putK dPut
  rw [any_keys he r1]
  by_cases h : (kvs.any fun kv => decide (kv.1 = k)) = true
  · rw [if_pos h, if_pos h]
    exact ⟨by rw [repl_keys]; exact r1, repl_vals he hy r1 r2⟩
  · rw [if_neg h, if_neg h]
    exact ⟨by rw [List.map_append]; exact r1.append (.cons he .nil), by rw [List.map_append]; exact r2.append (.cons hy .nil)⟩
inductive Prd (K : PySem.W.Frag) (H : Hp) (W : Wd) : List (Key × V) → List (D × D) → Prop
  | nil : Prd K H W [] []
  | cons {k : Key} {v : V} {kvs : List (Key × V)} {e d : D} {eds : List (D × D)} : Rep K H W (kV k) e → Rep K H W v d → Prd K H W kvs eds → Prd K H W ((k, v) :: kvs) ((e, d) :: eds)
theorem puts_rep : ∀ {more : List (Key × V)} {eds : List (D × D)} {kvs : List (Key × V)} {ks vs : List D}, Prd K H W more eds → Reps K H W (kvs.map fun kv => kV kv.1) ks → Reps K H W (kvs.map (·.2)) vs →
    Reps K H W ((mergeK kvs more).map fun kv => kV kv.1) (dPuts ks vs eds).1 ∧ Reps K H W ((mergeK kvs more).map (·.2)) (dPuts ks vs eds).2
  | _, _, kvs, ks, vs, .nil, r1, r2 => ⟨r1, r2⟩
  | _, _, kvs, ks, vs, .cons (k := k) (v := v) (e := e) (d := d) (kvs := kvs') (eds := eds') he hd r, r1, r2 => by
    have q := put_rep he hd r1 r2
    show Reps K H W ((mergeK (putK kvs k v) kvs').map fun kv => kV kv.1) (dPuts (dPut ks vs e d).1 (dPut ks vs e d).2 eds').1 ∧ Reps K H W ((mergeK (putK kvs k v) kvs').map (·.2)) (dPuts (dPut ks vs e d).1 (dPut ks vs e d).2 eds').2
    exact puts_rep r q.1 q.2
end
section
variable {X : Cx}
theorem pairs_rep {pins : List (Addr × Obj)} {σ : L2.St} {H : Hp} {s : Shared} {W : Wd} (I : Inv X pins σ H s) : ∀ {xs : List V} {us : List Value} {ds : List D} {eds : List (D × D)}, Reps X.K H W xs ds → Vals xs us → prs ds = some eds →
    ∃ (as : List Addr) (ps : List (Value × Value)) (kvs : List (Key × V)) (rs : List (Key × Value)), us = as.map Value.ref ∧ Prd X.K H W kvs eds ∧ KV kvs rs ∧ as.length = ps.length ∧ rs.length = ps.length ∧
      (∀ (j : Nat) (k v : Value), ps[j]? = some (k, v) → ∃ b, as[j]? = some b ∧ s.heap.IsTuple b #[k, v]) ∧ ∀ (j : Nat) (k v : Value), ps[j]? = some (k, v) → ∃ k', rs[j]? = some (k', v) ∧ (mixKind X.prog X.w).is k' k = true
  | _, _, [], eds, .nil, .nil, e => by
    cases e
    exact ⟨[], [], [], [], rfl, .nil, .nil, rfl, rfl, fun j k v h => by simp at h, fun j k v h => by simp at h⟩
  | _, _, d :: ds, eds, .cons h r, .cons rv rvs, e => by
    unfold prs at e
    split at e
    · cases ‹_ :: _ = []›
    · rename_i k v xs' heq
      cases heq
      split at e
      · rename_i hk
        obtain ⟨eds', e1, rfl⟩ := Option.map_eq_some_iff.mp e
        obtain ⟨as, ps, kvs, rs, eu, hp, hkv, l1, l2, f1, f2⟩ := pairs_rep I r rvs e1
        cases h with
        | tup ht q1 =>
          rename_i a ys
          cases rv
          cases q1 with
          | cons hk1 q1 =>
            cases q1 with
            | cons hv1 q1 =>
              cases q1
              obtain ⟨kk, rfl⟩ := key_rep hk1 hk
              obtain ⟨its, rt, pt, _⟩ := I.tuple ht.sq
              cases rt with
              | cons ra rt =>
                cases rt with
                | cons rb rt =>
                  cases rt
                  rename_i uk uv
                  refine ⟨a :: as, (uk, uv) :: ps, (kk, _) :: kvs, (kk, uv) :: rs, by rw [eu]; rfl, .cons hk1 hv1 hp, .cons ⟨rfl, rb⟩ hkv, by simp [l1], by simp [l2], fun j k v hj => ?_, fun j k v hj => ?_⟩
                  · cases j with
                    | zero => simp at hj; obtain ⟨rfl, rfl⟩ := hj; exact ⟨a, rfl, pt⟩
                    | succ j => exact f1 j k v (by simpa using hj)
                  · cases j with
                    | zero => simp at hj; obtain ⟨rfl, rfl⟩ := hj; exact ⟨kk, rfl, kV_is ra⟩
                    | succ j => exact f2 j k v (by simpa using hj)
      · cases e
    · cases e
theorem dict_done {pins : List (Addr × Obj)} {σ : L2.St} {H : Hp} {s : Shared} {W : Wd} {Q : VK} {T : String} {a : Addr} {fp : List Addr} {OK : Heap → Prop} {ps : List (Value × Value)} {kvs : List (Key × V)} {rs : List (Key × Value)} {eds : List (D × D)} {st : St} (hc : X.calm = true) (I : Inv X pins σ H s) (S : Sim X.K H W st)
    (P : PairArg X.prog X.w T a fp [] ps.length (PairRel ps) OK) (ok : OK s.heap) (hp : Prd X.K H W kvs eds) (hkv : KV kvs rs) (l2 : rs.length = ps.length) (f2 : ∀ (j : Nat) (k v : Value), ps[j]? = some (k, v) → ∃ k', rs[j]? = some (k', v) ∧ (mixKind X.prog X.w).is k' k = true) (hz : ps.length ≤ sizeLine)
    (q : ∀ v H', Step H W H' W → Sim X.K H' W st → Rep X.K H' W v (.dct (dPuts [] [] eds).1 (dPuts [] [] eds).2) → Q v H') : wpAny (model X.prog X.w) X.A (call (.type "dict") [.ref a]) (EP X pins σ Q) X.xe s := by
  refine PySem.call_dict_pairs (knd := mixKind X.prog X.w) (kvs := rs) P (I.ok.hd hc) ok ⟨l2, fun i k v h => f2 i k v h⟩ hz fun h' tk hd hk => ?_
  have hb := I.big
  have hm : KV (mergeK [] kvs) (merged [] rs) := KV.merge hkv .nil
  have hlen : (mergeK [] kvs).length ≤ sizeLine := by
    have h1 := length_mergeK kvs []
    have h2 := hkv.length
    simp at h1
    omega
  refine ⟨.ref s.heap.objs.size, upd H s.heap.objs.size (.dK (mergeK [] kvs)), I.laid (t' := tk) (fun b u e => hk b u (by simp) e) (Nat.le_refl _) ⟨hlen, ?_, _, hm, hd⟩, rfl, ?_⟩
  · rw [beq_eq_false_iff_ne]
    exact Nat.ne_of_gt hb
  · have q2 := puts_rep hp (kvs := []) (ks := []) (vs := []) .nil .nil
    exact newD S q2.1 q2.2 q _ (I.hok.fresh (Nat.le_refl _))
theorem call_dictL (hc : X.calm = true) : CallR X (.type "dict") (liftN X.K (un1 dictD)) := call_un1 fun pins s σ H x us Q W st dx d I r S rx e q => by
  have s1 := rx.saw S
  unfold dictD at e
  generalize see st dx = ex at s1 e
  obtain ⟨u, rfl, ru⟩ := vals1 r
  split at e
  · obtain ⟨eds, e1, rfl⟩ := Option.map_eq_some_iff.mp e
    obtain ⟨a, xs, rfl, ht, q1⟩ := saw_tup s1
    cases ru
    obtain ⟨its, rv, pt, hz⟩ := I.tuple ht.sq
    obtain ⟨as, ps, kvs, rs, eu, hp, hkv, l1, l2, f1, f2⟩ := pairs_rep I q1 rv e1
    have hpl : PlainSeq "tuple" s.heap a its.toArray := by
      rcases ht with ⟨o, ho, hd⟩ | ⟨o, its', n, hk, hcl, hd, hdat, _, rv'⟩
      · obtain ⟨g1, _⟩ := I.hok a _ ho
        obtain ⟨o', g2, hcl, n, hdat⟩ := pt
        rw [g1] at g2; cases g2
        exact ⟨o, n, g1, hcl, hd, hdat⟩
      · have g1 := I.kIn a o hk
        obtain ⟨o', g2, hcl', n', hdat'⟩ := pt
        rw [g1] at g2; cases g2
        exact ⟨o, n', g1, hcl, hd, hdat'⟩
    have hle : its.length = ps.length := by rw [eu]; simpa using l1
    have hle2 := rv.length
    refine dict_done hc I S (PairArg.tuple a its.toArray (fun j => as.getD j 0) ps) ⟨hpl, by simpa using hle, fun j k v hj => ?_⟩ hp hkv l2 f2 (by omega) q
    obtain ⟨b, hb, htp⟩ := f1 j k v hj
    have hg : as.getD j 0 = b := by rw [List.getD_eq_getElem?_getD, hb]; rfl
    refine ⟨?_, .inl (by dsimp only; rw [hg]; exact htp)⟩
    dsimp only
    rw [hg, eu]
    simp [hb]
  · obtain ⟨eds, e1, rfl⟩ := Option.map_eq_some_iff.mp e
    obtain ⟨a, xs, rfl, ht, q1⟩ := saw_lst s1
    cases ru
    obtain ⟨its, rv, pt, hz⟩ := I.list (SqL.of ht)
    obtain ⟨as, ps, kvs, rs, eu, hp, hkv, l1, l2, f1, f2⟩ := pairs_rep I q1 rv e1
    have hpl : PlainSeq "list" s.heap a its.toArray := pt
    have hle : its.length = ps.length := by rw [eu]; simpa using l1
    have hle2 := rv.length
    refine dict_done hc I S (PairArg.list a its.toArray (fun j => as.getD j 0) ps) ⟨hpl, by simpa using hle, fun j k v hj => ?_⟩ hp hkv l2 f2 (by omega) q
    obtain ⟨b, hb, htp⟩ := f1 j k v hj
    have hg : as.getD j 0 = b := by rw [List.getD_eq_getElem?_getD, hb]; rfl
    refine ⟨?_, .inl (by dsimp only; rw [hg]; exact htp)⟩
    dsimp only
    rw [hg, eu]
    simp [hb]
  · cases e
    obtain ⟨a, kvs, rfl, hr, q1, q2⟩ := saw_dct s1
    exact call_dictD pins s σ H _ [u] Q I r ⟨a, kvs, rfl, hr, newD S q1 q2 q⟩
  · cases e
end
end RP
end
section
set_option Elab.async false
set_option linter.all false
set_option maxRecDepth 100000
namespace RP
open PySem L2

structure EnvR (K : PySem.W.Frag) (H : Hp) (W : Wd) (σ : L2.St) (env : Env) : Prop where
  len : σ.length = env.length
  get : ∀ (i : Nat) (d : D), env[i]? = some (some d) → ∃ v, σ[i]? = some (some v) ∧ Rep K H W v d
def XRep (K : PySem.W.Frag) (H : Hp) (W : Wd) (x : Xc) (cls : Value) (dd : Option Addr) : Prop := cls = .ref (He.ga K x.cls) ∧
  ((dd = none ∧ x.fs = []) ∨ ∃ a fs', dd = some a ∧ H a = some (.xd fs') ∧ fs'.map (·.1) = x.fs.map (·.1) ∧ Reps K H W (fs'.map (·.2)) (x.fs.map (·.2)) ∧ x.fs ≠ [])
def Post {α : Type} (K : PySem.W.Frag) (Wx : WX) (σ : L2.St) (H : Hp) (W : Wd) (r : R α) (P : α → St → Prop) : Prop := match r with
  | .ok a st => P a st
  | .er x st => ∀ H' W' cls dd, Step H W H' W' → Sim K H' W' st → XRep K H' W' x cls dd → Wx cls dd σ H'
  | .no => False
section
variable {α β : Type} {K : PySem.W.Frag} {Wx : WX} {σ : L2.St} {H H1 : Hp} {W W1 : Wd} {r : R α} {P P' : α → St → Prop}
theorem Post.mono (h : Post K Wx σ H W r P) (hp : ∀ a st, P a st → P' a st) : Post K Wx σ H W r P' := by
  cases r with
  | ok a st => exact hp a st h
  | er x st => exact h
  | no => exact h
theorem Post.bind {k : α → St → R β} {Q : β → St → Prop} (h : Post K Wx σ H W (r.bind k) Q) : Post K Wx σ H W r fun a st => Post K Wx σ H W (k a st) Q := by
  cases r with
  | ok a st => exact h
  | er x st => exact h
  | no => exact h
theorem Post.at (T : Step H W H1 W1) (h : Post K Wx σ H W r P) : Post K Wx σ H1 W1 r P := by
  cases r with
  | ok a st => exact h
  | er x st => exact fun H' W' cls dd T' S' x' => h H' W' cls dd (T.trans T') S' x'
  | no => exact h
theorem Post.of {o : Option α} {st : St} (h : Post K Wx σ H W (R.of o st) P) : ∃ a, o = some a ∧ P a st := by
  cases o with
  | some a => exact ⟨a, rfl, h⟩
  | none => exact (show False from h).elim
theorem EnvR.step {σ : L2.St} {env : Env} {st : St} (S : Sim K H W st) (T : Step H W H1 W1) (E : EnvR K H W σ env) : EnvR K H1 W1 σ env :=
  ⟨E.len, fun i d h => let ⟨v, e, r⟩ := E.get i d h; ⟨v, e, r.step S T⟩⟩
end
abbrev Aft (K : PySem.W.Frag) (H : Hp) (W : Wd) (Q : VK) : D → St → Prop := fun d st' => ∀ v H' W', Step H W H' W' → Sim K H' W' st' → Rep K H' W' v d → Q v H'
abbrev AftA (K : PySem.W.Frag) (H : Hp) (W : Wd) (Q : List V → Hp → Prop) : List D → St → Prop := fun ds st' => ∀ vs H' W', Step H W H' W' → Sim K H' W' st' → Reps K H' W' vs ds → Q vs H'
abbrev AftT (K : PySem.W.Frag) (H : Hp) (W : Wd) (Q : Bool → Hp → Prop) : Bool → St → Prop := fun b st' => ∀ H' W', Step H W H' W' → Sim K H' W' st' → Q b H'
def tE (K : PySem.W.Frag) (c : Call) (Wx : WX) (m : ME) : TE := fun σ H Q => ∃ W st env, Sim K H W st ∧ EnvR K H W σ env ∧ Post K Wx σ H W (m c env st) (Aft K H W Q)
def tAs (K : PySem.W.Frag) (c : Call) (Wx : WX) (m : MA) : TA := fun σ H Q => ∃ W st env, Sim K H W st ∧ EnvR K H W σ env ∧ Post K Wx σ H W (m c env st) (AftA K H W Q)
def tTs (K : PySem.W.Frag) (c : Call) (Wx : WX) (m : MT) : TT := fun σ H Q => ∃ W st env, Sim K H W st ∧ EnvR K H W σ env ∧ Post K Wx σ H W (m c env st) (AftT K H W Q)

theorem PE.weak {X : Cx} {e : Expr} {t t' : TE} (h : PE X e t) (hw : ∀ σ H Q, t' σ H Q → t σ H Q) : PE X e t' := ⟨fun pins s σ H Q I q => h.run pins s σ H Q I (hw _ _ _ q)⟩
theorem PA.weak {X : Cx} {e : List Expr} {t t' : TA} (h : PA X e t) (hw : ∀ σ H Q, t' σ H Q → t σ H Q) : PA X e t' := ⟨fun pos pins s σ H Q I q => h.run pos pins s σ H Q I (hw _ _ _ q)⟩
theorem PT.weak {X : Cx} {e : Expr} {t t' : TT} (h : PT X e t) (hw : ∀ σ H Q, t' σ H Q → t σ H Q) : PT X e t' := ⟨fun pins s σ H Q I q => h.run pins s σ H Q I (hw _ _ _ q)⟩
theorem PW.weak {X : Cx} {e : Expr} {t t' : TT} (h : PW X e t) (hw : ∀ σ H Q, t' σ H Q → t σ H Q) : PW X e t' := ⟨fun wh pins s σ H Q I q => h.run wh pins s σ H Q I (hw _ _ _ q)⟩

section
variable {X : Cx} {c : Call} {Wx : WX} {a b e : Expr} {ma mb me : ME} {pos : Pos}
theorem dVar {i : Nat} {x : Str} (hN : X.N[i]? = some x) (hv : Vis X.env.scope x) (hd : (x == ("__debug__" : Str)) = false) (hcd : (x == ("__classdict__" : Str)) = false) : PE X (.Name x pos) (tE X.K c Wx (mVar i)) :=
  PE.weak (pe_var hN hv hd hcd) fun σ H Q h => by
    obtain ⟨W, st, env, S, E, p⟩ := h
    unfold mVar at p
    split at p
    · rename_i d he
      obtain ⟨v, e, r⟩ := E.get i d he
      exact ⟨v, e, p v H W (Step.refl _ _) S r⟩
    · exact (show False from p).elim
theorem dCst {d : D} {v : V} (h : PE X e (tC v)) (hr : ∀ H W, Rep X.K H W v d) : PE X e (tE X.K c Wx (mCst d)) :=
  PE.weak h fun σ H Q h => by
    obtain ⟨W, st, env, S, E, p⟩ := h
    exact p v H W (Step.refl _ _) S (hr H W)
theorem dOp2 {op : Operator} {f : St → D → D → Option D} (ho : OpR X (binaryOp op) (lift2 X.K f)) (ha : PE X a (tE X.K c Wx ma)) (hb : PE X b (tE X.K c Wx mb)) : PE X (.BinOp a op b pos) (tE X.K c Wx (mOp2 f ma mb)) :=
  PE.weak (pe_op ho ha hb) fun σ H Q h => by
    obtain ⟨W, st, env, S, E, p⟩ := h
    refine ⟨W, st, env, S, E, p.bind.mono fun dx st1 p1 x H1 W1 T1 S1 R1 => ⟨W1, st1, env, S1, E.step S T1, (p1.bind.at T1).mono fun dy st2 p2 y H2 W2 T2 S2 R2 => ?_⟩⟩
    obtain ⟨d, e, q⟩ := p2.of
    exact ⟨W2, st2, dx, dy, d, S2, R1.step S1 T2, R2, e, fun v H' T S' R => q v H' W2 ((T1.trans T2).trans T) S' R⟩
theorem two_weak {f : St → D → D → Option D} {σ : L2.St} {H : Hp} {Q : VK} (h : tE X.K c Wx (mOp2 f ma mb) σ H Q) : tOp (lift2 X.K f) (tE X.K c Wx ma) (tE X.K c Wx mb) σ H Q := by
  obtain ⟨W, st, env, S, E, p⟩ := h
  refine ⟨W, st, env, S, E, p.bind.mono fun dx st1 p1 x H1 W1 T1 S1 R1 => ⟨W1, st1, env, S1, E.step S T1, (p1.bind.at T1).mono fun dy st2 p2 y H2 W2 T2 S2 R2 => ?_⟩⟩
  obtain ⟨d, e, q⟩ := p2.of
  exact ⟨W2, st2, dx, dy, d, S2, R1.step S1 T2, R2, e, fun v H' T S' R => q v H' W2 ((T1.trans T2).trans T) S' R⟩
theorem dCmp {op : CmpOp} {f : St → D → D → Option D} (ho : OpR X (compareOp op) (lift2 X.K f)) (ha : PE X a (tE X.K c Wx ma)) (hb : PE X b (tE X.K c Wx mb)) (hm : behindInMarks op b = false) : PE X (.Compare a [op] [b] pos) (tE X.K c Wx (mOp2 f ma mb)) :=
  PE.weak (pe_cmpR ho ha hb hm) fun σ H Q h => two_weak h
theorem dIx (hr : IxR X (lift2 X.K idxD)) (ha : PE X a (tE X.K c Wx ma)) (hb : PE X b (tE X.K c Wx mb)) (hs : PlainIx b) : PE X (.Subscript a b pos) (tE X.K c Wx (mOp2 idxD ma mb)) :=
  PE.weak (pe_ix hr ha hb hs) fun σ H Q h => two_weak h
theorem dUn {op : UnaryOp} {f : St → D → Option D} (ho : UnR X (unaryOp op) (lift1 X.K f)) (ha : PE X a (tE X.K c Wx ma)) : PE X (.UnaryOp op a pos) (tE X.K c Wx (mOp1 f ma)) :=
  PE.weak (pe_un ho ha) fun σ H Q h => by
    obtain ⟨W, st, env, S, E, p⟩ := h
    refine ⟨W, st, env, S, E, p.bind.mono fun dx st1 p1 x H1 W1 T1 S1 R1 => ?_⟩
    obtain ⟨d, e, q⟩ := p1.of
    exact ⟨W1, st1, dx, d, S1, R1, e, fun v H' T S' R => q v H' W1 (T1.trans T) S' R⟩
theorem dRev {k : Nat} {p1 p2 p3 : Pos} (ha : PE X a (tE X.K c Wx ma)) : PE X (.Subscript a (.Slice none none (some (.UnaryOp .USub (.Constant (.int 1) k p1) p2)) p3) pos) (tE X.K c Wx (mOp1 revD ma)) :=
  PE.weak (pe_revD ha) fun σ H Q h => by
    obtain ⟨W, st, env, S, E, p⟩ := h
    refine ⟨W, st, env, S, E, p.bind.mono fun dx st1 p1 x H1 W1 T1 S1 R1 => ?_⟩
    obtain ⟨d, e, q⟩ := p1.of
    exact ⟨W1, st1, dx, d, S1, R1, e, fun v H' T S' R => q v H' W1 (T1.trans T) S' R⟩
theorem chain_weak {f g : St → D → D → Option D} {σ : L2.St} {H : Hp} {Q : VK} (h : tE X.K c Wx (mChain f g ma mb me) σ H Q) : tChain (lift2 X.K f) (lift2 X.K g) (tE X.K c Wx ma) (tE X.K c Wx mb) (tE X.K c Wx me) σ H Q := by
  obtain ⟨W, st, env, S, E, p⟩ := h
  refine ⟨W, st, env, S, E, p.bind.mono fun dx st1 p1 x H1 W1 T1 S1 R1 => ⟨W1, st1, env, S1, E.step S T1, (p1.bind.at T1).mono fun dy st2 p2 y H2 W2 T2 S2 R2 => ?_⟩⟩
  split at p2
  · rename_i ef
    refine ⟨W2, st2, dx, dy, .bl true, S2, R1.step S1 T2, R2, ef, fun v H' T S' R => ?_⟩
    have ev := rep_bl R
    subst ev
    refine ⟨true, rfl, ?_⟩
    rw [if_pos rfl]
    have T12 := (T1.trans T2).trans T
    refine ⟨W2, st2, env, S', E.step S T12, (p2.bind.at T12).mono fun dz st3 p3 z H3 W3 T3 S3 R3 => ?_⟩
    obtain ⟨d, e, q⟩ := p3.of
    exact ⟨W3, st3, dy, dz, d, S3, (R2.step S2 T).step S' T3, R3, e, fun v H' T S' R => q v H' W3 ((T12.trans T3).trans T) S' R⟩
  · rename_i ef
    refine ⟨W2, st2, dx, dy, .bl false, S2, R1.step S1 T2, R2, ef, fun v H' T S' R => ?_⟩
    have ev := rep_bl R
    subst ev
    refine ⟨false, rfl, ?_⟩
    rw [if_neg Bool.false_ne_true]
    exact p2 _ _ W2 ((T1.trans T2).trans T) S' (.bl false)
  · exact (show False from p2).elim
theorem dChain {op op' : CmpOp} {f g : St → D → D → Option D} (ho : OpR X (compareOp op) (lift2 X.K f)) (ho' : OpR X (compareOp op') (lift2 X.K g)) (ha : PE X a (tE X.K c Wx ma)) (hb : PE X b (tE X.K c Wx mb)) (he : PE X e (tE X.K c Wx me))
    (hm : behindInMarks op' e = false) : PE X (.Compare a [op, op'] [b, e] pos) (tE X.K c Wx (mChain f g ma mb me)) :=
  PE.weak (pe_chain ho ho' ha hb he hm) fun σ H Q h => chain_weak h
theorem truV {K : PySem.W.Frag} {H : Hp} {W : Wd} {st : St} {v : V} {d : D} {k : Bool} (S : Sim K H W st) (r : Rep K H W v d) (h : tru st d = some k) : TruV K v H k := by
  have s1 := r.saw S
  have bl := bigLine
  unfold tru at h
  generalize see st d = ex at s1 h
  split at h
  · cases h; rw [saw_non s1]; rfl
  · cases h; rw [saw_bl s1]; rfl
  · cases h; rw [saw_int s1]; rfl
  · split at h
    · cases h
      rw [saw_str s1]
      exact ⟨by omega, rfl⟩
    · cases h
  · cases h
    obtain ⟨a, xs, rfl, ht, q1⟩ := saw_tup s1
    refine .inr (.inl ⟨xs, ht.sq, ?_⟩)
    cases q1 <;> rfl
  · cases h
    obtain ⟨a, xs, rfl, ht, q1⟩ := saw_lst s1
    refine .inl ⟨xs, SqL.of ht, ?_⟩
    cases q1 <;> rfl
  · cases h
theorem dOne {op} (h : PE X a (tE X.K c Wx ma)) : PE X (.BoolOp op [a] pos) (tE X.K c Wx ma) := pe_one h
theorem dAnd {rest : List Expr} (ha : PE X a (tE X.K c Wx ma)) (hb : PE X (.BoolOp .And (b :: rest) pos) (tE X.K c Wx mb)) : PE X (.BoolOp .And (a :: b :: rest) pos) (tE X.K c Wx (mAnd ma mb)) :=
  PE.weak (pe_andT ha hb) fun σ H Q h => by
    obtain ⟨W, st, env, S, E, p⟩ := h
    refine ⟨W, st, env, S, E, p.bind.mono fun dx st1 p1 x H1 W1 T1 S1 R1 => ?_⟩
    split at p1
    · rename_i et
      refine ⟨true, truV S1 R1 et, ?_⟩
      rw [if_pos rfl]
      exact ⟨W1, st1, env, S1, E.step S T1, (p1.at T1).mono fun d st' q v H' W' T S' R => q v H' W' (T1.trans T) S' R⟩
    · rename_i et
      refine ⟨false, truV S1 R1 et, ?_⟩
      rw [if_neg Bool.false_ne_true]
      exact p1 x H1 W1 T1 S1 R1
    · exact (show False from p1).elim
theorem dOr {rest : List Expr} (ha : PE X a (tE X.K c Wx ma)) (hb : PE X (.BoolOp .Or (b :: rest) pos) (tE X.K c Wx mb)) : PE X (.BoolOp .Or (a :: b :: rest) pos) (tE X.K c Wx (mOr ma mb)) :=
  PE.weak (pe_orT ha hb) fun σ H Q h => by
    obtain ⟨W, st, env, S, E, p⟩ := h
    refine ⟨W, st, env, S, E, p.bind.mono fun dx st1 p1 x H1 W1 T1 S1 R1 => ?_⟩
    split at p1
    · rename_i et
      refine ⟨true, truV S1 R1 et, ?_⟩
      rw [if_pos rfl]
      exact p1 x H1 W1 T1 S1 R1
    · rename_i et
      refine ⟨false, truV S1 R1 et, ?_⟩
      rw [if_neg Bool.false_ne_true]
      exact ⟨W1, st1, env, S1, E.step S T1, (p1.at T1).mono fun d st' q v H' W' T S' R => q v H' W' (T1.trans T) S' R⟩
    · exact (show False from p1).elim
theorem dNot (ha : PE X a (tE X.K c Wx ma)) : PE X (.UnaryOp .Not a pos) (tE X.K c Wx (mNot ma)) :=
  PE.weak (pe_notT ha) fun σ H Q h => by
    obtain ⟨W, st, env, S, E, p⟩ := h
    refine ⟨W, st, env, S, E, p.bind.mono fun dx st1 p1 x H1 W1 T1 S1 R1 => ?_⟩
    obtain ⟨d, e, q⟩ := p1.of
    obtain ⟨k, e1, rfl⟩ := Option.map_eq_some_iff.mp e
    exact ⟨k, truV S1 R1 e1, q _ H1 W1 T1 S1 (.bl _)⟩
variable {ta tb : MT}
theorem bVal (ha : PE X a (tE X.K c Wx ma)) (he : ∀ whole, isTrue a X.env whole = (do let v ← whole; standAt a.pos; holding [v] (truthy v))) : PT X a (tTs X.K c Wx (tVal ma)) :=
  PT.weak (pt_truth ha he) fun σ H Q h => by
    obtain ⟨W, st, env, S, E, p⟩ := h
    refine ⟨W, st, env, S, E, p.bind.mono fun dx st1 p1 x H1 W1 T1 S1 R1 => ?_⟩
    obtain ⟨k, e, q⟩ := p1.of
    exact ⟨k, truV S1 R1 e, q H1 W1 T1 S1⟩
def IsBl (f : St → D → D → Option D) : Prop := ∀ st x y d, f st x y = some d → ∃ b, d = .bl b
theorem bCmp {op : CmpOp} {f : St → D → D → Option D} (hf : IsBl f) (ho : OpR X (compareOp op) (lift2 X.K f)) (ha : PE X a (tE X.K c Wx ma)) (hb : PE X b (tE X.K c Wx mb)) (hm : behindInMarks op b = false) : PT X (.Compare a [op] [b] pos) (tTs X.K c Wx (tVal (mOp2 f ma mb))) :=
  PT.weak (pt_cmpR ho ha hb hm) fun σ H Q h => by
    refine two_weak ?_
    obtain ⟨W, st, env, S, E, p⟩ := h
    refine ⟨W, st, env, S, E, ?_⟩
    have p' := p.bind
    unfold mOp2 at p' ⊢
    generalize ma c env st = r1 at p' ⊢
    cases r1 with
    | er x st => exact p'
    | no => exact p'
    | ok dx st1 =>
      show Post X.K Wx σ H W ((mb c env st1).bind _) _
      have p'' : Post X.K Wx σ H W ((mb c env st1).bind fun y st2 => R.of (f st2 dx y) st2) _ := p'
      generalize mb c env st1 = r2 at p'' ⊢
      cases r2 with
      | er x st => exact p''
      | no => exact p''
      | ok dy st2 =>
        show Post X.K Wx σ H W (R.of (f st2 dx dy) st2) _
        have p3 : Post X.K Wx σ H W (R.of (f st2 dx dy) st2) _ := p''
        obtain ⟨d, e, q⟩ := p3.of
        rw [e]
        show ∀ v H' W', Step H W H' W' → Sim X.K H' W' st2 → Rep X.K H' W' v d → _
        intro v H' W' T S' R
        obtain ⟨bb, rfl⟩ := hf _ _ _ _ e
        have ev := rep_bl R
        subst ev
        exact ⟨bb, rfl, q H' W' T S'⟩
theorem bChain {op op' : CmpOp} {f g : St → D → D → Option D} (hg : IsBl g) (ho : OpR X (compareOp op) (lift2 X.K f)) (ho' : OpR X (compareOp op') (lift2 X.K g)) (ha : PE X a (tE X.K c Wx ma)) (hb : PE X b (tE X.K c Wx mb)) (he : PE X e (tE X.K c Wx me))
    (hm : behindInMarks op' e = false) : PT X (.Compare a [op, op'] [b, e] pos) (tTs X.K c Wx (tVal (mChain f g ma mb me))) :=
  PT.weak (pt_chain ho ho' ha hb he hm) fun σ H Q h => by
    refine chain_weak ?_
    obtain ⟨W, st, env, S, E, p⟩ := h
    refine ⟨W, st, env, S, E, ?_⟩
    have p' := p.bind
    have aux : ∀ d st', (mChain f g ma mb me c env st) = .ok d st' → ∃ b, d = .bl b := by
      intro d st' h
      unfold mChain at h
      cases h1 : ma c env st with
      | er x st => rw [h1] at h; cases h
      | no => rw [h1] at h; cases h
      | ok dx st1 =>
        rw [h1] at h
        simp only [R.bind] at h
        cases h2 : mb c env st1 with
        | er x st => rw [h2] at h; cases h
        | no => rw [h2] at h; cases h
        | ok dy st2 =>
          rw [h2] at h
          simp only at h
          split at h
          · cases h3 : me c env st2 with
            | er x st => rw [h3] at h; cases h
            | no => rw [h3] at h; cases h
            | ok dz st3 =>
              rw [h3] at h
              simp only at h
              unfold R.of at h
              split at h
              · cases h
                exact hg _ _ _ _ ‹_›
              · cases h
          · cases h
            exact ⟨false, rfl⟩
          · cases h
    generalize mChain f g ma mb me c env st = r at p' aux ⊢
    cases r with
    | er x st => exact p'
    | no => exact p'
    | ok d st' =>
      obtain ⟨bb, rfl⟩ := aux d st' rfl
      intro v H' W' T S' R9
      have ev := rep_bl R9
      subst ev
      have p3 : Post X.K Wx σ H W (R.of (tru st' (.bl bb)) st') (AftT X.K H W Q) := p'
      obtain ⟨k, e, q⟩ := p3.of
      cases e
      exact ⟨bb, rfl, q H' W' T S'⟩
theorem bAnd1 (ha : PT X a (tTs X.K c Wx ta)) : PW X (.BoolOp .And [a] pos) (tTs X.K c Wx ta) := pw_and1 ha
theorem bOr1 (ha : PT X a (tTs X.K c Wx ta)) : PW X (.BoolOp .Or [a] pos) (tTs X.K c Wx ta) := pw_or1 ha
theorem bAndD {rest : List Expr} (ha : PT X a (tTs X.K c Wx ta)) (hb : PW X (.BoolOp .And (b :: rest) pos) (tTs X.K c Wx tb)) : PW X (.BoolOp .And (a :: b :: rest) pos) (tTs X.K c Wx (RP.bAnd ta tb)) :=
  PW.weak (pw_and ha hb) fun σ H Q h => by
    obtain ⟨W, st, env, S, E, p⟩ := h
    refine ⟨W, st, env, S, E, p.bind.mono fun x st1 p1 H1 W1 T1 S1 => ?_⟩
    cases x with
    | true =>
      rw [if_pos rfl] at p1 ⊢
      exact ⟨W1, st1, env, S1, E.step S T1, (p1.at T1).mono fun d st' q H' W' T S' => q H' W' (T1.trans T) S'⟩
    | false =>
      rw [if_neg Bool.false_ne_true] at p1 ⊢
      exact p1 H1 W1 T1 S1
theorem bOrD {rest : List Expr} (ha : PT X a (tTs X.K c Wx ta)) (hb : PW X (.BoolOp .Or (b :: rest) pos) (tTs X.K c Wx tb)) : PW X (.BoolOp .Or (a :: b :: rest) pos) (tTs X.K c Wx (RP.bOr ta tb)) :=
  PW.weak (pw_or ha hb) fun σ H Q h => by
    obtain ⟨W, st, env, S, E, p⟩ := h
    refine ⟨W, st, env, S, E, p.bind.mono fun x st1 p1 H1 W1 T1 S1 => ?_⟩
    cases x with
    | true =>
      rw [if_pos rfl] at p1 ⊢
      exact p1 H1 W1 T1 S1
    | false =>
      rw [if_neg Bool.false_ne_true] at p1 ⊢
      exact ⟨W1, st1, env, S1, E.step S T1, (p1.at T1).mono fun d st' q H' W' T S' => q H' W' (T1.trans T) S'⟩
theorem bNotD (ha : PT X a (tTs X.K c Wx ta)) : PT X (.UnaryOp .Not a pos) (tTs X.K c Wx (RP.bNot ta)) :=
  PT.weak (pt_not ha) fun σ H Q h => by
    obtain ⟨W, st, env, S, E, p⟩ := h
    exact ⟨W, st, env, S, E, p.bind.mono fun x st1 p1 H1 W1 T1 S1 => p1 H1 W1 T1 S1⟩
theorem dIf {t : Expr} (ht : PT X t (tTs X.K c Wx ta)) (ha : PE X a (tE X.K c Wx ma)) (hb : PE X b (tE X.K c Wx mb)) : PE X (.IfExp t a b pos) (tE X.K c Wx (mIf ta ma mb)) :=
  PE.weak (pe_ifExp ht ha hb) fun σ H Q h => by
    obtain ⟨W, st, env, S, E, p⟩ := h
    refine ⟨W, st, env, S, E, p.bind.mono fun x st1 p1 H1 W1 T1 S1 => ?_⟩
    cases x with
    | true =>
      rw [if_pos rfl] at p1 ⊢
      exact ⟨W1, st1, env, S1, E.step S T1, (p1.at T1).mono fun d st' q v H' W' T S' R => q v H' W' (T1.trans T) S' R⟩
    | false =>
      rw [if_neg Bool.false_ne_true] at p1 ⊢
      exact ⟨W1, st1, env, S1, E.step S T1, (p1.at T1).mono fun d st' q v H' W' T S' R => q v H' W' (T1.trans T) S' R⟩
theorem dNil : PA X [] (tAs X.K c Wx (mArgs [])) := PA.weak pa_nil fun σ H Q h => by
  obtain ⟨W, st, env, S, E, p⟩ := h
  exact p [] H W (Step.refl _ _) S .nil
theorem dCons {es : List Expr} {ms : List ME} (ha : PE X a (tE X.K c Wx ma)) (hr : PA X es (tAs X.K c Wx (mArgs ms))) (hs : starEach (a :: es) X.env = (false, eval a X.env) :: starEach es X.env) : PA X (a :: es) (tAs X.K c Wx (mArgs (ma :: ms))) :=
  PA.weak (pa_cons ha hr hs) fun σ H Q h => by
    obtain ⟨W, st, env, S, E, p⟩ := h
    refine ⟨W, st, env, S, E, p.bind.mono fun dx st1 p1 x H1 W1 T1 S1 R1 => ⟨W1, st1, env, S1, E.step S T1, (p1.bind.at T1).mono fun ds st2 p2 xs H2 W2 T2 S2 R2 => ?_⟩⟩
    exact p2 _ H2 W2 (T1.trans T2) S2 (.cons (R1.step S1 T2) R2)
theorem mArgs_len : ∀ {ms : List ME} {c : Call} {env : Env} {st st' : St} {ds : List D}, mArgs ms c env st = .ok ds st' → ds.length = ms.length
  | [], c, env, st, st', ds, h => by cases h; rfl
  | m :: ms, c, env, st, st', ds, h => by
    unfold mArgs at h
    cases h1 : m c env st with
    | er x st => rw [h1] at h; cases h
    | no => rw [h1] at h; cases h
    | ok d st1 =>
      rw [h1] at h
      simp only [R.bind] at h
      cases h2 : mArgs ms c env st1 with
      | er x st => rw [h2] at h; cases h
      | no => rw [h2] at h; cases h
      | ok ds' st2 =>
        rw [h2] at h
        cases h
        simp [mArgs_len h2]
theorem args_post {ms : List ME} {env : Env} {st : St} {σ : L2.St} {H : Hp} {W : Wd} {β : Type} {k : List D → St → R β} {P : β → St → Prop} (p : Post X.K Wx σ H W ((mArgs ms c env st).bind k) P) :
    Post X.K Wx σ H W (mArgs ms c env st) fun ds st1 => ds.length = ms.length ∧ Post X.K Wx σ H W (k ds st1) P := by
  cases h : mArgs ms c env st with
  | er x st => rw [h] at p; exact p
  | no => rw [h] at p; exact p
  | ok ds st1 => rw [h] at p; exact ⟨mArgs_len h, p⟩
theorem dTup {es : List Expr} {ms : List ME} {k : Nat} (h : PA X es (tAs X.K c Wx (mArgs ms))) (hl : ms.length ≤ 1000) : PE X (.Tuple es k pos) (tE X.K c Wx (mTup ms)) :=
  PE.weak (pe_tupF h) fun σ H Q h => by
    obtain ⟨W, st, env, S, E, p⟩ := h
    refine ⟨W, st, env, S, E, (args_post p).mono fun ds st1 p1 xs H1 W1 T1 S1 R1 => ⟨?_, ?_⟩⟩
    · have := R1.length
      have := p1.1
      have := bigLine
      unfold big at this
      omega
    · exact newT S1 R1 fun v H' T S' R => p1.2 v H' W1 (T1.trans T) S' R
theorem dLst {es : List Expr} {ms : List ME} (h : PA X es (tAs X.K c Wx (mArgs ms))) (hl : ms.length ≤ 1000) : PE X (.List es pos) (tE X.K c Wx (mLst ms)) :=
  PE.weak (pe_lst h) fun σ H Q h => by
    obtain ⟨W, st, env, S, E, p⟩ := h
    refine ⟨W, st, env, S, E, (args_post p).mono fun ds st1 p1 xs H1 W1 T1 S1 R1 => ⟨?_, ?_⟩⟩
    · have := R1.length
      have := p1.1
      have := bigLine
      unfold big at this
      omega
    · exact newL S1 R1 fun v H' T S' R => p1.2 v H' W1 (T1.trans T) S' R
theorem newCell {K : PySem.W.Frag} {H : Hp} {W : Wd} {st : St} {Q : VK} (S : Sim K H W st) {xs : List V} {ds : List D} (rs : Reps K H W xs ds) (q : ∀ v H' W', Step H W H' W' → Sim K H' W' (st ++ [.lst ds]) → Rep K H' W' v (.ref st.length) → Q v H') (p : Addr) (hp : H p = none) : Q (.ref p) (upd H p (.lst xs)) := by
  have T := Step.cell S (o := .lst xs) hp
  refine q _ _ ⟨W.rho ++ [p], W.B⟩ T (S.newcell hp ⟨xs, upd_same, rs.step S T⟩) (.ref ?_)
  show (W.rho ++ [p])[st.length]? = some p
  rw [← S.len]
  simp
theorem dLstM {es : List Expr} {ms : List ME} (h : PA X es (tAs X.K c Wx (mArgs ms))) (hl : ms.length ≤ 1000) : PE X (.List es pos) (tE X.K c Wx (mLstM ms)) :=
  PE.weak (pe_lst h) fun σ H Q h => by
    obtain ⟨W, st, env, S, E, p⟩ := h
    refine ⟨W, st, env, S, E, (args_post p).mono fun ds st1 p1 xs H1 W1 T1 S1 R1 => ⟨?_, ?_⟩⟩
    · have := R1.length
      have := p1.1
      have := bigLine
      unfold big at this
      omega
    · exact newCell S1 R1 fun v H' W' T S' R => p1.2 v H' W' (T1.trans T) S' R
def mBlt (f : St → List D → Option D) (ms : List ME) : ME := fun c env st => (mArgs ms c env st).bind fun ds st1 => R.of (f st1 ds) st1
theorem blt_weak {f : St → List D → Option D} {ms : List ME} {σ : L2.St} {H : Hp} {Q : VK} (h : tE X.K c Wx (mBlt f ms) σ H Q) : tCB (liftN X.K f) (tAs X.K c Wx (mArgs ms)) σ H Q := by
  obtain ⟨W, st, env, S, E, p⟩ := h
  refine ⟨W, st, env, S, E, p.bind.mono fun ds st1 p1 xs H1 W1 T1 S1 R1 => ?_⟩
  obtain ⟨d, e, q⟩ := p1.of
  exact ⟨W1, st1, ds, d, S1, R1, e, fun v H' T S' R => q v H' W1 (T1.trans T) S' R⟩
theorem dBlt {id : String} {x : Str} {p : Pos} {es : List Expr} {ms : List ME} {f : St → List D → Option D} (hc : CallR X (.builtin id) (liftN X.K f)) (hg : Gl X x) (hm : X.mg x = none) (hv : bootBuiltins x = some (.builtin id)) (ha : PA X (a :: es) (tAs X.K c Wx (mArgs ms)))
    (hn : x ≠ "__name__") (hdb : (x == ("__debug__" : Str)) = false) (he : starEach (a :: es) X.env = (false, eval a X.env) :: starEach es X.env) (hpl : (backTo pos (starEach es X.env)).any (·.1) = false) : PE X (.Call (.Name x p) (a :: es) [] pos) (tE X.K c Wx (mBlt f ms)) :=
  PE.weak (pe_callB hc hg hm hv ha hn hdb he hpl) fun σ H Q h => blt_weak h
theorem dTy {id : String} {x : Str} {p : Pos} {es : List Expr} {ms : List ME} {f : St → List D → Option D} (hc : CallR X (.type id) (liftN X.K f)) (hg : Gl X x) (hm : X.mg x = none) (hv : bootBuiltins x = some (.type id)) (ha : PA X (a :: es) (tAs X.K c Wx (mArgs ms)))
    (hn : x ≠ "__name__") (hdb : (x == ("__debug__" : Str)) = false) (he : starEach (a :: es) X.env = (false, eval a X.env) :: starEach es X.env) (hpl : (backTo pos (starEach es X.env)).any (·.1) = false) : PE X (.Call (.Name x p) (a :: es) [] pos) (tE X.K c Wx (mBlt f ms)) :=
  PE.weak (pe_callTy hc hg hm hv ha hn hdb he hpl) fun σ H Q h => blt_weak h
theorem dIsi {k : Kd} {p q : Pos} {T : Str} (hg : Gl X "isinstance") (hm : X.mg "isinstance" = none) (hgT : Gl X T) (hmT : X.mg T = none) (hvT : bootBuiltins T = some (.type (kdName k))) (ha : PE X a (tE X.K c Wx ma)) (hnT : T ≠ "__name__") (hdT : (T == ("__debug__" : Str)) = false)
    (he : starEach [a, .Name T q] X.env = (false, eval a X.env) :: starEach [.Name T q] X.env) : PE X (.Call (.Name "isinstance" p) [a, .Name T q] [] pos) (tE X.K c Wx (mOp1 (isiD k) ma)) :=
  PE.weak (pe_callB (call_isiL k) hg hm (by decide +kernel) (pa_cons ha (pa_cons (pe_bltn hgT hmT hvT (v := .ty (kdName k)) rfl hnT hdT) pa_nil) he) (by decide) (by decide) he (by rfl)) fun σ H Q h => by
    obtain ⟨W, st, env, S, E, p⟩ := h
    refine ⟨W, st, env, S, E, p.bind.mono fun dx st1 p1 x H1 W1 T1 S1 R1 => ?_⟩
    obtain ⟨d, e, q⟩ := p1.of
    exact ⟨x, W1, st1, dx, d, rfl, S1, R1, e, fun v R => q v H1 W1 T1 S1 R⟩
end
end RP
end
section
set_option Elab.async false
set_option linter.all false
set_option maxRecDepth 100000
set_option maxHeartbeats 1000000
namespace RP
open PySem PySem.Spec PyProof.Rows L2
abbrev ZipR (h : Heap) (z TI TO : Addr) (f0 : Value) (fl : Bool) : Prop := h.get? z = some { cls := .type "zip", dict := none, data := .fields #[f0, .bool fl, .bool false, .ref TI, .ref TO], slots := #[] }
def ZMark (f0 : Value) : Prop := f0 = .none ∨ ∃ T : Nat, f0 = rawInt T
section
variable {prog : Program} {w : World} {A : Around} {E : Value → Shared → Prop} {s : Shared}
theorem zAlive {a : Addr} {Q : Option Obj → Shared → Prop} (h : Q (s.heap.get? a) s) : wpAny (model prog w) A (loadIfAlive a) Q E s := fun _ _ _ => h
theorem zFree {z TI TO : Addr} {f0 : Value} {fl : Bool} {Q : Bool → Shared → Prop} (zr : ZipR s.heap z TI TO f0 fl) (mk : ZMark f0) (q1 : Q true s) (q2 : ∀ h', ZipR h' z TI TO f0 true → Heap.SameBut z s.heap h' → Q false { s with heap := h' }) :
    wpAny (model prog w) A (Builtin.SmallTypes.ownedTupleIsFree (.ref z)) Q E s := by
  unfold Builtin.SmallTypes.ownedTupleIsFree
  rcases mk with rfl | ⟨T, rfl⟩
  · exact wpAny_bind (wpAny_field zr rfl (x := .none) rfl (wpAny_pure q1))
  · refine wpAny_bind (wpAny_field zr rfl (x := rawInt T) rfl ?_)
    change wpAny _ _ (loadIfAlive (Int.toNat T) >>= _) _ _ _
    refine wpAny_bind (zAlive ?_)
    cases s.heap.get? (Int.toNat T) with
    | none => exact wpAny_pure q1
    | some o =>
      simp only [Option.isNone_some, Bool.false_eq_true, if_false]
      refine wpAny_bind (wpAny_field zr rfl (x := .bool fl) rfl ?_)
      cases fl with
      | true => exact wpAny_pure (q2 s.heap zr (Heap.SameBut.refl _ _))
      | false => exact wpAny_bind (wpAny_setField_rec zr (by simp) fun g1 z1 b1 => wpAny_pure (q2 g1 z1 b1))
structure ZNext (s : Shared) (z TI TO i1 i2 l1 l2 : Addr) (k1 k2 : Nat) (x y : Value) (h' : Heap) : Prop where
  zr : ∃ f0 fl, ZMark f0 ∧ ZipR h' z TI TO f0 fl
  to : ∃ a b, IsPair h' TO a b
  it1 : h'.IsTupleIter i1 l1 (k1 + 1)
  it2 : h'.IsTupleIter i2 l2 (k2 + 1)
  new : IsPair h' s.heap.objs.size x y
  size : h'.objs.size = s.heap.objs.size + 1
  keep : ∀ c o, c ≠ z → c ≠ TO → c ≠ i1 → c ≠ i2 → s.heap.get? c = some o → h'.get? c = some o
theorem zItem {z TI TO i1 i2 l1 l2 : Addr} {f0 : Value} {fl : Bool} {k1 k2 : Nat} {xs ys : Array Value} {x y a b : Value} {Q : Value → Shared → Prop} (ap : ZipApart z TI TO i1 i2 l1 l2) (zr : ZipR s.heap z TI TO f0 fl) (mk : ZMark f0)
    (ti : IsPair s.heap TI (.ref i1) (.ref i2)) (to : IsPair s.heap TO a b) (j1 : s.heap.IsTupleIter i1 l1 k1) (j2 : s.heap.IsTupleIter i2 l2 k2) (t1 : s.heap.IsTuple l1 xs) (t2 : s.heap.IsTuple l2 ys) (ex : xs[k1]? = some x) (ey : ys[k2]? = some y)
    (q : ∀ h', ZNext s z TI TO i1 i2 l1 l2 k1 k2 x y h' → Q (.ref s.heap.objs.size) { s with heap := h' }) :
    wpAny (model prog w) A (Builtin.«zip.__next__» ⟨[.ref z], []⟩) (fun fin s' => ∃ v, fin = .done (.ret v) ∧ Q v s') E s := by
  change wpAny _ _ (field (Value.ref z) 2 >>= _) _ _ _
  refine wpAny_bind (wpAny_field zr rfl (x := .bool false) rfl ?_)
  change wpAny _ _ (field (Value.ref z) 3 >>= _) _ _ _
  refine wpAny_bind (wpAny_field zr rfl (x := .ref TI) rfl ?_)
  refine wpAny_bind (wpAny_seqItems ti rfl ?_)
  change wpAny _ _ (Builtin.SmallTypes.ownedTupleIsFree (Value.ref z) >>= _) _ _ _
  refine wpAny_bind (zFree zr mk ?_ fun g1 z1 b1 => ?_)
  · simp only [if_true]
    refine wpAny_bind (wpAny_rule ?_)
    refine wpAny_bind (wpAny_field zr rfl (x := .ref TO) rfl ?_)
    refine wpAny_bind (wpAny_setField_rec zr (by simp) fun g1 z1 b1 => ?_)
    replace z1 : ZipR g1 z TI TO .ellipsis fl := z1
    refine wpAny_bind ?_
    simp only [List.zipIdx_cons, List.zipIdx_nil, List.forIn_cons, List.forIn_nil]
    refine wpAny_bind (wpAny_bind (wpAny_onRaise ?_))
    change wpAny _ _ (Builtin.SmallTypes.nextOf (Value.ref i1) >>= _) _ _ _
    refine wpAny_bind (RZ.nextOf_tuple_item (j1.extBut b1.extBut ap.i1z) (t1.extBut b1.extBut ap.l1z) ex fun g2 j1' b2 => wpAny_pure ?_)
    have to2 : IsPair g2 TO a b := b2.extBut _ _ ap.TOi1 (b1.extBut _ _ ap.TOz to)
    refine wpAny_bind (wpAny_seqItems to2 rfl ?_)
    refine wpAny_bind (wpAny_updateSeq_pair to2 fun g3 to3 b3 => ?_)
    replace to3 : IsPair g3 TO x b := to3
    refine wpAny_bind (wpAny_letGo (wpAny_pure ?_))
    refine wpAny_bind (wpAny_bind (wpAny_onRaise ?_))
    change wpAny _ _ (Builtin.SmallTypes.nextOf (Value.ref i2) >>= _) _ _ _
    refine wpAny_bind (RZ.nextOf_tuple_item (((j2.extBut b1.extBut ap.i2z).extBut b2.extBut ap.i12.symm).extBut b3.extBut ap.TOi2.symm) (((t2.extBut b1.extBut ap.l2z).extBut b2.extBut ap.l2i1).extBut b3.extBut ap.l2TO) ey fun g4 j2' b4 => wpAny_pure ?_)
    have to4 : IsPair g4 TO x b := b4.extBut _ _ ap.TOi2 to3
    refine wpAny_bind (wpAny_seqItems to4 rfl ?_)
    refine wpAny_bind (wpAny_updateSeq_pair to4 fun g5 to5 b5 => ?_)
    replace to5 : IsPair g5 TO x y := to5
    refine wpAny_bind (wpAny_letGo (wpAny_pure (wpAny_pure ?_)))
    refine wpAny_bind (wpAny_seqItems to5 rfl ?_)
    refine wpAny_bind (wpAny_newTuple ?_)
    have sz : g5.objs.size = s.heap.objs.size := by rw [b5.1, b4.1, b3.1, b2.1, b1.1]
    have z5 : ZipR g5 z TI TO .ellipsis fl := b5.extBut _ _ ap.TOz.symm (b4.extBut _ _ ap.i2z.symm (b3.extBut _ _ ap.TOz.symm (b2.extBut _ _ ap.i1z.symm z1)))
    have kp5 : ∀ c o, c ≠ z → c ≠ TO → c ≠ i1 → c ≠ i2 → s.heap.get? c = some o → g5.get? c = some o := fun c o n1 n2 n3 n4 e => b5.extBut _ _ n2 (b4.extBut _ _ n4 (b3.extBut _ _ n2 (b2.extBut _ _ n3 (b1.extBut _ _ n1 e))))
    have j1f : g5.IsTupleIter i1 l1 (k1 + 1) := ((j1'.extBut b3.extBut ap.TOi1.symm).extBut b4.extBut ap.i12).extBut b5.extBut ap.TOi1.symm
    have j2f : g5.IsTupleIter i2 l2 (k2 + 1) := j2'.extBut b5.extBut ap.TOi2.symm
    have zlt : z < g5.objs.size := Heap.lt_size z5
    change wpAny _ _ (Builtin.SmallTypes.ownedTupleHandOut (Value.ref z) (Value.ref g5.objs.size) >>= _) _ _ _
    refine wpAny_bind ?_
    unfold Builtin.SmallTypes.ownedTupleHandOut
    have z6 : ZipR (g5.push { cls := .type "tuple", data := .seq #[x, y] }) z TI TO .ellipsis fl := Heap.get?_push_of_some _ z5
    refine wpAny_bind (wpAny_setField_rec z6 (by simp) fun g7 z7 b7 => ?_)
    replace z7 : ZipR g7 z TI TO (rawInt g5.objs.size) fl := z7
    refine wpAny_setField_rec z7 (by simp) fun g8 z8 b8 => ?_
    replace z8 : ZipR g8 z TI TO (rawInt g5.objs.size) false := z8
    have up : ∀ c o, c ≠ z → g5.get? c = some o → g8.get? c = some o := fun c o n1 e => b8.extBut _ _ n1 (b7.extBut _ _ n1 (Heap.get?_push_of_some _ e))
    have nw : IsPair g8 g5.objs.size x y := b8.extBut _ _ (Nat.ne_of_gt zlt) (b7.extBut _ _ (Nat.ne_of_gt zlt) (Heap.get?_push_size _ rfl))
    have sz8 : g8.objs.size = g5.objs.size + 1 := by rw [b8.1, b7.1, Heap.size_push]
    refine wpAny_pure ⟨_, rfl, ?_⟩
    change Q (.ref g5.objs.size) _
    rw [sz] at nw sz8 ⊢
    exact q g8 ⟨⟨_, _, .inr ⟨_, rfl⟩, z8⟩, ⟨_, _, up _ _ ap.TOz to5⟩, j1f.at fun o e => up _ o ap.i1z e, j2f.at fun o e => up _ o ap.i2z e, nw, sz8, fun c o n1 n2 n3 n4 e => up c o n1 (kp5 c o n1 n2 n3 n4 e)⟩
  · simp only [Bool.false_eq_true, if_false]
    refine wpAny_bind ?_
    rw [← Array.forIn_toList]
    simp only [List.forIn_cons, List.forIn_nil]
    refine wpAny_bind (wpAny_bind (wpAny_holding ?_))
    change wpAny _ _ (Builtin.SmallTypes.nextOf (Value.ref i1) >>= _) _ _ _
    refine wpAny_bind (RZ.nextOf_tuple_item (s := { s with heap := g1 }) (j1.extBut b1.extBut ap.i1z) (t1.extBut b1.extBut ap.l1z) ex fun g2 j1' b2 => wpAny_pure ?_)
    refine wpAny_pure ?_
    refine wpAny_bind (wpAny_bind (wpAny_holding ?_))
    change wpAny _ _ (Builtin.SmallTypes.nextOf (Value.ref i2) >>= _) _ _ _
    refine wpAny_bind (RZ.nextOf_tuple_item (s := { s with heap := g2 }) ((j2.extBut b1.extBut ap.i2z).extBut b2.extBut ap.i12.symm) ((t2.extBut b1.extBut ap.l2z).extBut b2.extBut ap.l2i1) ey fun g3 j2' b3 => wpAny_pure ?_)
    refine wpAny_pure (wpAny_pure ?_)
    change wpAny _ _ (newTuple [x, y] >>= _) _ _ _
    refine wpAny_bind (wpAny_newTuple ?_)
    have sz : g3.objs.size = s.heap.objs.size := by rw [b3.1, b2.1, b1.1]
    have z3 : ZipR g3 z TI TO f0 true := b3.extBut _ _ ap.i2z.symm (b2.extBut _ _ ap.i1z.symm z1)
    have to3 : IsPair g3 TO a b := b3.extBut _ _ ap.TOi2 (b2.extBut _ _ ap.TOi1 (b1.extBut _ _ ap.TOz to))
    refine wpAny_pure ⟨_, rfl, ?_⟩
    change Q (.ref g3.objs.size) _
    have nw : IsPair (g3.push { cls := .type "tuple", data := .seq #[x, y] }) g3.objs.size x y := Heap.get?_push_size _ rfl
    have sz4 : (g3.push { cls := .type "tuple", data := .seq #[x, y] }).objs.size = g3.objs.size + 1 := Heap.size_push ..
    rw [sz] at nw sz4 ⊢
    exact q _ ⟨⟨_, _, mk, Heap.get?_push_of_some _ z3⟩, ⟨_, _, Heap.get?_push_of_some _ to3⟩, (j1'.extBut b3.extBut ap.i12).at fun o e => Heap.get?_push_of_some _ e, j2'.at fun o e => Heap.get?_push_of_some _ e, nw, sz4,
      fun c o n1 _ n3 n4 e => Heap.get?_push_of_some _ (b3.extBut _ _ n4 (b2.extBut _ _ n3 (b1.extBut _ _ n1 e)))⟩
theorem zEnd {z TI TO i1 i2 l1 l2 : Addr} {f0 : Value} {fl : Bool} {k1 k2 : Nat} {xs ys : Array Value} {a b : Value} {Q : Fin → Shared → Prop} (hh : A.handled = none) (ap : ZipApart z TI TO i1 i2 l1 l2) (zr : ZipR s.heap z TI TO f0 fl) (mk : ZMark f0)
    (ti : IsPair s.heap TI (.ref i1) (.ref i2)) (to : IsPair s.heap TO a b) (j1 : s.heap.IsTupleIter i1 l1 k1) (j2 : s.heap.IsTupleIter i2 l2 k2) (t1 : s.heap.IsTuple l1 xs) (t2 : s.heap.IsTuple l2 ys) (hend : xs[k1]? = none ∨ ys[k2]? = none)
    (q : ∀ h' e, (∀ c o, c ≠ z → c ≠ TO → c ≠ i1 → c ≠ i2 → s.heap.get? c = some o → h'.get? c = some o) → (∃ o, h'.get? e = some o ∧ o.cls = .type "StopIteration") → E (.ref e) { s with heap := h' }) :
    wpAny (model prog w) A (Builtin.«zip.__next__» ⟨[.ref z], []⟩) Q E s := by
  change wpAny _ _ (field (Value.ref z) 2 >>= _) _ _ _
  refine wpAny_bind (wpAny_field zr rfl (x := .bool false) rfl ?_)
  change wpAny _ _ (field (Value.ref z) 3 >>= _) _ _ _
  refine wpAny_bind (wpAny_field zr rfl (x := .ref TI) rfl ?_)
  refine wpAny_bind (wpAny_seqItems ti rfl ?_)
  change wpAny _ _ (Builtin.SmallTypes.ownedTupleIsFree (Value.ref z) >>= _) _ _ _
  refine wpAny_bind (zFree zr mk ?_ fun g1 z1 b1 => ?_)
  · simp only [if_true]
    refine wpAny_bind (wpAny_rule ?_)
    refine wpAny_bind (wpAny_field zr rfl (x := .ref TO) rfl ?_)
    refine wpAny_bind (wpAny_setField_rec zr (by simp) fun g1 z1 b1 => ?_)
    replace z1 : ZipR g1 z TI TO .ellipsis fl := z1
    refine wpAny_bind ?_
    simp only [List.zipIdx_cons, List.zipIdx_nil, List.forIn_cons, List.forIn_nil]
    refine wpAny_bind (wpAny_bind (wpAny_onRaise ?_))
    change wpAny _ _ (Builtin.SmallTypes.nextOf (Value.ref i1) >>= _) _ _ _
    cases ex : xs[k1]? with
    | none =>
      refine wpAny_bind (RZ.nextOf_tuple_end hh (j1.extBut b1.extBut ap.i1z) (t1.extBut b1.extBut ap.l1z) ex fun g2 e b2 he => ?_)
      obtain ⟨oe, e1, e2⟩ := he
      have z2 : ZipR g2 z TI TO .ellipsis fl := b2 _ _ ap.i1z.symm z1
      have ne : e ≠ z := fun x => by subst x; rw [z2] at e1; cases e1; simp at e2
      exact wpAny_setField_rec z2 (by simp) fun g3 _ b3 => q g3 e (fun c o n1 _ n3 _ x => b3.extBut _ _ n1 (b2 _ _ n3 (b1.extBut _ _ n1 x))) ⟨oe, b3.extBut _ _ ne e1, e2⟩
    | some x =>
      have ey : ys[k2]? = none := by
        rcases hend with h | h
        · rw [ex] at h; cases h
        · exact h
      refine wpAny_bind (RZ.nextOf_tuple_item (j1.extBut b1.extBut ap.i1z) (t1.extBut b1.extBut ap.l1z) ex fun g2 j1' b2 => wpAny_pure ?_)
      have to2 : IsPair g2 TO a b := b2.extBut _ _ ap.TOi1 (b1.extBut _ _ ap.TOz to)
      refine wpAny_bind (wpAny_seqItems to2 rfl ?_)
      refine wpAny_bind (wpAny_updateSeq_pair to2 fun g3 to3 b3 => ?_)
      refine wpAny_bind (wpAny_letGo (wpAny_pure ?_))
      refine wpAny_bind (wpAny_bind (wpAny_onRaise ?_))
      change wpAny _ _ (Builtin.SmallTypes.nextOf (Value.ref i2) >>= _) _ _ _
      refine wpAny_bind (RZ.nextOf_tuple_end hh (((j2.extBut b1.extBut ap.i2z).extBut b2.extBut ap.i12.symm).extBut b3.extBut ap.TOi2.symm) (((t2.extBut b1.extBut ap.l2z).extBut b2.extBut ap.l2i1).extBut b3.extBut ap.l2TO) ey fun g4 e b4 he => ?_)
      obtain ⟨oe, e1, e2⟩ := he
      have z4 : ZipR g4 z TI TO .ellipsis fl := b4 _ _ ap.i2z.symm (b3.extBut _ _ ap.TOz.symm (b2.extBut _ _ ap.i1z.symm z1))
      have ne : e ≠ z := fun x => by subst x; rw [z4] at e1; cases e1; simp at e2
      exact wpAny_setField_rec z4 (by simp) fun g5 _ b5 => q g5 e (fun c o n1 n2 n3 n4 x => b5.extBut _ _ n1 (b4 _ _ n4 (b3.extBut _ _ n2 (b2.extBut _ _ n3 (b1.extBut _ _ n1 x))))) ⟨oe, b5.extBut _ _ ne e1, e2⟩
  · simp only [Bool.false_eq_true, if_false]
    refine wpAny_bind ?_
    rw [← Array.forIn_toList]
    simp only [List.forIn_cons, List.forIn_nil]
    refine wpAny_bind (wpAny_bind (wpAny_holding ?_))
    change wpAny _ _ (Builtin.SmallTypes.nextOf (Value.ref i1) >>= _) _ _ _
    cases ex : xs[k1]? with
    | none =>
      refine wpAny_bind (RZ.nextOf_tuple_end (s := { s with heap := g1 }) hh (j1.extBut b1.extBut ap.i1z) (t1.extBut b1.extBut ap.l1z) ex fun g2 e b2 he => ?_)
      exact q g2 e (fun c o n1 _ n3 _ x => b2 _ _ n3 (b1.extBut _ _ n1 x)) he
    | some x =>
      have ey : ys[k2]? = none := by
        rcases hend with h | h
        · rw [ex] at h; cases h
        · exact h
      refine wpAny_bind (RZ.nextOf_tuple_item (s := { s with heap := g1 }) (j1.extBut b1.extBut ap.i1z) (t1.extBut b1.extBut ap.l1z) ex fun g2 j1' b2 => wpAny_pure ?_)
      refine wpAny_pure ?_
      refine wpAny_bind (wpAny_bind (wpAny_holding ?_))
      change wpAny _ _ (Builtin.SmallTypes.nextOf (Value.ref i2) >>= _) _ _ _
      refine wpAny_bind (RZ.nextOf_tuple_end (s := { s with heap := g2 }) hh ((j2.extBut b1.extBut ap.i2z).extBut b2.extBut ap.i12.symm) ((t2.extBut b1.extBut ap.l2z).extBut b2.extBut ap.l2i1) ey fun g3 e b3 he => ?_)
      exact q g3 e (fun c o n1 _ n3 n4 x => b3 _ _ n4 (b2.extBut _ _ n3 (b1.extBut _ _ n1 x))) he
theorem zNext {z TI TO i1 i2 l1 l2 : Addr} {f0 : Value} {fl : Bool} {k1 k2 : Nat} {xs ys : Array Value} {x y a b : Value} {Q : Option Value → Shared → Prop} (ap : ZipApart z TI TO i1 i2 l1 l2) (zr : ZipR s.heap z TI TO f0 fl) (mk : ZMark f0)
    (ti : IsPair s.heap TI (.ref i1) (.ref i2)) (to : IsPair s.heap TO a b) (j1 : s.heap.IsTupleIter i1 l1 k1) (j2 : s.heap.IsTupleIter i2 l2 k2) (t1 : s.heap.IsTuple l1 xs) (t2 : s.heap.IsTuple l2 ys) (ex : xs[k1]? = some x) (ey : ys[k2]? = some y)
    (q : ∀ h', ZNext s z TI TO i1 i2 l1 l2 k1 k2 x y h' → Q (some (.ref s.heap.objs.size)) { s with heap := h' }) : wpAny (model prog w) A (pyNext (.ref z)) Q E s := by
  have ty : s.TypeIs (.ref z) "zip" := ⟨_, zr, rfl⟩
  unfold pyNext
  exact wpAny_bind (wpAny_attempt (wpAny_callSpecial?_slot (name := Str.ofString "__next__") ty F.slot_zip_next (wpAny_call_entry F.slot_zip_next ty F.entry_zip_next (zItem ap zr mk ti to j1 j2 t1 t2 ex ey fun h' n => wpAny_pure (q h' n)) (F.args_zip_next_1 _))))
theorem zStop {z TI TO i1 i2 l1 l2 : Addr} {f0 : Value} {fl : Bool} {k1 k2 : Nat} {xs ys : Array Value} {a b : Value} {Q : Option Value → Shared → Prop} (hh : A.handled = none) (ap : ZipApart z TI TO i1 i2 l1 l2) (zr : ZipR s.heap z TI TO f0 fl) (mk : ZMark f0)
    (ti : IsPair s.heap TI (.ref i1) (.ref i2)) (to : IsPair s.heap TO a b) (j1 : s.heap.IsTupleIter i1 l1 k1) (j2 : s.heap.IsTupleIter i2 l2 k2) (t1 : s.heap.IsTuple l1 xs) (t2 : s.heap.IsTuple l2 ys) (hend : xs[k1]? = none ∨ ys[k2]? = none)
    (q : ∀ h', (∀ c o, c ≠ z → c ≠ TO → c ≠ i1 → c ≠ i2 → s.heap.get? c = some o → h'.get? c = some o) → Q none { s with heap := h' }) : wpAny (model prog w) A (pyNext (.ref z)) Q E s := by
  have ty : s.TypeIs (.ref z) "zip" := ⟨_, zr, rfl⟩
  unfold pyNext
  refine wpAny_bind (wpAny_attempt (wpAny_callSpecial?_slot (name := Str.ofString "__next__") ty F.slot_zip_next (wpAny_call_entry F.slot_zip_next ty F.entry_zip_next (zEnd hh ap zr mk ti to j1 j2 t1 t2 hend fun h' e kp he => ?_) (F.args_zip_next_1 _))))
  obtain ⟨o, e1, e2⟩ := he
  exact wpAny_bind (wpAny_isInstance (T := "StopIteration") (b := true) ⟨o, e1, e2⟩ isSubtype_stop (wpAny_pure (q _ kp)))
theorem zGo {tg : Expr} {z TI TO T : Addr} {f0 : Value} {fl : Bool} {Q : Unit → Shared → Prop} (zr : ZipR s.heap z TI TO f0 fl) (mk : ZMark f0) (q : ∀ h', (∃ f0 fl, ZMark f0 ∧ ZipR h' z TI TO f0 fl) → Heap.SameBut z s.heap h' → Q () { s with heap := h' }) :
    wpAny (model prog w) A (letOwnedTupleGo tg (.ref z) (.ref T)) Q E s := by
  have same : Q () s := q s.heap ⟨f0, fl, mk, zr⟩ (Heap.SameBut.refl _ _)
  unfold letOwnedTupleGo
  cases tg <;> first
    | exact wpAny_pure same
    | (refine wpAny_bind (wpAny_load zr ?_)
       dsimp only
       split
       · refine wpAny_bind (wpAny_rule ?_)
         change wpAny _ _ (setField (Value.ref z) 0 .none) Q E s
         exact wpAny_setField_rec zr (by simp) fun h' z1 b1 => q h' ⟨.none, fl, .inl rfl, z1⟩ b1
       · exact wpAny_pure same)
theorem zIter {z TI TO : Addr} {f0 : Value} {fl : Bool} {Q : Value → Shared → Prop} (zr : ZipR s.heap z TI TO f0 fl) (q : Q (.ref z) s) : wpAny (model prog w) A (pyIter (.ref z)) Q E s := by
  have ty : s.TypeIs (.ref z) "zip" := ⟨_, zr, rfl⟩
  refine wpAny_pyIter_slot ty F.slot_zip_iter (wpAny_call_entry F.slot_zip_iter ty F.entry_zip_iter ?_ (F.args_zip_iter_1 _))
  exact wpAny_pure ⟨_, rfl, "zip", _, ty, F.slot_zip_next.lookup, q⟩
end
def ItzF (K : PySem.W.Frag) (a b : Addr) : It where
  go := fun i H => ∃ (xs ys : List V) (x y : V), SqT K H a xs ∧ SqT K H b ys ∧ xs[i]? = some x ∧ ys[i]? = some y
  yld := fun i H v H' => ∃ T o x y, v = .ref T ∧ H T = none ∧ o.dict = none ∧ H' = upd H T (.frz o (.tup [x, y])) ∧ (∀ xs, SqT K H a xs → xs[i]? = some x) ∧ ∀ ys, SqT K H b ys → ys[i]? = some y
  stop := fun i H => ∃ xs ys : List V, SqT K H a xs ∧ SqT K H b ys ∧ (xs.length ≤ i ∨ ys.length ≤ i)
structure ZSt (z TI TO i1 i2 a b : Addr) (i : Nat) (h : Heap) : Prop where
  zr : ∃ f0 fl, ZMark f0 ∧ ZipR h z TI TO f0 fl
  ti : IsPair h TI (.ref i1) (.ref i2)
  to : ∃ x y, IsPair h TO x y
  it1 : h.IsTupleIter i1 a i
  it2 : h.IsTupleIter i2 b i
theorem ZSt.mono {z TI TO i1 i2 a b : Addr} {i : Nat} {h h' : Heap} (t : ZSt z TI TO i1 i2 a b i h) (k : ∀ c ∈ [z, TI, TO, i1, i2], ∀ o, h.get? c = some o → h'.get? c = some o) : ZSt z TI TO i1 i2 a b i h' := by
  obtain ⟨⟨f0, fl, mk, zr⟩, ti, ⟨x, y, to⟩, j1, j2⟩ := t
  exact ⟨⟨f0, fl, mk, k z (by simp) _ zr⟩, k TI (by simp) _ ti, ⟨x, y, k TO (by simp) _ to⟩, j1.at fun o q => k i1 (by simp) o q, j2.at fun o q => k i2 (by simp) o q⟩
theorem zTurn {P : Program} {w : World} {K : PySem.W.Frag} {tg : Expr} {a b z TI TO i1 i2 : Addr} (ap : ZipApart z TI TO i1 i2 a b) : Turn P w K tg (ItzF K a b) [z, TI, TO, i1, i2] z (ZSt z TI TO i1 i2 a b) where
  mem := by simp
  obj := fun i h t c hc => by
    obtain ⟨⟨f0, fl, mk, zr⟩, ti, ⟨x, y, to⟩, ⟨o1, e1, _, d1⟩, ⟨o2, e2, _, d2⟩⟩ := t
    simp only [List.mem_cons, List.not_mem_nil, or_false] at hc
    rcases hc with rfl | rfl | rfl | rfl | rfl
    · exact ⟨_, zr, fun v q => nomatch q⟩
    · exact ⟨_, ti, fun v q => nomatch q⟩
    · exact ⟨_, to, fun v q => nomatch q⟩
    · exact ⟨o1, e1, fun v q => by rw [d1] at q; cases q⟩
    · exact ⟨o2, e2, fun v q => by rw [d2] at q; cases q⟩
  keep := fun i h h' t k => t.mono k
  item := by
    intro X hP hw hK hc i pins s σ H E I hf t hg
    subst hP hw hK
    obtain ⟨⟨f0, fl, mk, zr⟩, ti, ⟨x0, y0, to⟩, j1, j2⟩ := t
    obtain ⟨xs, ys, x, y, sx, sy, ex, ey⟩ := hg
    obtain ⟨its, rv, t1, _⟩ := I.tuple sx
    obtain ⟨its2, rv2, t2, _⟩ := I.tuple sy
    obtain ⟨u, hu, ru⟩ := rv.get ex
    obtain ⟨u2, hu2, ru2⟩ := rv2.get ey
    have zlt : z < s.heap.objs.size := Heap.lt_size zr
    have old : ∀ c ∈ [z, TI, TO, i1, i2], c < s.heap.objs.size := fun c hcm => by
      simp only [List.mem_cons, List.not_mem_nil, or_false] at hcm
      rcases hcm with rfl | rfl | rfl | rfl | rfl
      · exact zlt
      · exact Heap.lt_size ti
      · exact Heap.lt_size to
      · obtain ⟨_, e1, _⟩ := j1; exact Heap.lt_size e1
      · obtain ⟨_, e1, _⟩ := j2; exact Heap.lt_size e1
    refine zNext ap zr mk ti to j1 j2 t1 t2 (x := u) (y := u2) (by simpa using hu) (by simpa using hu2) fun h' n => ?_
    obtain ⟨g0, gl, gm, gz⟩ := n.zr
    refine ⟨_, rfl, zGo (s := { s with heap := h' }) gz gm fun h'' n2 sb => ?_⟩
    have eT : h''.get? s.heap.objs.size = some { cls := .type "tuple", data := .seq #[u, u2] } := (sb.2 _ (Nat.ne_of_gt zlt)).trans n.new
    have new : ObjOk X.prog X.w (upd H s.heap.objs.size (.frz { cls := .type "tuple", data := .seq #[u, u2] } (.tup [x, y]))) h'' s.heap.objs.size (.frz { cls := .type "tuple", data := .seq #[u, u2] } (.tup [x, y])) :=
      ⟨eT, by show 2 ≤ sizeLine; decide, [u, u2], .cons ru (.cons ru2 .nil), ⟨_, eT, rfl, _, rfl⟩⟩
    have I1 : Inv X pins σ (upd H s.heap.objs.size (.frz { cls := .type "tuple", data := .seq #[u, u2] } (.tup [x, y]))) { s with heap := h'' } :=
      I.turnedNew (t' := s.toks) (ch := [z, TI, TO, i1, i2]) (fun c o hb q => (sb.2 c (fun e => hb (by simp [e]))).trans (n.keep c o (fun e => hb (by simp [e])) (fun e => hb (by simp [e])) (fun e => hb (by simp [e])) (fun e => hb (by simp [e])) q)) hf (Nat.le_refl _) new
    obtain ⟨p, p', npair⟩ := n.to
    refine ⟨.ref s.heap.objs.size, _, I1, rfl, ⟨_, _, x, y, rfl, I.hok.fresh (Nat.le_refl _), rfl, rfl, fun l hl => by rw [I.tuple_inj hl sx]; exact ex, fun l hl => by rw [I.tuple_inj hl sy]; exact ey⟩, ⟨n2, ?_, ⟨p, p', ?_⟩, ?_, ?_⟩, fun c hcm => ?_⟩
    · exact (sb.2 _ ap.TIz).trans (n.keep _ _ ap.TIz ap.TITO ap.TIi1 ap.TIi2 ti)
    · exact (sb.2 _ ap.TOz).trans npair
    · exact n.it1.at fun o q => (sb.2 _ ap.i1z).trans q
    · exact n.it2.at fun o q => (sb.2 _ ap.i2z).trans q
    · rw [upd_ne (Nat.ne_of_lt (old c hcm))]
      exact (hf c hcm).1
  done := by
    intro X hP hw hK hc i pins s σ H E I hf t hg
    subst hP hw hK
    obtain ⟨⟨f0, fl, mk, zr⟩, ti, ⟨x0, y0, to⟩, j1, j2⟩ := t
    obtain ⟨xs, ys, sx, sy, hend⟩ := hg
    obtain ⟨its, rv, t1, _⟩ := I.tuple sx
    obtain ⟨its2, rv2, t2, _⟩ := I.tuple sy
    have l1 := rv.length
    have l2 := rv2.length
    have he : its.toArray[i]? = none ∨ its2.toArray[i]? = none := hend.imp (fun q => by simp; omega) (fun q => by simp; omega)
    exact zStop (I.ok.hd hc) ap zr mk ti to j1 j2 t1 t2 he fun h' hk => ⟨rfl, I.turnedL (t' := s.toks) (ch := [z, TI, TO, i1, i2]) (fun c o hb q => hk c o (fun e => hb (by simp [e])) (fun e => hb (by simp [e])) (fun e => hb (by simp [e])) (fun e => hb (by simp [e])) q) hf⟩
  self := fun A i s Q E t h => by
    obtain ⟨f0, fl, mk, zr⟩ := t.zr
    exact zIter zr h
def iZipF (K : PySem.W.Frag) (ta : TA) : TI := fun σ H R => ta σ H fun vs H1 => ∃ a b xs ys, vs = [.ref a, .ref b] ∧ SqT K H1 a xs ∧ SqT K H1 b ys ∧ (xs.length ≤ sizeLine → R (ItzF K a b) H1)
theorem pi_zipF {X : Cx} {tg e e2 : Expr} {ta : TA} {p pos : Pos} (hg : Gl X "zip") (hm : X.mg "zip" = none) (ha : PA X [e, e2] ta) (hs : starEach [e, e2] X.env = (false, eval e X.env) :: starEach [e2] X.env) (hpl : (backTo pos (starEach [e2] X.env)).any (·.1) = false) :
    PI X tg (.Call (.Name "zip" p) [e, e2] [] pos) (iZipF X.K ta) := by
  refine ⟨fun pins s σ H R I h => ?_⟩
  refine Call_ (ld_blt I hg hm PyProof.Rows.boot_zip (PyProof.Rows.callWith_type1 (thn (ha.run pos pins s σ H _ I h) fun us s1 ⟨vs, H1, I1, r1, q1⟩ => ?_) hs hpl))
  obtain ⟨a, b, xs, ys, ex, sx, sy, q⟩ := q1
  subst ex
  cases r1 with
  | cons r rr =>
    cases rr with
    | cons r' rr =>
      cases rr
      cases r
      cases r'
      obtain ⟨its, rv, t1, hz1⟩ := I1.tuple sx
      obtain ⟨its2, rv2, t2, _⟩ := I1.tuple sy
      obtain ⟨o1, f1, _⟩ := id t1
      obtain ⟨o2, f2, _⟩ := id t2
      refine RZ.call_zipT (show s1.heap.IsTuple a its.toArray from t1) (show s1.heap.IsTuple b its2.toArray from t2) fun h' hz hTI hTO h1 h2 hsz hk => wpAny_pyIter_zip hz ?_
      have I2 : Inv X pins σ H1 { s1 with heap := h' } := I1.kept (t' := s1.toks) hk
      refine ⟨s1.heap.objs.size + 4, [s1.heap.objs.size + 4, s1.heap.objs.size + 2, s1.heap.objs.size + 3, s1.heap.objs.size, s1.heap.objs.size + 1], _, _, H1, rfl, I2, zTurn (PySem.W.ktu_apart s1.heap.objs.size a b (Heap.lt_size f1) (Heap.lt_size f2)), ⟨⟨_, _, .inl rfl, hz⟩, hTI, ⟨_, _, hTO⟩, h1, h2⟩, fun c hcm => ?_, q hz1⟩
      have hle : s1.heap.objs.size ≤ c := by
        simp only [List.mem_cons, List.not_mem_nil, or_false] at hcm
        rcases hcm with e | e | e | e | e <;> rw [e] <;> first | exact Nat.le_refl _ | exact Nat.le_add_right _ _
      exact I1.fpOk hle (I1.hok.fresh hle)
end RP
end
section
set_option Elab.async false
set_option linter.all false
set_option maxRecDepth 100000
namespace RP
open PySem L2
section
variable {X : Cx} {c : Call} {Wx : WX} {a b e : Expr} {ma mb me : ME} {pos : Pos}
def tOs (K : PySem.W.Frag) (c : Call) (Wx : WX) (o : Option ME) : TO := fun σ H Q => ∃ W st env, Sim K H W st ∧ EnvR K H W σ env ∧ Post K Wx σ H W (optI o c env st) fun i st' => ∀ H' W', Step H W H' W' → Sim K H' W' st' → Q i H'
theorem PO.weak {e : Option Expr} {t t' : TO} (h : PO X e t) (hw : ∀ σ H Q, t' σ H Q → t σ H Q) : PO X e t' := ⟨fun pins s σ H Q I q => h.run pins s σ H Q I (hw _ _ _ q)⟩
theorem dONone : PO X none (tOs X.K c Wx none) := PO.weak po_none fun σ H Q h => by
  obtain ⟨W, st, env, S, E, p⟩ := h
  exact p H W (Step.refl _ _) S
theorem dOSome (ha : PE X a (tE X.K c Wx ma)) : PO X (some a) (tOs X.K c Wx (some ma)) := PO.weak (po_some ha) fun σ H Q h => by
  obtain ⟨W, st, env, S, E, p⟩ := h
  refine ⟨W, st, env, S, E, p.bind.mono fun dx st1 p1 x H1 W1 T1 S1 R1 => ?_⟩
  split at p1
  · exact ⟨_, rep_int R1, p1 H1 W1 T1 S1⟩
  · exact (show False from p1).elim
theorem dSlice {lo hi : Option Expr} {ml mh : Option ME} {p2 : Pos} (ha : PE X a (tE X.K c Wx ma)) (hl : PO X lo (tOs X.K c Wx ml)) (hh : PO X hi (tOs X.K c Wx mh)) : PE X (.Subscript a (.Slice lo hi none p2) pos) (tE X.K c Wx (mSlice ma ml mh)) :=
  PE.weak (pe_slice sl_L ha hl hh) fun σ H Q h => by
    obtain ⟨W, st, env, S, E, p⟩ := h
    refine ⟨W, st, env, S, E, p.bind.mono fun dx st1 p1 x H1 W1 T1 S1 R1 => ⟨W1, st1, env, S1, E.step S T1, (p1.bind.at T1).mono fun i st2 p2 H2 W2 T2 S2 => ⟨W2, st2, env, S2, E.step S (T1.trans T2), (p2.bind.at (T1.trans T2)).mono fun j st3 p3 H3 W3 T3 S3 => ?_⟩⟩⟩
    obtain ⟨d, e, q⟩ := p3.of
    exact ⟨W3, st3, dx, d, S3, R1.step S1 (T2.trans T3), e, fun v H' T S' R => q v H' W3 (((T1.trans T2).trans T3).trans T) S' R⟩

structure Wk (K : PySem.W.Frag) (J : It) (gd : Option Nat) (xs : List D) (H0 : Hp) (W0 : Wd) : Prop where
  go : ∀ (i : Nat) (H : Hp) (W : Wd) (st : St), Step H0 W0 H W → Sim K H W st → gOk gd xs st → i < xs.length → J.go i H
  yld : ∀ (i : Nat) (H : Hp) (W : Wd) (st : St) (d : D) (x : V) (H' : Hp), Step H0 W0 H W → Sim K H W st → gOk gd xs st → xs[i]? = some d → J.yld i H x H' → Step H W H' W ∧ Sim K H' W st ∧ Rep K H' W x d
  stop : ∀ (i : Nat) (H : Hp) (W : Wd) (st : St), Step H0 W0 H W → Sim K H W st → gOk gd xs st → i = xs.length → J.stop i H
def tIs (K : PySem.W.Frag) (c : Call) (Wx : WX) (m : MI) : TI := fun σ H R => ∃ W st env, Sim K H W st ∧ EnvR K H W σ env ∧ Post K Wx σ H W (m c env st) fun p st' => ∀ J H' W', Step H W H' W' → Sim K H' W' st' → Wk K J p.2 p.1 H' W' → p.1.length ≤ sizeLine → R J H'
theorem PI.weak {tg : Expr} {w w' : TI} (h : PI X tg e w) (hw : ∀ σ H R, w' σ H R → w σ H R) : PI X tg e w' := ⟨fun pins s σ H R I q => h.run pins s σ H R I (hw _ _ _ q)⟩
theorem wk_list {K : PySem.W.Frag} {H0 : Hp} {W0 : Wd} {st0 : St} {l : Addr} {xs : List V} {ds : List D} (S0 : Sim K H0 W0 st0) (h : H0 l = some (.lst xs)) (n1 : l ∉ W0.rho) (r : Reps K H0 W0 xs ds) : Wk K (Itl K l) none ds H0 W0 where
  go := fun i H W st T S _ hi => by
    have e := r.length
    exact ⟨xs, xs[i]'(by omega), SqL.of (T.keep _ _ h n1).1, by simp⟩
  yld := fun i H W st d x H' T S _ hd y => by
    obtain ⟨e1, e2⟩ := y
    obtain ⟨v, f1, f2⟩ := r.get hd
    have := e2 xs (SqL.of (T.keep _ _ h n1).1)
    rw [f1] at this; cases this
    subst e1
    exact ⟨Step.refl _ _, S, f2.step S0 T⟩
  stop := fun i H W st T S _ hi => ⟨xs, SqL.of (T.keep _ _ h n1).1, by rw [r.length]; omega⟩
theorem wk_tup {K : PySem.W.Frag} {H0 : Hp} {W0 : Wd} {st0 : St} {l : Addr} {xs : List V} {ds : List D} (S0 : Sim K H0 W0 st0) (h : Tp K H0 l xs) (r : Reps K H0 W0 xs ds) : Wk K (Itt K l) none ds H0 W0 where
  go := fun i H W st T S _ hi => by
    have e := r.length
    exact ⟨xs, xs[i]'(by omega), (Tp.step S0 T h).sq, by simp⟩
  yld := fun i H W st d x H' T S _ hd y => by
    obtain ⟨e1, e2⟩ := y
    obtain ⟨v, f1, f2⟩ := r.get hd
    have := e2 xs (Tp.step S0 T h).sq
    rw [f1] at this; cases this
    subst e1
    exact ⟨Step.refl _ _, S, f2.step S0 T⟩
  stop := fun i H W st T S _ hi => ⟨xs, (Tp.step S0 T h).sq, by rw [r.length]; omega⟩
theorem wk_cell {K : PySem.W.Frag} {H0 : Hp} {W0 : Wd} {l : Addr} {n : Nat} {ds : List D} (hn : W0.rho[n]? = some l) : Wk K (Itl K l) (some n) ds H0 W0 where
  go := fun i H W st T S g hi => by
    obtain ⟨xs, h, r⟩ := S.cell n l _ (T.rho hn) (g n rfl)
    have e := r.length
    exact ⟨xs, xs[i]'(by omega), SqL.of h, by simp⟩
  yld := fun i H W st d x H' T S g hd y => by
    obtain ⟨xs, h, r⟩ := S.cell n l _ (T.rho hn) (g n rfl)
    obtain ⟨e1, e2⟩ := y
    obtain ⟨v, f1, f2⟩ := r.get hd
    have := e2 xs (SqL.of h)
    rw [f1] at this; cases this
    subst e1
    exact ⟨Step.refl _ _, S, f2⟩
  stop := fun i H W st T S g hi => by
    obtain ⟨xs, h, r⟩ := S.cell n l _ (T.rho hn) (g n rfl)
    exact ⟨xs, SqL.of h, by rw [r.length]; omega⟩
theorem wk_range {K : PySem.W.Frag} {H0 : Hp} {W0 : Wd} (lo : Int) (n : Nat) : Wk K (Itr lo n) none ((List.range n).map fun (k : Nat) => .int (lo + k)) H0 W0 where
  go := fun i H W st T S _ hi => by
    show i < n
    simpa using hi
  yld := fun i H W st d x H' T S _ hd y => by
    obtain ⟨e1, e2⟩ := y
    subst e1
    refine ⟨Step.refl _ _, S, ?_⟩
    rw [List.getElem?_map] at hd
    obtain ⟨k, f1, rfl⟩ := Option.map_eq_some_iff.mp hd
    have : i = k := by
      rw [List.getElem?_range] at f1
      · exact Option.some.inj f1
      · have := (List.getElem?_eq_some_iff.mp f1).1
        simpa using this
    subst this
    rw [e2]
    exact .int _
  stop := fun i H W st T S _ hi => by
    show n ≤ i
    simp at hi
    omega
theorem wk_str {K : PySem.W.Frag} {H0 : Hp} {W0 : Wd} (z : Str) : Wk K (Its z) none (z.cps.toList.map fun c => .str ⟨#[c]⟩) H0 W0 where
  go := fun i H W st T S _ hi => by
    show i < z.cps.size
    simpa using hi
  yld := fun i H W st d x H' T S _ hd y => by
    obtain ⟨e1, ch, e2, e3⟩ := y
    subst e1
    refine ⟨Step.refl _ _, S, ?_⟩
    rw [List.getElem?_map] at hd
    obtain ⟨k, f1, rfl⟩ := Option.map_eq_some_iff.mp hd
    have : ch = k := by
      have f2 : z.cps[i]? = some k := by simpa using f1
      rw [e2] at f2; exact Option.some.inj f2
    subst this
    rw [e3]
    exact .str _
  stop := fun i H W st T S _ hi => by
    show z.cps.size ≤ i
    simp at hi
    omega
theorem wk_zip {K : PySem.W.Frag} {H0 : Hp} {W0 : Wd} {st0 : St} {a b : Addr} {xs ys : List V} {ds es : List D} (S0 : Sim K H0 W0 st0) (h1 : Tp K H0 a xs) (r1 : Reps K H0 W0 xs ds) (h2 : Tp K H0 b ys) (r2 : Reps K H0 W0 ys es) : Wk K (ItzF K a b) none (List.zipWith (fun x y => D.tup [x, y]) ds es) H0 W0 where
  go := fun i H W st T S _ hi => by
    have e1 := r1.length
    have e2 := r2.length
    rw [List.length_zipWith] at hi
    exact ⟨xs, ys, xs[i]'(by omega), ys[i]'(by omega), (Tp.step S0 T h1).sq, (Tp.step S0 T h2).sq, by simp, by simp⟩
  yld := fun i H W st d x H' T S _ hd y => by
    obtain ⟨p, o, u, v, rfl, hp, ho, rfl, f1, f2⟩ := y
    rw [List.getElem?_zipWith] at hd
    have g1 := f1 xs (Tp.step S0 T h1).sq
    have g2 := f2 ys (Tp.step S0 T h2).sq
    obtain ⟨d1, k1, q1⟩ := r1.getV g1
    obtain ⟨d2, k2, q2⟩ := r2.getV g2
    rw [k1, k2] at hd
    cases hd
    have T1 := Step.temp S (o := .frz o (.tup [u, v])) hp
    exact ⟨T1, S.temp hp, .tup (.inl ⟨o, upd_same, ho⟩) (.cons ((q1.step S0 T).step S T1) (.cons ((q2.step S0 T).step S T1) .nil))⟩
  stop := fun i H W st T S _ hi => by
    have e1 := r1.length
    have e2 := r2.length
    rw [List.length_zipWith] at hi
    exact ⟨xs, ys, (Tp.step S0 T h1).sq, (Tp.step S0 T h2).sq, by omega⟩
end
section
open PySem.Spec PyProof.Rows
variable {X : Cx}
theorem pi_any {tg l : Expr} {tl : TE} (hl : PE X l tl) : PI X tg l (fun σ H R => tl σ H fun x H1 => (∃ a xs, x = .ref a ∧ SqL X.K H1 a xs ∧ (xs.length ≤ sizeLine → R (Itl X.K a) H1)) ∨ (∃ a xs, x = .ref a ∧ SqT X.K H1 a xs ∧ (xs.length ≤ sizeLine → R (Itt X.K a) H1)) ∨ ∃ z, x = .str z ∧ R (Its z) H1) := by
  refine ⟨fun pins s σ H R I h => ?_⟩
  refine thn (hl.run pins s σ H _ I h) fun v s1 ⟨x, H1, I1, r1, q1⟩ => ?_
  rcases q1 with ⟨a, xs, e, hq, q⟩ | ⟨a, xs, e, hq, q⟩ | ⟨z, e, q⟩
  · subst e
    cases r1
    obtain ⟨its, rv, p, hz⟩ := I1.list hq
    refine wpAny_pyIter_list p.isList ?_
    refine ⟨s1.heap.objs.size, [s1.heap.objs.size], _, _, H1, rfl, I1.kept (t' := s1.toks) fun b o e => Heap.get?_push_of_some _ e, turn_list a _, ⟨_, Heap.get?_push_size _ rfl, rfl, rfl⟩, fun b hb => ?_, q hz⟩
    have e : b = s1.heap.objs.size := by simpa using hb
    subst e
    exact I1.fpOk (Nat.le_refl _) (I1.hok.fresh (Nat.le_refl _))
  · subst e
    cases r1
    obtain ⟨its, rv, p, hz⟩ := I1.tuple hq
    refine wpAny_pyIter_tuple (show s1.heap.IsTuple a its.toArray from p) ?_
    refine ⟨s1.heap.objs.size, [s1.heap.objs.size], _, _, H1, rfl, I1.kept (t' := s1.toks) fun b o e => Heap.get?_push_of_some _ e, turn_tuple a _, ⟨_, Heap.get?_push_size _ rfl, rfl, rfl⟩, fun b hb => ?_, q hz⟩
    have e : b = s1.heap.objs.size := by simpa using hb
    subst e
    exact I1.fpOk (Nat.le_refl _) (I1.hok.fresh (Nat.le_refl _))
  · subst e
    obtain ⟨t, rfl⟩ := r1
    cases ha : z.cps.all (· < 128)
    · exact wpAny_pyIter_wide ha (pi_one (tk := s1.toks) I1 _ (turn_str _ z t "str_iterator" (.inr rfl)) ⟨_, Heap.get?_push_size _ rfl, rfl, rfl⟩ q)
    · exact wpAny_pyIter_ascii ha (pi_one (tk := s1.toks) I1 _ (turn_str _ z t "str_ascii_iterator" (.inl rfl)) ⟨_, Heap.get?_push_size _ rfl, rfl, rfl⟩ q)
end
section
variable {X : Cx} {c : Call} {Wx : WX} {a b e : Expr} {ma mb me : ME} {pos : Pos}
theorem iVald {tg : Expr} (ha : PE X a (tE X.K c Wx ma)) : PI X tg a (tIs X.K c Wx (iVal ma)) := PI.weak (pi_any ha) fun σ H R h => by
  obtain ⟨W, st, env, S, E, p⟩ := h
  refine ⟨W, st, env, S, E, p.bind.mono fun dx st1 p1 x H1 W1 T1 S1 R1 => ?_⟩
  obtain ⟨pr, e, q⟩ := p1.of
  unfold itD at e
  split at e
  · cases e
    cases R1 with
    | tup h r => exact .inr (.inl ⟨_, _, rfl, h.sq, fun hz => q _ H1 W1 T1 S1 (wk_tup S1 h r) (by rw [← r.length]; exact hz)⟩)
  · cases e
    cases R1 with
    | lst h n1 n2 r => exact .inl ⟨_, _, rfl, SqL.of h, fun hz => q _ H1 W1 T1 S1 (wk_list S1 h n1 r) (by rw [← r.length]; exact hz)⟩
  · split at e
    · cases e
      rename_i z hz
      have bl := bigLine
      exact .inr (.inr ⟨_, rep_str R1, q _ H1 W1 T1 S1 (wk_str _) (by simp only [List.length_map, Array.length_toList]; unfold Str.length at hz; omega)⟩)
    · cases e
  · split at e
    · rename_i hn
      cases e
      cases R1 with
      | ref hr =>
        obtain ⟨vs, h, r⟩ := S1.cell _ _ _ hr hn
        exact .inl ⟨_, _, rfl, SqL.of h, fun hz => q _ H1 W1 T1 S1 (wk_cell hr) (by rw [← r.length]; exact hz)⟩
    · cases e
  · cases e
theorem iZipD {tg : Expr} {p : Pos} (hg : Gl X "zip") (hm : X.mg "zip" = none) (ha : PA X [a, b] (tAs X.K c Wx (mArgs [ma, mb]))) (hs : starEach [a, b] X.env = (false, eval a X.env) :: starEach [b] X.env) (hpl : (backTo pos (starEach [b] X.env)).any (·.1) = false) :
    PI X tg (.Call (.Name "zip" p) [a, b] [] pos) (tIs X.K c Wx (iZip ma mb)) := PI.weak (pi_zipF hg hm ha hs hpl) fun σ H R h => by
  obtain ⟨W, st, env, S, E, p⟩ := h
  refine ⟨W, st, env, S, E, p.bind.mono fun ds st1 p1 vs H1 W1 T1 S1 R1 => ?_⟩
  split at p1
  · rename_i xs ys
    cases R1 with
    | cons q1 rr =>
      cases rr with
      | cons q2 rr =>
        cases rr
        cases q1 with
        | tup h1 r1 =>
          cases q2 with
          | tup h2 r2 => exact ⟨_, _, _, _, rfl, h1.sq, h2.sq, fun hz => p1 _ H1 W1 T1 S1 (wk_zip S1 h1 r1 h2 r2) (by have := r1.length; simp only [List.length_zipWith]; omega)⟩
  · exact (show False from p1).elim
theorem bigInt : (big : Int) < 2 ^ 62 := by decide
theorem iRange1d {tg : Expr} {p : Pos} (hg : Gl X "range") (hm : X.mg "range" = none) (ha : PE X a (tE X.K c Wx ma)) (hs : starEach [a] X.env = [(false, eval a X.env)]) : PI X tg (.Call (.Name "range" p) [a] [] pos) (tIs X.K c Wx (iRange1 ma)) :=
  PI.weak (pi_range1 hg hm (pa_cons ha pa_nil hs) hs) fun σ H R h => by
    obtain ⟨W, st, env, S, E, p⟩ := h
    refine ⟨W, st, env, S, E, p.bind.mono fun dx st1 p1 x H1 W1 T1 S1 R1 => ?_⟩
    have bi := bigInt
    split at p1
    · rename_i n
      split at p1
      · rename_i hc
        have hc' : -(big : Int) ≤ n ∧ n ≤ (big : Int) := by simpa using hc
        have ev := rep_int R1
        subst ev
        refine ⟨n, rfl, by omega, by omega, ?_⟩
        have w := wk_range (K := X.K) (H0 := H1) (W0 := W1) 0 n.toNat
        have e0 : (List.range n.toNat).map (fun (k : Nat) => D.int (0 + k)) = (List.range n.toNat).map (fun (k : Nat) => D.int k) := by simp
        rw [e0] at w
        have bl := bigLine
        exact p1 _ H1 W1 T1 S1 w (by simp only [List.length_map, List.length_range]; unfold big at hc' bl; omega)
      · exact (show False from p1).elim
    · exact (show False from p1).elim
theorem iRange2d {tg : Expr} {p : Pos} (hg : Gl X "range") (hm : X.mg "range" = none) (ha : PE X a (tE X.K c Wx ma)) (hb : PE X b (tE X.K c Wx mb)) (hs : starEach [a, b] X.env = [(false, eval a X.env), (false, eval b X.env)]) (hs2 : starEach [b] X.env = [(false, eval b X.env)]) : PI X tg (.Call (.Name "range" p) [a, b] [] pos) (tIs X.K c Wx (iRange2 ma mb)) :=
  PI.weak (pi_range2 hg hm (pa_cons ha (pa_cons hb pa_nil hs2) (by rw [hs, hs2])) hs hs2) fun σ H R h => by
    obtain ⟨W, st, env, S, E, p⟩ := h
    refine ⟨W, st, env, S, E, p.bind.mono fun dx st1 p1 x H1 W1 T1 S1 R1 => ⟨W1, st1, env, S1, E.step S T1, (p1.bind.at T1).mono fun dy st2 p2 y H2 W2 T2 S2 R2 => ?_⟩⟩
    have bi := bigInt
    split at p2
    · rename_i m n
      split at p2
      · rename_i hc
        have hc' : ((-(big : Int) ≤ m ∧ m ≤ (big : Int)) ∧ -(big : Int) ≤ n) ∧ n ≤ (big : Int) := by simpa using hc
        have ev := rep_int R1
        subst ev
        have ev := rep_int R2
        subst ev
        exact ⟨m, n, rfl, ⟨by omega, by omega, by omega, by omega⟩, p2 _ H2 W2 (T1.trans T2) S2 (wk_range m (n - m).toNat) (by have bl : 2 * big ≤ sizeLine := (by decide); simp only [List.length_map, List.length_range]; unfold big at hc' bl; omega)⟩
      · exact (show False from p2).elim
    · exact (show False from p2).elim
def tG (K : PySem.W.Frag) (is : List Nat) (g : MG) : TG := fun v σ H Q => ∃ W st d env env', Sim K H W st ∧ Rep K H W v d ∧ EnvR K H W σ env ∧ g d env = some env' ∧ ∀ σ', EnvR K H W σ' env' → σ'.length = σ.length → (∀ j, j ∉ is → σ'[j]? = σ[j]?) → Q σ' H
theorem PG.weak {tg : Expr} {t t' : TG} (h : PG X tg t) (hw : ∀ v σ H Q, t' v σ H Q → t v σ H Q) : PG X tg t' := ⟨fun pins s σ H v u Q I r q => h.run pins s σ H v u Q I r (hw _ _ _ _ q)⟩
theorem EnvR.set {K : PySem.W.Frag} {H : Hp} {W : Wd} {σ : L2.St} {env : Env} {i : Nat} {v : V} {d : D} (E : EnvR K H W σ env) (r : Rep K H W v d) : EnvR K H W (σ.set i (some v)) (env.set i (some d)) := by
  refine ⟨by simp [E.len], fun j e h => ?_⟩
  by_cases hj : j = i
  · subst hj
    by_cases hl : j < env.length
    · rw [List.getElem?_set_self hl] at h
      cases h
      exact ⟨v, by rw [List.getElem?_set_self (by rw [E.len]; exact hl)], r⟩
    · rw [List.getElem?_eq_none (by simpa using hl)] at h; cases h
  · rw [List.getElem?_set_ne (Ne.symm hj)] at h
    obtain ⟨w, e1, e2⟩ := E.get j e h
    exact ⟨w, by rw [List.getElem?_set_ne (Ne.symm hj)]; exact e1, e2⟩
theorem gNmd {i : Nat} {x : Str} (hN : X.N.Nodup) (hi : X.N[i]? = some x) (hx : Loc X.env.scope x) (hf : X.fn x = true ∨ X.env.scope.names.lookup x = some .local) : PG X (.Name x pos) (tG X.K [i] (gNm i)) :=
  PG.weak (pg_name hN hi hx hf) fun v σ H Q h => by
    obtain ⟨W, st, d, env, env', S, r, E, e, q⟩ := h
    unfold gNm at e
    split at e
    · cases e
      exact q _ (E.set r) (by simp) fun j hj => by rw [List.getElem?_set_ne (fun z => hj (by simp [z]))]
    · cases e
def tGs (K : PySem.W.Frag) (is : List Nat) : TGs := fun vs σ H Q => ∃ W st ds env env', Sim K H W st ∧ Reps K H W vs ds ∧ EnvR K H W σ env ∧ gNms is ds env = some env' ∧ ∀ σ', EnvR K H W σ' env' → σ'.length = σ.length → (∀ j, j ∉ is → σ'[j]? = σ[j]?) → Q σ' H
theorem PGs.weak {ts : List Expr} {t t' : TGs} (h : PGs X ts t) (hw : ∀ v σ H Q, t' v σ H Q → t v σ H Q) : PGs X ts t' := ⟨fun pins s σ H v u Q I r q => h.run pins s σ H v u Q I r (hw _ _ _ _ q)⟩
theorem gNilD : PGs X [] (tGs X.K []) := PGs.weak pgs_nil fun vs σ H Q h => by
  obtain ⟨W, st, ds, env, env', S, r, E, e, q⟩ := h
  cases r with
  | nil => cases e; exact ⟨rfl, q σ E rfl fun _ _ => rfl⟩
  | cons _ _ => cases e
theorem gConsD {i : Nat} {x : Str} {is : List Nat} {ts : List Expr} {p : Pos} (hN : X.N.Nodup) (hi : X.N[i]? = some x) (hx : Loc X.env.scope x) (hf : X.fn x = true ∨ X.env.scope.names.lookup x = some .local) (hr : PGs X ts (tGs X.K is)) : PGs X (.Name x p :: ts) (tGs X.K (i :: is)) :=
  PGs.weak (pgs_cons (pg_name hN hi hx hf) hr rfl) fun vs σ H Q h => by
    obtain ⟨W, st, ds, env, env', S, r, E, e, q⟩ := h
    cases r with
    | nil => cases e
    | cons r1 rr =>
      rename_i v vs d ds
      unfold gNms at e
      obtain ⟨env1, e1, e2⟩ := Option.bind_eq_some_iff.mp e
      unfold gNm at e1
      split at e1
      · cases e1
        refine ⟨v, vs, rfl, W, st, ds, _, env', S, rr, E.set r1, e2, fun σ' E' hl hj => q σ' E' (by rw [hl]; simp) fun j hj' => ?_⟩
        rw [hj j (fun z => hj' (List.mem_cons_of_mem _ z)), List.getElem?_set_ne (fun z => hj' (by simp [z]))]
      · cases e1
theorem gNms_len : ∀ {is : List Nat} {ds : List D} {env env' : Env}, gNms is ds env = some env' → is.length = ds.length
  | [], [], _, _, _ => rfl
  | [], _ :: _, _, _, e => by cases e
  | _ :: _, [], _, _, e => by cases e
  | i :: is, d :: ds, env, env', e => by
    unfold gNms at e
    obtain ⟨env1, e1, e2⟩ := Option.bind_eq_some_iff.mp e
    simp [gNms_len e2]
theorem gTpd {is : List Nat} {ts : List Expr} {k : Nat} (hc : X.calm = true) (h : PGs X ts (tGs X.K is)) (hn : (assignEach ts X.env).length = is.length) (hst : (assignEach ts X.env).findIdx? (·.1) = none) : PG X (.Tuple ts k pos) (tG X.K is (gTp is)) :=
  PG.weak (pg_tup hc h hn hst) fun v σ H Q h => by
    obtain ⟨W, st, d, env, env', S, r, E, e, q⟩ := h
    unfold gTp at e
    split at e
    · cases r with
      | tup ht rr => exact ⟨_, _, rfl, ht.sq, by rw [rr.length, gNms_len e], W, st, _, env, env', S, rr, E, e, q⟩
    · cases e
end
end RP
end
section
set_option Elab.async false
set_option linter.all false
set_option maxRecDepth 100000
namespace RP
open PySem L2
abbrev WF : WX := fun _ _ _ _ => False
theorem Post.calmed {α : Type} {K : PySem.W.Frag} {Wx : WX} {σ : L2.St} {H : Hp} {W : Wd} {r : R α} {β : Type} {k : α → St → R β} {P : β → St → Prop} (h : Post K Wx σ H W (r.calm.bind k) P) (σ' : L2.St) (H' : Hp) (W' : Wd) : Post K WF σ' H' W' r fun a st => Post K Wx σ H W (k a st) P := by
  cases r with
  | ok a st => exact h
  | er x st => exact (show False from h).elim
  | no => exact (show False from h).elim
theorem wipe_none (vs : List Nat) : ∀ (σ : L2.St) (j : Nat), j ∈ vs → ∀ v, (wipe σ vs)[j]? ≠ some (some v) := fun σ j hj v h => (wipe_some h).2 hj
theorem wipe_get : ∀ (vs : List Nat) (σ : L2.St) (j : Nat), (wipe σ vs)[j]? = if j ∈ vs ∧ j < σ.length then some none else σ[j]?
  | [], σ, j => by simp [wipe]
  | v :: vs, σ, j => by
    unfold wipe
    by_cases hj : v = j
    · subst hj
      by_cases hl : v < σ.length
      · rw [List.getElem?_set_self (by rw [wipe_length]; exact hl), if_pos ⟨List.mem_cons_self, hl⟩]
      · rw [List.getElem?_eq_none (by simpa [wipe_length] using hl), if_neg (fun z => hl z.2), List.getElem?_eq_none (by simpa using hl)]
    · rw [List.getElem?_set_ne hj, wipe_get vs σ j]
      have hne : ¬ j = v := fun z => hj z.symm
      by_cases hm : j ∈ vs
      · by_cases hl : j < σ.length
        · rw [if_pos ⟨hm, hl⟩, if_pos ⟨List.mem_cons_of_mem _ hm, hl⟩]
        · rw [if_neg (fun z => hl z.2), if_neg (fun z => hl z.2)]
      · rw [if_neg (fun z => hm z.1), if_neg (fun z => by rcases List.mem_cons.mp z.1 with q | q; exact hne q; exact hm q)]
theorem wipe_ext {σ τ : L2.St} {vs : List Nat} (hl : τ.length = σ.length) (h : ∀ j, j ∉ vs → τ[j]? = σ[j]?) : wipe τ vs = wipe σ vs := by
  apply List.ext_getElem?
  intro j
  rw [wipe_get, wipe_get, hl]
  by_cases hm : j ∈ vs
  · by_cases hl' : j < σ.length
    · rw [if_pos ⟨hm, hl'⟩, if_pos ⟨hm, hl'⟩]
    · rw [if_neg (fun z => hl' z.2), if_neg (fun z => hl' z.2), List.getElem?_eq_none (by omega), List.getElem?_eq_none (by omega)]
  · rw [if_neg (fun z => hm z.1), if_neg (fun z => hm z.1), h j hm]
theorem wipe_wipe (σ : L2.St) (vs : List Nat) : wipe (wipe σ vs) vs = wipe σ vs := wipe_ext (wipe_length σ vs) fun j hj => by rw [wipe_get, if_neg (fun z => hj z.1)]
theorem wipeE_length (env : Env) : ∀ vs : List Nat, (wipeE env vs).length = env.length
  | [] => rfl
  | v :: vs => by unfold wipeE; rw [List.length_set, wipeE_length env vs]
theorem wipeE_some {env : Env} {i : Nat} {x : D} : ∀ {vs : List Nat}, (wipeE env vs)[i]? = some (some x) → env[i]? = some (some x) ∧ i ∉ vs
  | [], h => ⟨h, by simp⟩
  | v :: vs, h => by
    unfold wipeE at h
    by_cases hi : v = i
    · subst hi
      by_cases hv : v < (wipeE env vs).length
      · rw [List.getElem?_set_self hv] at h; cases h
      · rw [List.getElem?_eq_none (by simpa using hv)] at h; cases h
    · rw [List.getElem?_set_ne hi] at h
      obtain ⟨h1, h2⟩ := wipeE_some h
      exact ⟨h1, by simp only [List.mem_cons, not_or]; exact ⟨fun e => hi e.symm, h2⟩⟩
theorem EnvR.wipe {K : PySem.W.Frag} {H : Hp} {W : Wd} {σ : L2.St} {env : Env} (E : EnvR K H W σ env) (vs : List Nat) : EnvR K H W (wipe σ vs) (wipeE env vs) :=
  ⟨by rw [wipe_length, wipeE_length]; exact E.len, fun i d h => by
    obtain ⟨h1, h2⟩ := wipeE_some h
    obtain ⟨v, e, r⟩ := E.get i d h1
    exact ⟨v, by rw [wipe_get, if_neg (fun z => h2 z.1)]; exact e, r⟩⟩

section
variable {K : PySem.W.Frag} {H : Hp}
mutual
theorem Rep.cellB {rho B B' : List Addr} {D : Addr} (hD : D ∈ B) (hb : ∀ a ∈ B', a ∈ B) : ∀ {v : V} (d : RP.D), Rep K H ⟨rho, B⟩ v d → Rep K H ⟨rho ++ [D], B'⟩ v d
  | _, .non, .non => .non
  | _, .bl b, .bl _ => .bl b
  | _, .int i, .int _ => .int i
  | _, .str x, .str _ => .str x
  | _, .tup ds, .tup h r => .tup h (Reps.cellB hD hb ds r)
  | _, .lst ds, .lst h n1 n2 r => .lst h (fun z => by
      rcases List.mem_append.mp z with z | z
      · exact n1 z
      · have e := List.mem_singleton.mp z
        exact n2 (by rw [e]; exact hD)) (fun z => n2 (hb _ z)) (Reps.cellB hD hb ds r)
  | _, .dct ks vs, .dct h n1 n2 r1 r2 => .dct h (fun z => by
      rcases List.mem_append.mp z with z | z
      · exact n1 z
      · have e := List.mem_singleton.mp z
        exact n2 (by rw [e]; exact hD)) (fun z => n2 (hb _ z)) (Reps.cellB hD hb ks r1) (Reps.cellB hD hb vs r2)
  | _, .frz ns, .frz h => .frz h
  | _, .exc a, .exc _ => .exc a
  | _, .exf _ _ _ vs, .exf h e r => .exf h e (Reps.cellB hD hb vs r)
  | _, .ref n, .ref h => .ref (by
      show (rho ++ [D])[n]? = _
      have h' : rho[n]? = _ := h
      rw [List.getElem?_append_left (List.getElem?_eq_some_iff.mp h').1]
      exact h')
theorem Reps.cellB {rho B B' : List Addr} {D : Addr} (hD : D ∈ B) (hb : ∀ a ∈ B', a ∈ B) : ∀ {vs : List V} (ds : List RP.D), Reps K H ⟨rho, B⟩ vs ds → Reps K H ⟨rho ++ [D], B'⟩ vs ds
  | _, [], .nil => .nil
  | _, d :: ds, .cons h r => .cons (Rep.cellB hD hb d h) (Reps.cellB hD hb ds r)
end
theorem Sim.cellB {rho B B' : List Addr} {D : Addr} {st : St} {c : Cell} (hD : D ∈ B) (hb : ∀ a ∈ B', a ∈ B) (hn : D ∉ B') (S : Sim K H ⟨rho, B⟩ st) (hc : CellOk K H ⟨rho ++ [D], B'⟩ D c) : Sim K H ⟨rho ++ [D], B'⟩ (st ++ [c]) := by
  have hDr : D ∉ rho := fun z => S.dis D z hD
  have hlen : rho.length = st.length := S.len
  refine ⟨by simp [hlen], ?_, fun a ha => S.bt a (hb a ha), fun a ha hz => ?_, fun i a c' h1 h2 => ?_⟩
  · show (rho ++ [D]).Nodup
    rw [List.nodup_append]
    refine ⟨S.nd, by simp, fun a ha b hb' => ?_⟩
    have e : b = D := by simpa using hb'
    subst e
    intro z; subst z; exact hDr ha
  · rcases List.mem_append.mp ha with z | z
    · exact S.dis a z (hb a hz)
    · have e := List.mem_singleton.mp z
      subst e; exact hn hz
  · have h1' : (rho ++ [D])[i]? = some a := h1
    by_cases hi : i < rho.length
    · rw [List.getElem?_append_left hi] at h1'
      rw [List.getElem?_append_left (by omega)] at h2
      have q := S.cell i a c' h1' h2
      cases c' with
      | lst ds => obtain ⟨xs, h, r⟩ := q; exact ⟨xs, h, r.cellB hD hb⟩
      | dct ks vs => obtain ⟨xs, h, r, r2⟩ := q; exact ⟨xs, h, r.cellB hD hb, r2.cellB hD hb⟩
      | ins c fs => obtain ⟨dx, xs, h, q, r⟩ := q; exact ⟨dx, xs, h, q, r.cellB hD hb⟩
    · have hi2 : i = rho.length := by
        have := (List.getElem?_eq_some_iff.mp h1').1
        simp at this; omega
      subst hi2
      have e1 : D = a := by simpa using h1'
      have e2 : c = c' := by rw [hlen] at h2; simpa using h2
      subst e1 e2
      exact hc
end
section
variable {X : Cx} {c : Call} {Wx : WX}
theorem comp_core {it : MI} {g : MG} {ts : MT} {elt : ME} {vs is : List Nat} (his : ∀ i ∈ is, i ∈ vs) {σ : L2.St} {H : Hp} {Q : VK} {W : Wd} {st : St} {env : Env} (S : Sim X.K H W st) (E : EnvR X.K H W σ env) {fin : List D → St → R D}
    (hfin : ∀ ys st2, fin ys st2 = .ok (.lst ys) st2 ∨ fin ys st2 = .ok (.ref st2.length) (st2 ++ [.lst ys]))
    (p : Post X.K Wx σ H W ((it c env st).bind fun p st1 => (compL c p.2 p.1 g ts elt (wipeE env vs) p.1 st1).bind fin) (Aft X.K H W Q)) :
    tLc (tIs X.K c Wx it) (tG X.K is g) (tTs X.K c WF ts) (tE X.K c WF elt) vs σ H Q := by
  refine ⟨W, st, env, S, E, p.bind.mono fun pr st1 p1 J H1 W1 T1 S1 wk hxl D hD => ?_⟩
  obtain ⟨xs, gd⟩ := pr
  have hDr := S1.fresh hD
  have hDB := S1.freshB hD
  refine ⟨fun i m H2 => m = xs.length - i ∧ i ≤ xs.length ∧ ∃ W2 st2 acc accV, Step H1 W1 H2 W2 ∧ Sim X.K H2 W2 st2 ∧ D ∈ W2.B ∧ H2 D = some (.lst accV) ∧ acc.length ≤ i ∧ Reps X.K H2 W2 accV acc ∧
    Post X.K Wx σ H W ((compL c gd xs g ts elt (wipeE env vs) (xs.drop i) st2).bind fun ys st3 => fin (acc ++ ys) st3) (Aft X.K H W Q), ⟨xs.length, by simp, Nat.zero_le _, ⟨W1.rho, D :: W1.B⟩, st1, [], [], Step.busy S1 hD, S1.busy hD, List.mem_cons_self, upd_same, Nat.zero_le _, .nil, ?_⟩, ?_⟩
  · simpa using p1
  rintro i m H2 ⟨rfl, hi, W2, st2, acc, accV, T2, S2, hB, hD2, hal, hacc, p2⟩
  by_cases hlt : i < xs.length
  · -- a turn
    obtain ⟨d, hd⟩ : ∃ d, xs[i]? = some d := ⟨xs[i], List.getElem?_eq_getElem hlt⟩
    have edrop : xs.drop i = d :: xs.drop (i + 1) := by
      rw [List.drop_eq_getElem_cons hlt]
      have : xs[i] = d := by rw [List.getElem?_eq_getElem hlt] at hd; exact Option.some.inj hd
      rw [this]
    rw [edrop] at p2
    unfold compL at p2
    by_cases hg : gOk gd xs st2
    · rw [if_pos hg] at p2
      refine .inr ⟨wk.go i H2 W2 st2 T2 S2 hg hlt, fun H5 => ∃ W5 st5 acc5 accV5, Step H1 W1 H5 W5 ∧ Sim X.K H5 W5 st5 ∧ D ∈ W5.B ∧ H5 D = some (.lst accV5) ∧ acc5.length ≤ i + 1 ∧ Reps X.K H5 W5 accV5 acc5 ∧
        Post X.K Wx σ H W ((compL c gd xs g ts elt (wipeE env vs) (xs.drop (i + 1)) st5).bind fun ys st3 => fin (acc5 ++ ys) st3) (Aft X.K H W Q), fun H' n' => ⟨xs.length - (i + 1), by omega, rfl, hlt, n'⟩, fun x H' y => ?_⟩
      obtain ⟨Ty, Sy, rx⟩ := wk.yld i H2 W2 st2 d x H' T2 S2 hg hd y
      replace T2 := T2.trans Ty
      replace hacc := hacc.step S2 Ty
      replace hD2 := (Ty.keep D _ hD2 (fun z => S2.dis D z hB)).1
      replace S2 := Sy
      clear Sy Ty
      have Ew := (E.step S (T1.trans T2)).wipe vs
      split at p2
      · exact (show False from p2).elim
      · rename_i env1 henv1
        refine ⟨W2, st2, d, wipeE env vs, env1, S2, rx, Ew, henv1, fun σ' E1 hl hj => ⟨?_, ?_⟩⟩
        · have h1 : L2.wipe σ' vs = L2.wipe (L2.wipe σ vs) vs := wipe_ext hl fun j hjv => hj j fun z => hjv (his j z)
          rw [h1, wipe_wipe]
        · have p3 := p2.bind
          have p3' : Post X.K Wx σ H W ((ts c env1 st2).calm.bind fun b st1 => if b = true then (elt c env1 st1).calm.bind fun y st2 => (compL c gd xs g ts elt (wipeE env vs) (xs.drop (i + 1)) st2).bind fun ys st3 => .ok (y :: ys) st3 else compL c gd xs g ts elt (wipeE env vs) (xs.drop (i + 1)) st1) fun ys st3 => Post X.K Wx σ H W (fin (acc ++ ys) st3) (Aft X.K H W Q) := p3
          refine ⟨W2, st2, env1, S2, E1, (p3'.calmed σ' _ W2).mono fun bb st3 p4 H3 W3 T3 S3 => ?_⟩
          have hDr2 : D ∉ W2.rho := fun z => S2.dis D z hB
          have hD3 := (T3.keep D _ hD2 hDr2).1
          cases bb with
          | true =>
            rw [if_pos rfl] at p4
            dsimp only
            rw [if_pos rfl]
            refine ⟨W3, st3, env1, S3, E1.step S2 T3, (p4.calmed σ' _ W3).mono fun dy st4 p5 yv H4 W4 T4 S4 R4 => ?_⟩
            have hB3 := T3.sub D hB
            have hDr3 : D ∉ W3.rho := fun z => S3.dis D z hB3
            have hD4 := (T4.keep D _ hD3 hDr3).1
            have hB4 := T4.sub D hB3
            have T24 := T3.trans T4
            have hacc4 := hacc.step S2 T24
            refine ⟨accV, hD4, ?_, W4, st4, acc ++ [dy], accV ++ [yv], ?_, S4.wr hB4 hD4 trivial, hB4, upd_same, by simp; omega, (hacc4.append (.cons R4 .nil)).wr hB4 hD4 trivial, ?_⟩
            · have h1 := hacc.length
              have h2 : xs.length ≤ sizeLine := hxl
              omega
            · have T14 := T2.trans T24
              exact ⟨T14.pre, T14.B, T14.sub, fun a o ha hn => ⟨by rw [upd_ne (ne_of_none ha hD)]; exact (T14.keep a o ha hn).1, (T14.keep a o ha hn).2⟩⟩
            · have p6 := p5.bind
              generalize hr : compL c gd xs g ts elt (wipeE env vs) (xs.drop (i + 1)) st4 = r at p6 ⊢
              cases r with
              | er x st => exact p6
              | no => exact p6
              | ok ys st3 =>
                have p7 : Post X.K Wx σ H W (fin (acc ++ (dy :: ys)) st3) (Aft X.K H W Q) := p6
                show Post X.K Wx σ H W (fin (acc ++ [dy] ++ ys) st3) _
                rw [List.append_assoc]
                exact p7
          | false =>
            rw [if_neg Bool.false_ne_true] at p4
            dsimp only
            rw [if_neg Bool.false_ne_true]
            refine ⟨W3, st3, acc, accV, T2.trans T3, S3, T3.sub D hB, hD3, by omega, hacc.step S2 T3, ?_⟩
            generalize hr : compL c gd xs g ts elt (wipeE env vs) (xs.drop (i + 1)) st3 = r at p4 ⊢
            cases r with
            | er x st => exact p4
            | no => exact p4
            | ok ys st3 => exact p4
    · rw [if_neg hg] at p2
      exact (show False from p2).elim
  · -- the end
    have e : i = xs.length := by omega
    rw [List.drop_of_length_le (by omega)] at p2
    unfold compL at p2
    by_cases hg : gOk gd xs st2
    · rw [if_pos hg] at p2
      have p3 : Post X.K Wx σ H W (fin (acc ++ []) st2) (Aft X.K H W Q) := p2
      rw [List.append_nil] at p3
      refine .inl ⟨wk.stop i H2 W2 st2 T2 S2 hg e, ?_⟩
      obtain ⟨rho2, B2⟩ := W2
      have hsub : ∀ a ∈ B2.filter (fun a => decide (a ≠ D)), a ∈ B2 := fun a ha => (List.mem_filter.mp ha).1
      have hDn : D ∉ B2.filter (fun a => decide (a ≠ D)) := fun z => by
        have := (List.mem_filter.mp z).2
        simp at this
      have hDr2 : D ∉ rho2 := fun z => S2.dis D z hB
      have T3 : Step H1 W1 H2 ⟨rho2, B2.filter (fun a => decide (a ≠ D))⟩ :=
        ⟨T2.pre, fun a ha => T2.B a (hsub a ha), fun a ha => List.mem_filter.mpr ⟨T2.sub a ha, by simp; intro z; subst z; exact hDB ha⟩, T2.keep⟩
      rcases hfin acc st2 with hf | hf
      · rw [hf] at p3
        exact p3 _ H2 _ (T1.trans T3) (S2.unB hsub) (.lst hD2 hDr2 hDn (hacc.unB hsub))
      · rw [hf] at p3
        have S3 := S2.unB hsub
        have hacc3 := hacc.unB hsub
        have T4 : Step H1 W1 H2 ⟨rho2 ++ [D], B2.filter (fun a => decide (a ≠ D))⟩ := by
          refine ⟨?_, T3.B, T3.sub, fun a o ha hn => ⟨(T3.keep a o ha hn).1, fun z => ?_⟩⟩
          · obtain ⟨m, em⟩ := T2.pre
            exact ⟨m ++ [D], by show rho2 ++ [D] = _; rw [show rho2 = W1.rho ++ m from em, List.append_assoc]⟩
          · rcases List.mem_append.mp z with z | z
            · exact (T3.keep a o ha hn).2 z
            · have : a = D := by simpa using z
              subst this
              rw [hD] at ha; cases ha
        refine p3 (.ref D) H2 _ (T1.trans T4) (Sim.cellB hB hsub hDn S2 ⟨accV, hD2, hacc.cellB hB hsub⟩) (.ref ?_)
        show (rho2 ++ [D])[st2.length]? = some D
        have hlen : rho2.length = st2.length := S2.len
        rw [← hlen]
        simp
    · rw [if_neg hg] at p2
      exact (show False from p2).elim
variable {elt tg iter : Expr} {ifs : List Expr} {scope : Scope} {own : List (Str × Nat)} {pos : Pos} {it : MI} {g : MG} {ts : MT} {me : ME} {is : List Nat}
theorem dComp (hc : X.calm = true) (hN : X.N.Nodup) (hi : PI X tg iter (tIs X.K c Wx it)) (ok : BlkOk X.N X.env.scope scope own) (his : ∀ i ∈ is, i ∈ own.map (·.2))
    (hg : ∀ (s : Shared) (H : Hp) (C : Addr) (cl : List (Str × Addr)) (fp : List Addr), PG (X.blk s H scope (compEnvC scope cl C X.env) fp) tg (tG X.K is g)) (ht : ∀ (s : Shared) (H : Hp) (C : Addr) (cl : List (Str × Addr)) (fp : List Addr), PTs (X.blk s H scope (compEnvC scope cl C X.env) fp) ifs (tTs X.K c WF ts))
    (he : ∀ (s : Shared) (H : Hp) (C : Addr) (cl : List (Str × Addr)) (fp : List Addr), PE (X.blk s H scope (compEnvC scope cl C X.env) fp) elt (tE X.K c WF me)) (hs : ∀ x, foldedSetIterable iter X.env x = pure x) :
    PE X (.ListComp elt [⟨tg, iter, ifs, 0⟩] scope pos) (tE X.K c Wx (mComp (own.map (·.2)) it g ts me)) :=
  PE.weak (pe_lc hc hN hi ok hg ht he hs) fun σ H Q h => by
    obtain ⟨W, st, env, S, E, p⟩ := h
    exact comp_core his S E (fun ys st2 => .inl rfl) p
theorem dCompM (hc : X.calm = true) (hN : X.N.Nodup) (hi : PI X tg iter (tIs X.K c Wx it)) (ok : BlkOk X.N X.env.scope scope own) (his : ∀ i ∈ is, i ∈ own.map (·.2))
    (hg : ∀ (s : Shared) (H : Hp) (C : Addr) (cl : List (Str × Addr)) (fp : List Addr), PG (X.blk s H scope (compEnvC scope cl C X.env) fp) tg (tG X.K is g)) (ht : ∀ (s : Shared) (H : Hp) (C : Addr) (cl : List (Str × Addr)) (fp : List Addr), PTs (X.blk s H scope (compEnvC scope cl C X.env) fp) ifs (tTs X.K c WF ts))
    (he : ∀ (s : Shared) (H : Hp) (C : Addr) (cl : List (Str × Addr)) (fp : List Addr), PE (X.blk s H scope (compEnvC scope cl C X.env) fp) elt (tE X.K c WF me)) (hs : ∀ x, foldedSetIterable iter X.env x = pure x) :
    PE X (.ListComp elt [⟨tg, iter, ifs, 0⟩] scope pos) (tE X.K c Wx (mCompM (own.map (·.2)) it g ts me)) :=
  PE.weak (pe_lc hc hN hi ok hg ht he hs) fun σ H Q h => by
    obtain ⟨W, st, env, S, E, p⟩ := h
    exact comp_core his S E (fun ys st2 => .inr rfl) p
end
end RP
end
section
set_option Elab.async false
set_option linter.all false
set_option maxRecDepth 100000
namespace RP
open PySem L2
section
variable {K : PySem.W.Frag} {H : Hp}
mutual
theorem Rep.bel {W : Wd} : ∀ {v : V} (d : D), Rep K H W v d → bel W.rho.length d = true
  | _, .non, _ => by simp [RP.bel]
  | _, .bl b, _ => by simp [RP.bel]
  | _, .int b, _ => by simp [RP.bel]
  | _, .str b, _ => by simp [RP.bel]
  | _, .tup ds, .tup h r => by simpa [RP.bel] using Reps.bel ds r
  | _, .lst ds, .lst h _ _ r => by simpa [RP.bel] using Reps.bel ds r
  | _, .dct ks vs, .dct h _ _ r r2 => by simp [RP.bel, Reps.bel ks r, Reps.bel vs r2]
  | _, .frz ds, _ => by simp [RP.bel]
  | _, .ref n, .ref h => by simpa [RP.bel] using (List.getElem?_eq_some_iff.mp h).1
  | _, .exc _, _ => by simp [RP.bel]
  | _, .exf _ _ _ vs, .exf h e r => by simpa [RP.bel] using Reps.bel vs r
theorem Reps.bel {W : Wd} : ∀ {vs : List V} (ds : List D), Reps K H W vs ds → bels W.rho.length ds = true
  | _, [], .nil => by simp [bels]
  | _, d :: ds, .cons h r => by simp [bels, Rep.bel d h, Reps.bel ds r]
end
theorem CellOk.bel {W : Wd} {a : Addr} {c : Cell} (h : CellOk K H W a c) : belC W.rho.length c = true := by
  cases c with
  | lst ds => obtain ⟨xs, _, r⟩ := h; exact r.bel
  | dct ks vs => obtain ⟨xs, _, r, r2⟩ := h; simp [belC, r.bel, r2.bel]
  | ins c fs => obtain ⟨dx, xs, _, _, r⟩ := h; exact r.bel
mutual
theorem Rep.few {rho rho' B : List Addr} {n : Nat} (h1 : ∀ i, i < n → rho'[i]? = rho[i]?) (h2 : ∀ a ∈ rho', a ∈ rho) : ∀ {v : V} (d : D), bel n d = true → Rep K H ⟨rho, B⟩ v d → Rep K H ⟨rho', B⟩ v d
  | _, .non, _, .non => .non
  | _, .bl b, _, .bl _ => .bl b
  | _, .int i, _, .int _ => .int i
  | _, .str x, _, .str _ => .str x
  | _, .tup ds, e, .tup h r => .tup h (Reps.few h1 h2 ds (by simpa [RP.bel] using e) r)
  | _, .lst ds, e, .lst h n1 n2 r => .lst h (fun z => n1 (h2 _ z)) n2 (Reps.few h1 h2 ds (by simpa [RP.bel] using e) r)
  | _, .dct ks vs, e, .dct h n1 n2 r1 r2 => by
    have e' : bels n ks = true ∧ bels n vs = true := by simpa [RP.bel] using e
    exact .dct h (fun z => n1 (h2 _ z)) n2 (Reps.few h1 h2 ks e'.1 r1) (Reps.few h1 h2 vs e'.2 r2)
  | _, .frz ns, _, .frz h => .frz h
  | _, .exc a, _, .exc _ => .exc a
  | _, .exf _ _ _ vs, e, .exf h q r => .exf h q (Reps.few h1 h2 vs (by simpa [RP.bel] using e) r)
  | _, .ref k, e, .ref h => by
    have e' : k < n := by simpa [RP.bel] using e
    exact .ref ((h1 k e').trans h)
theorem Reps.few {rho rho' B : List Addr} {n : Nat} (h1 : ∀ i, i < n → rho'[i]? = rho[i]?) (h2 : ∀ a ∈ rho', a ∈ rho) : ∀ {vs : List V} (ds : List D), bels n ds = true → Reps K H ⟨rho, B⟩ vs ds → Reps K H ⟨rho', B⟩ vs ds
  | _, [], _, .nil => .nil
  | _, d :: ds, e, .cons h r => by
    have e' : bel n d = true ∧ bels n ds = true := by simpa [bels] using e
    exact .cons (Rep.few h1 h2 d e'.1 h) (Reps.few h1 h2 ds e'.2 r)
end
theorem CellOk.few {rho rho' B : List Addr} {n : Nat} {a : Addr} {c : Cell} (h1 : ∀ i, i < n → rho'[i]? = rho[i]?) (h2 : ∀ a ∈ rho', a ∈ rho) (e : belC n c = true) (h : CellOk K H ⟨rho, B⟩ a c) : CellOk K H ⟨rho', B⟩ a c := by
  cases c with
  | lst ds => obtain ⟨xs, h, r⟩ := h; exact ⟨xs, h, r.few h1 h2 _ e⟩
  | dct ks vs =>
    have e' : bels n ks = true ∧ bels n vs = true := by simpa [belC] using e
    obtain ⟨xs, h, r, r2⟩ := h; exact ⟨xs, h, r.few h1 h2 _ e'.1, r2.few h1 h2 _ e'.2⟩
  | ins c fs => obtain ⟨dx, xs, h, q, r⟩ := h; exact ⟨dx, xs, h, q, r.few h1 h2 _ e⟩
end
section
variable {K : PySem.W.Frag} {H1 H' : Hp} {W1 W' : Wd} {st1 st' : St}
theorem Sim.fewer (S1 : Sim K H1 W1 st1) (T : Step H1 W1 H' W') (S' : Sim K H' W' st') (ho : Old st1 st') (hl : st1.length ≤ st'.length) : Sim K H' ⟨W1.rho, W'.B⟩ (st'.take st1.length) := by
  obtain ⟨more, hm⟩ := T.pre
  have g1 : ∀ i, i < st1.length → W1.rho[i]? = W'.rho[i]? := fun i hi => by rw [hm, List.getElem?_append_left (by rw [S1.len]; exact hi)]
  have g2 : ∀ a ∈ W1.rho, a ∈ W'.rho := fun a ha => by rw [hm]; exact List.mem_append_left _ ha
  refine ⟨by rw [List.length_take, Nat.min_eq_left hl]; exact S1.len, S1.nd, S'.bt, fun a ha => S'.dis a (g2 a ha), fun i a c h1 h2 => ?_⟩
  have hi : i < st1.length := by
    have := (List.getElem?_eq_some_iff.mp h2).1
    rw [List.length_take] at this; omega
  rw [List.getElem?_take_of_lt hi] at h2
  have q := S'.cell i a c (by rw [← g1 i hi]; exact h1) h2
  refine q.few g1 g2 ?_
  rcases ho i c hi h2 with h | h
  · have := (S1.cell i a c h1 h).bel
    rw [S1.len] at this
    exact this
  · exact h
theorem Step.fewer (T : Step H1 W1 H' W') : Step H1 W1 H' ⟨W1.rho, W'.B⟩ := ⟨⟨[], by simp⟩, T.B, T.sub, fun a o h n => ⟨(T.keep a o h n).1, n⟩⟩
theorem gc_ok {v : V} {d d2 : D} {st2 : St} (S1 : Sim K H1 W1 st1) (T : Step H1 W1 H' W') (S' : Sim K H' W' st') (r : Rep K H' W' v d) (e : gc st1 d st' = .ok d2 st2) : ∃ W2, Step H1 W1 H' W2 ∧ Sim K H' W2 st2 ∧ Rep K H' W2 v d2 := by
  unfold gc at e
  split at e
  · cases e; exact ⟨W', T, S', r⟩
  · split at e
    · rename_i ho
      obtain ⟨more, hm⟩ := T.pre
      have g1 : ∀ i, i < st1.length → W1.rho[i]? = W'.rho[i]? := fun i hi => by rw [hm, List.getElem?_append_left (by rw [S1.len]; exact hi)]
      have g2 : ∀ a ∈ W1.rho, a ∈ W'.rho := fun a ha => by rw [hm]; exact List.mem_append_left _ ha
      split at e
      · rename_i hb
        cases e
        exact ⟨_, T.fewer, S1.fewer T S' ho.2 ho.1, r.few g1 g2 _ hb⟩
      · rename_i hb
        split at e
        · rename_i c hc
          split at e
          · rename_i hbc
            cases e
            obtain ⟨k, hk1, hk2⟩ := Option.bind_eq_some_iff.mp hc
            have hk1' : d = .ref k := by
              cases d <;> simp [isRef] at hk1
              rw [hk1]
            subst hk1'
            cases r with
            | ref hr =>
              rename_i a
              have hkn : st1.length ≤ k := by
                have : ¬ k < st1.length := by simpa [bel] using hb
                omega
              have ha : a ∉ W1.rho := fun z => by
                obtain ⟨i, hi, ei⟩ := List.getElem_of_mem z
                have h1 : W'.rho[i]? = some a := by rw [← g1 i (by rw [← S1.len]; exact hi), List.getElem?_eq_getElem hi, ei]
                obtain ⟨l1, e1⟩ := List.getElem?_eq_some_iff.mp hr
                obtain ⟨l2, e2⟩ := List.getElem?_eq_some_iff.mp h1
                have : k = i := (List.getElem_inj S'.nd).mp (e1.trans e2.symm)
                rw [S1.len] at hi
                omega
              have haW : a ∈ W'.rho := List.mem_of_getElem? hr
              have S2 := S1.fewer T S' ho.2 ho.1
              have g3 : ∀ i, i < st1.length → (W1.rho ++ [a])[i]? = W'.rho[i]? := fun i hi => by rw [List.getElem?_append_left (by rw [S1.len]; exact hi)]; exact g1 i hi
              have g4 : ∀ b ∈ W1.rho ++ [a], b ∈ W'.rho := fun b hb => by
                rcases List.mem_append.mp hb with z | z
                · exact g2 b z
                · rw [List.mem_singleton.mp z]; exact haW
              refine ⟨⟨W1.rho ++ [a], W'.B⟩, ⟨⟨[a], rfl⟩, T.B, T.sub, fun b o h n => ⟨(T.keep b o h n).1, fun z => (T.keep b o h n).2 (g4 b z)⟩⟩, ⟨?_, ?_, S'.bt, fun b hb => S'.dis b (g4 b hb), fun i b c' h1 h2 => ?_⟩, .ref ?_⟩
              · simp [S1.len, Nat.min_eq_left ho.1]
              · show (W1.rho ++ [a]).Nodup
                rw [List.nodup_append]
                refine ⟨S1.nd, by simp, fun x hx y hy => ?_⟩
                rw [List.mem_singleton.mp hy]
                intro z; subst z; exact ha hx
              · have h1' : (W1.rho ++ [a])[i]? = some b := h1
                have hlen : (st'.take st1.length).length = st1.length := by rw [List.length_take]; omega
                by_cases hi : i < st1.length
                · rw [List.getElem?_append_left (by rw [S1.len]; exact hi)] at h1'
                  rw [List.getElem?_append_left (by omega), List.getElem?_take_of_lt hi] at h2
                  have q := S'.cell i b c' (by rw [← g1 i hi]; exact h1') h2
                  refine q.few g3 g4 ?_
                  rcases ho.2 i c' hi h2 with h | h
                  · have := (S1.cell i b c' h1' h).bel
                    rw [S1.len] at this
                    exact this
                  · exact h
                · have hi2 : i = st1.length := by
                    have := (List.getElem?_eq_some_iff.mp h2).1
                    rw [List.length_append, hlen] at this
                    simp at this; omega
                  subst hi2
                  have e1 : a = b := by
                    rw [← S1.len] at h1'; simpa using h1'
                  have e2 : c = c' := by
                    rw [List.getElem?_append_right (by omega), hlen] at h2
                    simpa using h2
                  subst e1 e2
                  exact (S'.cell k a c hr hk2).few g3 g4 hbc
              · show (W1.rho ++ [a])[st1.length]? = some a
                rw [← S1.len]; simp
          · cases e; exact ⟨W', T, S', r⟩
        · cases e; exact ⟨W', T, S', r⟩
    · cases e; exact ⟨W', T, S', r⟩
theorem ice_ok {Wx Wy : WX} {σ τ : L2.St} {H : Hp} {W : Wd} {r : R D} {P : D → St → Prop} {Q : VK} (S1 : Sim K H1 W1 st1) (hx : ∀ cls dd H', Wx cls dd σ H' → Wy cls dd τ H') (T1 : Step H W H1 W1) (hP : ∀ d st', P d st' → Aft K H W Q d st') (p : Post K Wx σ H W (ice st1 r) P) :
    Post K Wy τ H1 W1 r (Aft K H1 W1 Q) := by
  have plain : ∀ d st', P d st' → Aft K H1 W1 Q d st' := fun d st' h v H' W' T S' R => hP d st' h v H' W' (T1.trans T) S' R
  cases r with
  | no => exact p
  | er x st => exact fun H' W' cls dd T S' x' => hx _ _ _ (p H' W' cls dd (T1.trans T) S' x')
  | ok d st' =>
    show Aft K H1 W1 Q d st'
    unfold ice at p
    split at p
    · rename_i k st2 heq
      cases heq
      split at p
      · rename_i hk
        obtain ⟨rfl, hl, ho⟩ := hk
        split at p
        · rename_i xs hxs
          split at p
          · rename_i hb
            intro v H' W' T S' R
            cases R with
            | ref hr =>
              rename_i a
              obtain ⟨vs, hv, rv⟩ := S'.cell _ a _ hr hxs
              obtain ⟨more, hm⟩ := T.pre
              have g1 : ∀ i, i < st1.length → W1.rho[i]? = W'.rho[i]? := fun i hi => by rw [hm, List.getElem?_append_left (by rw [S1.len]; exact hi)]
              have g2 : ∀ a ∈ W1.rho, a ∈ W'.rho := fun a ha => by rw [hm]; exact List.mem_append_left _ ha
              have ha : a ∉ W1.rho := fun z => by
                obtain ⟨i, hi, ei⟩ := List.getElem_of_mem z
                have h1 : W'.rho[i]? = some a := by rw [← g1 i (by rw [← S1.len]; exact hi), List.getElem?_eq_getElem hi, ei]
                obtain ⟨l1, e1⟩ := List.getElem?_eq_some_iff.mp hr
                obtain ⟨l2, e2⟩ := List.getElem?_eq_some_iff.mp h1
                have : st1.length = i := (List.getElem_inj S'.nd).mp (e1.trans e2.symm)
                rw [S1.len] at hi
                omega
              exact hP _ _ p (.ref a) H' ⟨W1.rho, W'.B⟩ (T1.trans T.fewer) (S1.fewer T S' ho (by omega)) (.lst hv ha (S'.dis a (List.mem_of_getElem? hr)) (rv.few g1 g2 _ hb))
          · exact plain _ _ p
        · rename_i ks ws hxs
          split at p
          · rename_i hb
            have hb' : bels st1.length ks = true ∧ bels st1.length ws = true := by simpa using hb
            intro v H' W' T S' R
            cases R with
            | ref hr =>
              rename_i a
              obtain ⟨kvs, hv, rk, rv⟩ := S'.cell _ a _ hr hxs
              obtain ⟨more, hm⟩ := T.pre
              have g1 : ∀ i, i < st1.length → W1.rho[i]? = W'.rho[i]? := fun i hi => by rw [hm, List.getElem?_append_left (by rw [S1.len]; exact hi)]
              have g2 : ∀ a ∈ W1.rho, a ∈ W'.rho := fun a ha => by rw [hm]; exact List.mem_append_left _ ha
              have ha : a ∉ W1.rho := fun z => by
                obtain ⟨i, hi, ei⟩ := List.getElem_of_mem z
                have h1 : W'.rho[i]? = some a := by rw [← g1 i (by rw [← S1.len]; exact hi), List.getElem?_eq_getElem hi, ei]
                obtain ⟨l1, e1⟩ := List.getElem?_eq_some_iff.mp hr
                obtain ⟨l2, e2⟩ := List.getElem?_eq_some_iff.mp h1
                have : st1.length = i := (List.getElem_inj S'.nd).mp (e1.trans e2.symm)
                rw [S1.len] at hi
                omega
              exact hP _ _ p (.ref a) H' ⟨W1.rho, W'.B⟩ (T1.trans T.fewer) (S1.fewer T S' ho (by omega)) (.dct (.inl hv) ha (S'.dis a (List.mem_of_getElem? hr)) (rk.few g1 g2 _ hb'.1) (rv.few g1 g2 _ hb'.2))
          · exact plain _ _ p
        · exact plain _ _ p
      · exact plain _ _ p
    · exact plain _ _ p
end
def spF (K : PySem.W.Frag) (c : Call) (f : Str) (np : Nat) : Sp := fun vs H Q E => ∃ W st ds, Sim K H W st ∧ Reps K H W vs ds ∧ ds.length = np ∧ Post K (fun cls d _ H => E cls d H) [] H W (c f ds st) (Aft K H W Q)
structure RoomG (k : Nat) (A : Around) : Prop where
  hd : A.handled = none
  dp : A.depth + 2 * k + 9 < recursionLimit
  un : A.units + 16 * k + 200 < cLine
  un3 : A.units + 16 * k + 600 < cLine
theorem RoomG.depth {k : Nat} {A : Around} (r : RoomG k A) : A.depth < recursionLimit := Nat.lt_of_le_of_lt (by omega) r.dp
theorem RoomG.units {k : Nat} {A : Around} (r : RoomG k A) : A.units + 64 < cLine := Nat.lt_of_le_of_lt (by omega) r.un3
theorem RoomG.units0 {k : Nat} {A : Around} (r : RoomG k A) : A.units < cLine := Nat.lt_of_le_of_lt (by omega) r.un3
structure FnG (P : Program) (w : World) (K : PySem.W.Frag) (mg : Str → Option Value) (base : Heap) (k : Nat) (f : Addr) (fd : FuncData) (ps : List Str) (sp : Sp) : Prop where
  len : ∀ vs H Q E, sp vs H Q E → vs.length = ps.length
  run : ∀ (A : Around) (up : List PySem.Env) (s : Shared) (H : Hp) (args : Args) (us : List Value) (vs : List V) (Q : VK) (E : XK), RoomG k A → A.guards = some [] → Env0 P w K mg base A up s H → BindsTo s fd args (ps.zip us) → Vals vs us → sp vs H Q E →
    codeAny (model P w) A (.call (.ref f) args) (CR (L2N.CX P w) up P w H s Q E) s
def StandsAt (K : PySem.W.Frag) (mg : Str → Option Value) (f : Str) (a : Addr) : Option (Str × Str) → Prop
  | none => mg f = some (.ref a) ∧ PySem.W.keepIn K (.ref a) = true
  | some (x, m) => L2.Meth K (He.ga K x) m a
structure FnAt (P : Program) (w : World) (K : PySem.W.Frag) (mg : Str → Option Value) (base : Heap) (c : Call) (k : Nat) (own : Option (Str × Str)) (f : Str) (np : Nat) : Prop where
  ex : ∃ (a : Addr) (fd : FuncData) (ps : List Str), StandsAt K mg f a own ∧ Binds K fd ps [] ∧ FnG P w K mg base k a fd ps (spF K c f np)
section
variable {X : Cx} {k : Nat} {f : Addr} {fd : FuncData} {ps : List Str} {sp : Sp} {E : L2.St → XK} {x : Str} {p pos : Pos} {e : Expr} {es : List Expr} {t : TA}
theorem pe_callG (F : FnG X.prog X.w X.K X.mg X.base k f fd ps sp) (hr : RoomG k X.A) (hgd : X.A.guards = some []) (hg : Gl X x) (hm : X.mg x = some (.ref f)) (hk : PySem.W.keepIn X.K (.ref f) = true) (hb : Binds X.K fd ps []) (hx : ∀ σ, PassesAt (L2N.CX X.prog X.w) X σ (E σ))
    (ha : PA X (e :: es) t) (hdb : (x == ("__debug__" : Str)) = false) (he : starEach (e :: es) X.env = (false, eval e X.env) :: starEach es X.env) (hpl : (backTo pos (starEach es X.env)).any (·.1) = false) :
    PE X (.Call (.Name x p) (e :: es) [] pos) (tCallS sp E t) := ⟨fun pins s σ H Q I h => by
  refine PySem.wpAny_Call_Name_kw (ld_glob I hg hm (PySem.W.callWith_K (h₀ := X.base) I.ok.mod.kin hk (thn (ha.run pos pins s σ H _ I h) fun us s1 ⟨vs, H1, J, r, q⟩ => ⟨J.kIn, ?_⟩) he hpl) hdb)
  have hl : us.length = ps.length := by rw [← r.length]; exact F.len _ _ _ _ q
  have bd := hb s1 us J.kIn (by rw [List.append_nil]; exact hl)
  rw [List.append_nil] at bd
  refine wpAny_call (codeAny_mono (F.run X.A X.stack s1 H1 ⟨us, []⟩ us vs Q (E σ) hr hgd J.env0 bd r q) fun z s2 hz => ?_)
  rcases z with er | fl
  · exact hx σ pins H1 s1 er s2 J hz
  · cases fl with
    | ret u => exact J.after hz
    | _ => exact False.elim hz⟩
end
section
variable {X : Cx} {c : Call} {Wx : WX} {a b e : Expr} {ma mb me : ME} {pos : Pos} {es : List Expr} {ms : List ME}
theorem dCall {k np : Nat} {f : Str} {p : Pos} (F : FnAt X.prog X.w X.K X.mg X.base c k none f np) (hr : RoomG k X.A) (hgd : X.A.guards = some []) (hg : Gl X f) (tk : L2N.Takes X Wx) (ha : PA X (e :: es) (tAs X.K c Wx (mArgs ms))) (hl : ms.length = np)
    (hdb : (f == ("__debug__" : Str)) = false) (he : starEach (e :: es) X.env = (false, eval e X.env) :: starEach es X.env) (hpl : (backTo pos (starEach es X.env)).any (·.1) = false) :
    PE X (.Call (.Name f p) (e :: es) [] pos) (tE X.K c Wx (mCall f ms)) := by
  obtain ⟨ad, fd, ps, ⟨hm, hk⟩, hb, F⟩ := F.ex
  refine PE.weak (pe_callG (E := WE Wx) F hr hgd hg hm hk hb (fun σ => L2N.passAt tk σ) ha hdb he hpl) fun σ H Q h => ?_
  obtain ⟨W, st, env, S, E, p⟩ := h
  refine ⟨W, st, env, S, E, (args_post p).mono fun ds st1 p1 vs H1 W1 T1 S1 R1 => ⟨W1, st1, ds, S1, R1, p1.1.trans hl, ?_⟩⟩
  exact ice_ok S1 (fun cls dd H' h => h) T1 (fun _ _ h => h) p1.2
theorem dCallM {k np : Nat} {f : Str} {p : Pos} (F : FnAt X.prog X.w X.K X.mg X.base c k none f np) (hr : RoomG k X.A) (hgd : X.A.guards = some []) (hg : Gl X f) (tk : L2N.Takes X Wx) (ha : PA X (e :: es) (tAs X.K c Wx (mArgs ms))) (hl : ms.length = np)
    (hdb : (f == ("__debug__" : Str)) = false) (he : starEach (e :: es) X.env = (false, eval e X.env) :: starEach es X.env) (hpl : (backTo pos (starEach es X.env)).any (·.1) = false) :
    PE X (.Call (.Name f p) (e :: es) [] pos) (tE X.K c Wx (mCallM f ms)) := by
  obtain ⟨ad, fd, ps, ⟨hm, hk⟩, hb, F⟩ := F.ex
  refine PE.weak (pe_callG (E := WE Wx) F hr hgd hg hm hk hb (fun σ => L2N.passAt tk σ) ha hdb he hpl) fun σ H Q h => ?_
  obtain ⟨W, st, env, S, E, p⟩ := h
  refine ⟨W, st, env, S, E, (args_post p).mono fun ds st1 p1 vs H1 W1 T1 S1 R1 => ⟨W1, st1, ds, S1, R1, p1.1.trans hl, ?_⟩⟩
  have p2 := p1.2
  generalize c f ds st1 = r at p2 ⊢
  cases r with
  | no => exact p2
  | er x st => exact fun H' W' cls dd T S' x' => p2 H' W' cls dd (T1.trans T) S' x'
  | ok d st' => exact fun v H' W' T S' R => p2 v H' W' (T1.trans T) S' R
end
end RP
end
section
set_option Elab.async false
set_option linter.all false
set_option maxRecDepth 100000
namespace RP
open PySem L2
def liftM (K : PySem.W.Frag) (f : Meth) : V → List V → Hp → VK → Prop := fun x xs H Q => ∃ W st d ds d2 st2, Sim K H W st ∧ Rep K H W x d ∧ Reps K H W xs ds ∧ f st d ds = some (d2, st2) ∧ ∀ v H' W', Step H W H' W' → Sim K H' W' st2 → Rep K H' W' v d2 → Q v H'
def xInsert : Meth := fun st o ds => match o, ds with
  | .ref n, [.int i, d] => match st[n]? with
    | some (.lst xs) => if xs.length < big ∧ 0 ≤ i ∧ i < (big : Int) then some (.non, st.set n (.lst (xs.take i.toNat ++ [d] ++ xs.drop i.toNat))) else none
    | _ => none
  | _, _ => none
def xReverse : Meth := fun st o ds => match o, ds with
  | .ref n, [] => match st[n]? with
    | some (.lst xs) => some (.non, st.set n (.lst xs.reverse))
    | _ => none
  | _, _ => none
def xClear : Meth := fun st o ds => match o, ds with
  | .ref n, [] => match st[n]? with
    | some (.lst xs) => some (.non, st.set n (.lst []))
    | _ => none
  | _, _ => none
section
variable {X : Cx}
theorem mt_appendL : MtR X "list.append" (liftM X.K xAppend) := fun pins s σ H x xs v us Q I rx rxs h => by
  refine mt_append pins s σ H x xs v us Q I rx rxs ?_
  obtain ⟨W, st, d, ds, d2, st2, S, r, rs, e, q⟩ := h
  have bl := bigLine
  unfold xAppend at e
  split at e
  · rename_i n d1
    split at e
    · rename_i ys hn
      split at e
      · cases e
        cases r with
        | ref hr =>
          rename_i a
          obtain ⟨vs, hv, rv⟩ := S.cell _ a _ hr hn
          cases rs with
          | cons r1 rn =>
            cases rn
            rename_i w
            have T := Step.write S (o := .lst (vs ++ [w])) hr
            refine ⟨a, vs, _, rfl, rfl, hv, by rw [rv.length]; omega, q .non _ W T (S.write hr ⟨_, upd_same, (rv.append (.cons r1 .nil)).step S T⟩) .non⟩
      · cases e
    · cases e
  · cases e
theorem mt_extendL : MtR X "list.extend" (liftM X.K xExtend) := fun pins s σ H x xs v us Q I rx rxs h => by
  refine mt_extend pins s σ H x xs v us Q I rx rxs ?_
  obtain ⟨W, st, d, ds, d2, st2, S, r, rs, e, q⟩ := h
  have bl := bigLine
  unfold xExtend at e
  split at e
  · rename_i n d1
    split at e
    · rename_i ys zs hn hz
      split at e
      · cases e
        cases r with
        | ref hr =>
          rename_i a
          obtain ⟨vs, hv, rv⟩ := S.cell _ a _ hr hn
          cases rs with
          | cons r1 rn =>
            cases rn
            have s1 := r1.saw S
            rw [hz] at s1
            obtain ⟨b, ws, rfl, hb, rb⟩ := saw_lst s1
            have T := Step.write S (o := .lst (vs ++ ws)) hr
            refine ⟨a, b, vs, ws, rfl, rfl, hv, hb, by rw [rv.length, rb.length]; omega, q .non _ W T (S.write hr ⟨_, upd_same, (rv.append rb).step S T⟩) .non⟩
      · cases e
    · cases e
  · cases e
theorem mt_insertL : MtR X "list.insert" (liftM X.K xInsert) := fun pins s σ H x xs v us Q I rx rxs h => by
  refine mt_insert pins s σ H x xs v us Q I rx rxs ?_
  obtain ⟨W, st, d, ds, d2, st2, S, r, rs, e, q⟩ := h
  have bl := bigLine
  have bi : (big : Int) < 2 ^ 63 := by decide
  unfold xInsert at e
  split at e
  · rename_i n i d1
    split at e
    · rename_i ys hn
      split at e
      · rename_i hc
        cases e
        cases r with
        | ref hr =>
          rename_i a
          obtain ⟨vs, hv, rv⟩ := S.cell _ a _ hr hn
          cases rs with
          | cons r1 rn =>
            cases rn with
            | cons r2 rn =>
              cases rn
              have ev := rep_int r1
              subst ev
              rename_i w
              have T := Step.write S (o := .lst (vs.take i.toNat ++ [w] ++ vs.drop i.toNat)) hr
              refine ⟨a, vs, i, _, rfl, rfl, hv, by rw [rv.length]; omega, by omega, by omega, q .non _ W T (S.write hr ⟨_, upd_same, (((rv.take _).append (.cons r2 .nil)).append (rv.drop _)).step S T⟩) .non⟩
      · cases e
    · cases e
  · cases e
theorem mt_reverseL : MtR X "list.reverse" (liftM X.K xReverse) := fun pins s σ H x xs v us Q I rx rxs h => by
  refine mt_reverse pins s σ H x xs v us Q I rx rxs ?_
  obtain ⟨W, st, d, ds, d2, st2, S, r, rs, e, q⟩ := h
  unfold xReverse at e
  split at e
  · rename_i n
    split at e
    · rename_i ys hn
      cases e
      cases r with
      | ref hr =>
        rename_i a
        obtain ⟨vs, hv, rv⟩ := S.cell _ a _ hr hn
        cases rs
        have T := Step.write S (o := .lst vs.reverse) hr
        exact ⟨a, vs, rfl, rfl, hv, q .non _ W T (S.write hr ⟨_, upd_same, rv.reverse.step S T⟩) .non⟩
    · cases e
  · cases e
theorem mt_clearL : MtR X "list.clear" (liftM X.K xClear) := fun pins s σ H x xs v us Q I rx rxs h => by
  refine mt_clear pins s σ H x xs v us Q I rx rxs ?_
  obtain ⟨W, st, d, ds, d2, st2, S, r, rs, e, q⟩ := h
  unfold xClear at e
  split at e
  · rename_i n
    split at e
    · rename_i ys hn
      cases e
      cases r with
      | ref hr =>
        rename_i a
        obtain ⟨vs, hv, rv⟩ := S.cell _ a _ hr hn
        cases rs
        have T := Step.write S (o := .lst []) hr
        exact ⟨a, vs, rfl, rfl, hv, q .non _ W T (S.write hr ⟨_, upd_same, .nil⟩) .non⟩
    · cases e
  · cases e
def isL (st : St) (d : D) : Bool := match d with
  | .lst _ => true
  | .frz _ => true
  | .ref n => match st[n]? with
    | some (.lst _) => true
    | _ => false
  | _ => false
def mLm (f : Meth) (o : ME) (ms : List ME) : ME := fun c env st => (o c env st).bind fun x st1 => if isL st1 x = true then (mArgs ms c env st1).bind fun ds st2 => match f st2 x ds with
  | some (d, st3) => .ok d st3
  | none => .no
  else .no
theorem tyL {K : PySem.W.Frag} {H : Hp} {W : Wd} {st : St} {v : V} {d : D} (S : Sim K H W st) (r : Rep K H W v d) (h : isL st d = true) : tyV K "list" v H := by
  cases d with
  | lst ds => cases r with | lst h _ _ _ => exact .inl ⟨rfl, _, SqL.of h⟩
  | frz ns =>
    cases r with
    | frz h =>
      refine .inl ⟨rfl, ns.map V.int, ?_⟩
      rcases h with ⟨o, h⟩ | ⟨o, its, n, h1, h2, h3, h4, h5, h6⟩
      · exact .inl (.inr ⟨o, h⟩)
      · exact .inr ⟨o, its, n, h1, h2, h3, h4, h5, h6⟩
  | ref n =>
    cases r with
    | ref hr =>
      have h' : (match st[n]? with | some (.lst _) => true | _ => false) = true := h
      split at h'
      · rename_i ys hn
        obtain ⟨vs, hv, _⟩ := S.cell _ _ _ hr hn
        exact .inl ⟨rfl, _, SqL.of hv⟩
      · cases h'
  | _ => exact absurd h Bool.false_ne_true
variable {c : Call} {Wx : WX} {o e : Expr} {es : List Expr} {mo : ME} {ms : List ME} {name : Str} {apos cpos : Pos} {id : String} {f : Meth}
theorem dLm0 (slot : Slot "list" name id) (hty : typeOf (.builtin id) = pure (.type "method_descriptor")) (hm : MtR X id (liftM X.K f)) (ho : PE X o (tE X.K c Wx mo)) (hbase : attributeBase o name X.env (eval o X.env) = eval o X.env) (hline : (apos.endLine == cpos.line) = true) :
    PE X (.Call (.Attribute o name apos) [] [] cpos) (tE X.K c Wx (mLm f mo [])) :=
  PE.weak (pe_bm0 F.plainAttrs_list slot hty hm ho hbase hline) fun σ H Q h => by
    obtain ⟨W, st, env, S, E, p⟩ := h
    refine ⟨W, st, env, S, E, p.bind.mono fun dx st1 p1 x H1 W1 T1 S1 R1 => ?_⟩
    split at p1
    · rename_i hl
      refine ⟨tyL S1 R1 hl, ?_⟩
      have p2 : Post X.K Wx σ H W (match f st1 dx [] with | some (d, st3) => R.ok d st3 | none => .no) (Aft X.K H W Q) := p1
      split at p2
      · rename_i d st3 he
        exact ⟨W1, st1, dx, [], d, st3, S1, R1, .nil, he, fun v H' W' T S' R => p2 v H' W' (T1.trans T) S' R⟩
      · exact (show False from p2).elim
    · exact (show False from p1).elim
theorem dLm (slot : Slot "list" name id) (hty : typeOf (.builtin id) = pure (.type "method_descriptor")) (hm : MtR X id (liftM X.K f)) (ho : PE X o (tE X.K c Wx mo)) (ha : PA X (e :: es) (tAs X.K c Wx (mArgs ms))) (hbase : attributeBase o name X.env (eval o X.env) = eval o X.env)
    (hfew : ((backTo cpos (starEach (e :: es) X.env)).all (fun x => !x.1) && (backToKw cpos (keywordEach [] X.env)).all (fun x => x.1.isSome)
      && decide ((e :: es).length + ([] : List Keyword).length + (if ([] : List Keyword).isEmpty then 0 else 1) < 30)) = true)
    (hline : (apos.endLine == cpos.line) = true) (hs : starEach (e :: es) X.env = (false, eval e X.env) :: starEach es X.env) (hplain : (backTo cpos (starEach es X.env)).any (·.1) = false) :
    PE X (.Call (.Attribute o name apos) (e :: es) [] cpos) (tE X.K c Wx (mLm f mo ms)) :=
  PE.weak (pe_bm F.plainAttrs_list slot hty hm ho ha hbase hfew hline hs hplain) fun σ H Q h => by
    obtain ⟨W, st, env, S, E, p⟩ := h
    refine ⟨W, st, env, S, E, p.bind.mono fun dx st1 p1 x H1 W1 T1 S1 R1 => ?_⟩
    split at p1
    · rename_i hl
      refine ⟨tyL S1 R1 hl, W1, st1, env, S1, E.step S T1, (p1.bind.at T1).mono fun ds st2 p2 xs H2 W2 T2 S2 R2 => ?_⟩
      split at p2
      · rename_i d st3 he
        exact ⟨W2, st2, dx, ds, d, st3, S2, R1.step S1 T2, R2, he, fun v H' W' T S' R => p2 v H' W' ((T1.trans T2).trans T) S' R⟩
      · exact (show False from p2).elim
    · exact (show False from p1).elim
end

def PostS (K : PySem.W.Frag) (Wx : WX) (Dn : Ends) (H : Hp) (W : Wd) (r : RS) : Prop := match r with
  | .nx env st => ∀ σ' H' W', Step H W H' W' → Sim K H' W' st → EnvR K H' W' σ' env → Dn.nx σ' H'
  | .rt d st => ∀ v H' W', Step H W H' W' → Sim K H' W' st → Rep K H' W' v d → Dn.rt v H'
  | .bk env st => ∀ σ' H' W', Step H W H' W' → Sim K H' W' st → EnvR K H' W' σ' env → Dn.bk σ' H'
  | .ct env st => ∀ σ' H' W', Step H W H' W' → Sim K H' W' st → EnvR K H' W' σ' env → Dn.ct σ' H'
  | .er x env st => ∀ σ' H' W' cls dd, Step H W H' W' → Sim K H' W' st → EnvR K H' W' σ' env → XRep K H' W' x cls dd → Wx cls dd σ' H'
  | .no => False
def tSs (K : PySem.W.Frag) (c : Call) (Wx : WX) (m : MS) : TS := fun Dn σ H => ∃ W st env, Sim K H W st ∧ EnvR K H W σ env ∧ PostS K Wx Dn H W (m c env st)
theorem PS.weak {X : Cx} {s : Stmt} {t t' : TS} (h : PS X s t) (hw : ∀ Dn σ H, t' Dn σ H → t Dn σ H) : PS X s t' := ⟨fun pins s σ H Q I q => h.run pins s σ H Q I (hw _ _ _ q)⟩
theorem PSs.weak {X : Cx} {s : List Stmt} {t t' : TS} (h : PSs X s t) (hw : ∀ Dn σ H, t' Dn σ H → t Dn σ H) : PSs X s t' := ⟨fun pins s σ H Q I q => h.run pins s σ H Q I (hw _ _ _ q)⟩
section
variable {K : PySem.W.Frag} {Wx : WX} {σ : L2.St} {H H1 : Hp} {W W1 : Wd} {Dn : Ends}
theorem PostS.at {r : RS} (T : Step H W H1 W1) (h : PostS K Wx Dn H W r) : PostS K Wx Dn H1 W1 r := by
  cases r with
  | nx env st => exact fun σ' H' W' T' S' E' => h σ' H' W' (T.trans T') S' E'
  | rt d st => exact fun v H' W' T' S' E' => h v H' W' (T.trans T') S' E'
  | bk env st => exact fun σ' H' W' T' S' E' => h σ' H' W' (T.trans T') S' E'
  | ct env st => exact fun σ' H' W' T' S' E' => h σ' H' W' (T.trans T') S' E'
  | er x env st => exact fun σ' H' W' cls dd T' S' E' x' => h σ' H' W' cls dd (T.trans T') S' E' x'
  | no => exact h
theorem PostS.ofR {α : Type} {r : R α} {env : Env} {st : St} {k : α → St → RS} (S : Sim K H W st) (E : EnvR K H W σ env) (h : PostS K Wx Dn H W (RS.ofR r env k)) : Post K Wx σ H W r fun a st' => PostS K Wx Dn H W (k a st') := by
  cases r with
  | ok a st' => exact h
  | er x st' => exact fun H' W' cls dd T S' x' => h σ H' W' cls dd T S' (E.step S T) x'
  | no => exact h
theorem PostS.at' {r : RS} {a : St} {al : Type} {x : al} (T : Step H W H1 W1) (h : PostS K Wx Dn H W r) : PostS K Wx Dn H1 W1 r := h.at T
theorem PostS.seq {r : RS} {k : Env → St → RS} (h : PostS K Wx Dn H W (r.bind k)) : PostS K Wx { Dn with nx := fun σ' H' => ∃ W' st env, Sim K H' W' st ∧ EnvR K H' W' σ' env ∧ PostS K Wx Dn H' W' (k env st) } H W r := by
  cases r with
  | nx env st => exact fun σ' H' W' T S' E' => ⟨W', st, env, S', E', PostS.at T h⟩
  | rt d st => exact h
  | bk env st => exact h
  | ct env st => exact h
  | er x env st => exact h
  | no => exact h
end
section
variable {X : Cx} {c : Call} {Wx : WX} {a b e : Expr} {ma mb me : ME} {pos : Pos} {s : Stmt} {rest bd bd2 : List Stmt} {m m2 : MS}
theorem sNil : PSs X [] (tSs X.K c Wx sSkip) := PSs.weak pss_nil fun Dn σ H h => by
  obtain ⟨W, st, env, S, E, p⟩ := h
  exact p σ H W (Step.refl _ _) S E
theorem sOne (h : PS X s (tSs X.K c Wx m)) : PSs X [s] (tSs X.K c Wx m) := pss_one h
theorem sConsD (h : PS X s (tSs X.K c Wx m)) (hr : PSs X rest (tSs X.K c Wx m2)) : PSs X (s :: rest) (tSs X.K c Wx (sSeq m m2)) := PSs.weak (pss_cons h hr) fun Dn σ H h => by
  obtain ⟨W, st, env, S, E, p⟩ := h
  exact ⟨W, st, env, S, E, p.seq⟩
theorem sPassD : PS X (.Pass pos) (tSs X.K c Wx sSkip) := PS.weak ps_pass fun Dn σ H h => by
  obtain ⟨W, st, env, S, E, p⟩ := h
  exact p σ H W (Step.refl _ _) S E
theorem sBrkD : PS X (.Break pos) (tSs X.K c Wx sBrk) := PS.weak ps_break fun Dn σ H h => by
  obtain ⟨W, st, env, S, E, p⟩ := h
  exact p σ H W (Step.refl _ _) S E
theorem sCntD : PS X (.Continue pos) (tSs X.K c Wx sCnt) := PS.weak ps_continue fun Dn σ H h => by
  obtain ⟨W, st, env, S, E, p⟩ := h
  exact p σ H W (Step.refl _ _) S E
theorem sExprD (he : PE X e (tE X.K c Wx me)) (hs : swapsWith e none pos.line X.env = pure false) : PS X (.Expr e pos) (tSs X.K c Wx (sExpr me)) := PS.weak (ps_expr he hs) fun Dn σ H h => by
  obtain ⟨W, st, env, S, E, p⟩ := h
  exact ⟨W, st, env, S, E, (p.ofR S E).mono fun d st1 p1 v H1 W1 T1 S1 R1 => p1 σ H1 W1 T1 S1 (E.step S T1)⟩
theorem sRetD (he : PE X e (tE X.K c Wx me)) : PS X (.Return (some e) pos) (tSs X.K c Wx (sRet me)) := PS.weak (ps_ret he) fun Dn σ H h => by
  obtain ⟨W, st, env, S, E, p⟩ := h
  exact ⟨W, st, env, S, E, (p.ofR S E).mono fun d st1 p1 v H1 W1 T1 S1 R1 => p1 v H1 W1 T1 S1 R1⟩
theorem sRetND : PS X (.Return none pos) (tSs X.K c Wx sRetN) := PS.weak ps_retN fun Dn σ H h => by
  obtain ⟨W, st, env, S, E, p⟩ := h
  exact p .non H W (Step.refl _ _) S .non
theorem sIfD {t : MT} (ht : PT X e (tTs X.K c Wx t)) (ha : PSs X bd (tSs X.K c Wx m)) (hb : PSs X bd2 (tSs X.K c Wx m2)) : PS X (.If e bd bd2 pos) (tSs X.K c Wx (sIf t m m2)) := PS.weak (ps_if ht ha hb) fun Dn σ H h => by
  obtain ⟨W, st, env, S, E, p⟩ := h
  refine ⟨W, st, env, S, E, (p.ofR S E).mono fun x st1 p1 H1 W1 T1 S1 => ?_⟩
  cases x with
  | true =>
    rw [if_pos rfl] at p1 ⊢
    exact ⟨W1, st1, env, S1, E.step S T1, p1.at T1⟩
  | false =>
    rw [if_neg Bool.false_ne_true] at p1 ⊢
    exact ⟨W1, st1, env, S1, E.step S T1, p1.at T1⟩
theorem asg_weak {is : List Nat} {g : MG} {Dn : Ends} {σ : L2.St} {H : Hp} (h : tSs X.K c Wx (sAsg g me) Dn σ H) : tAsg (tE X.K c Wx me) (tG X.K is g) Dn σ H := by
  obtain ⟨W, st, env, S, E, p⟩ := h
  refine ⟨W, st, env, S, E, (p.ofR S E).mono fun d st1 p1 v H1 W1 T1 S1 R1 => ?_⟩
  split at p1
  · rename_i env1 he
    exact ⟨W1, st1, d, env, env1, S1, R1, E.step S T1, he, fun σ' E' _ _ => p1 σ' H1 W1 T1 S1 E'⟩
  · exact (show False from p1).elim
theorem sAsgD {tg : Expr} {is : List Nat} {g : MG} (he : PE X e (tE X.K c Wx me)) (hg : PG X tg (tG X.K is g)) (hs : swapsWithSole [tg] e pos.line X.env = pure false) (hw : swappedStores [tg] e X.env = pure none) (h1 : (assignEach [tg] X.env).map (·.2) = [assign tg X.env]) :
    PS X (.Assign [tg] e pos) (tSs X.K c Wx (sAsg g me)) := PS.weak (ps_asg he hg hs hw h1) fun Dn σ H h => asg_weak h
theorem name_weak {i : Nat} {v : V} {σ : L2.St} {H : Hp} {Q : L2.St → Hp → Prop} (h : tG X.K [i] (gNm i) v σ H Q) : gName i v σ H Q := by
  obtain ⟨W, st, d, env, env', S, r, E, e, q⟩ := h
  unfold gNm at e
  split at e
  · cases e
    exact q _ (E.set r) (by simp) fun j hj => by rw [List.getElem?_set_ne (fun z => hj (by simp [z]))]
  · cases e
theorem tE_mono {σ : L2.St} {H : Hp} {Q Q' : VK} (h : tE X.K c Wx me σ H Q) (hq : ∀ v H', Q v H' → Q' v H') : tE X.K c Wx me σ H Q' := by
  obtain ⟨W, st, env, S, E, p⟩ := h
  exact ⟨W, st, env, S, E, p.mono fun d st1 p1 v H1 W1 T1 S1 R1 => hq _ _ (p1 v H1 W1 T1 S1 R1)⟩
theorem sSetD {i : Nat} {x : Str} {p : Pos} (hN : X.N.Nodup) (hi : X.N[i]? = some x) (hx : Loc X.env.scope x) (he : PE X e (tE X.K c Wx me)) (hs : swapsWith e (some (.Name x p)) pos.line X.env = pure false) (hf : X.fn x = true ∨ X.env.scope.names.lookup x = some .local) :
    PS X (.Assign [.Name x p] e pos) (tSs X.K c Wx (sAsg (gNm i) me)) := PS.weak (ps_set hN hi hx he hs hf) fun Dn σ H h => tE_mono (asg_weak (is := [i]) h) fun v H' q => name_weak q
def rSetX (K : PySem.W.Frag) : TSet := fun o i v H Q => ∃ W st dO dI dV st', Sim K H W st ∧ Rep K H W o dO ∧ Rep K H W i dI ∧ Rep K H W v dV ∧ putIx st dO dI dV = some st' ∧ ∀ H' W', Step H W H' W' → Sim K H' W' st' → Q H'
theorem set_any (hu : X.A.units + 1 < cLine) : PSet X (rSetX X.K) := by
  intro pins s σ H o i v ov iv u Q I ro ri rv h
  obtain ⟨W, st, dO, dI, dV, st', S, r1, r2, r3, e, q⟩ := h
  have bl : big < sizeLine := by decide
  unfold putIx at e
  split at e
  · rename_i n
    cases r1 with
    | ref hr =>
      rename_i a
      split at e
      · rename_i xs k hn
        obtain ⟨j, hj, rfl⟩ := Option.map_eq_some_iff.mp e
        obtain ⟨vs, hv, rv2⟩ := S.cell _ a _ hr hn
        have ev := rep_int r2
        subst ev
        have T := Step.write S (o := .lst (vs.set j v)) hr
        exact set_list pins s σ H _ _ v ov iv u Q I ro ri rv ⟨a, vs, k, j, rfl, rfl, hv, by rw [rv2.length]; exact hj, q _ W T (S.write hr ⟨_, upd_same, (Reps.set r3 j rv2).step S T⟩)⟩
      · rename_i dI ks vs hn
        split at e
        · rename_i hk
          have hk' := (Bool.and_eq_true _ _).mp hk
          cases e
          obtain ⟨kvs, hv, rk, rv2⟩ := S.cell _ a _ hr hn
          obtain ⟨ke, rfl⟩ := key_rep r2 hk'.1
          have pr := put_rep r2 r3 rk rv2
          have hl : kvs.length ≤ big := by
            have h1 := rk.length
            rw [List.length_map] at h1
            have h2 := of_decide_eq_true hk'.2
            omega
          have T := Step.write S (o := .dK (putK kvs ke v)) hr
          exact set_dict hu pins s σ H _ _ v ov iv u Q I ro ri rv ⟨a, _, rfl, DPut.k hv (by omega), q _ W T (S.write hr ⟨_, upd_same, pr.1.step S T, pr.2.step S T⟩)⟩
        · cases e
      · cases e
  · cases e
theorem sPutD {o i : Expr} {mo mi : ME} {p : Pos} (hu : X.A.units + 1 < cLine) (he : PE X e (tE X.K c Wx me)) (ho : PE X o (tE X.K c Wx mo)) (hi : PE X i (tE X.K c Wx mi)) (hs : swapsWithSole [.Subscript o i p] e pos.line X.env = pure false)
    (ha : ∀ v, assign (.Subscript o i p) X.env v = (do
      let ov ← holding [v] (eval o X.env)
      let iv ← holding [v, ov] (eval i X.env)
      standAt p
      holding [v, ov, iv] (setItem ov iv v)
      release [v, ov, iv] []))
    (hw : swappedStores [.Subscript o i p] e X.env = pure none) (h1 : (assignEach [.Subscript o i p] X.env).map (·.2) = [assign (.Subscript o i p) X.env]) : PS X (.Assign [.Subscript o i p] e pos) (tSs X.K c Wx (sPut mo mi me)) :=
  PS.weak (ps_asg he (pg_sub ho hi (set_any hu) ha) hs hw h1) fun Dn σ H h => by
    obtain ⟨W, st, env, S, E, p⟩ := h
    refine ⟨W, st, env, S, E, (p.ofR S E).mono fun dv st1 p1 v H1 W1 T1 S1 R1 => ⟨W1, st1, env, S1, E.step S T1, ((p1.at T1).ofR S1 (E.step S T1)).mono fun dO st2 p2 vo H2 W2 T2 S2 R2 => ⟨W2, st2, env, S2, E.step S (T1.trans T2), ((p2.at T2).ofR S2 (E.step S (T1.trans T2))).mono fun dI st3 p3 vi H3 W3 T3 S3 R3 => ?_⟩⟩⟩
    split at p3
    · rename_i st4 h4
      exact ⟨W3, st3, dO, dI, dv, st4, S3, R2.step S2 T3, R3, R1.step S1 (T2.trans T3), h4, fun H' W' T S' => p3 σ H' W' (T3.trans T) S' (E.step S (((T1.trans T2).trans T3).trans T))⟩
    · exact (show False from p3).elim
theorem sWhileD {t : MT} (hp : PassesOwn (model X.prog X.w) X.A X.env X.xe) (ht : PT X e (tTs X.K c Wx t)) (hb : PSs X bd (tSs X.K c Wx m)) : PS X (.While e bd [] pos) (tSs X.K c Wx (sWhile t m)) :=
  PS.weak (ps_while hp ht hb) fun Dn σ H h => by
    obtain ⟨W, st, env, S, E, p⟩ := h
    have p' : PostS X.K Wx Dn H W (whileN c t m wMost env st) := p
    generalize wMost = n at p'
    refine ⟨fun k σ H => ∃ W st env, Sim X.K H W st ∧ EnvR X.K H W σ env ∧ PostS X.K Wx Dn H W (whileN c t m k env st), ⟨n, W, st, env, S, E, p'⟩, ?_⟩
    rintro k σ H ⟨W, st, env, S, E, p⟩
    cases k with
    | zero => exact (show False from p).elim
    | succ k =>
      unfold whileN at p
      refine ⟨W, st, env, S, E, (p.ofR S E).mono fun x st1 p1 H1 W1 T1 S1 => ?_⟩
      cases x with
      | false =>
        rw [if_neg Bool.false_ne_true] at p1
        dsimp only
        rw [if_neg Bool.false_ne_true]
        exact p1 σ H1 W1 T1 S1 (E.step S T1)
      | true =>
        rw [if_pos rfl] at p1
        dsimp only
        rw [if_pos rfl]
        refine ⟨fun σ' H' => ∃ W st env, Sim X.K H' W st ∧ EnvR X.K H' W σ' env ∧ PostS X.K Wx Dn H' W (whileN c t m k env st), fun σ' H' q => ⟨k, by omega, q⟩, W1, st1, env, S1, E.step S T1, ?_⟩
        have p2 := p1.at T1
        clear p1 p
        generalize m c env st1 = r at p2 ⊢
        cases r with
        | nx env2 st2 => exact fun σ' H' W' T S' E' => ⟨W', st2, env2, S', E', p2.at T⟩
        | ct env2 st2 => exact fun σ' H' W' T S' E' => ⟨W', st2, env2, S', E', p2.at T⟩
        | bk env2 st2 => exact p2
        | rt d st2 => exact p2
        | er x env2 st2 => exact p2
        | no => exact p2
theorem sForD {tg iter : Expr} {is : List Nat} {it : MI} {g : MG} (hp : PassesOwn (model X.prog X.w) X.A X.env X.xe) (hc : X.calm = true) (hi : PI X tg iter (tIs X.K c Wx it)) (hg : PG X tg (tG X.K is g)) (hb : PSs X bd (tSs X.K c Wx m)) (hs : ∀ x, foldedSetIterable iter X.env x = pure x) :
    PS X (.For tg iter bd [] pos) (tSs X.K c Wx (sFor it g m)) :=
  PS.weak (ps_for hp hc hi hg hb hs) fun Dn σ H h => by
    obtain ⟨W, st, env, S, E, p⟩ := h
    refine ⟨W, st, env, S, E, (p.ofR S E).mono fun pr st1 p1 J H1 W1 T1 S1 wk hxl => ?_⟩
    obtain ⟨xs, gd⟩ := pr
    refine ⟨fun i k σ2 H2 => k = xs.length - i ∧ i ≤ xs.length ∧ ∃ W2 st2 env2, Step H1 W1 H2 W2 ∧ Sim X.K H2 W2 st2 ∧ EnvR X.K H2 W2 σ2 env2 ∧ PostS X.K Wx Dn H2 W2 (forL c gd xs g m (xs.drop i) env2 st2),
      ⟨xs.length, by simp, Nat.zero_le _, W1, st1, env, Step.refl _ _, S1, E.step S T1, p1.at T1⟩, ?_⟩
    rintro i k σ2 H2 ⟨rfl, hi, W2, st2, env2, T2, S2, E2, p2⟩
    by_cases hlt : i < xs.length
    · obtain ⟨d, hd⟩ : ∃ d, xs[i]? = some d := ⟨xs[i], List.getElem?_eq_getElem hlt⟩
      have edrop : xs.drop i = d :: xs.drop (i + 1) := by
        rw [List.drop_eq_getElem_cons hlt]
        have : xs[i] = d := by rw [List.getElem?_eq_getElem hlt] at hd; exact Option.some.inj hd
        rw [this]
      rw [edrop] at p2
      unfold forL at p2
      by_cases hgd : gOk gd xs st2
      · rw [if_pos hgd] at p2
        refine .inr ⟨wk.go i H2 W2 st2 T2 S2 hgd hlt, fun σ' H' => ∃ W' st' env', Step H1 W1 H' W' ∧ Sim X.K H' W' st' ∧ EnvR X.K H' W' σ' env' ∧ PostS X.K Wx Dn H' W' (forL c gd xs g m (xs.drop (i + 1)) env' st'),
          fun σ' H' q => ⟨xs.length - (i + 1), by omega, rfl, hlt, q⟩, fun x H' y => ?_⟩
        obtain ⟨Ty, Sy, rx⟩ := wk.yld i H2 W2 st2 d x H' T2 S2 hgd hd y
        replace T2 := T2.trans Ty
        replace E2 := E2.step S2 Ty
        replace p2 := p2.at Ty
        replace S2 := Sy
        clear Sy Ty
        split at p2
        · exact (show False from p2).elim
        · rename_i env1 henv1
          refine ⟨W2, st2, d, env2, env1, S2, rx, E2, henv1, fun σ' E1 hl hj => ⟨W2, st2, env1, S2, E1, ?_⟩⟩
          generalize m c env1 st2 = r at p2 ⊢
          cases r with
          | nx env3 st3 => exact fun σ' H' W' T S' E' => ⟨W', st3, env3, T2.trans T, S', E', p2.at T⟩
          | ct env3 st3 => exact fun σ' H' W' T S' E' => ⟨W', st3, env3, T2.trans T, S', E', p2.at T⟩
          | bk env3 st3 => exact p2
          | rt d st3 => exact p2
          | er x env3 st3 => exact p2
          | no => exact p2
      · rw [if_neg hgd] at p2
        exact (show False from p2).elim
    · have e : i = xs.length := by omega
      rw [List.drop_of_length_le (by omega)] at p2
      unfold forL at p2
      by_cases hgd : gOk gd xs st2
      · rw [if_pos hgd] at p2
        exact .inl ⟨wk.stop i H2 W2 st2 T2 S2 hgd e, p2 σ2 H2 W2 (Step.refl _ _) S2 E2⟩
      · rw [if_neg hgd] at p2
        exact (show False from p2).elim
end
section
variable {X : Cx} {c : Call} {Wx : WX} {elt tg iter : Expr} {ifs : List Expr} {scope : Scope} {own : List (Str × Nat)} {pos spos py : Pos} {it : MI} {g : MG} {ts : MT} {me : ME} {is : List Nat} {i : Nat} {y : Str}
theorem sSetC (hc : X.calm = true) (hN : X.N.Nodup) (hy : X.N[i]? = some y) (hyl : X.env.scope.names.lookup y = some .local)
    (hsw : swapsWith (.ListComp elt [⟨tg, iter, ifs, 0⟩] scope pos) (some (.Name y py)) spos.line X.env = pure true) (hi : PI X tg iter (tIs X.K c Wx it)) (ok : BlkOk X.N X.env.scope scope own) (his : ∀ i ∈ is, i ∈ own.map (·.2))
    (hg : ∀ (s : Shared) (H : Hp) (C : Addr) (cl : List (Str × Addr)) (fp : List Addr), PG (X.blk s H scope (compEnvC scope cl C X.env) fp) tg (tG X.K is g)) (ht : ∀ (s : Shared) (H : Hp) (C : Addr) (cl : List (Str × Addr)) (fp : List Addr), PTs (X.blk s H scope (compEnvC scope cl C X.env) fp) ifs (tTs X.K c WF ts))
    (he : ∀ (s : Shared) (H : Hp) (C : Addr) (cl : List (Str × Addr)) (fp : List Addr), PE (X.blk s H scope (compEnvC scope cl C X.env) fp) elt (tE X.K c WF me)) (hs : ∀ x, foldedSetIterable iter X.env x = pure x) :
    PS X (.Assign [.Name y py] (.ListComp elt [⟨tg, iter, ifs, 0⟩] scope pos) spos) (tSs X.K c Wx (sAsg (gNm i) (mComp (own.map (·.2)) it g ts me))) :=
  PS.weak (ps_setLc hc hN hy hyl hsw hi ok hg ht he hs) fun Dn σ H h => by
    have h1 : tAsg (tE X.K c Wx (mComp (own.map (·.2)) it g ts me)) (gName i) Dn σ H := tE_mono (asg_weak (is := [i]) h) fun v H' q => name_weak q
    obtain ⟨W, st, env, S, E, p⟩ := h1
    exact comp_core his S E (fun ys st2 => .inl rfl) p
theorem sSetCM (hc : X.calm = true) (hN : X.N.Nodup) (hy : X.N[i]? = some y) (hyl : X.env.scope.names.lookup y = some .local)
    (hsw : swapsWith (.ListComp elt [⟨tg, iter, ifs, 0⟩] scope pos) (some (.Name y py)) spos.line X.env = pure true) (hi : PI X tg iter (tIs X.K c Wx it)) (ok : BlkOk X.N X.env.scope scope own) (his : ∀ i ∈ is, i ∈ own.map (·.2))
    (hg : ∀ (s : Shared) (H : Hp) (C : Addr) (cl : List (Str × Addr)) (fp : List Addr), PG (X.blk s H scope (compEnvC scope cl C X.env) fp) tg (tG X.K is g)) (ht : ∀ (s : Shared) (H : Hp) (C : Addr) (cl : List (Str × Addr)) (fp : List Addr), PTs (X.blk s H scope (compEnvC scope cl C X.env) fp) ifs (tTs X.K c WF ts))
    (he : ∀ (s : Shared) (H : Hp) (C : Addr) (cl : List (Str × Addr)) (fp : List Addr), PE (X.blk s H scope (compEnvC scope cl C X.env) fp) elt (tE X.K c WF me)) (hs : ∀ x, foldedSetIterable iter X.env x = pure x) :
    PS X (.Assign [.Name y py] (.ListComp elt [⟨tg, iter, ifs, 0⟩] scope pos) spos) (tSs X.K c Wx (sAsg (gNm i) (mCompM (own.map (·.2)) it g ts me))) :=
  PS.weak (ps_setLc hc hN hy hyl hsw hi ok hg ht he hs) fun Dn σ H h => by
    have h1 : tAsg (tE X.K c Wx (mCompM (own.map (·.2)) it g ts me)) (gName i) Dn σ H := tE_mono (asg_weak (is := [i]) h) fun v H' q => name_weak q
    obtain ⟨W, st, env, S, E, p⟩ := h1
    exact comp_core his S E (fun ys st2 => .inr rfl) p
end
end RP
end
section
set_option Elab.async false
set_option linter.all false
set_option maxRecDepth 100000
namespace RP
open PySem L2
abbrev Fc := World → PySem.W.Frag → (Str → Option Value) → Prop
def bF (x : Str) : Fc := fun _ _ mg => mg x = none
def cF (x : Str) (d : D) : Fc := fun _ K mg => ∃ v u, mg x = some u ∧ RelV v u ∧ ∀ H W, Rep K H W v d
structure FI where
  own : Option (Str × Str)
  short : Str
  name : Str
  st : Stmt
  ps : List Str
  N : List Str
  fn : Fn
section
variable {P : Program} {w : World} {K : PySem.W.Frag} {mg : Str → Option Value} {base : Heap} {N : List Str} {qual : Str} {scope : Scope} {f : Addr} {cdv : Value} {A : Around} {outer : List PySem.Env} {s : Shared} {H : Hp} {E : XK}
abbrev WL (E : XK) : WX := fun cls d _ H => E cls d H
theorem cx_takes : L2N.Takes (cxOf (L2N.CX P w) P w K mg base N qual scope f cdv A outer s H E) (WL E) := L2N.takes_of rfl rfl rfl rfl
theorem cx_passes : PassesOwn (model P w) (cxOf (L2N.CX P w) P w K mg base N qual scope f cdv A outer s H E).A (cxOf (L2N.CX P w) P w K mg base N qual scope f cdv A outer s H E).env (cxOf (L2N.CX P w) P w K mg base N qual scope f cdv A outer s H E).xe := passes_of (X := cxOf (L2N.CX P w) P w K mg base N qual scope f cdv A outer s H E) rfl
end
structure RoomB (k : Nat) (A : Around) : Prop extends RoomG k A where
  dp2 : A.depth + 2 * k + 10 < recursionLimit
  un2 : A.units + 16 * k + 213 < cLine
  un4 : A.units + 16 * k + 613 < cLine
theorem roomB_of {k : Nat} {A : Around} (r : RoomG (k + 1) A) (env : PySem.Env) : RoomB k (A.deeper env) :=
  { hd := r.hd, dp := by have := r.dp; show A.depth + 1 + 2 * k + 9 < _; omega, un := by have := r.un; show A.units + 3 + 16 * k + 200 < _; omega, un3 := by have := r.un3; show A.units + 3 + 16 * k + 600 < _; omega, dp2 := by have := r.dp; show A.depth + 1 + 2 * k + 10 < _; omega, un2 := by have := r.un; show A.units + 3 + 16 * k + 213 < _; omega, un4 := by have := r.un3; show A.units + 3 + 16 * k + 613 < _; omega }
def Body (L : List FI) (bs : List Fc) (i : FI) : Prop := ∀ (P : Program) (w : World) (K : PySem.W.Frag) (mg : Str → Option Value) (base : Heap) (c : Call) (n : Nat) (f : Addr) (cdv : Value) (A : Around) (outer : List PySem.Env) (s : Shared) (H : Hp) (E : XK),
  2 ≤ n → (∀ (k : Nat) (j : FI), L[k]? = some j → FnAt P w K mg base c n j.own j.name j.ps.length) → (∀ (k : Nat) (b : Fc), bs[k]? = some b → b w K mg) → RoomB n (A.deeper (PyProof.Rows.envOfC i.name (defScope i.st) s.heap.objs.size f cdv)) →
  (A.deeper (PyProof.Rows.envOfC i.name (defScope i.st) s.heap.objs.size f cdv)).guards = some [] →
  PSs (cxOf (L2N.CX P w) P w K mg base i.N i.name (defScope i.st) f cdv A outer s H E) (defBody i.st) (tSs K c (WL E) i.fn.body)
theorem gc_ok_some (st : St) (d : D) (st' : St) : ∃ d2 st2, gc st d st' = .ok d2 st2 := by
  unfold gc
  split
  · exact ⟨_, _, rfl⟩
  · split
    · split
      · exact ⟨_, _, rfl⟩
      · split
        · split <;> exact ⟨_, _, rfl⟩
        · exact ⟨_, _, rfl⟩
    · exact ⟨_, _, rfl⟩
section
variable {K : PySem.W.Frag} {Wx : WX} {σ : L2.St} {H : Hp} {W : Wd} {Q : VK}
theorem gc_post {st st' : St} {d : D} (S : Sim K H W st) (p : Post K Wx σ H W (gc st d st') (Aft K H W Q)) {v : V} {H' : Hp} {W' : Wd} (T : Step H W H' W') (S' : Sim K H' W' st') (r : Rep K H' W' v d) : Q v H' := by
  obtain ⟨d2, st2, e⟩ := gc_ok_some st d st'
  rw [e] at p
  obtain ⟨W2, T2, S2, r2⟩ := gc_ok S T S' r e
  exact p v H' W2 T2 S2 r2
theorem start_env {N : List Str} {vs : List V} {ds : List D} (r : Reps K H W vs ds) : EnvR K H W (L2.start N vs) (ds.map some ++ List.replicate (N.length - ds.length) none) := by
  have hl := r.length
  refine ⟨by simp [L2.start, hl], fun i d h => ?_⟩
  by_cases hi : i < ds.length
  · rw [List.getElem?_append_left (by simpa using hi), List.getElem?_map] at h
    obtain ⟨d', e1, e2⟩ := Option.map_eq_some_iff.mp h
    cases e2
    obtain ⟨v, f1, f2⟩ := r.get e1
    refine ⟨v, ?_, f2⟩
    unfold L2.start
    rw [List.getElem?_append_left (by simp; omega), List.getElem?_map, f1]
    rfl
  · rw [List.getElem?_append_right (by simpa using hi), List.getElem?_replicate] at h
    split at h
    · cases h
    · cases h
theorem run_start {T : Tab} {n : Nat} {f : Str} {fn : Fn} {N : List Str} {vs : List V} {E : XK} (hT : T f = some fn) (hns : fn.ns = N.length) (h : spF K (run T (n + 1)) f fn.np vs H Q E) :
    tSs K (run T n) (WL E) fn.body { nx := fun _ H' => Q .non H', rt := Q } (L2.start N vs) H := by
  obtain ⟨W, st, ds, S, R, hl, p⟩ := h
  have e : run T (n + 1) f ds st = runFn (run T n) fn ds st := by
    show (match T f with | some fn => runFn (run T n) fn ds st | none => .no) = _
    rw [hT]
  rw [e] at p
  unfold runFn at p
  rw [if_pos hl] at p
  refine ⟨W, st, ds.map some ++ List.replicate (fn.ns - fn.np) none, S, ?_, ?_⟩
  · have := start_env (N := N) R
    rw [hns, ← hl]
    exact this
  · generalize fn.body (run T n) (ds.map some ++ List.replicate (fn.ns - fn.np) none) st = r at p ⊢
    cases r with
    | nx env st1 => exact fun σ' H' W' T' S' E' => gc_post S p T' S' .non
    | rt d st1 => exact fun v H' W' T' S' R' => gc_post S p T' S' R'
    | bk env st1 => exact (show False from p).elim
    | ct env st1 => exact (show False from p).elim
    | er x env st1 => exact fun σ' H' W' cls dd T' S' E' x' => p H' W' cls dd T' S' x'
    | no => exact (show False from p).elim
end
section
variable {P : Program} {w : World} {K : PySem.W.Frag} {mg : Str → Option Value} {base : Heap} {L : List FI} {bs : List Fc} {T : Tab} {n : Nat} {j : FI} {a : Addr} {fd : FuncData}
theorem sp_len {c : Call} {f : Str} {ps : List Str} {vs : List V} {H : Hp} {Q : VK} {E : XK} (h : spF K c f ps.length vs H Q E) : vs.length = ps.length := by
  obtain ⟨W, st, ds, S, R, hl, p⟩ := h
  rw [R.length, hl]
theorem fnG_of {N ps : List Str} {k : Nat} {sp : Sp} {x qual : Str} {params : Arguments} {body : List Stmt} {scope : Scope} (F : FunD K x qual params body scope [] [] a fd) (S : FnScope N ps scope) (len : ∀ vs H Q E, sp vs H Q E → vs.length = ps.length)
    (hbody : ∀ (cdv : Value) (A : Around) (up : List PySem.Env) (s : Shared) (H : Hp) (vs : List V) (Q : VK) (E : XK), RoomB k (A.deeper (PyProof.Rows.envOfC qual scope s.heap.objs.size a cdv)) → (A.deeper (PyProof.Rows.envOfC qual scope s.heap.objs.size a cdv)).guards = some [] → sp vs H Q E →
      ∃ t, PSs (cxOf (L2N.CX P w) P w K mg base N qual scope a cdv A up s H E) body t ∧ t { nx := fun _ H' => Q .non H', rt := Q } (L2.start N vs) H) : FnG P w K mg base (k + 1) a fd ps sp := by
  obtain ⟨oc, od, dV, kV, doc, pm, an, cdv, ct, osl, rfl, lk, hcd, _, _⟩ := F.ex
  refine ⟨len, fun A up s H args us vs Q E hr hgd e0 hb rv hsp => ?_⟩
  have old : ∀ b o, base.get? b = some o → s.heap.get? b = some o := fun b o e => (e0.bs b o e).1
  have kin : K.In s.heap := e0.mod.kin.keeps old
  have nlim : s.heap.NoLimit := e0.mod.nolimit.keeps old
  refine codeAny_call_function hr.depth (kin _ _ lk) rfl S.co S.gen rfl (PySem.W.codeRec_of kin hcd) (hb _ _ _ _ ?_)
  refine wpAny_newFunctionEnv_cells S.kind (fun y hy => (S.par y.1 (List.of_mem_zip hy).1).imp id fun z => ⟨z, PySem.W.cellsFrom_some _ _ _ (.inl z)⟩) fun env he s1 ic => ?_
  subst he
  refine ⟨nlim.keeps ic.toInCall.keep, codeAny_func ?_⟩
  obtain ⟨t, ht, hq⟩ := hbody cdv A up s H vs Q E (roomB_of hr _) hgd hsp
  refine wpAny_mono (ht.run [] s1 (L2.start N vs) H _ (inv_start S hr.hd e0 (len _ _ _ _ hsp) rv ic) hq) (fun fl s2 hs => ?_) fun _ _ hs => hs
  cases fl with
  | ret u => obtain ⟨v, σ2, H2, J, r2, q⟩ := hs; exact ⟨v, H2, J.os, J.bare, J.base, J.hok, r2, q⟩
  | next => obtain ⟨σ2, H2, J, q⟩ := hs; exact ⟨.non, H2, J.os, J.bare, J.base, J.hok, rfl, q⟩
  | brk => obtain ⟨_, _, _, q⟩ := hs; exact False.elim q
  | cont => obtain ⟨_, _, _, q⟩ := hs; exact False.elim q
theorem fn_step (F : FunD K j.short j.name (defArgs j.st) (defBody j.st) (defScope j.st) [] [] a fd) (hS : FnScope j.N j.ps (defScope j.st)) (hb : Body L bs j) (hT : T j.name = some j.fn) (hnp : j.fn.np = j.ps.length) (hns : j.fn.ns = j.N.length)
    (hA : ∀ (k : Nat) (i : FI), L[k]? = some i → FnAt P w K mg base (run T n) (n + 2) i.own i.name i.ps.length) (hB : ∀ (k : Nat) (b : Fc), bs[k]? = some b → b w K mg) :
    FnG P w K mg base (n + 3) a fd j.ps (spF K (run T (n + 1)) j.name j.ps.length) := by
  refine fnG_of F hS (fun vs H Q E h => sp_len h) fun cdv A outer s H vs Q E hr hgd h => ⟨_, hb P w K mg base (run T n) (n + 2) a cdv A outer s H E (by omega) hA hB hr hgd, ?_⟩
  rw [← hnp] at h
  exact run_start hT hns h
theorem all_ok (hT : ∀ (k : Nat) (i : FI), L[k]? = some i → T i.name = some i.fn ∧ i.fn.np = i.ps.length ∧ i.fn.ns = i.N.length) (hS : ∀ (k : Nat) (i : FI), L[k]? = some i → FnScope i.N i.ps (defScope i.st))
    (hf : ∀ (k : Nat) (i : FI), L[k]? = some i → ∃ a fd, StandsAt K mg i.name a i.own ∧ FunD K i.short i.name (defArgs i.st) (defBody i.st) (defScope i.st) [] [] a fd ∧ Binds K fd i.ps [])
    (hB : ∀ (k : Nat) (b : Fc), bs[k]? = some b → b w K mg) (hb : ∀ (k : Nat) (i : FI), L[k]? = some i → Body L bs i) : ∀ (n k : Nat) (i : FI), L[k]? = some i → FnAt P w K mg base (run T n) (n + 2) i.own i.name i.ps.length
  | 0, k, i, h => by
    obtain ⟨a, fd, h1, F, h2⟩ := hf k i h
    refine ⟨a, fd, i.ps, h1, h2, fun vs H Q E q => sp_len q, fun A outer s H args us vs Q E hr hgd he hbd hv q => ?_⟩
    obtain ⟨W, st, ds, S, R, hl, p⟩ := q
    exact (show False from p).elim
  | n + 1, k, i, h => by
    obtain ⟨a, fd, h1, F, h2⟩ := hf k i h
    obtain ⟨e1, e2, e3⟩ := hT k i h
    exact ⟨a, fd, i.ps, h1, h2, fn_step F (hS k i h) (hb k i h) e1 e2 e3 (all_ok hT hS hf hB hb n) hB⟩
theorem sp_start {K : PySem.W.Frag} {H : Hp} {a : Addr} {ns : List Int} {c : Call} {f : Str} (hO : Only H) (hS : SqL K H a (ns.map V.int)) (h : ∃ st', c f [.frz ns] [] = .ok (.bl true) st') : spF K c f 1 [.ref a] H (fun v _ => v = .bl true) fun _ _ _ => False := by
  obtain ⟨st', e⟩ := h
  refine ⟨⟨[], []⟩, [], [.frz ns], ⟨rfl, by simp, by simp, by simp, fun i a c h => by cases h⟩, .cons (.frz ?_) .nil, rfl, ?_⟩
  · rcases hS with (hS | ⟨o, hS⟩) | hS
    · rcases hO a with z | ⟨o, xs, z⟩
      · rw [z] at hS; cases hS
      · rw [z] at hS; cases hS
    · exact .inl ⟨o, hS⟩
    · exact .inr hS
  · rw [e]
    exact fun v H' W' T S' R => rep_bl R
end
def tabOf : List FI → Tab
  | [], _ => none
  | i :: l, f => if f = i.name then some i.fn else tabOf l f
theorem tab_ok : ∀ {L : List FI}, (L.map (·.name)).Nodup → ∀ (k : Nat) (i : FI), L[k]? = some i → tabOf L i.name = some i.fn
  | [], _, k, i, h => by simp at h
  | j :: l, nd, 0, i, h => by
    have e : j = i := by simpa using h
    subst e
    unfold tabOf
    rw [if_pos rfl]
  | j :: l, nd, k + 1, i, h => by
    have h' : l[k]? = some i := by simpa using h
    rw [List.map_cons, List.nodup_cons] at nd
    unfold tabOf
    rw [if_neg (fun z => nd.1 (by rw [← z]; exact List.mem_map.mpr ⟨i, List.mem_of_getElem? h', rfl⟩)), tab_ok nd.2 k i h']
def All {α : Type} (P : α → Prop) : List α → Prop
  | [] => True
  | x :: l => P x ∧ All P l
theorem all_nil {α : Type} {P : α → Prop} : All P [] := trivial
theorem all_cons {α : Type} {P : α → Prop} {x : α} {l : List α} (h : P x) (r : All P l) : All P (x :: l) := ⟨h, r⟩
theorem All.get {α : Type} {P : α → Prop} : ∀ {l : List α}, All P l → ∀ (k : Nat) (i : α), l[k]? = some i → P i
  | [], _, k, i, h => by simp at h
  | x :: l, a, 0, i, h => by
    have e : x = i := by simpa using h
    rw [← e]
    exact a.1
  | x :: l, a, k + 1, i, h => All.get a.2 k i (by simpa using h)
abbrev FunI (K : PySem.W.Frag) (i : FI) (a : Addr) (fd : FuncData) : Prop := FunD K i.short i.name (defArgs i.st) (defBody i.st) (defScope i.st) [] [] a fd
theorem law_of {P : Program} {w : World} {K : PySem.W.Frag} {mg : Str → Option Value} {L : List FI} {bs : List Fc} {j : FI} {fa : Addr} {fd : FuncData} (n : Nat) (hnd : (L.map (·.name)).Nodup) (hT : All (fun i => i.fn.np = i.ps.length ∧ i.fn.ns = i.N.length) L)
    (hS : All (fun i => FnScope i.N i.ps (defScope i.st)) L) (hb : All (Body L bs) L) (hf : All (fun i => ∃ a fd, StandsAt K mg i.name a i.own ∧ FunI K i a fd ∧ Binds K fd i.ps []) L) (hB : All (fun b => b w K mg) bs)
    (k : Nat) (hk : L[k]? = some j) (hj1 : j.ps.length = 1) (F : FunI K j fa fd) (base : Heap) : FnG P w K mg base (n + 3) fa fd j.ps (spF K (run (tabOf L) (n + 1)) j.name 1) := by
  have hT' : ∀ (k : Nat) (i : FI), L[k]? = some i → tabOf L i.name = some i.fn ∧ i.fn.np = i.ps.length ∧ i.fn.ns = i.N.length := fun k i h => ⟨tab_ok hnd k i h, hT.get k i h⟩
  have A := all_ok (P := P) (w := w) (K := K) (mg := mg) (base := base) hT' hS.get hf.get hB.get hb.get n
  have F1 := fn_step (P := P) (w := w) (mg := mg) (base := base) F (hS.get k j hk) (hb.get k j hk) (hT' k j hk).1 (hT' k j hk).2.1 (hT' k j hk).2.2 A hB.get
  rw [hj1] at F1
  exact F1
open PyProof.Rows in
theorem law_callG {P : Program} {w : World} {K : PySem.W.Frag} {mg mb : Str → Option Value} {k : Nat} {fa a : Addr} {fd : FuncData} {x : Str} {sp : Sp} {s : Shared} {vs : List Value} {ns : List Int}
    (KX : K.In s.heap) (hns : s.heap.Ns mainGlobals mg) (hb : s.heap.Ns builtinsNs mb) (hbb : ∀ x : Str, x ≠ "__name__" → mb x = bootBuiltins x) (hlim : s.heap.NoLimit) (hg : s.gens = #[])
    (ha : s.heap.get? a = some { cls := .type "list", data := .seq vs.toArray }) (hi : IntsAre vs ns) (hl : ns.length ≤ sizeLine) (hr : RoomG k callerA) (F : ∀ base : Heap, FnG P w K mg base k fa fd [x] sp) (hbind : ∀ (s : Shared) (u : Value), BindsTo s fd ⟨[u], []⟩ [(x, u)])
    (hsp : ∀ H : Hp, Only H → SqL K H a (ns.map V.int) → sp [.ref a] H (fun v _ => v = .bl true) fun _ _ _ => False) :
    codeAny (model P w) callerA (.call (.ref fa) ⟨[.ref a], []⟩) (fun r s' => r = .ok (.ret (.bool true)) ∧ OldK s.heap s'.heap ∧ s'.os = s.os ∧ AllBare s'.gens) s := by
  have key : ∀ H : Hp, Only H → SqL K H a (ns.map V.int) → HOk P w H s.heap → (∀ b, H b ≠ none → b = a ∧ K.lookup a = none) → codeAny (model P w) callerA (.call (.ref fa) ⟨[.ref a], []⟩) (fun r s' => r = .ok (.ret (.bool true)) ∧ OldK s.heap s'.heap ∧ s'.os = s.os ∧ AllBare s'.gens) s := fun H hO hS hok hA => by
    have free : ∀ {b : Addr} {o : Obj} {es : Array DictEntry} {ep : Nat}, s.heap.get? b = some o → o.data = .dict es ep → H b = none := fun {b o es ep} e d => by
      by_cases q : H b = none
      · exact q
      · obtain ⟨rfl, _⟩ := hA b q
        rw [ha] at e
        cases e
        exact absurd (show Data.seq vs.toArray _ = Data.dict es ep from d) (fun z => by cases z)
    have nsB : ∀ {b : Addr} {m : Str → Option Value}, s.heap.Ns b m → (hidT s.heap H).Ns b m := fun ⟨o, es, ep, e, d, r⟩ => ⟨o, es, ep, hidT_get e (free e d), d, r⟩
    have kB : K.In (hidT s.heap H) := fun b o e => hidT_get (KX b o e) (by
      by_cases q : H b = none
      · exact q
      · obtain ⟨rfl, z⟩ := hA b q
        rw [z] at e
        cases e)
    obtain ⟨mc, l1, l2⟩ := hlim
    have en : Env0 P w K mg (hidT s.heap H) callerA [] s H := ⟨rfl, ⟨kB, nsB hns, ⟨mb, nsB hb, hbb⟩, ⟨mc, nsB l1, l2⟩⟩, fun b o e => of_hidT e, Nat.le_of_eq (hidT_size _ _), trivial, fun b z => absurd (show b ∈ ([] : List Addr) from z) (by simp), hok, .of_eq hg⟩
    refine codeAny_mono ((F (hidT s.heap H)).run callerA [] s H ⟨[.ref a], []⟩ [.ref a] [.ref a] _ _ hr rfl en (hbind s (.ref a)) (.cons rfl .nil) (hsp H hO hS)) fun r s' h => ?_
    rcases r with er | fl
    · obtain ⟨_, _, _, _, _, _, _, _, _, _, _, _, z⟩ := h
      exact z.elim
    · cases fl with
      | ret u =>
        obtain ⟨v, H', os, bare, un, hok', r', rfl⟩ := h
        cases (show u = Value.bool true from r')
        refine ⟨rfl, OldK.of_keep fun b o e => ?_, os, bare⟩
        rcases hO b with z | ⟨ob, xs, z⟩
        · exact un.keep b o e z (fun y => absurd (show b ∈ ([] : List Addr) from y) (by simp)) (by simp)
        · have e1 := (hok b _ z).1
          rw [e] at e1
          cases e1
          exact (hok' b _ (un.frzs b _ _ z)).1
      | _ => exact False.elim h
  have rv := vals_ints hi
  have lv := hi.length
  cases hk : K.lookup a with
  | some o =>
    have e := KX a o hk
    rw [ha] at e
    cases e
    exact key (fun _ => none) (fun _ => .inl rfl) (.inr ⟨_, vs.toArray, _, hk, rfl, rfl, rfl, by rw [List.size_toArray, lv]; exact hl, by simpa using rv⟩) (fun b u z => by cases (show (none : Option HO) = some u from z)) fun b z => absurd rfl z
  | none =>
    refine key (fun b => if b = a then some (.frz { cls := .type "list", data := .seq vs.toArray } (.lst (ns.map V.int))) else none) (fun b => ?_) (.inl (.inr ⟨{ cls := .type "list", data := .seq vs.toArray }, if_pos rfl⟩)) (fun b u z => ?_) fun b z => ?_
    · by_cases h : b = a
      · exact .inr ⟨_, _, if_pos h⟩
      · exact .inl (if_neg h)
    · by_cases h : b = a
      · cases (if_pos h).symm.trans z
        subst h
        exact ⟨ha, by rw [List.length_map]; exact hl, vs, _, rv, ha⟩
      · cases (if_neg h).symm.trans z
    · by_cases h : b = a
      · exact ⟨h, hk⟩
      · exact absurd (if_neg h) z
theorem walk_ofG {l : PySem.W.OpenLaw} {n k : Nat} {q : Program} {loose : List Str} {XP : (Str → Option Value) → Heap → Prop} {YP : World → Heap → Prop} {d : DefRec} {x : Str} (hn : l.most = some n) (hn2 : n ≤ sizeLine) (hdf : d.params.defaults = []) (hr : RoomG k PySem.callerA)
    (F : ∀ (w : World) (mg : Str → Option Value) (fa : Addr) (h : Heap), YP w h → h.Ns mainGlobals mg → mg d.name = some (.ref fa) → ∃ (K : PySem.W.Frag) (fd : FuncData) (sp : Sp), K.In h ∧ (∀ (s : Shared) (u : Value), BindsTo s fd ⟨[u], []⟩ [(x, u)]) ∧
      (∀ (H : Hp) (a : Addr) (ns : List Int), ns.length ≤ n → Only H → SqL K H a (ns.map V.int) → sp [.ref a] H (fun v _ => v = .bl true) fun _ _ _ => False) ∧ ∀ base : Heap, FnG l.prog w K mg base k fa fd [x] sp) :
    PySem.W.WalkO q loose XP YP l.row.toRowW d [] (fun f vs => PySem.call f vs) := by
  refine Att.attach_call hn hdf fun w s0 s1 mg mb fa o pm cd doc a vs ns G Y ho hd hcd hmg hobj hints hlen hg => ?_
  obtain ⟨K, fd, sp, KX, hb, hsp, hF⟩ := F w mg fa _ Y G.T.g hmg
  exact law_callG KX G.T.g G.T.b G.T.builtins G.T.nolimit hg hobj hints (Nat.le_trans hlen hn2) hr hF hb fun H hO hS => hsp H a ns hlen hO hS
end RP
end
section
set_option Elab.async false
set_option linter.all false
set_option maxRecDepth 100000
namespace RP
open PySem L2
theorem isBl_bD {o : Option Bool} {d : D} (h : bD o = some d) : ∃ b, d = .bl b := by
  cases o with
  | none => cases h
  | some b => cases h; exact ⟨b, rfl⟩
theorem ib_eq : IsBl eqB := fun _ _ _ _ h => isBl_bD h
theorem ib_ne : IsBl neB := fun _ _ _ _ h => isBl_bD h
theorem ib_in : IsBl inB := fun _ _ _ _ h => isBl_bD h
theorem ib_nin : IsBl ninB := fun _ _ _ _ h => isBl_bD h
theorem ib_lt : IsBl ltB := fun _ _ _ _ h => by
  unfold ltB at h
  split at h
  · cases h; exact ⟨_, rfl⟩
  · cases h
theorem ib_le : IsBl leB := fun _ _ _ _ h => by
  unfold leB at h
  split at h
  · cases h; exact ⟨_, rfl⟩
  · cases h
theorem ib_gt : IsBl gtB := fun _ _ _ _ h => by
  unfold gtB at h
  split at h
  · cases h; exact ⟨_, rfl⟩
  · cases h
theorem ib_ge : IsBl geB := fun _ _ _ _ h => by
  unfold geB at h
  split at h
  · cases h; exact ⟨_, rfl⟩
  · cases h
theorem ib_is : IsBl isB := fun _ _ _ _ h => by
  unfold isB at h
  split at h
  · cases h; exact ⟨_, rfl⟩
  · cases h; exact ⟨_, rfl⟩
  · cases h
theorem ib_isn : IsBl isnB := fun _ _ _ _ h => by
  unfold isnB at h
  split at h
  · cases h; exact ⟨_, rfl⟩
  · cases h; exact ⟨_, rfl⟩
  · cases h
section
variable {X : Cx} {c : Call} {Wx : WX} {a b e : Expr} {ma mb me : ME} {pos : Pos}
theorem kNon {j : Nat} : PE X (.Constant .none j pos) (tE X.K c Wx (mCst .non)) := dCst pe_non fun _ _ => .non
theorem kBl {v : Bool} {j : Nat} : PE X (.Constant (.bool v) j pos) (tE X.K c Wx (mCst (.bl v))) := dCst pe_bl fun _ _ => .bl v
theorem kInt {i : Int} {j : Nat} : PE X (.Constant (.int i) j pos) (tE X.K c Wx (mCst (.int i))) := dCst pe_int fun _ _ => .int i
theorem kStr {x : Str} {j : Nat} : PE X (.Constant (.str x) j pos) (tE X.K c Wx (mCst (.str x))) := dCst pe_str fun _ _ => .str x
theorem dPtsNil : PTs X [] (tTs X.K c Wx tYesM) := ⟨fun pins s σ H Q I h => pts_nil.run pins s σ H Q I (by
  obtain ⟨W, st, env, S, E, p⟩ := h
  exact p H W (Step.refl _ _) S)⟩
theorem dPtsOne {t : MT} (h : PT X a (tTs X.K c Wx t)) : PTs X [a] (tTs X.K c Wx t) := pts_one h
mutual
def toPy : D → PyData
  | .bl b => .bool b
  | .int i => .int i
  | .str x => .str x
  | .tup xs => .tuple (toPys xs)
  | .lst xs => .list (toPys xs)
  | _ => .none
def toPys : List D → List PyData
  | [] => []
  | x :: xs => toPy x :: toPys xs
end
def reprD (st : St) (x : D) : Option D :=
  if pln (see st x) && (toPy (see st x)).showable && decide ((toPy (see st x)).shown.length ≤ big) && decide ((toPy (see st x)).depth ≤ 480) then some (.str (toPy (see st x)).shown) else none
mutual
theorem toPy_noDict : ∀ d : D, (toPy d).hasDict = false
  | .non => by simp [toPy, PyData.hasDict]
  | .bl _ => by simp [toPy, PyData.hasDict]
  | .int _ => by simp [toPy, PyData.hasDict]
  | .str _ => by simp [toPy, PyData.hasDict]
  | .tup xs => by simp [toPy, PyData.hasDict, toPys_noDict xs]
  | .lst xs => by simp [toPy, PyData.hasDict, toPys_noDict xs]
  | .dct _ _ => by simp [toPy, PyData.hasDict]
  | .set _ => by simp [toPy, PyData.hasDict]
  | .frz _ => by simp [toPy, PyData.hasDict]
  | .ref _ => by simp [toPy, PyData.hasDict]
  | .exc _ => by simp [toPy, PyData.hasDict]
  | .exf _ _ _ _ => by simp [toPy, PyData.hasDict]
theorem toPys_noDict : ∀ ds : List D, PyData.hasDictAll (toPys ds) = false
  | [] => by simp [toPys, PyData.hasDictAll]
  | d :: ds => by simp [toPys, PyData.hasDictAll, toPy_noDict d, toPys_noDict ds]
end
mutual
theorem Pl.reads {pins : List (Addr × Obj)} {σ : L2.St} {H : Hp} {s : Shared} (I : L2.Inv X pins σ H s) : ∀ {v : V} (d : D) {u : Value}, Pl X.K H v d → RelV v u → ∃ as, Reads s.heap u (toPy d) as
  | _, .non, _, .non, r => by cases (show _ = Value.none from r); exact ⟨[], by simpa [toPy] using Reads.none⟩
  | _, .bl b, _, .bl _, r => by cases (show _ = Value.bool b from r); exact ⟨[], by simpa [toPy] using Reads.bool b⟩
  | _, .int i, _, .int _, r => by obtain ⟨t, rfl⟩ := r; exact ⟨[], by simpa [toPy] using Reads.int i t⟩
  | _, .str x, _, .str _, r => by obtain ⟨t, rfl⟩ := r; exact ⟨[], by simpa [toPy] using Reads.str x t⟩
  | _, .tup ds, _, .tup h hs, r => by
    cases r
    obtain ⟨its, rv, ⟨o, e, hc, n, hd⟩, _⟩ := I.tuple h
    obtain ⟨as, ra⟩ := Pls.reads I ds hs rv
    exact ⟨as, by simpa [toPy] using Reads.tuple e hc hd (by simpa using ra)⟩
  | _, .lst ds, _, .lst h hs, r => by
    cases r
    obtain ⟨its, rv, ⟨o, n, e, hc, _, hd⟩, _⟩ := I.list (SqL.of h)
    obtain ⟨as, ra⟩ := Pls.reads I ds hs rv
    exact ⟨_, by simpa [toPy] using Reads.list e hc hd (by simpa using ra)⟩
theorem Pls.reads {pins : List (Addr × Obj)} {σ : L2.St} {H : Hp} {s : Shared} (I : L2.Inv X pins σ H s) : ∀ {vs : List V} (ds : List D) {us : List Value}, Pls X.K H vs ds → Vals vs us → ∃ as, ReadsAll s.heap us (toPys ds) as
  | _, [], _, .nil, r => by cases r; exact ⟨[], by simpa [toPys] using ReadsAll.nil⟩
  | _, d :: ds, _, .cons h hs, r => by
    cases r with
    | cons r1 rr =>
      obtain ⟨as, e1⟩ := Pl.reads I d h r1
      obtain ⟨bs, e2⟩ := Pls.reads I ds hs rr
      exact ⟨as ++ bs, by simpa [toPys] using ReadsAll.cons e1 e2⟩
end
theorem call_reprL (hgd : X.A.guards = some []) (hu : X.A.units + 501 < cLine) : CallR X (.builtin "repr") (liftN X.K (un1 reprD)) := call_un1 fun pins s σ H x us Q W st dx d I r S rx e q => by
  have s1 := rx.saw S
  have bl := bigLine
  unfold reprD at e
  generalize see st dx = ex at s1 e
  split at e
  · rename_i hc
    simp only [Bool.and_eq_true, decide_eq_true_eq] at hc
    obtain ⟨⟨⟨hp, hs⟩, hsz⟩, hdp⟩ := hc
    cases e
    have pl := s1.pl hp
    cases r with
    | cons r1 rn =>
      cases rn
      have fin : ∀ h' u tk, (∀ b o, s.heap.get? b = some o → h'.get? b = some o) → EP X pins σ Q (.str (toPy ex).shown u) { s with heap := h', toks := tk } := fun h' u tk hk =>
        ⟨.str _, H, I.kept (t' := tk) hk, ⟨_, rfl⟩, q (.str _) H (Step.refl _ _) S (.str _)⟩
      obtain ⟨as, rd⟩ := Pl.reads I ex pl r1
      cases pl with
      | non => cases (show _ = Value.none from r1); exact P.repr_of_none (by simpa [toPy, PyData.shown] using fin s.heap s.toks _ (fun _ _ e => e))
      | bl b => cases (show _ = Value.bool b from r1); exact P.repr_of_bool (by simpa [toPy, PyData.shown] using fin s.heap s.toks _ (fun _ _ e => e))
      | int i => obtain ⟨t, rfl⟩ := r1; exact P.repr_of_int (by simpa [toPy, PyData.showable] using hs) (by simpa [toPy, PyData.shown] using fin s.heap s.toks _ (fun _ _ e => e))
      | str z =>
        obtain ⟨t, rfl⟩ := r1
        have ez : (toPy (.str z)).shown = reprText z := by simp [toPy, PyData.shown]
        exact P.repr_of_str (by simpa [toPy, PyData.shown] using fin s.heap s.toks _ (fun _ _ e => e)) (by rw [← ez]; omega)
      | tup h hs' => cases r1; exact repr_of_reads' rd hs (PyData.noDict_hsm (toPy_noDict _)) hgd (by omega) (fun _ _ e => e) fin (by omega)
      | lst h hs' => cases r1; exact repr_of_reads' rd hs (PyData.noDict_hsm (toPy_noDict _)) hgd (by omega) (fun _ _ e => e) fin (by omega)
  · cases e
end
section
variable {X : Cx} {c : Call} {Wx : WX} {elt tg iter : Expr} {ifs : List Expr} {scope : Scope} {own : List (Str × Nat)} {pos spos py : Pos} {it : MI} {g : MG} {ts : MT} {me : ME} {is vs : List Nat} {i : Nat} {y : Str}
theorem dCompV (hv : own.map (·.2) = vs) (hc : X.calm = true) (hN : X.N.Nodup) (hi : PI X tg iter (tIs X.K c Wx it)) (ok : BlkOk X.N X.env.scope scope own) (his : ∀ i ∈ is, i ∈ vs)
    (hg : ∀ (s : Shared) (H : Hp) (C : Addr) (cl : List (Str × Addr)) (fp : List Addr), PG (X.blk s H scope (compEnvC scope cl C X.env) fp) tg (tG X.K is g)) (ht : ∀ (s : Shared) (H : Hp) (C : Addr) (cl : List (Str × Addr)) (fp : List Addr), PTs (X.blk s H scope (compEnvC scope cl C X.env) fp) ifs (tTs X.K c WF ts))
    (he : ∀ (s : Shared) (H : Hp) (C : Addr) (cl : List (Str × Addr)) (fp : List Addr), PE (X.blk s H scope (compEnvC scope cl C X.env) fp) elt (tE X.K c WF me)) (hs : ∀ x, foldedSetIterable iter X.env x = pure x) :
    PE X (.ListComp elt [⟨tg, iter, ifs, 0⟩] scope pos) (tE X.K c Wx (mComp vs it g ts me)) := by
  subst hv
  exact dComp hc hN hi ok his hg ht he hs
theorem sSetV (hv : own.map (·.2) = vs) (hc : X.calm = true) (hN : X.N.Nodup) (hy : X.N[i]? = some y) (hyl : X.env.scope.names.lookup y = some .local)
    (hsw : swapsWith (.ListComp elt [⟨tg, iter, ifs, 0⟩] scope pos) (some (.Name y py)) spos.line X.env = pure true) (hi : PI X tg iter (tIs X.K c Wx it)) (ok : BlkOk X.N X.env.scope scope own) (his : ∀ i ∈ is, i ∈ vs)
    (hg : ∀ (s : Shared) (H : Hp) (C : Addr) (cl : List (Str × Addr)) (fp : List Addr), PG (X.blk s H scope (compEnvC scope cl C X.env) fp) tg (tG X.K is g)) (ht : ∀ (s : Shared) (H : Hp) (C : Addr) (cl : List (Str × Addr)) (fp : List Addr), PTs (X.blk s H scope (compEnvC scope cl C X.env) fp) ifs (tTs X.K c WF ts))
    (he : ∀ (s : Shared) (H : Hp) (C : Addr) (cl : List (Str × Addr)) (fp : List Addr), PE (X.blk s H scope (compEnvC scope cl C X.env) fp) elt (tE X.K c WF me)) (hs : ∀ x, foldedSetIterable iter X.env x = pure x) :
    PS X (.Assign [.Name y py] (.ListComp elt [⟨tg, iter, ifs, 0⟩] scope pos) spos) (tSs X.K c Wx (sAsg (gNm i) (mComp vs it g ts me))) := by
  subst hv
  exact sSetC hc hN hy hyl hsw hi ok his hg ht he hs
theorem dCompVM (hv : own.map (·.2) = vs) (hc : X.calm = true) (hN : X.N.Nodup) (hi : PI X tg iter (tIs X.K c Wx it)) (ok : BlkOk X.N X.env.scope scope own) (his : ∀ i ∈ is, i ∈ vs)
    (hg : ∀ (s : Shared) (H : Hp) (C : Addr) (cl : List (Str × Addr)) (fp : List Addr), PG (X.blk s H scope (compEnvC scope cl C X.env) fp) tg (tG X.K is g)) (ht : ∀ (s : Shared) (H : Hp) (C : Addr) (cl : List (Str × Addr)) (fp : List Addr), PTs (X.blk s H scope (compEnvC scope cl C X.env) fp) ifs (tTs X.K c WF ts))
    (he : ∀ (s : Shared) (H : Hp) (C : Addr) (cl : List (Str × Addr)) (fp : List Addr), PE (X.blk s H scope (compEnvC scope cl C X.env) fp) elt (tE X.K c WF me)) (hs : ∀ x, foldedSetIterable iter X.env x = pure x) :
    PE X (.ListComp elt [⟨tg, iter, ifs, 0⟩] scope pos) (tE X.K c Wx (mCompM vs it g ts me)) := by
  subst hv
  exact dCompM hc hN hi ok his hg ht he hs
theorem sSetVM (hv : own.map (·.2) = vs) (hc : X.calm = true) (hN : X.N.Nodup) (hy : X.N[i]? = some y) (hyl : X.env.scope.names.lookup y = some .local)
    (hsw : swapsWith (.ListComp elt [⟨tg, iter, ifs, 0⟩] scope pos) (some (.Name y py)) spos.line X.env = pure true) (hi : PI X tg iter (tIs X.K c Wx it)) (ok : BlkOk X.N X.env.scope scope own) (his : ∀ i ∈ is, i ∈ vs)
    (hg : ∀ (s : Shared) (H : Hp) (C : Addr) (cl : List (Str × Addr)) (fp : List Addr), PG (X.blk s H scope (compEnvC scope cl C X.env) fp) tg (tG X.K is g)) (ht : ∀ (s : Shared) (H : Hp) (C : Addr) (cl : List (Str × Addr)) (fp : List Addr), PTs (X.blk s H scope (compEnvC scope cl C X.env) fp) ifs (tTs X.K c WF ts))
    (he : ∀ (s : Shared) (H : Hp) (C : Addr) (cl : List (Str × Addr)) (fp : List Addr), PE (X.blk s H scope (compEnvC scope cl C X.env) fp) elt (tE X.K c WF me)) (hs : ∀ x, foldedSetIterable iter X.env x = pure x) :
    PS X (.Assign [.Name y py] (.ListComp elt [⟨tg, iter, ifs, 0⟩] scope pos) spos) (tSs X.K c Wx (sAsg (gNm i) (mCompM vs it g ts me))) := by
  subst hv
  exact sSetCM hc hN hy hyl hsw hi ok his hg ht he hs
end
def mListM (a : ME) : ME := fun c env st => (a c env st).bind fun x st1 => match listD st1 x with
  | some (.lst xs) => .ok (.ref st1.length) (st1 ++ [.lst xs])
  | _ => .no
theorem dListM {X : Cx} {c : Call} {Wx : WX} {a : Expr} {ma : ME} {p pos : Pos} (hg : Gl X "list") (hm : X.mg "list" = none) (ha : PE X a (tE X.K c Wx ma)) (he : starEach [a] X.env = [(false, eval a X.env)]) : PE X (.Call (.Name "list" p) [a] [] pos) (tE X.K c Wx (mListM ma)) :=
  PE.weak (pe_callTy call_list_of hg hm (by decide +kernel) (pa_cons ha pa_nil he) (by decide) rfl he rfl) fun σ H Q h => by
    obtain ⟨W, st, env, S, E, p⟩ := h
    refine ⟨W, st, env, S, E, p.bind.mono fun dx st1 p1 x H1 W1 T1 S1 R1 => ?_⟩
    have s1 := R1.saw S1
    unfold listD at p1
    generalize see st1 dx = ex at s1 p1
    cases ex with
    | lst xs =>
      obtain ⟨b, vs, rfl, ht, q1⟩ := saw_lst s1
      exact ⟨b, vs, rfl, .inl (SqL.of ht), newCell S1 q1 fun v H' W' T S' R => p1 v H' W' (T1.trans T) S' R⟩
    | tup xs =>
      obtain ⟨b, vs, rfl, ht, q1⟩ := saw_tup s1
      exact ⟨b, vs, rfl, .inr ht.sq, newCell S1 q1 fun v H' W' T S' R => p1 v H' W' (T1.trans T) S' R⟩
    | _ => exact (show False from p1).elim
end RP
end
section
set_option Elab.async false
set_option linter.all false
set_option maxRecDepth 100000
set_option maxHeartbeats 2000000
namespace RP
open PySem PySem.Spec PyProof.Rows L2
def GoodS (P : Program) (w : World) (e : Int × Value) (x : Str) : Prop := ∃ tk, e.2 = Value.str x tk ∧ e.1 = (PySem.strKind P w).hash x
abbrev GoodL (P : Program) (w : World) : List (Int × Value) → List Str → Prop := Paired (GoodS P w)
theorem paired_perm {α β : Type} {R : α → β → Prop} : ∀ {l l' : List α}, l'.Perm l → ∀ {xs : List β}, Paired R l xs → ∃ xs', Paired R l' xs' ∧ xs'.Perm xs := by
  intro l l' h
  induction h with
  | nil => intro xs p; exact ⟨xs, p, .refl _⟩
  | cons a h ih =>
    intro xs p
    cases p with
    | cons r p =>
      obtain ⟨ys, q, e⟩ := ih p
      exact ⟨_ :: ys, .cons r q, e.cons _⟩
  | swap a b l =>
    intro xs p
    cases p with
    | cons r p =>
      cases p with
      | cons r2 p => exact ⟨_, .cons r2 (.cons r p), .swap _ _ _⟩
  | trans h1 h2 ih1 ih2 =>
    intro xs p
    obtain ⟨ys, q, e⟩ := ih2 p
    obtain ⟨zs, q2, e2⟩ := ih1 q
    exact ⟨zs, q2, e2.trans e⟩
theorem goodL_elems {P : Program} {w : World} : ∀ {l : List (Int × Value)} {xs : List Str}, GoodL P w l xs → ElemsOf (PySem.strKind P w) l
  | _, _, .nil => fun e he => by cases he
  | _, _, .cons (a := e0) ⟨tk, e1, e2⟩ p => fun e he => by
    rcases List.mem_cons.mp he with rfl | he
    · exact ⟨⟨_, by rw [e1]; exact strKind_is _ _ _ _, e2⟩, by rw [e1]; rfl⟩
    · exact goodL_elems p e he
theorem goodL_find {P : Program} {w : World} {x : Str} : ∀ {l : List (Int × Value)} {xs : List Str}, GoodL P w l xs → ((List.findIdx? (fun e => (PySem.strKind P w).is x e.2) l).isSome = true ↔ x ∈ xs)
  | _, _, .nil => by simp
  | _, _, .cons (b := y) ⟨tk, e1, e2⟩ p => by
    have ih := goodL_find (x := x) p
    have hy := (PySem.strKind P w).is_eq_decide (k := y) (strKind_is P w y tk) x
    rw [List.findIdx?_cons]
    rw [e1, hy]
    by_cases h : x = y
    · subst h; simp
    · rw [decide_eq_false h]
      simp only [Bool.false_eq_true, if_false, Option.isSome_map, List.mem_cons, h, false_or]
      exact ih
theorem goodL_len {P : Program} {w : World} : ∀ {l : List (Int × Value)} {xs : List Str}, GoodL P w l xs → l.length = xs.length
  | _, _, .nil => rfl
  | _, _, .cons _ p => by rw [List.length_cons, List.length_cons, goodL_len p]
structure SetS (P : Program) (w : World) (h : Heap) (a : Addr) (xs : List Str) : Prop where
  ex : ∃ o es ep t, h.get? a = some o ∧ o.ExactSet ∧ o.data = .set es ep t ∧ GoodL P w es.toList xs ∧ es.size < scanBound ∧ t.fits es.size = true ∧ Ris t.place.toList ∧ (w.params.followText "set-order" = true ∨ t.led = true)
  nd : xs.Nodup
theorem SetS.at {P : Program} {w : World} {h h' : Heap} {a : Addr} {xs : List Str} (R : SetS P w h a xs) (k : ∀ o, h.get? a = some o → h'.get? a = some o) : SetS P w h' a xs := by
  obtain ⟨⟨o, es, ep, t, ho, r⟩, nd⟩ := R
  exact ⟨⟨o, es, ep, t, k o ho, r⟩, nd⟩
section
variable {P : Program} {w : World} {A : Around} {E : Value → Shared → Prop} {s : Shared} {a : Addr} {xs : List Str}
theorem setS_store {g : Bool → Sem Unit} (hg : ∀ (b : Bool) (s₁ : Shared) (Q' : Unit → Shared → Prop), Q' () s₁ → wpAny (model P w) A (g b) Q' E s₁)
    {o : Obj} {es : Array (Int × Value)} {ep : Nat} {t : SetTable} (ho : s.heap.get? a = some o) (hx : o.ExactSet) (hd : o.data = .set es ep t)
    {fs : Array (Int × Value)} {tt : SetTable} {ys : List Str} (gd : GoodL P w fs.toList ys) (nd : ys.Nodup)
    (hb1 : fs.size < scanBound) (hf2 : tt.fits fs.size = true) (hr : Ris tt.place.toList) (hl : w.params.followText "set-order" = true ∨ tt.led = true) {wd : Bool} {R : Option Bool → Shared → Prop}
    (hR : ∀ h' zs, Heap.SameBut a s.heap h' → zs.Perm ys → SetS P w h' a zs → R (some true) { s with heap := h' }) :
    wpAny (model P w) A (do
        storeSet a fs tt
        if (!wd && tt.tooFull) = true then do
            g (relayAll tt fs (SetTable.grown fs.size)).2.2
            storeSet a (relayAll tt fs (SetTable.grown fs.size)).1 (relayAll tt fs (SetTable.grown fs.size)).2.1
            pure (some true)
          else pure (some true)) R E s := by
  refine wpAny_bind (wpAny_storeSet_of ho hd ?_ (fits_of_scanBound hb1))
  have g1 := store_at (es' := fs) (t' := tt) ho hd
  have b1 := Heap.SameBut.update s.heap a (Obj.putSet fs tt)
  split
  · have pm := relayAll_perm tt fs (SetTable.grown fs.size)
    have f3 := relayAll_fits tt fs (SetTable.grown fs.size)
    have r3 := relayAll_ris tt fs (SetTable.grown fs.size)
    have l3 := relayAll_led tt fs (SetTable.grown fs.size)
    generalize relayAll tt fs (SetTable.grown fs.size) = Z at pm f3 r3 l3 ⊢
    obtain ⟨es2, t3, gave⟩ := Z
    dsimp only at pm f3 r3 l3 ⊢
    have sz : es2.size = fs.size := by rw [← Array.length_toList, pm.length_eq, Array.length_toList]
    have b2 : es2.size < scanBound := by rw [sz]; exact hb1
    refine wpAny_bind (hg _ _ _ ?_)
    refine wpAny_bind (wpAny_storeSet_of g1 rfl ?_ (fits_of_scanBound b2))
    have g2 := store_at (es' := es2) (t' := t3) g1 rfl
    obtain ⟨zs, gz, pz⟩ := paired_perm pm gd
    exact wpAny_pure (hR _ zs (b1.trans (Heap.SameBut.update _ a _)) pz ⟨⟨_, es2, _, t3, g2, hx, rfl, gz, b2, f3, r3, hl.imp id fun z => by rw [l3]; exact z⟩, pz.nodup_iff.mpr nd⟩)
  · exact wpAny_pure (hR _ ys b1 (.refl _) ⟨⟨_, fs, _, tt, g1, hx, rfl, gd, hb1, hf2, hr, hl⟩, nd⟩)
theorem setS_add {x : Str} {tk : Tok} {Q : Bool → Shared → Prop} (R : SetS P w s.heap a xs) (room : xs.length + 1 < scanBound)
    (q : ∀ h' zs, Heap.SameBut a s.heap h' → (if x ∈ xs then zs = xs else zs.Perm (x :: xs)) → SetS P w h' a zs → ∀ b, Q b { s with heap := h' }) :
    wpAny (model P w) A (setAddHashed a (.str x tk) ((PySem.strKind P w).hash x)) Q E s := by
  obtain ⟨⟨o, es, ep, t, ho, hx, hd, gd, hb, hf, hr, hl⟩, nd⟩ := R
  have hkey : (PySem.strKind P w).is x (.str x tk) = true := strKind_is P w x tk
  have hsc : (Value.str x tk).scannable = true := rfl
  have hel := goodL_elems gd
  have hlen : es.size = xs.length := by rw [← Array.length_toList]; exact goodL_len gd
  unfold setAddHashed setAddHashedIn
  refine wpAny_holding (wpAny_bind (wpAny_setState_of ho hd hf ?_))
  dsimp only
  rw [byScan_of hsc hb hel]
  simp only [↓reduceIte]
  unfold setAddByScan
  refine wpAny_bind ?_
  refine wpAny_bind (wpAny_rule ?_)
  refine wpAny_bind (wpAny_setScan_of hkey ho hd hf hel ?_)
  have hfd := goodL_find (x := x) gd
  cases hfi : List.findIdx? (fun e => (PySem.strKind P w).is x e.2) es.toList with
  | some j =>
    dsimp only
    have hin : x ∈ xs := hfd.mp (by rw [hfi]; rfl)
    exact wpAny_pure (wpAny_pure (q s.heap xs (Heap.SameBut.refl a s.heap) (by rw [if_pos hin]) ⟨⟨o, es, ep, t, ho, hx, hd, gd, hb, hf, hr, hl⟩, nd⟩ _))
  | none =>
    dsimp only
    have hin : x ∉ xs := fun z => by
      have := hfd.mpr z
      rw [hfi] at this
      cases this
    have hgw : ∀ (b : Bool) {s₁ : Shared} {Q' : Unit → Shared → Prop}, Q' () s₁ → wpAny (model P w) A (match b with | true => rule "set.scan.the-table-gave-way" | false => pure ()) Q' E s₁ := fun b s₁ Q' z => by
      cases b <;> first | exact wpAny_pure z | exact wpAny_rule z
    have pm := layNew_perm t es ((PySem.strKind P w).hash x) (.str x tk)
    have f1 := layNew_fits t es ((PySem.strKind P w).hash x) (.str x tk)
    have r1 := layNew_ris t es ((PySem.strKind P w).hash x) (.str x tk) hr
    have l1 := layNew_led t es ((PySem.strKind P w).hash x) (.str x tk)
    generalize layNew t es ((PySem.strKind P w).hash x) (.str x tk) = Z at pm f1 r1 l1 ⊢
    obtain ⟨es1, t1, wd, gave⟩ := Z
    dsimp only at pm f1 r1 l1 ⊢
    rw [Array.toList_push] at pm
    have pc : es1.toList.Perm (((PySem.strKind P w).hash x, Value.str x tk) :: es.toList) := pm.trans (List.perm_append_singleton _ _)
    obtain ⟨ys, gy, py⟩ := paired_perm pc (.cons ⟨tk, rfl, rfl⟩ gd : GoodL P w _ (x :: xs))
    have ndy : ys.Nodup := py.nodup_iff.mpr (List.nodup_cons.mpr ⟨hin, nd⟩)
    have sz : es1.size = xs.length + 1 := by rw [← Array.length_toList, goodL_len gy, py.length_eq, List.length_cons]
    have b1 : es1.size < scanBound := by rw [sz]; exact room
    have hled : w.params.followText "set-order" = true ∨ t1.led = true := hl.imp id fun z => by rw [l1]; exact z
    have fin : ∀ h' zs, Heap.SameBut a s.heap h' → zs.Perm ys → SetS P w h' a zs → Q true { s with heap := h' } := fun h' zs sb pz r => q h' zs sb (by rw [if_neg hin]; exact pz.trans py) r true
    refine wpAny_bind (hgw _ ?_)
    split
    · refine wpAny_bind ?_
      rw [hashByValue_scannable 8 hsc]
      refine wpAny_pure ?_
      refine setS_store ?_ ho hx hd gy ndy b1 ?_ ?_ ?_ ?_
      · intro b s₁ Q' z; cases b <;> first | exact wpAny_pure z | exact wpAny_rule z
      · first | (split <;> first | exact f1 | exact SetTable.fits_plain_off f1) | exact f1
      · first | (split <;> exact r1) | exact r1
      · first | (split <;> exact hled) | exact hled
      · intro h' zs sb pz r; dsimp only; exact wpAny_pure (fin h' zs sb pz r)
    · refine wpAny_bind (wpAny_pure ?_)
      simp only [↓reduceIte]
      refine setS_store ?_ ho hx hd gy ndy b1 f1 r1 hled ?_
      · intro b s₁ Q' z; cases b <;> first | exact wpAny_pure z | exact wpAny_rule z
      · intro h' zs sb pz r; dsimp only; exact wpAny_pure (fin h' zs sb pz r)
theorem setS_fresh {h : Heap} : SetS P w (h.push { cls := .type "set", dict := none, data := .set #[] 0 (.fresh 0 0 (!w.params.followText "set-order")) }) h.objs.size [] :=
  ⟨⟨_, #[], 0, _, Heap.get?_push_size _ rfl, ⟨rfl, rfl, rfl⟩, rfl, .nil, by decide, rfl, List.Pairwise.nil, by
    show _ ∨ (!w.params.followText "set-order") = true
    cases w.params.followText "set-order"
    · exact .inr rfl
    · exact .inl rfl⟩, .nil⟩
end
def dedup : List Str → List Str
  | [] => []
  | x :: xs => if x ∈ dedup xs then dedup xs else x :: dedup xs
theorem mem_dedup {x : Str} : ∀ {xs : List Str}, x ∈ dedup xs ↔ x ∈ xs
  | [] => by simp [dedup]
  | y :: ys => by
    rw [dedup]
    have ih := mem_dedup (x := x) (xs := ys)
    split
    · rename_i h
      rw [ih, List.mem_cons]
      constructor
      · exact .inr
      · rintro (rfl | z)
        · exact (mem_dedup (xs := ys)).mp h
        · exact z
    · rw [List.mem_cons, List.mem_cons, ih]
theorem nodup_dedup : ∀ {xs : List Str}, (dedup xs).Nodup
  | [] => .nil
  | y :: ys => by
    rw [dedup]
    split
    · exact nodup_dedup
    · rename_i h
      exact List.nodup_cons.mpr ⟨h, nodup_dedup⟩
section
variable {P : Program} {w : World} {A : Around} {R : Result → Shared → Prop} {I : Addr} {fp wr : List Addr} {G : Array GenState → Array GenState → Prop} {n : Nat} {Pv : Nat → Value → Prop} {St : Nat → Shared → Prop}
theorem take_more {α : Type} {l : List α} {i : Nat} {x : α} (h : l[i]? = some x) : l.take (i + 1) = l.take i ++ [x] := by
  rw [List.take_succ, h]
  rfl
theorem setS_loop (W : WalksS P w A.in1 I fp wr G n Pv St) (a : Addr) (haf : a ∉ fp) (xs : List Str) (hsz : xs.length = n) (hb : n + 1 < scanBound) (hval : ∀ i v, Pv i v → ∃ t, v = .str (xs.getD i Str.empty) t) :
    ∀ (k i : Nat) (s : Shared) (zs : List Str), n - i = k → i ≤ n → St i s → SetS P w s.heap a zs → (∀ x, x ∈ zs ↔ x ∈ xs.take i) → zs.length ≤ i →
      (∀ s' ys, Moved (a :: wr) G s s' → SetS P w s'.heap a ys → (∀ x, x ∈ ys ↔ x ∈ xs) → R (.ok (.ret .none)) s') →
      codeAny (model P w) A (.builtin "set.update.loop" ⟨[.ref a, .ref I], []⟩) R s := by
  have haw : a ∉ wr := fun z => haf (W.sub _ z)
  have sub : ∀ b ∈ wr, b ∈ a :: wr := fun b hb => List.mem_cons_of_mem _ hb
  intro k
  induction k with
  | zero =>
    intro i s zs hk hi st hS hm _ q
    have e : i = n := by omega
    subst e
    refine codeAny_builtin PyProof.Rows.F.entry_set_update_loop ?_
    rw [Around.under_plainId PyProof.Rows.F.plain_set_update_loop _]
    change wpAny _ A.in1 (pyNext (Value.ref I) >>= _) _ _ s
    refine wpAny_bind (W.done s _ _ st fun s' mv => ?_)
    change wpAny _ A.in1 (ret Value.none) _ _ s'
    exact wpAny_pure (q s' zs (mv.mono sub) (hS.at fun o e => mv.heap a _ haw e) (fun x => by rw [hm x, ← hsz, List.take_length]))
  | succ k ih =>
    intro i s zs hk hi st hS hm hzl q
    have hlt : i < n := by omega
    refine codeAny_builtin PyProof.Rows.F.entry_set_update_loop ?_
    rw [Around.under_plainId PyProof.Rows.F.plain_set_update_loop _]
    change wpAny _ A.in1 (pyNext (Value.ref I) >>= _) _ _ s
    refine wpAny_bind (W.item i s _ _ hlt st fun v s' hP st' mv => ?_)
    obtain ⟨t, rfl⟩ := hval i v hP
    have hx : xs[i]? = some (xs.getD i Str.empty) := by
      rw [List.getD_eq_getElem?_getD, List.getElem?_eq_getElem (by omega)]
      rfl
    generalize xs.getD i Str.empty = x at hx ⊢
    have hS1 : SetS P w s'.heap a zs := hS.at fun o e => mv.heap a _ haw e
    change wpAny _ A.in1 (holding [Value.str x t] (setAdd a (.str x t)) >>= _) _ _ s'
    refine wpAny_bind (wpAny_holding ?_)
    unfold setAdd
    refine wpAny_holding ?_
    refine wpAny_bind ((PySem.strKind P w).pyHash (k := x) (strKind_is _ _ _ _) ?_)
    refine setS_add (s := { s' with toks := s'.toks + 1 }) hS1 (by omega) fun h' ys sb hy hS2 b => ?_
    have hm2 : ∀ z, z ∈ ys ↔ z ∈ xs.take (i + 1) := fun z => by
      rw [take_more hx, List.mem_append, List.mem_singleton, ← hm z]
      by_cases hin : x ∈ zs
      · rw [if_pos hin] at hy
        rw [hy]
        constructor
        · exact .inl
        · rintro (h | rfl)
          · exact h
          · exact hin
      · rw [if_neg hin] at hy
        rw [hy.mem_iff, List.mem_cons]
        exact Or.comm
    have hyl : ys.length ≤ i + 1 := by
      by_cases hin : x ∈ zs
      · rw [if_pos hin] at hy
        rw [hy]; omega
      · rw [if_neg hin] at hy
        rw [hy.length_eq, List.length_cons]; omega
    refine wpAny_pure ⟨plainId_quiet PyProof.Rows.F.plain_set_update_loop _, ih (i + 1) _ ys (by omega) hlt (W.frame _ s' _ _ st' (Nat.le_succ _) fun b hb o e => ?_) hS2 hm2 hyl fun s2 vs mv2 hS3 hm3 => ?_⟩
    · rw [sb.2 b (fun z : b = a => haf (by rw [← z]; exact hb))]; exact e
    · refine q s2 vs (Moved.trans W.gtrans ((mv.mono sub).then_heap (Nat.le_succ _) fun b o hb e => ?_) mv2) hS3 hm3
      rw [sb.2 b (fun z : b = a => hb (by rw [z]; exact List.mem_cons_self))]; exact e
end
section
variable {P : Program} {w : World} {A : Around} {E : Value → Shared → Prop} {s : Shared}
theorem setS_new1 (v : Value) {Q₁ : Value → Shared → Prop} (h : Q₁ (.ref s.heap.objs.size) { s with heap := s.heap.push { cls := .type "set", dict := none, data := .set #[] 0 (.fresh 0 0 (!w.params.followText "set-order")) } }) :
    codeAny (model P w) A (.call (.builtin "set.__new__") ⟨[.type "set", v], []⟩) (wants Q₁ E) s := by
  refine codeAny_of_tree ?_
  change wpAny _ A.in1 (do checkBuiltinCall "set.__new__" ⟨[.type "set", v], []⟩; again (.builtin "set.__new__" ⟨[.type "set", v], []⟩)) _ _ s
  refine wpAny_bind (wpAny_of_eq (PySem.F.newCall_set_1 v) (wpAny_pure ⟨plainId_quiet PySem.F.plain_set_new _, codeAny_builtin PySem.F.entry_set_new ?_⟩))
  rw [Around.under_plainId PySem.F.plain_set_new _]
  unfold Builtin.«set.__new__» Builtin.Frozenset.newClass
  have hsub := sub_set_self
  obtain ⟨hp, g, d, tk, os⟩ := s
  dsimp only
  wp_walk
  refine wpAny_askSetting (wpAny_pure ?_)
  dsimp only
  simp only [newObj]
  exact wpAny_bind (wpAny_alloc (wpAny_pure (wpAny_pure h)))
set_option maxHeartbeats 4000000 in
theorem setS_call {l : Addr} {items : Array Value} {xs : List Str} {Q : Value → Shared → Prop} (hh : A.handled = none) (hl : s.heap.IsList l items) (hsz : items.size = xs.length) (hi : ∀ (i : Nat) (v : Value), items[i]? = some v → ∃ t, v = .str (xs.getD i Str.empty) t) (hb : items.size + 1 < scanBound)
    (q : ∀ (h' : Heap) (tk : Nat) (ys : List Str), SetS P w h' s.heap.objs.size ys → (∀ x, x ∈ ys ↔ x ∈ xs) → (∀ b o, s.heap.get? b = some o → h'.get? b = some o) → Q (.ref s.heap.objs.size) { s with heap := h', toks := tk }) :
    wpAny (model P w) A (call (.type "set") [.ref l]) Q E s := by
  obtain ⟨c, tl, hmro⟩ := PySem.F.called_set.mro
  have hmade := PySem.F.called_set.made
  have hsub := PySem.F.called_set.sub
  refine wpAny_call (codeAny_of_tree ?_)
  change wpAny _ _ (callAny (Value.type "set") _) _ _ _
  refine wpAny_pure ⟨Code.quiet_builtin _ (by decide +kernel), codeAny_builtin PySem.F.entry_type_call ?_⟩
  rw [Around.under_plain (weight_type_call_type "set" [.ref l] []) rfl]
  have h1 := PySem.F.called_set.notType
  have h2 := PySem.F.called_set.canCreate
  have hct := PySem.F.typeCall_set_1 (.ref l)
  repeat (any_goals (first | assumption | wp_step))
  generalize hob : ({ cls := .type "set", dict := none, data := .set #[] 0 (.fresh 0 0 (!w.params.followText "set-order")) } : Obj) = ob0
  have hfr0 : SetS P w (s.heap.push ob0) s.heap.objs.size [] := by rw [← hob]; exact setS_fresh
  have hcls : ob0.cls = .type "set" := by rw [← hob]
  refine codeAny_mono (setS_new1 (.ref l) (E := E) (Q₁ := fun obj s₁ => obj = .ref s.heap.objs.size ∧ s₁ = { s with heap := s.heap.push ob0 }) ⟨rfl, by rw [hob]⟩) fun r s₁ hr => ?_
  cases r with
  | error e => exact hr
  | ok fl =>
    cases fl with
    | ret obj =>
      obtain ⟨rfl, rfl⟩ := hr
      have g0 : (s.heap.push ob0).get? s.heap.objs.size = some ob0 := Heap.get?_push_size _ (by rw [← hob]; rfl)
      have ty : Shared.TypeIs { s with heap := s.heap.push ob0 } (.ref s.heap.objs.size) "set" := ⟨_, g0, hcls⟩
      have hli := PySem.F.called_set.init.lookup
      have hbi := PySem.F.called_set.init.bind (.ref s.heap.objs.size)
      repeat (any_goals (first | assumption | wp_step))
      refine codeAny_mono (codeAny_call_builtin (R := wants (fun r s₂ => r = .none ∧ ∃ h' tk ys, s₂ = { s with heap := h', toks := tk } ∧ SetS P w h' s.heap.objs.size ys ∧ (∀ x, x ∈ ys ↔ x ∈ xs) ∧ ∀ b o, s.heap.get? b = some o → h'.get? b = some o) E) PySem.F.called_set.init.plain PySem.F.entry_set_init (check_set_init_1 ty ?_)) fun r₂ s₂ hr₂ => ?_
      · subst hob
        obtain ⟨ol, hol, hcl, nl, hdl⟩ := hl
        obtain ⟨ocls, odict, odata, oslots⟩ := ol
        simp only at hcl hdl
        subst hcl; subst hdl
        have hol' : (s.heap.push { cls := .type "set", dict := none, data := .set #[] 0 (.fresh 0 0 (!w.params.followText "set-order")) }).get? l = some { cls := .type "list", dict := odict, data := .seq items nl, slots := oslots } := Heap.get?_push_of_some _ hol
        have hsls := PySem.F.sub_list_set
        have hslf := PySem.F.sub_list_frozenset
        have hne : (Value.type "list" == Value.type "dict") = false := by decide
        have hl1 : (s.heap.push { cls := .type "set", dict := none, data := .set #[] 0 (.fresh 0 0 (!w.params.followText "set-order")) }).IsList l items := ⟨_, hol', rfl, nl, rfl⟩
        unfold Builtin.«set.__init__» noKeywords Builtin.Frozenset.updateFrom
        generalize hPI : pyIter = PI
        wp_walk
        subst hPI
        refine wpAny_pyIter_list hl1 ?_
        refine wpAny_bind (wpAny_runValue ?_)
        have hlS : l < s.heap.objs.size := Heap.lt_size hol
        have hh3 : A.in1.in1.in1.handled = none := by simp [hh]
        have hneI : l ≠ (s.heap.push { cls := .type "set", dict := none, data := .set #[] 0 (.fresh 0 0 (!w.params.followText "set-order")) }).objs.size := by rw [Heap.size_push]; exact Nat.ne_of_lt (Nat.lt_succ_of_lt hlS)
        have hSf : s.heap.objs.size ∉ [(s.heap.push { cls := .type "set", dict := none, data := .set #[] 0 (.fresh 0 0 (!w.params.followText "set-order")) }).objs.size, l] := by
          rw [Heap.size_push]
          simp only [List.mem_cons, List.not_mem_nil, or_false, not_or]
          exact ⟨Nat.ne_of_lt (Nat.lt_succ_self _), Nat.ne_of_gt hlS⟩
        refine setS_loop ((Walks.list hh3 _ l hneI items).toS) s.heap.objs.size hSf xs hsz.symm hb (fun i v hv => hi i v hv) (items.size - 0) 0 _ [] (by omega) (Nat.zero_le _) ⟨⟨_, Heap.get?_push_size _ rfl, rfl, rfl⟩, (hl1.push _)⟩ ?hS0 (by simp) (Nat.le_refl _) ?hR
        case hS0 => exact hfr0.at fun o e => Heap.get?_push_of_some _ e
        case hR =>
          intro s' ys mv hS' hm
          obtain ⟨h', g', d', tk', os'⟩ := s'
          have eg : g' = s.gens := mv.gens
          have ed : d' = s.drawn := mv.drawn
          have eo : os' = s.os := mv.os
          subst eg; subst ed; subst eo
          change wpAny _ _ _ _ _ _
          refine wpAny_pure ?_
          change wpAny _ _ (ret Value.none) _ _ _
          refine wpAny_pure ⟨rfl, h', tk', ys, rfl, hS', hm, fun b o e => ?_⟩
          have hlt := Heap.lt_size e
          have n1 : b ≠ s.heap.objs.size := Nat.ne_of_lt hlt
          have n2 : b ≠ (s.heap.push { cls := .type "set", dict := none, data := .set #[] 0 (.fresh 0 0 (!w.params.followText "set-order")) }).objs.size := by rw [Heap.size_push]; exact Nat.ne_of_lt (Nat.lt_succ_of_lt hlt)
          exact mv.heap b o (by simp only [List.mem_cons, List.not_mem_nil, or_false, not_or]; exact ⟨n1, n2⟩) (Heap.get?_push_of_some _ (Heap.get?_push_of_some _ e))
      · cases r₂ with
        | error e => exact hr₂
        | ok fl₂ =>
          cases fl₂ with
          | ret r =>
            obtain ⟨rfl, h', tk, ys, rfl, hS', hm, hk⟩ := hr₂
            repeat (any_goals (first | assumption | wp_step))
            exact q _ _ _ hS' hm hk
          | _ => exact hr₂.elim
    | _ => exact hr.elim
end
end RP
end
section
set_option Elab.async false
set_option linter.all false
set_option maxRecDepth 100000
set_option maxHeartbeats 1000000
namespace RP
open PySem PySem.Spec PyProof.Rows L2
def lenSetD (st : St) (x : D) : Option D := match see st x with
  | .lst xs => match asStrs xs with
    | some ss => if ss.length ≤ 4000 then some (.int (dedup ss).length) else none
    | none => none
  | _ => none
open Classical in
noncomputable def sortS (ss : List Str) : List Str := if h : ∃ ys : List Str, ys.Perm ss ∧ sortedS ys = true then choose h else ss
noncomputable def sortSetD (st : St) (x : D) : Option D := match see st x with
  | .lst xs => match asStrs xs with
    | some ss => if ss.length < 64 then some (.lst ((sortS (dedup ss)).map D.str)) else none
    | none => none
  | _ => none
theorem vals_str_at : ∀ {xs : List Str} {us : List Value}, Vals (xs.map V.str) us → ∀ (i : Nat) (v : Value), us[i]? = some v → ∃ t, v = .str (xs.getD i Str.empty) t
  | [], _, .nil, i, v, h => by simp at h
  | x :: xs, _, .cons r t, 0, v, h => by
    obtain ⟨k, rfl⟩ := r
    simp at h
    exact ⟨k, h.symm⟩
  | x :: xs, _, .cons r t, i + 1, v, h => by
    obtain ⟨k, e⟩ := vals_str_at t i v (by simpa using h)
    exact ⟨k, by simpa using e⟩
section
variable {X : Cx} {c : Call} {Wx : WX} {a : Expr} {ma : ME} {p p2 q pos : Pos}
theorem set_run {pins : List (Addr × Obj)} {s1 : Shared} {σ : L2.St} {H1 : Hp} {W1 : Wd} {l : Addr} {xs : List V} {ds : List D} {ss : List Str} {Q : Value → Shared → Prop} (hc : X.calm = true) (I1 : Inv X pins σ H1 s1) (h : H1 l = some (.lst xs)) (r : Reps X.K H1 W1 xs ds) (hs : asStrs ds = some ss) (hn : ss.length ≤ 4000)
    (k : ∀ (h' : Heap) (tk : Nat) (a : Addr) (ys : List Str), SetS X.prog X.w h' a ys → ys.Perm (dedup ss) → Inv X pins σ H1 { s1 with heap := h', toks := tk } → Q (.ref a) { s1 with heap := h', toks := tk }) :
    wpAny (model X.prog X.w) X.A (call (.type "set") [.ref l]) Q X.xe s1 := by
  have ex := r.asStrs hs
  subst ex
  obtain ⟨its, rv, pl, hz⟩ := I1.list (SqL.of h)
  have hlen := rv.length
  rw [List.length_map] at hlen
  refine setS_call (xs := ss) (I1.ok.hd hc) pl.isList (by simp; omega) (fun i v hv => vals_str_at rv i v (by simpa using hv)) (by simp; unfold scanBound; omega) fun h' tk ys hS hm hk => ?_
  refine k h' tk _ ys hS ?_ (I1.kept hk)
  exact (List.perm_ext_iff_of_nodup hS.nd nodup_dedup).mpr fun x => by rw [hm x, mem_dedup]
theorem dLenSet (hc : X.calm = true) (hg : Gl X "len") (hm : X.mg "len" = none) (hg2 : Gl X "set") (hm2 : X.mg "set" = none) (ha : PE X a (tE X.K c Wx ma)) (na : starEach [a] X.env = (false, eval a X.env) :: starEach [] X.env) :
    PE X (.Call (.Name "len" p) [.Call (.Name "set" p2) [a] [] q] [] pos) (tE X.K c Wx (mOp1 lenSetD ma)) := by
  refine ⟨fun pins s σ H Q I h => ?_⟩
  refine Call_ (ld_blt I hg hm boot_len ?_)
  refine PyProof.Rows.callWith_builtin1 (PyProof.Rows.args_cons ?_ rfl) rfl rfl
  refine Call_ (ld_blt I hg2 hm2 boot_set ?_)
  obtain ⟨W, st, env, S, En, pp⟩ := h
  refine PyProof.Rows.callWith_type1 (PyProof.Rows.args_cons (thn (ha.run pins s σ H (fun x H1 => ∃ W1 st1 dx d, Step H W H1 W1 ∧ Sim X.K H1 W1 st1 ∧ Rep X.K H1 W1 x dx ∧ lenSetD st1 dx = some d ∧ Aft X.K H W Q d st1) I ⟨W, st, env, S, En, pp.bind.mono fun dx st1 p1 x H1 W1 T1 S1 R1 => ?_⟩) fun v s1 ⟨x, H1, I1, r1, q1⟩ => PyProof.Rows.args_nil ?_) na) na rfl
  · obtain ⟨d, e, qq⟩ := p1.of
    exact ⟨W1, st1, dx, d, T1, S1, R1, e, qq⟩
  · obtain ⟨W1, st1, dx, d, T1, S1, R1, e, qq⟩ := q1
    have sw := R1.saw S1
    unfold lenSetD at e
    generalize see st1 dx = ex at sw e
    split at e
    · rename_i ds
      split at e
      · rename_i ss hs
        split at e
        · rename_i hn
          cases e
          obtain ⟨l, xs, rfl, hl, r⟩ := saw_lst sw
          cases r1
          refine set_run hc I1 hl r hs hn fun h' tk b ys hS hp I2 => ?_
          refine PyProof.Rows.args_nil ?_
          obtain ⟨o, es, ep, t, ho, hx, hd, gd, hb, hf, _⟩ := hS.ex
          have hsz : es.size = (dedup ss).length := by rw [← Array.length_toList, goodL_len gd, hp.length_eq]
          have hb2 : es.size < 4096 := hb
          refine call_len_set ho hx hd hf (by omega) ⟨.int (dedup ss).length, H1, I2.tok _, ⟨_, by rw [hsz]⟩, qq _ H1 W1 T1 S1 (.int _)⟩
        · cases e
      · cases e
    · cases e
theorem sortS_ok {ys ss : List Str} (h : ys.Perm ss) (hs : sortedS ys = true) : (sortS ss).Perm ss ∧ sortedS (sortS ss) = true := by
  unfold sortS
  rw [dif_pos ⟨ys, h, hs⟩]
  exact Classical.choose_spec (⟨ys, h, hs⟩ : ∃ ys : List Str, ys.Perm ss ∧ sortedS ys = true)
theorem ltCps_irr : ∀ {l : List Nat}, ltCps l l = false := by
  intro l
  rw [ltCps_eq]
  exact decide_eq_false (List.lt_irrefl l)
theorem strs_ext {x y : Str} (h : x.cps.toList = y.cps.toList) : x = y := by
  obtain ⟨a⟩ := x
  obtain ⟨b⟩ := y
  congr
  exact Array.ext' h
theorem sortedS_pw : ∀ {ys : List Str}, sortedS ys = true → ys.Pairwise fun x y => ¬ y.cps.toList < x.cps.toList
  | [], _ => .nil
  | [x], _ => by simp
  | x :: y :: ys, h => by
    have h' : (!ltCps y.cps.toList x.cps.toList) = true ∧ risingS y ys = true := by
      have : risingS x (y :: ys) = true := h
      unfold risingS at this
      simpa using this
    have ih := sortedS_pw (ys := y :: ys) h'.2
    have hxy : ¬ y.cps.toList < x.cps.toList := by
      have := h'.1
      rw [ltCps_eq] at this
      simpa using this
    refine List.pairwise_cons.mpr ⟨fun z hz => ?_, ih⟩
    rcases List.mem_cons.mp hz with rfl | hz
    · exact hxy
    · have hyz := (List.pairwise_cons.mp ih).1 z hz
      intro hlt
      exact hxy (List.lt_of_le_of_lt (List.not_lt.mp hyz) hlt)
theorem sortS_uniq : ∀ {ys zs : List Str}, ys.Perm zs → ys.Pairwise (fun x y => ¬ y.cps.toList < x.cps.toList) → zs.Pairwise (fun x y => ¬ y.cps.toList < x.cps.toList) → ys = zs := by
  intro ys zs hp h1 h2
  refine List.Perm.eq_of_pairwise (le := fun x y : Str => ¬ y.cps.toList < x.cps.toList) (fun a b _ _ hab hba => ?_) h1 h2 hp
  exact strs_ext (List.le_antisymm (List.not_lt.mp hab) (List.not_lt.mp hba))
theorem sortS_eq {ys ss : List Str} (h : ys.Perm ss) (hs : sortedS ys = true) : ys = sortS ss := by
  obtain ⟨h1, h2⟩ := sortS_ok h hs
  exact sortS_uniq (h.trans h1.symm) (sortedS_pw hs) (sortedS_pw h2)
theorem sorted_setS {s : Shared} {b : Addr} {ys : List Str} {Q : Value → Shared → Prop} {E : Value → Shared → Prop} {A : Around} {P : Program} {w : World} (R : SetS P w s.heap b ys) (hh : A.handled = none) (h64 : ys.length < 64)
    (q : ∀ s' p (out : Array Value) (c : Nat) (zs : List Str), (∀ b o, s.heap.get? b = some o → s'.heap.get? b = some o) → s'.gens = s.gens → s'.os = s.os → s.heap.objs.size ≤ p → s'.heap.get? p = some (seqObj "list" out c) → StrsAre out.toList zs → zs.Perm ys → sortedS zs = true → Q (.ref p) s') :
    wpAny (model P w) A (call (.builtin "sorted") [.ref b]) Q E s := by
  obtain ⟨o, es, ep, t, ho, hx, hd, gd, hb, hf, hr, hl⟩ := R.ex
  refine Calls.call_function_entry kind_sorted plain_sorted entry_sorted (args_sorted1 _) ?_
  unfold Builtin.«sorted»
  refine wpAny_bind (m := checkCount "sorted" 1 1 _) (wpAny_pure ?_)
  refine wpAny_bind (collect_set (A := A.in1) hh ⟨o, ho, hx.1, hd⟩ hf hb hr hl fun s1 vs k1 hz g1 o1 pm => ?_)
  have hpp : ∀ {l : List (Int × Value)} {xs : List Str}, GoodL P w l xs → StrsAre (l.map (·.2)) xs := by
    intro l xs g
    induction g with
    | nil => exact .nil
    | cons r _ ih =>
      obtain ⟨tk, e1, _⟩ := r
      rw [List.map_cons, e1]
      exact .cons _ tk ih
  have hsp : ∀ {l l' : List Value}, l'.Perm l → ∀ {xs : List Str}, StrsAre l xs → ∃ xs', StrsAre l' xs' ∧ xs'.Perm xs := by
    intro l l' h
    induction h with
    | nil => intro xs p; exact ⟨xs, p, .refl _⟩
    | cons a h ih =>
      intro xs p
      cases p with
      | cons x t p =>
        obtain ⟨ys, q, e⟩ := ih p
        exact ⟨_ :: ys, .cons x t q, e.cons _⟩
    | swap a b l =>
      intro xs p
      cases p with
      | cons x t p =>
        cases p with
        | cons y t2 p => exact ⟨_, .cons y t2 (.cons x t p), .swap _ _ _⟩
    | trans h1 h2 ih1 ih2 =>
      intro xs p
      obtain ⟨ys, q, e⟩ := ih2 p
      obtain ⟨zs, q2, e2⟩ := ih1 q
      exact ⟨zs, q2, e2.trans e⟩
  obtain ⟨us, hI, pu⟩ := hsp pm (hpp gd)
  have hvl : vs.length = ys.length := by rw [hI.length, pu.length_eq]
  refine wpAny_bind (wpAny_newList ?_ (by rw [hvl, sizeLine_eq]; omega))
  have gL : (s1.heap.push (seqObj "list" vs.toArray 0)).get? s1.heap.objs.size = some (seqObj "list" vs.toArray 0) := Heap.get?_push_size _ rfl
  refine wpAny_bind (wpAny_holding (wpAny_call_entry slot_list_sort ⟨_, gL, rfl⟩ entry_list_sort (list_sort_treeK strKind_oneLt gL hI.keysOf (fun v₁ v₂ rest e => keyKind_strs (by rw [← e]; exact hI)) (by rw [hvl]; exact h64) fun st' hp hs => ⟨_, rfl, ?_⟩) (args_list_sort _)))
  obtain ⟨zs, z1, z2, z3⟩ := sorted_out_str hI hp hs
  obtain ⟨cc, hc⟩ := sortedHeap_at (vs := vs) (out := (arrOf st').map (·.2)) gL
  refine wpAny_pure ⟨_, rfl, q _ s1.heap.objs.size _ cc zs (fun d u e => ?_) g1 o1 hz hc z1 (z2.trans pu) z3⟩
  have e1 := k1 d u e
  have hlt := Heap.lt_size e1
  change (sortedHeap (s1.heap.push (seqObj "list" vs.toArray 0)) s1.heap.objs.size vs _).get? d = some u
  rw [sortedHeap_old (Nat.ne_of_lt hlt) (by rw [size_push']; exact Nat.lt_succ_of_lt hlt)]
  exact Heap.get?_push_of_some _ e1
theorem dSortSet (hc : X.calm = true) (hg : Gl X "sorted") (hm : X.mg "sorted" = none) (hg2 : Gl X "set") (hm2 : X.mg "set" = none) (ha : PE X a (tE X.K c Wx ma)) (na : starEach [a] X.env = (false, eval a X.env) :: starEach [] X.env) :
    PE X (.Call (.Name "sorted" p) [.Call (.Name "set" p2) [a] [] q] [] pos) (tE X.K c Wx (mOp1 sortSetD ma)) := by
  refine ⟨fun pins s σ H Q I h => ?_⟩
  refine Call_ (ld_blt I hg hm (by decide +kernel : bootBuiltins "sorted" = some (.builtin "sorted")) ?_)
  refine PyProof.Rows.callWith_builtin1 (PyProof.Rows.args_cons ?_ rfl) rfl rfl
  refine Call_ (ld_blt I hg2 hm2 boot_set ?_)
  obtain ⟨W, st, env, S, En, pp⟩ := h
  refine PyProof.Rows.callWith_type1 (PyProof.Rows.args_cons (thn (ha.run pins s σ H (fun x H1 => ∃ W1 st1 dx d, Step H W H1 W1 ∧ Sim X.K H1 W1 st1 ∧ Rep X.K H1 W1 x dx ∧ sortSetD st1 dx = some d ∧ Aft X.K H W Q d st1) I ⟨W, st, env, S, En, pp.bind.mono fun dx st1 p1 x H1 W1 T1 S1 R1 => ?_⟩) fun v s1 ⟨x, H1, I1, r1, q1⟩ => PyProof.Rows.args_nil ?_) na) na rfl
  · obtain ⟨d, e, qq⟩ := p1.of
    exact ⟨W1, st1, dx, d, T1, S1, R1, e, qq⟩
  · obtain ⟨W1, st1, dx, d, T1, S1, R1, e, qq⟩ := q1
    have sw := R1.saw S1
    unfold sortSetD at e
    generalize see st1 dx = ex at sw e
    split at e
    · rename_i ds
      split at e
      · rename_i ss hs
        split at e
        · rename_i hn
          cases e
          obtain ⟨l, xs, rfl, hl, r⟩ := saw_lst sw
          cases r1
          refine set_run hc I1 hl r hs (by omega) fun h' tk b ys hS hp I2 => ?_
          refine PyProof.Rows.args_nil ?_
          have hyl : ys.length ≤ ss.length := by
            have := hS.nd.length_le_of_subset (fun z hz => mem_dedup.mp (hp.mem_iff.mp hz))
            exact this
          have hnd := hS.nd
          replace hS : SetS X.prog X.w ({ s1 with heap := h', toks := tk } : Shared).heap b ys := hS
          generalize ({ s1 with heap := h', toks := tk } : Shared) = s2 at I2 hS ⊢
          refine sorted_setS (s := s2) hS (I2.ok.hd hc) (by omega) fun s' pp out cc zs k1 g1 o1 hp0 hg1 hI pz sz => ?_
          have ez : zs = sortS (dedup ss) := sortS_eq (pz.trans hp) sz
          have hlen : (zs.map V.str).length ≤ sizeLine := by rw [List.length_map, pz.length_eq, sizeLine_eq]; omega
          have hn1 : H1 pp = none := I2.hok.fresh hp0
          have J : Inv X pins σ (upd H1 pp (.lst (zs.map V.str))) { s2 with heap := s'.heap, gens := s'.gens, drawn := s'.drawn, toks := s'.toks } :=
            I2.call (ch := []) (Un.laid k1 hp0 hn1) (I2.hok.laid k1 hp0 ⟨hlen, out.toList, cc, vals_of_strs hI, hg1⟩) (by rw [g1]; exact I2.bare) (fun _ z => nomatch z)
          have es : s' = { s2 with heap := s'.heap, gens := s'.gens, drawn := s'.drawn, toks := s'.toks } := by
            cases s'
            cases s2
            cases o1
            rfl
          rw [es]
          refine ⟨.ref pp, _, J, rfl, ?_⟩
          have T2 := Step.temp S1 (o := .lst (zs.map V.str)) hn1
          refine qq _ _ W1 (T1.trans T2) (S1.temp hn1) ?_
          rw [← ez]
          refine .lst upd_same (S1.fresh hn1) (S1.freshB hn1) ?_
          have : ∀ l : List Str, Reps X.K (upd H1 pp (.lst (zs.map V.str))) W1 (l.map V.str) (l.map D.str) := by
            intro l
            induction l with
            | nil => exact .nil
            | cons y l ih => exact .cons (.str y) ih
          exact this zs
        · cases e
      · cases e
    · cases e
end
end RP
end
section
set_option Elab.async false
set_option linter.all false
set_option maxRecDepth 100000
set_option maxHeartbeats 1000000
namespace RP
open PySem PySem.Spec PyProof.Rows L2
theorem dCstG {X : Cx} {c : Call} {Wx : WX} {pos : Pos} {x : Str} {d : D} (h : cF x d X.w X.K X.mg) (hg : Gl X x) (hdb : (x == ("__debug__" : Str)) = false) : PE X (.Name x pos) (tE X.K c Wx (mCst d)) := by
  obtain ⟨v, u, hm, r, hr⟩ := h
  exact dCst (pe_glob hg hm r hdb) hr
section
variable {K : PySem.W.Frag} {h : Heap} {mg : Str → Option Value} {w : World}
theorem cF_int (X : K.In h) (G : h.Ns mainGlobals mg) {x : Str} {i : Int} (c : (He.Fa.int x i).ok K = true) : cF x (.int i) w K mg := by
  obtain ⟨t, e⟩ := He.int_ok X G c
  exact ⟨.int i, _, e, ⟨t, rfl⟩, fun _ _ => .int i⟩
theorem cF_str (X : K.In h) (G : h.Ns mainGlobals mg) {x z : Str} (c : (He.Fa.str x z).ok K = true) : cF x (.str z) w K mg := by
  obtain ⟨t, e⟩ := He.str_ok X G c
  exact ⟨.str z, _, e, ⟨t, rfl⟩, fun _ _ => .str z⟩
inductive Cv where
  | int (i : Int) | str (x : Str)
def Cv.d : Cv → D
  | .int i => .int i
  | .str x => .str x
def Cv.dv : Cv → He.Dv
  | .int i => .int i
  | .str x => .str x
def tupC (K : PySem.W.Frag) (x : Str) (vs : List Cv) : Bool := match K.lookup (He.ga K x) with
  | some ⟨.type c, none, .seq its _, _⟩ => decide (c = "tuple") && (decide (its.size ≤ sizeLine) && He.relAll ((vs.map Cv.dv).map (He.Dv.v K)) its.toList)
  | _ => false
theorem cv_reps {H : Hp} {W : Wd} : ∀ vs : List Cv, Reps K H W ((vs.map Cv.dv).map (He.Dv.v K)) (vs.map Cv.d)
  | [] => .nil
  | .int i :: vs => .cons (.int i) (cv_reps vs)
  | .str x :: vs => .cons (.str x) (cv_reps vs)
theorem cF_tup (X : K.In h) (G : h.Ns mainGlobals mg) {x : Str} {vs : List Cv} (g : (He.Fa.glo x).ok K = true) (c : tupC K x vs = true) : cF x (.tup (vs.map Cv.d)) w K mg := by
  refine ⟨.ref (He.ga K x), _, He.glo_ok X G g, rfl, fun H W => .tup ?_ (cv_reps vs)⟩
  unfold tupC at c
  split at c
  · rename_i cc its n sl hl
    simp only [Bool.and_eq_true, decide_eq_true_eq] at c
    obtain ⟨c1, c2, c3⟩ := c
    subst c1
    exact .inr ⟨_, its, n, hl, rfl, rfl, rfl, c2, He.relAll_ok c3⟩
  · cases c
end
def minD (st : St) : List D → Option D
  | [.int i, .int j] => some (.int (if j < i then j else i))
  | [x] => match see st x with
    | .lst xs => match asInts xs with
      | some (n :: ns) => some (.int (ns.foldl min n))
      | _ => none
    | _ => none
  | _ => none
def maxD (st : St) : List D → Option D
  | [.int i, .int j] => some (.int (if j > i then j else i))
  | [x] => match see st x with
    | .lst xs => match asInts xs with
      | some (n :: ns) => some (.int (ns.foldl max n))
      | _ => none
    | _ => none
  | _ => none
theorem fold_min : ∀ (ns : List Int) (n : Int), ns.foldl min n ∈ n :: ns ∧ ∀ y ∈ n :: ns, ns.foldl min n ≤ y
  | [], n => ⟨by simp, by simp⟩
  | m :: ns, n => by
    obtain ⟨h1, h2⟩ := fold_min ns (min n m)
    rw [List.foldl_cons]
    have hm : ns.foldl min (min n m) ≤ min n m := h2 _ List.mem_cons_self
    refine ⟨?_, fun y hy => ?_⟩
    · rcases List.mem_cons.mp h1 with e | e
      · rw [e]
        by_cases hh : n ≤ m
        · rw [Int.min_eq_left hh]; simp
        · rw [Int.min_eq_right (by omega)]; simp
      · simp [e]
    · rcases List.mem_cons.mp hy with rfl | hy
      · omega
      · rcases List.mem_cons.mp hy with rfl | hy
        · omega
        · exact h2 y (List.mem_cons_of_mem _ hy)
theorem fold_max : ∀ (ns : List Int) (n : Int), ns.foldl max n ∈ n :: ns ∧ ∀ y ∈ n :: ns, y ≤ ns.foldl max n
  | [], n => ⟨by simp, by simp⟩
  | m :: ns, n => by
    obtain ⟨h1, h2⟩ := fold_max ns (max n m)
    rw [List.foldl_cons]
    have hm : max n m ≤ ns.foldl max (max n m) := h2 _ List.mem_cons_self
    refine ⟨?_, fun y hy => ?_⟩
    · rcases List.mem_cons.mp h1 with e | e
      · rw [e]
        by_cases hh : n ≤ m
        · rw [Int.max_eq_right hh]; simp
        · rw [Int.max_eq_left (by omega)]; simp
      · simp [e]
    · rcases List.mem_cons.mp hy with rfl | hy
      · omega
      · rcases List.mem_cons.mp hy with rfl | hy
        · omega
        · exact h2 y (List.mem_cons_of_mem _ hy)
theorem reps2 {K : PySem.W.Frag} {H : Hp} {W : Wd} {xs : List V} {d e : D} (r : Reps K H W xs [d, e]) : ∃ v u, xs = [v, u] ∧ Rep K H W v d ∧ Rep K H W u e := by
  cases r with
  | cons h r =>
    cases r with
    | cons h2 r => cases r; exact ⟨_, _, rfl, h, h2⟩
section
variable {X : Cx}
theorem call_minL (hc : X.calm = true) : CallR X (.builtin "min") (liftN X.K minD) := by
  intro pins s σ H xs us Q I r hh
  obtain ⟨W, st, ds, d, S, rs, e, q⟩ := hh
  unfold minD at e
  split at e
  · cases e
    obtain ⟨v, u, rfl, r1, r2⟩ := reps2 rs
    cases r1
    cases r2
    exact call_min2 hc pins s σ H _ us Q I r ⟨_, _, rfl, q _ H (Step.refl _ _) S (.int _)⟩
  · obtain ⟨v, rfl, r1⟩ := reps1 rs
    have sw := r1.saw S
    rename_i x
    generalize see st x = ex at sw e
    split at e
    · split at e
      · rename_i n ns hn
        cases e
        obtain ⟨l, vs, rfl, hl, rv⟩ := saw_lst sw
        rw [rv.asInts hn] at hl
        obtain ⟨m1, m2⟩ := fold_min ns n
        refine cr_min hc pins s σ H _ us Q I r ⟨l, n :: ns, rfl, SqL.of hl, by simp, fun m hm hy => ?_⟩
        have em : m = ns.foldl min n := by
          have h1 := hy _ m1
          have h2 := m2 m hm
          omega
        subst em
        exact q _ H (Step.refl _ _) S (.int _)
      · cases e
    · cases e
  · cases e
theorem call_maxL (hc : X.calm = true) : CallR X (.builtin "max") (liftN X.K maxD) := by
  intro pins s σ H xs us Q I r hh
  obtain ⟨W, st, ds, d, S, rs, e, q⟩ := hh
  unfold maxD at e
  split at e
  · cases e
    obtain ⟨v, u, rfl, r1, r2⟩ := reps2 rs
    cases r1
    cases r2
    exact call_max2 hc pins s σ H _ us Q I r ⟨_, _, rfl, q _ H (Step.refl _ _) S (.int _)⟩
  · obtain ⟨v, rfl, r1⟩ := reps1 rs
    have sw := r1.saw S
    rename_i x
    generalize see st x = ex at sw e
    split at e
    · split at e
      · rename_i n ns hn
        cases e
        obtain ⟨l, vs, rfl, hl, rv⟩ := saw_lst sw
        rw [rv.asInts hn] at hl
        obtain ⟨m1, m2⟩ := fold_max ns n
        refine cr_max hc pins s σ H _ us Q I r ⟨l, n :: ns, rfl, SqL.of hl, by simp, fun m hm hy => ?_⟩
        have em : m = ns.foldl max n := by
          have h1 := hy _ m1
          have h2 := m2 m hm
          omega
        subst em
        exact q _ H (Step.refl _ _) S (.int _)
      · cases e
    · cases e
  · cases e
def intD (st : St) (x : D) : Option D := match x with
  | .int i => some (.int i)
  | .bl b => some (.int (if b then 1 else 0))
  | .str a => if a.length ≤ 640 then (intText? a).map D.int else none
  | _ => none
theorem call_intL : CallR X (.type "int") (liftN X.K (un1 intD)) := call_un1 fun pins s σ H x us Q W st dx d I r S rx e q => by
  unfold intD at e
  split at e
  · cases e
    cases rx
    exact call_int1 pins s σ H _ us Q I r (.inl ⟨_, rfl, q _ H (Step.refl _ _) S (.int _)⟩)
  · cases e
    cases rx
    exact call_int1 pins s σ H _ us Q I r (.inr ⟨_, rfl, q _ H (Step.refl _ _) S (.int _)⟩)
  · split at e
    · rename_i hl
      obtain ⟨n, hn, rfl⟩ := Option.map_eq_some_iff.mp e
      cases rx
      exact call_int_str pins s σ H _ us Q I r ⟨_, n, rfl, hn, hl, q _ H (Step.refl _ _) S (.int _)⟩
    · cases e
  · cases e
def strD (st : St) (x : D) : Option D := match x with
  | .int i => if i.natAbs.log2 < 1920 then some (.str (toString i)) else none
  | _ => none
theorem call_strL : CallR X (.type "str") (liftN X.K (un1 strD)) := call_un1 fun pins s σ H x us Q W st dx d I r S rx e q => by
  unfold strD at e
  split at e
  · split at e
    · rename_i hl
      cases e
      cases rx
      exact call_str_int pins s σ H _ us Q I r ⟨_, rfl, hl, q _ H (Step.refl _ _) S (.str _)⟩
    · cases e
  · cases e
noncomputable def sortD (st : St) (x : D) : Option D := match see st x with
  | .lst xs => match asStrs xs with
    | some ss => if ss.length < 64 then some (.lst ((sortS ss).map D.str)) else none
    | none => none
  | _ => none
theorem reps_strs {K : PySem.W.Frag} {H : Hp} {W : Wd} : ∀ l : List Str, Reps K H W (l.map V.str) (l.map D.str)
  | [] => .nil
  | x :: l => .cons (.str x) (reps_strs l)
theorem call_sortedL : CallR X (.builtin "sorted") (liftN X.K (un1 sortD)) := call_un1 fun pins s σ H x us Q W st dx d I r S rx e q => by
  have sw := rx.saw S
  unfold sortD at e
  generalize see st dx = ex at sw e
  split at e
  · split at e
    · rename_i ss hs
      split at e
      · rename_i hn
        cases e
        obtain ⟨l, vs, rfl, hl, rv⟩ := saw_lst sw
        rw [rv.asStrs hs] at hl
        refine cr_sortedS pins s σ H _ us Q I r ⟨l, ss, rfl, SqL.of hl, hn, fun ys p pm sz hp => ?_⟩
        rw [sortS_eq pm sz]
        exact newL S (reps_strs _) q p hp
      · cases e
    · cases e
  · cases e
abbrev SMeth := St → Str → List D → Option D
def mSm (f : SMeth) (o : ME) (ms : List ME) : ME := fun c env st => (o c env st).bind fun x st1 => match x with
  | .str z => (mArgs ms c env st1).bind fun ds st2 => R.of (f st2 z ds) st2
  | _ => .no
def liftSm (K : PySem.W.Frag) (f : SMeth) : V → List V → Hp → VK → Prop := fun x xs H Q => ∃ W st z ds d, Sim K H W st ∧ x = .str z ∧ Reps K H W xs ds ∧ f st z ds = some d ∧ ∀ v H', Step H W H' W → Sim K H' W st → Rep K H' W v d → Q v H'
theorem dSm {c : Call} {Wx : WX} {o e : Expr} {es : List Expr} {mo : ME} {ms : List ME} {name : Str} {apos cpos : Pos} {id : String} {f : SMeth} (slot : Slot "str" name id) (hty : typeOf (.builtin id) = pure (.type "method_descriptor")) (hm : MtR X id (liftSm X.K f)) (ho : PE X o (tE X.K c Wx mo)) (ha : PA X (e :: es) (tAs X.K c Wx (mArgs ms))) (hbase : attributeBase o name X.env (eval o X.env) = eval o X.env)
    (hfew : ((backTo cpos (starEach (e :: es) X.env)).all (fun x => !x.1) && (backToKw cpos (keywordEach [] X.env)).all (fun x => x.1.isSome) && decide ((e :: es).length + ([] : List Keyword).length + (if ([] : List Keyword).isEmpty then 0 else 1) < 30)) = true)
    (hline : (apos.endLine == cpos.line) = true) (hs : starEach (e :: es) X.env = (false, eval e X.env) :: starEach es X.env) (hplain : (backTo cpos (starEach es X.env)).any (·.1) = false) :
    PE X (.Call (.Attribute o name apos) (e :: es) [] cpos) (tE X.K c Wx (mSm f mo ms)) :=
  PE.weak (pe_bm F.plainAttrs_str slot hty hm ho ha hbase hfew hline hs hplain) fun σ H Q h => by
    obtain ⟨W, st, env, S, E, p⟩ := h
    refine ⟨W, st, env, S, E, p.bind.mono fun dx st1 p1 x H1 W1 T1 S1 R1 => ?_⟩
    split at p1
    · rename_i z
      have ex := rep_str R1
      subst ex
      refine ⟨rfl, W1, st1, env, S1, E.step S T1, (p1.bind.at T1).mono fun ds st2 p2 xs H2 W2 T2 S2 R2 => ?_⟩
      obtain ⟨d, e, q⟩ := p2.of
      exact ⟨W2, st2, z, ds, d, S2, rfl, R2, e, fun v H' T S' R => q v H' W2 ((T1.trans T2).trans T) S' R⟩
    · exact (show False from p1).elim
def strsOf (st : St) (x : D) : Option (List Str) := match see st x with
  | .lst xs => asStrs xs
  | .tup xs => asStrs xs
  | _ => none
def joinD : SMeth := fun st z ds => match ds with
  | [x] => match strsOf st x with
    | some ys => if (ys.map (·.length)).sum + ys.length * z.length ≤ big then some (.str (Txt.join z ys)) else none
    | none => none
  | _ => none
theorem mt_joinL : MtR X "str.join" (liftSm X.K joinD) := fun pins s σ H x xs v us Q I rx rxs h => by
  obtain ⟨W, st, z, ds, d, S, rfl, rs, e, q⟩ := h
  have bl : big ≤ 16777216 := by decide
  unfold joinD at e
  split at e
  · obtain ⟨u, rfl, r1⟩ := reps1 rs
    rename_i x
    have sw := r1.saw S
    unfold strsOf at e
    generalize see st x = ex at sw e
    split at e
    · rename_i ys hy
      split at e
      · rename_i hn
        cases e
        split at hy
        · obtain ⟨l, vs, rfl, hl, rv⟩ := saw_lst sw
          rw [rv.asStrs hy] at hl
          exact mt_join pins s σ H _ _ v us Q I rx rxs ⟨z, l, ys, rfl, rfl, .inl (SqL.of hl), by omega, q _ H (Step.refl _ _) S (.str _)⟩
        · obtain ⟨l, vs, rfl, hl, rv⟩ := saw_tup sw
          have hl' := hl.sq
          rw [rv.asStrs hy] at hl'
          exact mt_join pins s σ H _ _ v us Q I rx rxs ⟨z, l, ys, rfl, rfl, .inr hl', by omega, q _ H (Step.refl _ _) S (.str _)⟩
        · cases hy
      · cases e
    · cases e
  · cases e
def splitD : SMeth := fun st z ds => match ds with
  | [.str b] => if (b.length == 0) = false ∧ z.length ≤ big then some (.lst ((Txt.split z b).map D.str)) else none
  | _ => none
theorem mt_splitL : MtR X "str.split" (liftSm X.K splitD) := fun pins s σ H x xs v us Q I rx rxs h => by
  obtain ⟨W, st, z, ds, d, S, rfl, rs, e, q⟩ := h
  have bl : big + 2 ≤ sizeLine := by decide
  unfold splitD at e
  split at e
  · obtain ⟨u, rfl, r1⟩ := reps1 rs
    cases r1
    split at e
    · rename_i hc
      cases e
      exact mt_split pins s σ H _ _ v us Q I rx rxs ⟨z, _, rfl, rfl, hc.1, by omega, newL S (reps_strs _) q⟩
    · cases e
  · cases e
end
end RP
end
section
set_option Elab.async false
set_option linter.all false
set_option maxRecDepth 100000
set_option maxHeartbeats 1000000
namespace RP
open PySem PySem.Spec PyProof.Rows L2
def mOp3 (f : St → D → D → D → Option D) (a b e : ME) : ME := fun c env st => (a c env st).bind fun x st1 => (b c env st1).bind fun y st2 => (e c env st2).bind fun z st3 => R.of (f st3 x y z) st3
def isDc (st : St) (x : D) : Bool := match see st x with
  | .dct _ _ => true
  | _ => false
def mGet1 (a b : ME) : ME := fun c env st => (a c env st).bind fun x st1 => if isDc st1 x = true then (b c env st1).bind fun y st2 => match see st2 x with
  | .dct ks vs => if keyish y = true then .ok ((look ks vs y).getD .non) st2 else .no
  | _ => .no
  else .no
def mGet2 (a b e : ME) : ME := fun c env st => (a c env st).bind fun x st1 => if isDc st1 x = true then (b c env st1).bind fun y st2 => (e c env st2).bind fun z st3 => match see st3 x with
  | .dct ks vs => if keyish y = true then .ok ((look ks vs y).getD z) st3 else .no
  | _ => .no
  else .no
section
variable {X : Cx} {c : Call} {Wx : WX} {o e f : Expr} {mo me mf : ME} {apos cpos : Pos}
theorem isD_of {K : PySem.W.Frag} {H : Hp} {W : Wd} {st : St} {v : V} {x : D} (S : Sim K H W st) (r : Rep K H W v x) (h : isDc st x = true) : ∃ a, v = .ref a ∧ IsD H a := by
  have sw := r.saw S
  unfold isDc at h
  generalize see st x = ex at sw h
  split at h
  · obtain ⟨a, kvs, rfl, hr, _, _⟩ := saw_dct sw
    exact ⟨a, rfl, .inl ⟨kvs, hr⟩⟩
  · cases h
theorem dget_of {K : PySem.W.Frag} {H : Hp} {W : Wd} {st : St} {a : Addr} {x y : D} {u : V} {ks vs : List D} (S : Sim K H W st) (r : Rep K H W (.ref a) x) (hx : see st x = .dct ks vs) (ry : Rep K H W u y) (hk : keyish y = true) :
    ∃ ov, DGet H a u ov ∧ (∀ d, look ks vs y = some d → ∃ v, ov = some v ∧ Rep K H W v d) ∧ (look ks vs y = none → ov = none) := by
  have sw := r.saw S
  rw [hx] at sw
  obtain ⟨a', kvs, e, hr, q1, q2⟩ := saw_dct sw
  cases e
  obtain ⟨k, rfl⟩ := key_rep ry hk
  obtain ⟨h1, h2⟩ := look_val q1 q2 ry
  exact ⟨valV kvs k, .inl ⟨kvs, k, hr, rfl, rfl⟩, h1, h2⟩
theorem dGet1 (hu : X.A.units + 501 < cLine) (ho : PE X o (tE X.K c Wx mo)) (he : PE X e (tE X.K c Wx me)) (m : M1 X o "get" apos e cpos) : PE X (.Call (.Attribute o "get" apos) [e] [] cpos) (tE X.K c Wx (mGet1 mo me)) :=
  PE.weak (pe_dget1 (by omega) ho he m) fun σ H Q h => by
    obtain ⟨W, st, env, S, E, p⟩ := h
    refine ⟨W, st, env, S, E, p.bind.mono fun dx st1 p1 x H1 W1 T1 S1 R1 => ?_⟩
    split at p1
    · rename_i hd
      obtain ⟨a, rfl, hD⟩ := isD_of S1 R1 hd
      refine ⟨a, rfl, hD, W1, st1, env, S1, E.step S T1, (p1.bind.at T1).mono fun dy st2 p2 y H2 W2 T2 S2 R2 => ?_⟩
      split at p2
      · rename_i ks vs hx
        split at p2
        · rename_i hk
          obtain ⟨ov, g, g1, g2⟩ := dget_of S2 (R1.step S1 T2) hx R2 hk
          refine ⟨ov, g, ?_⟩
          cases hl : look ks vs dy with
          | none =>
            rw [g2 hl]
            rw [hl] at p2
            exact p2 .non H2 W2 (T1.trans T2) S2 .non
          | some d =>
            obtain ⟨v, ev, rv⟩ := g1 d hl
            rw [ev]
            rw [hl] at p2
            exact p2 v H2 W2 (T1.trans T2) S2 rv
        · exact (show False from p2).elim
      · exact (show False from p2).elim
    · exact (show False from p1).elim
theorem dGet2 (hu : X.A.units + 501 < cLine) (ho : PE X o (tE X.K c Wx mo)) (he : PE X e (tE X.K c Wx me)) (hf : PE X f (tE X.K c Wx mf)) (m : M2 X o "get" apos e f cpos) : PE X (.Call (.Attribute o "get" apos) [e, f] [] cpos) (tE X.K c Wx (mGet2 mo me mf)) :=
  PE.weak (pe_dget2 (by omega) ho he hf m) fun σ H Q h => by
    obtain ⟨W, st, env, S, E, p⟩ := h
    refine ⟨W, st, env, S, E, p.bind.mono fun dx st1 p1 x H1 W1 T1 S1 R1 => ?_⟩
    split at p1
    · rename_i hd
      obtain ⟨a, rfl, hD⟩ := isD_of S1 R1 hd
      refine ⟨a, rfl, hD, W1, st1, env, S1, E.step S T1, (p1.bind.at T1).mono fun dy st2 p2 y H2 W2 T2 S2 R2 => ⟨W2, st2, env, S2, E.step S (T1.trans T2), (p2.bind.at (T1.trans T2)).mono fun dz st3 p3 z H3 W3 T3 S3 R3 => ?_⟩⟩
      split at p3
      · rename_i ks vs hx
        split at p3
        · rename_i hk
          obtain ⟨ov, g, g1, g2⟩ := dget_of S3 (R1.step S1 (T2.trans T3)) hx (R2.step S2 T3) hk
          refine ⟨ov, g, ?_⟩
          cases hl : look ks vs dy with
          | none =>
            rw [g2 hl]
            rw [hl] at p3
            exact p3 z H3 W3 ((T1.trans T2).trans T3) S3 R3
          | some d =>
            obtain ⟨v, ev, rv⟩ := g1 d hl
            rw [ev]
            rw [hl] at p3
            exact p3 v H3 W3 ((T1.trans T2).trans T3) S3 rv
        · exact (show False from p3).elim
      · exact (show False from p3).elim
    · exact (show False from p1).elim
end
def mAddM (a b : ME) : ME := fun c env st => (a c env st).bind fun x st1 => (b c env st1).bind fun y st2 => match see st2 x, see st2 y with
  | .lst xs, .lst ys => if xs.length + ys.length ≤ big then .ok (.ref st2.length) (st2 ++ [.lst (xs ++ ys)]) else .no
  | _, _ => .no
def liftAdd (K : PySem.W.Frag) : R2 := fun x y H Q => ∃ W st dx dy xs ys, Sim K H W st ∧ Rep K H W x dx ∧ Rep K H W y dy ∧ see st dx = .lst xs ∧ see st dy = .lst ys ∧ xs.length + ys.length ≤ big ∧ ∀ v H' W', Step H W H' W' → Sim K H' W' (st ++ [.lst (xs ++ ys)]) → Rep K H' W' v (.ref st.length) → Q v H'
section
variable {X : Cx} {c : Call} {Wx : WX} {a b : Expr} {ma mb : ME} {pos : Pos}
theorem op_addM : OpR X (binaryOp .Add) (liftAdd X.K) := by
  intro pins s σ H x y v u Q I rx ry h
  obtain ⟨W, st, dx, dy, xs, ys, S, r1, r2, e1, e2, hb, q⟩ := h
  have s1 := r1.saw S
  have s2 := r2.saw S
  rw [e1] at s1
  rw [e2] at s2
  have bl := bigLine
  obtain ⟨la, vs, rfl, h1, q1⟩ := saw_lst s1
  obtain ⟨lb, us, rfl, h2, q2⟩ := saw_lst s2
  have l1 := q1.length
  have l2 := q2.length
  exact op_cat pins s σ H _ _ v u Q I rx ry ⟨la, lb, vs, us, rfl, rfl, h1, h2, by omega, newCell S (q1.append q2) q⟩
theorem dAddM (ha : PE X a (tE X.K c Wx ma)) (hb : PE X b (tE X.K c Wx mb)) : PE X (.BinOp a .Add b pos) (tE X.K c Wx (mAddM ma mb)) :=
  PE.weak (pe_op op_addM ha hb) fun σ H Q h => by
    obtain ⟨W, st, env, S, E, p⟩ := h
    refine ⟨W, st, env, S, E, p.bind.mono fun dx st1 p1 x H1 W1 T1 S1 R1 => ⟨W1, st1, env, S1, E.step S T1, (p1.bind.at T1).mono fun dy st2 p2 y H2 W2 T2 S2 R2 => ?_⟩⟩
    split at p2
    · rename_i xs ys e1 e2
      split at p2
      · rename_i hb
        exact ⟨W2, st2, dx, dy, xs, ys, S2, R1.step S1 T2, R2, e1, e2, hb, fun v H' W' T S' R => p2 v H' W' ((T1.trans T2).trans T) S' R⟩
      · exact (show False from p2).elim
    · exact (show False from p2).elim
end
end RP
end
section
set_option Elab.async false
set_option linter.all false
set_option maxRecDepth 100000
namespace RP
open PySem PySem.Spec PyProof.Rows L2
def smulD (st : St) (x y : D) : Option D := match x, y with
  | .str z, .int j => if decide (0 ≤ j) && decide (j ≤ 1000) && decide (z.length ≤ 1000) then some (.str (Txt.mul z j)) else none
  | _, _ => none
section
variable {X : Cx}
theorem op_smulL : OpR X (binaryOp .Mult) (lift2 X.K smulD) := by
  intro pins s σ H x y v u Q I rx ry h
  obtain ⟨W, st, dx, dy, d, S, r1, r2, e, q⟩ := h
  unfold smulD at e
  split at e
  · rename_i z j
    split at e
    · rename_i hc
      cases e
      have hc' : (0 ≤ j ∧ j ≤ 1000) ∧ z.length ≤ 1000 := by simpa using hc
      have e1 := rep_str r1
      have e2 := rep_int r2
      subst e1
      subst e2
      obtain ⟨t, rfl⟩ := rx
      obtain ⟨t2, rfl⟩ := ry
      exact SB.mul (mulOk_of 1000 1000 hc'.2 (by omega) (by omega) (by decide) (by decide)) fun t' k => ⟨.str (Txt.mul z j), H, I.tok _, ⟨t', rfl⟩, q _ H (Step.refl _ _) S (.str _)⟩
    · cases e
  · cases e
end
end RP
end
section
set_option Elab.async false
set_option linter.all false
set_option maxRecDepth 100000
namespace RP
open PySem PySem.Spec PyProof.Rows L2
def mDctM : ME := fun c env st => .ok (.ref st.length) (st ++ [.dct [] []])
section
variable {X : Cx} {c : Call} {Wx : WX} {pos : Pos}
theorem dDctM : PE X (.Dict [] [] pos) (tE X.K c Wx mDctM) :=
  PE.weak pe_dnewK fun σ H Q h => by
    obtain ⟨W, st, env, S, E, p⟩ := h
    intro a ha
    have T := Step.cell S (o := .dK []) ha
    refine p _ _ ⟨W.rho ++ [a], W.B⟩ T (S.newcell ha ⟨[], upd_same, .nil, .nil⟩) (.ref ?_)
    show (W.rho ++ [a])[st.length]? = some a
    rw [← S.len]
    simp
end
end RP
end
section
set_option Elab.async false
set_option linter.all false
set_option maxRecDepth 100000
namespace RP
open PySem PySem.Spec PyProof.Rows L2
def keysOk : List D → Bool
  | [] => true
  | .str _ :: r => keysOk r
  | .int _ :: r => keysOk r
  | _ => false
mutual
def pld : D → Bool
  | .non => true
  | .bl _ => true
  | .int _ => true
  | .str _ => true
  | .tup xs => plds xs
  | .dct ks vs => keysOk ks && (plds ks && (plds vs && decide (ks.length = vs.length)))
  | _ => false
def plds : List D → Bool
  | [] => true
  | x :: xs => pld x && plds xs
end
mutual
def toPyX : D → PyData
  | .bl b => .bool b
  | .int i => .int i
  | .str x => .str x
  | .tup xs => .tuple (toPyXs xs)
  | .dct ks vs => .dict ((toPyXs ks).zip (toPyXs vs))
  | _ => .none
def toPyXs : List D → List PyData
  | [] => []
  | x :: xs => toPyX x :: toPyXs xs
end
def isTupX : D → Bool
  | .tup _ => true
  | _ => false
theorem toPyXs_len : ∀ {xs : List D}, (toPyXs xs).length = xs.length
  | [] => by simp [toPyXs]
  | x :: xs => by simp [toPyXs, toPyXs_len (xs := xs)]
theorem pairs_vals {P : Program} {w : World} : ∀ {kvs : List (Key × V)} {vs : List (Key × Value)} {es : List DictEntry}, KV kvs vs → Pairs (mixKind P w) es vs → Vals (kvs.map fun kv => kV kv.1) (es.map (·.key)) ∧ Vals (kvs.map (·.2)) (es.map (·.val))
  | _, _, _, .nil, .nil => ⟨.nil, .nil⟩
  | _, _, _, .cons h r, .cons h1 h2 r2 => by
    obtain ⟨a, b⟩ := pairs_vals r r2
    refine ⟨.cons ?_ a, .cons (by dsimp only; rw [h2]; exact h.2) b⟩
    dsimp only
    rw [h.1]
    rcases keyIs_shape h1 with ⟨i, t, e1, e2⟩ | ⟨x, t, e1, e2⟩
    · rw [e1, e2]; exact ⟨t, rfl⟩
    · rw [e1, e2]; exact ⟨t, rfl⟩
section
variable {X : Cx} {pins : List (Addr × Obj)} {σ : L2.St} {H : Hp} {s : Shared} {W : Wd}
mutual
theorem Rep.readsX (I : L2.Inv X pins σ H s) : ∀ (d : D) {v : V} {u : Value}, Rep X.K H W v d → pld d = true → RelV v u → ∃ as, Reads s.heap u (toPyX d) as ∧ sysModules ∉ as
  | .non, _, _, .non, _, r => by cases (show _ = Value.none from r); exact ⟨[], by simpa [toPyX] using Reads.none, by simp⟩
  | .bl b, _, _, .bl _, _, r => by cases (show _ = Value.bool b from r); exact ⟨[], by simpa [toPyX] using Reads.bool b, by simp⟩
  | .int i, _, _, .int _, _, r => by obtain ⟨t, rfl⟩ := r; exact ⟨[], by simpa [toPyX] using Reads.int i t, by simp⟩
  | .str x, _, _, .str _, _, r => by obtain ⟨t, rfl⟩ := r; exact ⟨[], by simpa [toPyX] using Reads.str x t, by simp⟩
  | .tup ds, _, _, .tup h hs, hp, r => by
    cases r
    obtain ⟨its, rv, ⟨o, e, hc, n, hd⟩, _⟩ := I.tuple h.sq
    obtain ⟨as, ra, hn⟩ := Reps.readsX I ds hs (by simpa [pld] using hp) rv
    exact ⟨as, by simpa [toPyX] using Reads.tuple e hc hd (by simpa using ra), hn⟩
  | .dct ks vs, _, _, .dct (a := a) rd _ _ rk rv, hp, r => by
    cases r
    simp only [pld, Bool.and_eq_true, decide_eq_true_eq] at hp
    obtain ⟨_, lo, ws, kv, o, es, ep, ho, ex, hd, _, prs, _⟩ := dk_rd I.hok rd
    obtain ⟨v1, v2⟩ := pairs_vals kv prs
    obtain ⟨as, ra, hn⟩ := Reps.readsX I ks rk hp.2.1 v1
    obtain ⟨bs, rb, hm⟩ := Reps.readsX I vs rv hp.2.2.1 v2
    refine ⟨a :: as ++ bs, ?_, ?_⟩
    · rw [toPyX]
      refine Reads.dict ho ex.1 hd ?_ ?_
      · rw [List.map_fst_zip (by rw [toPyXs_len, toPyXs_len]; omega)]; exact ra
      · rw [List.map_snd_zip (by rw [toPyXs_len, toPyXs_len]; omega)]; exact rb
    · have : sysModules ≠ a := fun e => by rw [← e] at lo; simp at lo
      simp [hn, hm, this]
  | .lst _, _, _, _, hp, _ => by simp [pld] at hp
  | .set _, _, _, _, hp, _ => by simp [pld] at hp
  | .frz _, _, _, _, hp, _ => by simp [pld] at hp
  | .ref _, _, _, _, hp, _ => by simp [pld] at hp
  | .exc _, _, _, _, hp, _ => by simp [pld] at hp
  | .exf _ _ _ _, _, _, _, hp, _ => by simp [pld] at hp
theorem Reps.readsX (I : L2.Inv X pins σ H s) : ∀ (ds : List D) {vs : List V} {us : List Value}, Reps X.K H W vs ds → plds ds = true → Vals vs us → ∃ as, ReadsAll s.heap us (toPyXs ds) as ∧ sysModules ∉ as
  | [], _, _, .nil, _, r => by cases r; exact ⟨[], by simpa [toPyXs] using ReadsAll.nil, by simp⟩
  | d :: ds, _, _, .cons h hs, hp, r => by
    cases r with
    | cons r1 rr =>
      simp only [plds, Bool.and_eq_true] at hp
      obtain ⟨as, e1, n1⟩ := Rep.readsX I d h hp.1 r1
      obtain ⟨bs, e2, n2⟩ := Reps.readsX I ds hs hp.2 rr
      exact ⟨as ++ bs, by simpa [toPyXs] using ReadsAll.cons e1 e2, by simp [n1, n2]⟩
end
end
def reprX (st : St) (x : D) : Option D :=
  if pld x && isTupX x && (toPyX x).showable && decide ((toPyX x).shown.length ≤ big) && decide ((toPyX x).depth ≤ 480) then some (.str (toPyX x).shown) else none
section
variable {X : Cx}
theorem call_reprX (hgd : X.A.guards = some []) (hu : X.A.units + 501 < cLine) : CallR X (.builtin "repr") (liftN X.K (un1 reprX)) := call_un1 fun pins s σ H x us Q W st dx d I r S rx e q => by
  have bl := bigLine
  unfold reprX at e
  split at e
  · rename_i hc
    simp only [Bool.and_eq_true, decide_eq_true_eq] at hc
    obtain ⟨⟨⟨⟨hp, ht⟩, hs⟩, hsz⟩, hdp⟩ := hc
    cases e
    cases r with
    | cons r1 rn =>
      cases rn
      have fin : ∀ h' u tk, (∀ b o, s.heap.get? b = some o → h'.get? b = some o) → EP X pins σ Q (.str (toPyX dx).shown u) { s with heap := h', toks := tk } := fun h' u tk hk =>
        ⟨.str _, H, I.kept (t' := tk) hk, ⟨_, rfl⟩, q (.str _) H (Step.refl _ _) S (.str _)⟩
      obtain ⟨as, rd, hn⟩ := Rep.readsX I dx rx hp r1
      cases rx with
      | tup h hs' => cases r1; exact repr_of_reads' rd hs (fun _ => hn) hgd (by omega) (fun _ _ e => e) fin (by omega)
      | _ => simp [isTupX] at ht
  · cases e
end
end RP
end
section
set_option Elab.async false
set_option linter.all false
set_option maxRecDepth 100000
set_option maxHeartbeats 1000000
namespace RP
open PySem PySem.Spec PyProof.Rows L2
abbrev Tbl := List (Str × Int)
def tLook (t : Tbl) (z : Str) : Option Int := (t.find? fun p => p.1 == z).map (·.2)
def kF (x : Str) (t : Tbl) : Fc := fun w K mg => ∃ a es n, mg x = some (.ref a) ∧ KDict K w a es n ∧ ∀ z, ∃ r, PySem.W.nsIn K a z = some r ∧ (∀ i, tLook t z = some i → ∃ u, r = some u ∧ RelV (.int i) u) ∧ (tLook t z = none → r = none)
theorem tabW {fa : List He.Fa} {fn : List He.DefD} {ts : List He.Tab} {w : World} {K : PySem.W.Frag} (c : He.SaysT fa fn ts w K) (i : Nat) {t : He.Tab} (h : ts[i]? = some t) : He.dicW K (t.1 K) = some (He.keysIn w.params t.2) := by
  have e : ts.map (fun t => He.dicW K (t.1 K)) = ts.map fun t => some (He.keysIn w.params t.2) := congrArg (fun z : He.AlT => z.2) c
  have e2 : (ts.map fun t => He.dicW K (t.1 K))[i]? = (ts.map fun t => some (He.keysIn w.params t.2))[i]? := by rw [e]
  rw [List.getElem?_map, List.getElem?_map, h] at e2
  exact Option.some.inj e2
theorem keys_none {P : Params} {z : Str} : ∀ {l : List DictEntry} {ks : List Str}, l.map He.keyOf = He.keysIn P ks → z ∉ ks → l.find? (·.key.isStr z) = none ∧ l.any (·.refKey) = false
  | [], _, _, _ => ⟨rfl, rfl⟩
  | e :: r, [], h, _ => by cases h
  | e :: r, k :: ks, h, hz => by
    have h1 : He.keyOf e :: r.map He.keyOf = some (k, PyData.keyHash P k) :: He.keysIn P ks := h
    injection h1 with h2 h3
    obtain ⟨i1, i2⟩ := keys_none (z := z) h3 (fun h => hz (List.mem_cons_of_mem _ h))
    unfold He.keyOf at h2
    split at h2
    · rename_i x t q
      obtain ⟨h5, h6⟩ := Prod.mk.inj (Option.some.inj h2)
      have hne : x ≠ z := fun e => hz (by rw [← e, h5]; exact List.mem_cons_self)
      refine ⟨?_, ?_⟩
      · rw [List.find?_cons, q, i1]
        have : (Value.str x t).isStr z = false := by
          rw [PySem.W.isStr_of]
          simp [Value.isStrOf, hne]
        rw [this]
      · rw [List.any_cons, i2, Bool.or_false]
        simp [DictEntry.refKey, q]
    · cases h2
theorem kF_of {K : PySem.W.Frag} {h : Heap} {mg : Str → Option Value} {w : World} (X : K.In h) (G : h.Ns mainGlobals mg) {x : Str} {t : Tbl} (g : (He.Fa.glo x).ok K = true) (hd : He.dicW K (He.ga K x) = some (He.keysIn w.params (t.map (·.1)))) (hv : He.valsB K (He.ga K x) (t.map fun p => (p.1, He.Dv.int p.2)) = true) : kF x t w K mg := by
  obtain ⟨es, n, D⟩ := He.dicW_ok hd
  refine ⟨_, es, n, He.glo_ok X G g, D, fun z => ?_⟩
  unfold tLook
  cases hl : t.find? fun p => p.1 == z with
  | some p =>
    have hm := List.mem_of_find?_eq_some hl
    have hz : p.1 = z := by simpa using List.find?_some hl
    obtain ⟨u, e, r⟩ := He.valsB_ok hv (q := (p.1, He.Dv.int p.2)) (List.mem_map_of_mem (f := fun p : Str × Int => (p.1, He.Dv.int p.2)) hm)
    refine ⟨some u, by rw [← hz]; exact e, fun i hi => ⟨u, rfl, ?_⟩, fun h => by cases h⟩
    cases hi
    exact r
  | none =>
    have hz : z ∉ t.map (·.1) := fun hin => by
      obtain ⟨p, hp, e⟩ := List.mem_map.mp hin
      have := List.find?_eq_none.mp hl p hp
      simp [e] at this
    unfold He.dicW at hd
    rw [D.at_] at hd
    have low := D.low
    simp only [decide_true, Bool.true_and, low, Bool.not_false, Array.isEmpty_empty] at hd
    obtain ⟨f1, f2⟩ := keys_none (Option.some.inj hd) hz
    refine ⟨none, ?_, (fun i hi => by cases hi), fun _ => rfl⟩
    unfold PySem.W.nsIn
    rw [D.at_]
    simp only [f1, f2]
    rfl
def mTab1 (t : Tbl) (e : ME) : ME := fun c env st => (e c env st).bind fun y st1 => match y with
  | .str z => .ok (((tLook t z).map D.int).getD .non) st1
  | _ => .no
def mTab2 (t : Tbl) (e f : ME) : ME := fun c env st => (e c env st).bind fun y st1 => (f c env st1).bind fun d st2 => match y with
  | .str z => .ok (((tLook t z).map D.int).getD d) st2
  | _ => .no
section
variable {X : Cx} {c : Call} {Wx : WX} {e f : Expr} {me mf : ME} {apos cpos pos : Pos} {x : Str} {t : Tbl}
theorem dTab1 (h : kF x t X.w X.K X.mg) (hg : Gl X x) (hdb : (x == ("__debug__" : Str)) = false) (he : PE X e (tE X.K c Wx me)) (m : M1 X (.Name x pos) "get" apos e cpos) : PE X (.Call (.Attribute (.Name x pos) "get" apos) [e] [] cpos) (tE X.K c Wx (mTab1 t me)) := by
  obtain ⟨a, es, n, hm, D, hz⟩ := h
  have ho : PE X (.Name x pos) (tC (.ref a)) := pe_glob hg hm rfl hdb
  refine ⟨fun pins s σ H Q I h => ?_⟩
  obtain ⟨W, st, env, S, E, p⟩ := h
  refine wpAny_Call_method m.base m.few m.line PySem.F.plainAttrs_dict PySem.F.slot_dict_get PySem.F.type_dict_get (thn (ho.run pins s σ H (fun v H1 => v = .ref a ∧ H1 = H) I ⟨rfl, rfl⟩) fun u s1 ⟨x, H1, I1, rx, ex, eH⟩ => ?_)
  subst ex
  subst eH
  obtain rfl : u = Value.ref a := rx
  have hM := PySem.W.mapOf_K (prog := X.prog) (w := X.w) I1.kIn D.at_ D.lit
  refine ⟨hM.typeIs, fun b q => ?_, ?_⟩
  · cases q
    obtain ⟨ob, _, _, h1, h2, _⟩ := hM
    exact ⟨ob, h1, h2.2.1⟩
  rw [m.trees]
  refine Calls.callWith_builtin rfl (Calls.evalArgs_plain (Calls.spliced_cons (thn (he.run pins s1 σ H1 (fun y H2 => ∃ z o v, y = .str z ∧ PySem.W.nsIn X.K a z = some o ∧ RelV v (o.getD .none) ∧ Q v H2) I1 ⟨W, st, env, S, E, p.bind.mono fun dy st1 p1 y H2 W2 T2 S2 R2 => ?_⟩) fun iv s2 ⟨y, H2, I2, ry, z, o, v, ez, eo, rv, q2⟩ => Calls.spliced_nil ?_)))
  · split at p1
    · rename_i z
      cases R2
      obtain ⟨o, eo, g1, g2⟩ := hz z
      cases hl : tLook t z with
      | some i =>
        obtain ⟨u, rfl, ru⟩ := g1 i hl
        rw [hl] at p1
        exact ⟨z, _, .int i, rfl, eo, ru, p1 (.int i) H2 W2 T2 S2 (.int i)⟩
      | none =>
        cases g2 hl
        rw [hl] at p1
        exact ⟨z, _, .non, rfl, eo, rfl, p1 .non H2 W2 T2 S2 .non⟩
    · exact (show False from p1).elim
  · subst ez
    obtain ⟨tk, rfl⟩ := (show ∃ t, iv = Value.str z t from ry)
    have hM2 := PySem.W.mapOf_K (prog := X.prog) (w := X.w) I2.kIn D.at_ D.lit
    refine call_meetsIn PySem.F.slot_dict_get hM2.typeIs PySem.F.entry_dict_get (PySem.F.args_dict_get_2 _ _) (meets_dict_get (strKind X.prog X.w) a (strKind_is X.prog X.w z tk) D.low) ⟨_, hM2, ?_⟩
    rw [PySem.W.find_K D.at_ eo]
    exact ⟨v, H2, I2.tok _, rv, q2⟩
theorem dTab2 (h : kF x t X.w X.K X.mg) (hg : Gl X x) (hdb : (x == ("__debug__" : Str)) = false) (he : PE X e (tE X.K c Wx me)) (hf : PE X f (tE X.K c Wx mf)) (m : M2 X (.Name x pos) "get" apos e f cpos) : PE X (.Call (.Attribute (.Name x pos) "get" apos) [e, f] [] cpos) (tE X.K c Wx (mTab2 t me mf)) := by
  obtain ⟨a, es, n, hm, D, hz⟩ := h
  have ho : PE X (.Name x pos) (tC (.ref a)) := pe_glob hg hm rfl hdb
  refine ⟨fun pins s σ H Q I h => ?_⟩
  obtain ⟨W, st, env, S, E, p⟩ := h
  refine wpAny_Call_method m.base m.few m.line PySem.F.plainAttrs_dict PySem.F.slot_dict_get PySem.F.type_dict_get (thn (ho.run pins s σ H (fun v H1 => v = .ref a ∧ H1 = H) I ⟨rfl, rfl⟩) fun u s1 ⟨x, H1, I1, rx, ex, eH⟩ => ?_)
  subst ex
  subst eH
  obtain rfl : u = Value.ref a := rx
  have hM := PySem.W.mapOf_K (prog := X.prog) (w := X.w) I1.kIn D.at_ D.lit
  refine ⟨hM.typeIs, fun b q => ?_, ?_⟩
  · cases q
    obtain ⟨ob, _, _, h1, h2, _⟩ := hM
    exact ⟨ob, h1, h2.2.1⟩
  rw [m.trees]
  refine Calls.callWith_builtin rfl (Calls.evalArgs_plain (Calls.spliced_cons (thn (he.run pins s1 σ H1 (fun y H2 => tE X.K c Wx mf σ H2 fun d H3 => ∃ z o v, y = .str z ∧ PySem.W.nsIn X.K a z = some o ∧ (∀ u, RelV d u → RelV v (o.getD u)) ∧ Q v H3) I1 ⟨W, st, env, S, E, p.bind.mono fun dy st1 p1 y H2 W2 T2 S2 R2 => ⟨W2, st1, env, S2, E.step S T2, (p1.bind.at T2).mono fun dd st2 p2 d H3 W3 T3 S3 R3 => ?_⟩⟩) fun iv s2 ⟨y, H2, I2, ry, q2⟩ => Calls.spliced_cons (thn (hf.run pins s2 σ H2 _ I2 q2) fun fv s3 ⟨d, H3, I3, rd, z, o, v, ez, eo, rv, q3⟩ => Calls.spliced_nil ?_))))
  · split at p2
    · rename_i z
      cases R2
      obtain ⟨o, eo, g1, g2⟩ := hz z
      cases hl : tLook t z with
      | some i =>
        obtain ⟨u, rfl, ru⟩ := g1 i hl
        rw [hl] at p2
        exact ⟨z, _, .int i, rfl, eo, fun _ _ => ru, p2 (.int i) H3 W3 (T2.trans T3) S3 (.int i)⟩
      | none =>
        cases g2 hl
        rw [hl] at p2
        exact ⟨z, _, d, rfl, eo, fun _ r => r, p2 d H3 W3 (T2.trans T3) S3 R3⟩
    · exact (show False from p2).elim
  · subst ez
    obtain ⟨tk, rfl⟩ := (show ∃ t, iv = Value.str z t from ry)
    have hM2 := PySem.W.mapOf_K (prog := X.prog) (w := X.w) I3.kIn D.at_ D.lit
    refine call_meetsIn PySem.F.slot_dict_get hM2.typeIs PySem.F.entry_dict_get (PySem.F.args_dict_get_3 _ _ _) (meets_dict_get_default (strKind X.prog X.w) a (strKind_is X.prog X.w z tk) D.low fv) ⟨_, hM2, ?_⟩
    rw [PySem.W.find_K D.at_ eo]
    exact ⟨v, H3, I3.tok _, rv _ rd, q3⟩
end
def mPrs : List (ME × ME) → Call → Env → St → R (List (D × D))
  | [] => fun _ _ st => .ok [] st
  | (k, v) :: r => fun c env st => (k c env st).bind fun x st1 => (v c env st1).bind fun y st2 => (mPrs r c env st2).bind fun ps st3 => .ok ((x, y) :: ps) st3
def mDisp (ps : List (ME × ME)) : ME := fun c env st => (mPrs ps c env (st ++ [.dct [] []])).bind fun kvs st1 => match st1[st.length]? with
  | some (.dct [] []) => if (kvs.all fun p => keyish p.1) && decide (kvs.length ≤ 15) then .ok (.ref st.length) (st1.set st.length (.dct (dPuts [] [] kvs).1 (dPuts [] [] kvs).2)) else .no
  | _ => .no
inductive PrV (K : PySem.W.Frag) (H : Hp) (W : Wd) : List (V × V) → List (D × D) → Prop
  | nil : PrV K H W [] []
  | cons {x y : V} {e d : D} {ps : List (V × V)} {eds : List (D × D)} : Rep K H W x e → Rep K H W y d → PrV K H W ps eds → PrV K H W ((x, y) :: ps) ((e, d) :: eds)
theorem prV_keys {K : PySem.W.Frag} {H : Hp} {W : Wd} {ps : List (V × V)} {eds : List (D × D)} (h : PrV K H W ps eds) (hk : (eds.all fun p => keyish p.1) = true) : ∃ kvs : List (Key × V), ps = kvs.map (fun kv => (kV kv.1, kv.2)) ∧ Prd K H W kvs eds ∧ kvs.length = eds.length := by
  induction h with
  | nil => exact ⟨[], rfl, .nil, rfl⟩
  | @cons x y e d ps eds hx hy _ ih =>
    rw [List.all_cons, Bool.and_eq_true] at hk
    obtain ⟨kvs, e1, e2, e3⟩ := ih hk.2
    obtain ⟨k, rfl⟩ := key_rep hx hk.1
    exact ⟨(k, y) :: kvs, by rw [e1]; rfl, .cons hx hy e2, by simp [e3]⟩
section
variable {X : Cx} {c : Call} {Wx : WX} {pos : Pos}
def tPr (K : PySem.W.Frag) (c : Call) (Wx : WX) (ps : List (ME × ME)) : List (TE × TE) := ps.map fun p => (tE K c Wx p.1, tE K c Wx p.2)
theorem dPrNil : PPs X pos [] [] (tPr X.K c Wx []) := pps_nil
theorem dPrCons {k v : Expr} {mk mv : ME} {ks : List (Option Expr)} {vs : List Expr} {ps : List (ME × ME)} (hk : PE X k (tE X.K c Wx mk)) (hv : PE X v (tE X.K c Wx mv)) (hr : PPs X pos ks vs (tPr X.K c Wx ps)) : PPs X pos (some k :: ks) (v :: vs) (tPr X.K c Wx ((mk, mv) :: ps)) := pps_cons hk hv hr
theorem prs_t {K : PySem.W.Frag} {σ : L2.St} {env : Env} : ∀ {ps : List (ME × ME)} {H : Hp} {W : Wd} {st : St} {Q : List (V × V) → Hp → Prop}, Sim K H W st → EnvR K H W σ env →
    Post K Wx σ H W (mPrs ps c env st) (fun eds st1 => ∀ vs H1 W1, Step H W H1 W1 → Sim K H1 W1 st1 → PrV K H1 W1 vs eds → Q vs H1) → tPairs (tPr K c Wx ps) σ H Q
  | [], H, W, st, Q, S, E, p => p [] H W (Step.refl _ _) S .nil
  | (mk, mv) :: ps, H, W, st, Q, S, E, p => by
    refine ⟨W, st, env, S, E, p.bind.mono fun dx st1 p1 x H1 W1 T1 S1 R1 => ⟨W1, st1, env, S1, E.step S T1, (p1.bind.at T1).mono fun dy st2 p2 y H2 W2 T2 S2 R2 => ?_⟩⟩
    refine prs_t (ps := ps) S2 (E.step S (T1.trans T2)) ((p2.bind.at (T1.trans T2)).mono fun eds st3 p3 vs H3 W3 T3 S3 R3 => ?_)
    exact p3 _ H3 W3 ((T1.trans T2).trans T3) S3 (.cons (R1.step S1 (T2.trans T3)) (R2.step S2 T3) R3)
theorem dDisp {ks : List (Option Expr)} {vs : List Expr} {ps : List (ME × ME)} (h : PPs X pos ks vs (tPr X.K c Wx ps)) (hall : ks.all (·.isSome) = true) (hl : ks.length = vs.length) (h0 : ks ≠ []) (h15 : ks.length ≤ 15) : PE X (.Dict ks vs pos) (tE X.K c Wx (mDisp ps)) :=
  PE.weak (pe_disp h hall hl h0 h15) fun σ H Q h => by
    obtain ⟨W, st, env, S, E, p⟩ := h
    intro a ha
    have T := Step.cell S (o := .dK []) ha
    have S' := S.newcell (c := .dct [] []) ha ⟨[], upd_same, .nil, .nil⟩
    have hra : (W.rho ++ [a])[st.length]? = some a := by
      rw [← S.len]
      simp
    refine prs_t S' (E.step S T) ((p.bind.at T).mono fun eds st1 p1 vs H1 W1 T1 S1 R1 => ?_)
    split at p1
    · rename_i hc
      split at p1
      · rename_i hk
        obtain ⟨hk1, hk2⟩ := (Bool.and_eq_true _ _).mp hk
        have hk2 := of_decide_eq_true hk2
        have hr1 : W1.rho[st.length]? = some a := T1.rho hra
        obtain ⟨kvs0, hv, rk, rv⟩ := S1.cell _ a _ hr1 hc
        have : kvs0 = [] := by
          cases kvs0 with
          | nil => rfl
          | cons q r => cases rk
        subst this
        obtain ⟨kvs, e1, e2, e3⟩ := prV_keys R1 hk1
        refine ⟨hv, kvs, e1, by omega, ?_⟩
        have T2 := Step.write S1 (o := .dK (mergeK [] kvs)) hr1
        have pr := puts_rep e2 (kvs := []) .nil .nil
        exact p1 _ _ W1 ((T.trans T1).trans T2) (S1.write hr1 ⟨_, upd_same, pr.1.step S1 T2, pr.2.step S1 T2⟩) (.ref hr1)
      · exact (show False from p1).elim
    · exact (show False from p1).elim
end
end RP
end
section
set_option Elab.async false
set_option linter.all false
set_option maxRecDepth 100000
set_option maxHeartbeats 1000000
namespace RP
open PySem PySem.Spec PyProof.Rows L2
noncomputable def mSortSetM (a : ME) : ME := fun c env st => (a c env st).bind fun x st1 => match sortSetD st1 x with
  | some (.lst ds) => .ok (.ref st1.length) (st1 ++ [.lst ds])
  | _ => .no
section
variable {X : Cx} {c : Call} {Wx : WX} {a : Expr} {ma : ME} {p p2 q pos : Pos}
theorem dSortSetM (hc : X.calm = true) (hg : Gl X "sorted") (hm : X.mg "sorted" = none) (hg2 : Gl X "set") (hm2 : X.mg "set" = none) (ha : PE X a (tE X.K c Wx ma)) (na : starEach [a] X.env = (false, eval a X.env) :: starEach [] X.env) :
    PE X (.Call (.Name "sorted" p) [.Call (.Name "set" p2) [a] [] q] [] pos) (tE X.K c Wx (mSortSetM ma)) := by
  refine ⟨fun pins s σ H Q I h => ?_⟩
  refine Call_ (ld_blt I hg hm (by decide +kernel : bootBuiltins "sorted" = some (.builtin "sorted")) ?_)
  refine PyProof.Rows.callWith_builtin1 (PyProof.Rows.args_cons ?_ rfl) rfl rfl
  refine Call_ (ld_blt I hg2 hm2 boot_set ?_)
  obtain ⟨W, st, env, S, En, pp⟩ := h
  refine PyProof.Rows.callWith_type1 (PyProof.Rows.args_cons (thn (ha.run pins s σ H (fun x H1 => ∃ W1 st1 dx ds, Step H W H1 W1 ∧ Sim X.K H1 W1 st1 ∧ Rep X.K H1 W1 x dx ∧ sortSetD st1 dx = some (.lst ds) ∧ Aft X.K H W Q (.ref st1.length) (st1 ++ [.lst ds])) I ⟨W, st, env, S, En, pp.bind.mono fun dx st1 p1 x H1 W1 T1 S1 R1 => ?_⟩) fun v s1 ⟨x, H1, I1, r1, q1⟩ => PyProof.Rows.args_nil ?_) na) na rfl
  · split at p1
    · rename_i ds e
      exact ⟨W1, st1, dx, ds, T1, S1, R1, e, p1⟩
    · exact (show False from p1).elim
  · obtain ⟨W1, st1, dx, d0, T1, S1, R1, e, qq⟩ := q1
    have sw := R1.saw S1
    unfold sortSetD at e
    generalize see st1 dx = ex at sw e
    split at e
    · rename_i ds
      split at e
      · rename_i ss hs
        split at e
        · rename_i hn
          cases e
          obtain ⟨l, xs, rfl, hl, r⟩ := saw_lst sw
          cases r1
          refine set_run hc I1 hl r hs (by omega) fun h' tk b ys hS hp I2 => ?_
          refine PyProof.Rows.args_nil ?_
          have hyl : ys.length ≤ ss.length := by
            have := hS.nd.length_le_of_subset (fun z hz => mem_dedup.mp (hp.mem_iff.mp hz))
            exact this
          have hnd := hS.nd
          replace hS : SetS X.prog X.w ({ s1 with heap := h', toks := tk } : Shared).heap b ys := hS
          generalize ({ s1 with heap := h', toks := tk } : Shared) = s2 at I2 hS ⊢
          refine sorted_setS (s := s2) hS (I2.ok.hd hc) (by omega) fun s' pp out cc zs k1 g1 o1 hp0 hg1 hI pz sz => ?_
          have ez : zs = sortS (dedup ss) := sortS_eq (pz.trans hp) sz
          have hlen : (zs.map V.str).length ≤ sizeLine := by rw [List.length_map, pz.length_eq, sizeLine_eq]; omega
          have hn1 : H1 pp = none := I2.hok.fresh hp0
          have J : Inv X pins σ (upd H1 pp (.lst (zs.map V.str))) { s2 with heap := s'.heap, gens := s'.gens, drawn := s'.drawn, toks := s'.toks } :=
            I2.call (ch := []) (Un.laid k1 hp0 hn1) (I2.hok.laid k1 hp0 ⟨hlen, out.toList, cc, vals_of_strs hI, hg1⟩) (by rw [g1]; exact I2.bare) (fun _ z => nomatch z)
          have es : s' = { s2 with heap := s'.heap, gens := s'.gens, drawn := s'.drawn, toks := s'.toks } := by
            cases s'
            cases s2
            cases o1
            rfl
          rw [es]
          refine ⟨.ref pp, _, J, rfl, ?_⟩
          have rs : ∀ l : List Str, Reps X.K H1 W1 (l.map V.str) (l.map D.str) := by
            intro l
            induction l with
            | nil => exact .nil
            | cons y l ih => exact .cons (.str y) ih
          refine newCell S1 (rs zs) (fun v H' W' T S' R => ?_) pp hn1
          rw [ez] at S'
          exact qq v H' W' (T1.trans T) S' R
        · cases e
      · cases e
    · cases e
end
end RP
end
section
set_option Elab.async false
set_option linter.all false
set_option maxRecDepth 100000
set_option maxHeartbeats 1000000
namespace RP
open PySem PySem.Spec PyProof.Rows L2
def gAll : List MG → List D → Env → Option Env
  | [], [], env => some env
  | g :: gs, d :: ds, env => (g d env).bind (gAll gs ds)
  | _, _, _ => none
def gTps (gs : List MG) : MG := fun d env => match d with
  | .tup ds => gAll gs ds env
  | _ => none
theorem gAll_len : ∀ {gs : List MG} {ds : List D} {env env' : Env}, gAll gs ds env = some env' → gs.length = ds.length
  | [], [], _, _, _ => rfl
  | [], _ :: _, _, _, e => by cases e
  | _ :: _, [], _, _, e => by cases e
  | g :: gs, d :: ds, env, env', e => by
    unfold gAll at e
    obtain ⟨env1, e1, e2⟩ := Option.bind_eq_some_iff.mp e
    simp [gAll_len e2]
section
variable {X : Cx} {pos : Pos}
def tGa (K : PySem.W.Frag) (is : List Nat) (gs : List MG) : TGs := fun vs σ H Q => ∃ W st ds env env', Sim K H W st ∧ Reps K H W vs ds ∧ EnvR K H W σ env ∧ gAll gs ds env = some env' ∧ ∀ σ', EnvR K H W σ' env' → σ'.length = σ.length → (∀ j, j ∉ is → σ'[j]? = σ[j]?) → Q σ' H
theorem gNilA : PGs X [] (tGa X.K [] []) := PGs.weak pgs_nil fun vs σ H Q h => by
  obtain ⟨W, st, ds, env, env', S, r, E, e, q⟩ := h
  cases r with
  | nil => cases e; exact ⟨rfl, q σ E rfl fun _ _ => rfl⟩
  | cons _ _ => cases e
theorem gConsA {is js : List Nat} {g : MG} {gs : List MG} {e : Expr} {ts : List Expr} (h1 : PG X e (tG X.K is g)) (hr : PGs X ts (tGa X.K js gs)) (hs : (assignEach (e :: ts) X.env).map (·.2) = assign e X.env :: (assignEach ts X.env).map (·.2)) : PGs X (e :: ts) (tGa X.K (is ++ js) (g :: gs)) :=
  PGs.weak (pgs_cons h1 hr hs) fun vs σ H Q h => by
    obtain ⟨W, st, ds, env, env', S, r, E, e, q⟩ := h
    cases r with
    | nil => cases e
    | cons r1 rr =>
      rename_i v vs d ds
      unfold gAll at e
      obtain ⟨env1, e1, e2⟩ := Option.bind_eq_some_iff.mp e
      refine ⟨v, vs, rfl, W, st, d, env, env1, S, r1, E, e1, fun σ1 E1 hl1 hj1 => ⟨W, st, ds, env1, env', S, rr, E1, e2, fun σ' E' hl hj => q σ' E' (hl.trans hl1) fun j hj' => ?_⟩⟩
      rw [hj j (fun z => hj' (List.mem_append_right _ z)), hj1 j (fun z => hj' (List.mem_append_left _ z))]
theorem gTpsd {is : List Nat} {gs : List MG} {ts : List Expr} {k : Nat} (hc : X.calm = true) (h : PGs X ts (tGa X.K is gs)) (hn : (assignEach ts X.env).length = gs.length) (hst : (assignEach ts X.env).findIdx? (·.1) = none) : PG X (.Tuple ts k pos) (tG X.K is (gTps gs)) :=
  PG.weak (pg_tup hc h hn hst) fun v σ H Q h => by
    obtain ⟨W, st, d, env, env', S, r, E, e, q⟩ := h
    unfold gTps at e
    split at e
    · cases r with
      | tup ht rr => exact ⟨_, _, rfl, ht.sq, by rw [rr.length, gAll_len e], W, st, _, env, env', S, rr, E, e, q⟩
    · cases e
end
def xPop : Meth := fun st o ds => match o, ds with
  | .ref n, [.int i] => match st[n]? with
    | some (.lst xs) => if 0 ≤ i ∧ i < (big : Int) then (xs[i.toNat]?).map fun d => (d, st.set n (.lst (xs.eraseIdx i.toNat))) else none
    | _ => none
  | _, _ => none
theorem Reps.at {K : PySem.W.Frag} {H : Hp} {W : Wd} : ∀ {vs : List V} {ds : List D} {i : Nat} {d : D}, Reps K H W vs ds → ds[i]? = some d → ∃ v, vs[i]? = some v ∧ Rep K H W v d
  | _, _, 0, d, .cons h _, e => by simp at e; subst e; exact ⟨_, rfl, h⟩
  | _, _, i + 1, d, .cons _ r, e => by simpa using Reps.at (i := i) r (by simpa using e)
  | _, _, i, d, .nil, e => by simp at e
theorem Reps.erase {K : PySem.W.Frag} {H : Hp} {W : Wd} : ∀ {vs : List V} {ds : List D} (i : Nat), Reps K H W vs ds → Reps K H W (vs.eraseIdx i) (ds.eraseIdx i)
  | _, _, i, .nil => .nil
  | _, _, 0, .cons _ r => r
  | _, _, i + 1, .cons h r => .cons h (Reps.erase i r)
theorem mt_popL {X : Cx} : MtR X "list.pop" (liftM X.K xPop) := fun pins s σ H x xs v us Q I rx rxs h => by
  refine mt_popAt pins s σ H x xs v us Q I rx rxs ?_
  obtain ⟨W, st, d, ds, d2, st2, S, r, rs, e, q⟩ := h
  have bi : (big : Int) < 2 ^ 63 := by decide
  unfold xPop at e
  split at e
  · rename_i n i
    split at e
    · rename_i ys hn
      split at e
      · rename_i hc
        obtain ⟨d', hd, e2⟩ := Option.map_eq_some_iff.mp e
        cases e2
        cases r with
        | ref hr =>
          rename_i a
          obtain ⟨vs, hv, rv⟩ := S.cell _ a _ hr hn
          cases rs with
          | cons r1 rn =>
            cases rn
            have ev := rep_int r1
            subst ev
            obtain ⟨y, hy, ry⟩ := rv.at hd
            have hlt : i.toNat < vs.length := (List.getElem?_eq_some_iff.mp hy).1
            have T := Step.write S (o := .lst (vs.eraseIdx i.toNat)) hr
            refine ⟨a, vs, i, i.toNat, y, rfl, rfl, hv, by omega, by omega, ?_, hy, q y _ W T (S.write hr ⟨_, upd_same, (rv.erase _).step S T⟩) (ry.step S T)⟩
            unfold seqIndex?
            simp only
            rw [if_neg (show ¬ i < 0 by omega), if_pos (by simp; omega)]
      · cases e
    · cases e
  · cases e
end RP
end
section
set_option Elab.async false
set_option linter.all false
set_option maxRecDepth 100000
set_option maxHeartbeats 1000000
namespace RP
open PySem PySem.Spec PyProof.Rows L2
section
variable {X : Cx} {x : Str} {D : Addr} {e : Expr} {ta : TA} {p1 p2 pos : Pos}
theorem pe_upInit {pl : Sem Bool} (hg : Gl X x) (hm : X.mg x = some (.ref D)) (hdb : (x == ("__debug__" : Str)) = false) (sp : PySem.W.specialIn X.K (.ref D) "__getattribute__" = some (some (.builtin "type.__getattribute__")))
    (rd : PySem.W.readsIn X.K D (.type "type") = true) (fi : PySem.W.findCls X.K (.ref D) (.type "type") "__init__" = some (.val (.builtin "ValueError.__init__"))) (ha : PA X [e] ta)
    (hev : eval (.Call (.Attribute (.Name x p1) "__init__" p2) [e] [] pos) X.env = (do
      let ov ← eval (.Name x p1) X.env
      standAt p2.atName
      let (f, first) ← holding [ov] (getMethod ov "__init__" pl)
      callWith pos f first (backTo pos (starEach [e] X.env)) (backToKw pos (keywordEach [] X.env))))
    (hst : starEach [e] X.env = (false, eval e X.env) :: starEach [] X.env) : PE X (.Call (.Attribute (.Name x p1) "__init__" p2) [e] [] pos) (tVeI X.K ta) :=
  ⟨fun pins s σ H Q I h => by
    refine PySem.W.methodCall_KW (ld_glob I hg hm (PySem.W.method_cls I.kIn sp (PySem.W.cls_value I.kIn rd fi (by decide +kernel) ?_)) hdb) hev
    refine PyProof.Rows.callWith_method1 (thn (ha.run pos pins _ σ H _ (I.tok _) h) fun us s1 h1 => ?_) hst rfl
    obtain ⟨vs, H1, J, rs, a, C, ws, rfl, hl, T, ea, q⟩ := h1
    cases rs with
    | cons r0 rr =>
      cases r0
      refine oinit_ok T J ea ?_ fun s' J' => ⟨.non, H1, J', rfl, q⟩
      have := rr.length
      rw [sizeLine_eq]
      omega⟩
end
theorem made_none {X : Cx} {pins : List (Addr × Obj)} {σ : L2.St} {H1 : Hp} {Q : XK} {hA hB hC : Heap} {gA gB : Array GenState} {dA dB : Drawn} {tA tB : Nat} {oA oB : OsState} {a C : Addr} (rs : Raises X (.ref C)) (I : Inv X pins σ H1 ⟨hA, gA, dA, tA, oA⟩) (sz : hA.objs.size ≤ a)
    (kp : ∀ b o, hA.get? b = some o → hB.get? b = some o) (un : Un (frs X.stack) [] (upd H1 a (exo a C none)) (upd H1 a (exo a C none)) hB hC) (hok : HOk X.prog X.w (upd H1 a (exo a C none)) hC) (os : oB = oA) (br : AllBare gB) (q : Q (.ref C) none H1) :
    L2N.MkP X pins σ Q (.ref a) ⟨hC, gB, dB, tB, oB⟩ := by
  obtain ⟨t0, hx⟩ := exo_at hok upd_same
  have na : H1 a = none := I.hok.fresh sz
  obtain ⟨G, in1, in2⟩ := restrict hC fun b => decide (b ≠ a)
  have same : ∀ b, b ≠ a → G.get? b = hC.get? b := fun b hb => in1 b (by simpa using hb)
  have gone : G.get? a = none := in2 a (by simp)
  have lt : ∀ {b : Addr} {o : Obj}, hA.get? b = some o → b ≠ a := fun {b o} z => Nat.ne_of_lt (Nat.lt_of_lt_of_le (Heap.lt_size z) sz)
  have U : Un (frs X.stack) [] H1 H1 hA G := by
    refine ⟨fun b o z n hf hx' => ?_, fun b o z n hf hx' => ?_, fun b o z n hx' => n, fun b o z hx' => ?_, fun b xs z => z, fun b o v z => z, fun b ps z => ⟨#[], by simpa using z⟩⟩
    · rw [same b (lt z)]; exact un.keep b o (kp b o z) (by rw [upd_ne (lt z)]; exact n) hf hx'
    · rw [same b (lt z)]; exact un.slot b o (kp b o z) (by rw [upd_ne (lt z)]; exact n) hf hx'
    · rw [same b (lt z)]; exact un.there b o (kp b o z) hx'
  have hok2 : HOk X.prog X.w H1 G := fun b o z => by
    have hb : b ≠ a := ne_of_none z na
    have z2 : upd H1 a (exo a C none) b = some o := by rw [upd_ne hb]; exact z
    refine (hok b o z2).stay (fun c v hc y => ?_) (fun c hc => ?_) (fun c xs hc => ?_)
    · have hca : c ≠ a := by
        rcases hc with hc | hc
        · rw [hc]; exact hb
        · exact at_ne upd_same hc exo_own
      rw [same c hca]
      exact y
    · rwa [upd_ne (at_ne upd_same hc exo_own)] at hc
    · rwa [upd_ne (at_ne upd_same hc exo_tup)] at hc
  have J : Inv X pins σ H1 ⟨G, gB, dB, tB, oB⟩ := I.call' (ch := []) os U hok2 br (fun b z => absurd z (by simp))
  refine ⟨a, _, _, ⟨G, gB, dB, tB, oB⟩, H1, .ref C, none, rfl, J, fun b o z => ?_, gone, hx, ⟨rfl, rfl, fun vs e => by cases e; rfl⟩, rfl, rfl, na, rfl, br, rs, q⟩
  by_cases hb : b = a
  · rw [hb, gone] at z; cases z
  · exact (same b hb).symm.trans z
def spIni (K : PySem.W.Frag) : Sp := fun vs H Q E => ∃ a C : Addr, vs = [.ref a] ∧ OexC K C ∧ H a = some (exo a C none) ∧ Q .non H
theorem mk_none {X : Cx} {x : Str} {C fI : Addr} {k : Nat} {fd : FuncData} {ps : List Str} {p pos : Pos} (T : OexC X.K C) (iC : PySem.W.findIn X.K (.ref C) "__init__" = some (some (.ref fI))) (tI : PySem.W.typeIn X.K (.ref fI) = some (.type "function"))
    (Fi : FnG X.prog X.w X.K X.mg X.base k fI fd ps (spIni X.K)) (hr : RoomG (k + 1) X.A) (hgd : X.A.guards = some []) (hb : Binds X.K fd ps []) (hg : Gl X x) (hm : X.mg x = some (.ref C)) (hdb : (x == ("__debug__" : Str)) = false) :
    L2N.PMk X (.Call (.Name x p) [] [] pos) (fun _ H Q => Q (.ref C) none H) := by
  intro pins s σ H Q I q
  obtain ⟨nm, qn, N, bs, bm, sn, sub, ab, col, dd, k0, k1, k2, k3, k5, hC, hbm⟩ := T.cls
  refine wpAny_Call_Name_kw (ld_glob I hg hm (PySem.W.callWith_K0 I.kIn T.kC ?_) hdb)
  show wpAny _ _ (call (.ref C) []) _ _ _
  obtain ⟨hA, gA, dA, tA, oA⟩ := s
  have sz : hA.objs.size ≤ hA.objs.size + 1 := Nat.le_succ _
  have keep : ∀ b o, hA.get? b = some o → ((hA.push (PySem.W.kdv_tup [])).push (PySem.HandSPX.excO C hA.objs.size)).get? b = some o := fun b o z => Heap.get?_push_of_some _ (Heap.get?_push_of_some _ z)
  have here : ((hA.push (PySem.W.kdv_tup [])).push (PySem.HandSPX.excO C hA.objs.size)).get? (hA.objs.size + 1) = some (PySem.HandSPX.excO C hA.objs.size) := by heap_get
  have J := I.laid (t' := tA) (a := hA.objs.size + 1) (o := exo (hA.objs.size + 1) C none) (h' := (hA.push (PySem.W.kdv_tup [])).push (PySem.HandSPX.excO C hA.objs.size)) keep sz (exo_ok here)
  have hq : spIni X.K [V.ref (hA.objs.size + 1)] (upd H (hA.objs.size + 1) (exo (hA.objs.size + 1) C none)) (fun v H2 => v = .non ∧ H2 = upd H (hA.objs.size + 1) (exo (hA.objs.size + 1) C none)) (fun _ _ _ => False) := ⟨_, _, rfl, T, upd_same, rfl, rfl⟩
  have hl : [Value.ref (hA.objs.size + 1)].length = ps.length := Fi.len _ _ _ _ hq
  refine wpAny_call (PySem.HandSPX.call_own PySem.F.excBase_ValueError (fun Y => PySem.HandSPX.refsVE_contains Y bm hbm) (I.kIn _ _ hC) (PySem.W.looks_findIn I.kIn iC) (fun self => PySem.W.bind_fn I.kIn self tI) (Nat.zero_le _) ?_)
  refine codeAny_mono (Fi.run _ X.stack _ _ ⟨[Value.ref (hA.objs.size + 1)], []⟩ [Value.ref (hA.objs.size + 1)] [V.ref (hA.objs.size + 1)] _ (fun _ _ _ => False) { hd := hr.hd, dp := by rw [make_depth]; have := hr.dp; omega, un := by rw [make_units]; have := hr.un; omega, un3 := by rw [make_units]; have := hr.un3; omega } ?_ (J.env0.make C [] []) ?_ (.cons rfl .nil) hq) fun r s' hr' => ?_
  · exact hgd
  · exact hb _ [Value.ref (hA.objs.size + 1)] J.kIn (by simpa using hl)
  · cases r with
    | error er =>
      obtain ⟨_, _, _, _, _, _, _, _, _, _, _, _, hF⟩ := hr'
      exact hF.elim
    | ok fl =>
      cases fl with
      | ret u =>
        obtain ⟨v, H2, os2, br2, un2, hok2, rv, ev, eH⟩ := hr'
        subst ev
        subst eH
        obtain ⟨h2, g2, d2, t2, o2⟩ := s'
        exact ⟨rv, made_none (raises_own T.exC T.tyC) I sz keep un2 hok2 os2 br2 q⟩
      | next => exact (show False from hr').elim
      | brk => exact (show False from hr').elim
      | cont => exact (show False from hr').elim
end RP
end
section
set_option Elab.async false
set_option linter.all false
set_option maxRecDepth 100000
set_option maxHeartbeats 1000000
namespace RP
open PySem PySem.Spec PyProof.Rows L2
structure Sw (a : Addr) (kvs : List (Key × V)) (H H' : Hp) : Prop where
  ne : ∀ b, b ≠ a → H' b = H b
  r1 : Rd H a (.dK kvs)
  r2 : Rd H' a (.dK kvs)
section
variable {K : PySem.W.Frag} {H H' : Hp} {W : Wd} {a : Addr} {kvs : List (Key × V)} {st : St}
theorem Sw.lst (w : Sw a kvs H H') {b : Addr} {xs : List V} (h : H b = some (.lst xs)) : H' b = some (.lst xs) := by
  rw [w.ne b (fun z => by subst z; rcases w.r1 with q | ⟨o, q⟩ <;> (rw [h] at q; cases q))]
  exact h
theorem Sw.frz (w : Sw a kvs H H') {b : Addr} {o : Obj} {u : HO} (h : H b = some (.frz o u)) (hu : ∀ k, u ≠ .dK k) : H' b = some (.frz o u) := by
  rw [w.ne b (fun z => by
    subst z
    rcases w.r1 with q | ⟨o', q⟩
    · rw [h] at q; cases q
    · rw [h] at q; cases q; exact hu _ rfl)]
  exact h
theorem Sw.xd (w : Sw a kvs H H') {b : Addr} {xs : List (Str × V)} (h : H b = some (.xd xs)) : H' b = some (.xd xs) := by
  rw [w.ne b (fun z => by subst z; rcases w.r1 with q | ⟨o, q⟩ <;> (rw [h] at q; cases q))]
  exact h
theorem Sw.rd (w : Sw a kvs H H') {b : Addr} {k2 : List (Key × V)} (h : Rd H b (.dK k2)) : Rd H' b (.dK k2) := by
  by_cases hb : b = a
  · subst hb
    have e : k2 = kvs := by
      rcases h with h | ⟨o, h⟩ <;> rcases w.r1 with q | ⟨o', q⟩ <;> (rw [h] at q; cases q) <;> rfl
    rw [e]
    exact w.r2
  · rcases h with h | ⟨o, h⟩
    · exact .inl (by rw [w.ne b hb]; exact h)
    · exact .inr ⟨o, by rw [w.ne b hb]; exact h⟩
mutual
theorem Rep.sw (w : Sw a kvs H H') : ∀ {v : V} (d : D), Rep K H W v d → Rep K H' W v d
  | _, .non, .non => .non
  | _, .bl b, .bl _ => .bl b
  | _, .int i, .int _ => .int i
  | _, .str x, .str _ => .str x
  | _, .tup ds, .tup h r => .tup (by
      rcases h with ⟨o, h, q⟩ | h
      · exact .inl ⟨o, w.frz h (fun _ z => by cases z), q⟩
      · exact .inr h) (Reps.sw w ds r)
  | _, .lst ds, .lst h n1 n2 r => .lst (w.lst h) n1 n2 (Reps.sw w ds r)
  | _, .dct ks vs, .dct h n1 n2 r1 r2 => .dct (w.rd h) n1 n2 (Reps.sw w ks r1) (Reps.sw w vs r2)
  | _, .frz ns, .frz h => .frz (by
      rcases h with ⟨o, h⟩ | h
      · exact .inl ⟨o, w.frz h (fun _ z => by cases z)⟩
      · exact .inr h)
  | _, .ref n, .ref h => .ref h
  | _, .exc b, .exc _ => .exc b
  | _, .exf _ _ _ vs, .exf h e r => .exf (w.xd h) e (Reps.sw w vs r)
theorem Reps.sw (w : Sw a kvs H H') : ∀ {vs : List V} (ds : List D), Reps K H W vs ds → Reps K H' W vs ds
  | _, [], .nil => .nil
  | _, d :: ds, .cons h r => .cons (Rep.sw w d h) (Reps.sw w ds r)
end
theorem Sim.sw (w : Sw a kvs H H') (ha : a ∉ W.rho) (S : Sim K H W st) : Sim K H' W st := by
  refine ⟨S.len, S.nd, fun b hb => ?_, S.dis, fun i b c h1 h2 => ?_⟩
  · by_cases e : b = a
    · subst e
      rcases w.r2 with q | ⟨o, q⟩ <;> exact ⟨_, q⟩
    · rw [w.ne b e]; exact S.bt b hb
  · have hne : b ≠ a := fun z => ha (by rw [← z]; exact List.mem_of_getElem? h1)
    have q := S.cell i b c h1 h2
    cases c with
    | lst ds => obtain ⟨xs, h, r⟩ := q; exact ⟨xs, by rw [w.ne b hne]; exact h, r.sw w⟩
    | dct ks vs => obtain ⟨xs, h, r, r2⟩ := q; exact ⟨xs, by rw [w.ne b hne]; exact h, r.sw w, r2.sw w⟩
    | ins c fs => obtain ⟨dx, xs, h, q, r⟩ := q; exact ⟨dx, xs, by rw [w.ne b hne]; exact h, q, r.sw w⟩
theorem EnvR.sw {σ : L2.St} {env : Env} (w : Sw a kvs H H') (E : EnvR K H W σ env) : EnvR K H' W σ env :=
  ⟨E.len, fun i d h => let ⟨v, e, r⟩ := E.get i d h; ⟨v, e, r.sw w⟩⟩
theorem sw_lock {od : Obj} (h : H a = some (.dK kvs)) : Sw a kvs H (upd H a (.frz od (.dK kvs))) := ⟨fun b hb => upd_ne hb, .inl h, .inr ⟨od, upd_same⟩⟩
theorem sw_free {od : Obj} (h : H a = some (.frz od (.dK kvs))) : Sw a kvs H (upd H a (.dK kvs)) := ⟨fun b hb => upd_ne hb, .inr ⟨od, h⟩, .inl upd_same⟩
theorem unlock_step {W' : Wd} {H2 : Hp} {od : Obj} (h : H a = some (.dK kvs)) (ha : a ∉ W.rho) (T : Step (upd H a (.frz od (.dK kvs))) W H2 W') : H2 a = some (.frz od (.dK kvs)) ∧ a ∉ W'.rho ∧ Step H W (upd H2 a (.dK kvs)) W' := by
  have k := T.keep a _ upd_same ha
  refine ⟨k.1, k.2, T.pre, fun b hb => ?_, T.sub, fun b o hb hn => ?_⟩
  · rcases T.B b hb with q | ⟨q, n⟩
    · exact .inl q
    · have hne : b ≠ a := fun z => by subst z; rw [upd_same] at q; cases q
      rw [upd_ne hne] at q
      exact .inr ⟨q, n⟩
  · by_cases e : b = a
    · subst e
      rw [h] at hb; cases hb
      exact ⟨upd_same, k.2⟩
    · have k2 := T.keep b o (by rw [upd_ne e]; exact hb) hn
      exact ⟨by rw [upd_ne e]; exact k2.1, k2.2⟩
theorem wk_keys {H0 : Hp} {W0 : Wd} {st0 : St} {o : Obj} {ks : List D} (S0 : Sim K H0 W0 st0) (h : H0 a = some (.frz o (.dK kvs))) (n1 : a ∉ W0.rho) (r : Reps K H0 W0 (kvs.map fun kv => kV kv.1) ks) : Wk K (Itk a o kvs) none ks H0 W0 where
  go := fun i H W st T S _ hi => by
    have e := r.length
    rw [List.length_map] at e
    exact ⟨(T.keep _ _ h n1).1, by omega⟩
  yld := fun i H W st d x H' T S _ hd y => by
    obtain ⟨e1, k, v, e2, e3⟩ := y
    subst e1
    obtain ⟨u, f1, f2⟩ := r.get hd
    rw [List.getElem?_map, e2] at f1
    cases f1
    subst e3
    exact ⟨Step.refl _ _, S, f2.step S0 T⟩
  stop := fun i H W st T S _ hi => by
    have e := r.length
    rw [List.length_map] at e
    exact ⟨(T.keep _ _ h n1).1, by omega⟩
end
def RS.calm : RS → RS
  | .er _ _ _ => .no
  | r => r
noncomputable def sForK (i : Nat) (g : MG) (body : MS) : MS := fun c env st => match env[i]? with
  | some (some (.dct ks _)) => if ks.length ≤ big then (forL c none ks g body ks env st).calm else .no
  | _ => .no
noncomputable def mCompK (own : List Nat) (i : Nat) (g : MG) (ts : MT) (elt : ME) : ME := fun c env st => match env[i]? with
  | some (some (.dct ks _)) => if ks.length ≤ big then ((compL c none ks g ts elt (wipeE env own) ks st).bind fun ys st2 => .ok (.lst ys) st2).calm else .no
  | _ => .no
section
variable {X : Cx} {c : Call} {Wx : WX}
theorem for_core {is : List Nat} {g : MG} {m : MS} {xs : List D} {gd : Option Nat} {Dn : Ends} {σ : L2.St} {H1 : Hp} {W1 : Wd} {st1 : St} {env : Env} {J : It} (S1 : Sim X.K H1 W1 st1) (E : EnvR X.K H1 W1 σ env) (wk : Wk X.K J gd xs H1 W1) (p1 : PostS X.K Wx Dn H1 W1 (forL c gd xs g m xs env st1)) :
    ∃ Wn : Nat → Nat → L2.St → Hp → Prop, (∃ m, Wn 0 m σ H1) ∧ ∀ i k σ H, Wn i k σ H →
      (J.stop i H ∧ Dn.nx σ H) ∨ (J.go i H ∧ ∃ N : L2.St → Hp → Prop, (∀ σ' H', N σ' H' → ∃ m', m' < k ∧ Wn (i + 1) m' σ' H') ∧ ∀ x H', J.yld i H x H' → tG X.K is g x σ H' fun σ2 H2 => tSs X.K c Wx m { Dn with nx := N, ct := N, bk := Dn.nx } σ2 H2) := by
  refine ⟨fun i k σ2 H2 => k = xs.length - i ∧ i ≤ xs.length ∧ ∃ W2 st2 env2, Step H1 W1 H2 W2 ∧ Sim X.K H2 W2 st2 ∧ EnvR X.K H2 W2 σ2 env2 ∧ PostS X.K Wx Dn H2 W2 (forL c gd xs g m (xs.drop i) env2 st2),
    ⟨xs.length, by simp, Nat.zero_le _, W1, st1, env, Step.refl _ _, S1, E, p1⟩, ?_⟩
  rintro i k σ2 H2 ⟨rfl, hi, W2, st2, env2, T2, S2, E2, p2⟩
  by_cases hlt : i < xs.length
  · obtain ⟨d, hd⟩ : ∃ d, xs[i]? = some d := ⟨xs[i], List.getElem?_eq_getElem hlt⟩
    have edrop : xs.drop i = d :: xs.drop (i + 1) := by
      rw [List.drop_eq_getElem_cons hlt]
      have : xs[i] = d := by rw [List.getElem?_eq_getElem hlt] at hd; exact Option.some.inj hd
      rw [this]
    rw [edrop] at p2
    unfold forL at p2
    by_cases hgd : gOk gd xs st2
    · rw [if_pos hgd] at p2
      refine .inr ⟨wk.go i H2 W2 st2 T2 S2 hgd hlt, fun σ' H' => ∃ W' st' env', Step H1 W1 H' W' ∧ Sim X.K H' W' st' ∧ EnvR X.K H' W' σ' env' ∧ PostS X.K Wx Dn H' W' (forL c gd xs g m (xs.drop (i + 1)) env' st'),
        fun σ' H' q => ⟨xs.length - (i + 1), by omega, rfl, hlt, q⟩, fun x H' y => ?_⟩
      obtain ⟨Ty, Sy, rx⟩ := wk.yld i H2 W2 st2 d x H' T2 S2 hgd hd y
      replace T2 := T2.trans Ty
      replace E2 := E2.step S2 Ty
      replace p2 := p2.at Ty
      replace S2 := Sy
      clear Sy Ty
      split at p2
      · exact (show False from p2).elim
      · rename_i env1 henv1
        refine ⟨W2, st2, d, env2, env1, S2, rx, E2, henv1, fun σ' E1 hl hj => ⟨W2, st2, env1, S2, E1, ?_⟩⟩
        generalize m c env1 st2 = r at p2 ⊢
        cases r with
        | nx env3 st3 => exact fun σ' H' W' T S' E' => ⟨W', st3, env3, T2.trans T, S', E', p2.at T⟩
        | ct env3 st3 => exact fun σ' H' W' T S' E' => ⟨W', st3, env3, T2.trans T, S', E', p2.at T⟩
        | bk env3 st3 => exact p2
        | rt d st3 => exact p2
        | er x env3 st3 => exact p2
        | no => exact p2
    · rw [if_neg hgd] at p2
      exact (show False from p2).elim
  · have e : i = xs.length := by omega
    rw [List.drop_of_length_le (by omega)] at p2
    unfold forL at p2
    by_cases hgd : gOk gd xs st2
    · rw [if_pos hgd] at p2
      exact .inl ⟨wk.stop i H2 W2 st2 T2 S2 hgd e, p2 σ2 H2 W2 (Step.refl _ _) S2 E2⟩
    · rw [if_neg hgd] at p2
      exact (show False from p2).elim
theorem sForKD {tg : Expr} {is : List Nat} {g : MG} {m : MS} {x : Str} {i : Nat} {bd : List Stmt} {p pos : Pos} (hp : PassesOwn (model X.prog X.w) X.A X.env X.xe) (hc : X.calm = true) (hN : X.N[i]? = some x) (hv : Vis X.env.scope x) (hd : (x == ("__debug__" : Str)) = false) (hcd : (x == ("__classdict__" : Str)) = false)
    (hg : PG X tg (tG X.K is g)) (hb : PSs X bd (tSs X.K c WF m)) (hs : ∀ y, foldedSetIterable (.Name x p) X.env y = pure y) : PS X (.For tg (.Name x p) bd [] pos) (tSs X.K c Wx (sForK i g m)) := by
  have base := ps_for (pos := pos) hp hc (pi_keys (tg := tg) (pe_var (pos := p) hN hv hd hcd)) hg hb hs
  refine ⟨fun pins s σ H Dn I h => ?_⟩
  obtain ⟨W, st, env, S, E, p1⟩ := h
  unfold sForK at p1
  split at p1
  · rename_i ks vs he
    split at p1
    · obtain ⟨v, ev, r⟩ := E.get i _ he
      have p2 : forL c none ks g m ks env st = (forL c none ks g m ks env st).calm ∧ PostS X.K WF Dn H W (forL c none ks g m ks env st) := by
        generalize forL c none ks g m ks env st = r at p1
        cases r with
        | er x env st => exact (show False from p1).elim
        | _ => exact ⟨rfl, p1⟩
      obtain ⟨e1, p2⟩ := p2
      cases r with
      | dct hrd n1 n2 rk rv =>
        rename_i a kvs
        rcases hrd with h0 | ⟨o, h0⟩
        · refine (ps_lock base).run pins s σ H Dn I ⟨a, _, h0, trivial, fun od => ?_⟩
          have w := sw_lock (od := od) h0
          refine ⟨.ref a, ev, a, od, rfl, .inl ⟨kvs, upd_same, ?_⟩⟩
          refine for_core (S.sw w n1) (E.sw w) (wk_keys (S.sw w n1) upd_same n1 (rk.sw w)) ?_
          generalize forL c none ks g m ks env st = r at p2 e1
          cases r with
          | nx env' st' => exact fun σ' H' W' T S' E' => let ⟨q1, q2, q3⟩ := unlock_step h0 n1 T; ⟨q1, p2 σ' _ W' q3 (S'.sw (sw_free q1) q2) (E'.sw (sw_free q1))⟩
          | rt d' st' => exact fun v' H' W' T S' R' => let ⟨q1, q2, q3⟩ := unlock_step h0 n1 T; ⟨q1, p2 v' _ W' q3 (S'.sw (sw_free q1) q2) (R'.sw (sw_free q1))⟩
          | bk env' st' => exact fun σ' H' W' T S' E' => let ⟨q1, q2, q3⟩ := unlock_step h0 n1 T; ⟨q1, p2 σ' _ W' q3 (S'.sw (sw_free q1) q2) (E'.sw (sw_free q1))⟩
          | ct env' st' => exact fun σ' H' W' T S' E' => let ⟨q1, q2, q3⟩ := unlock_step h0 n1 T; ⟨q1, p2 σ' _ W' q3 (S'.sw (sw_free q1) q2) (E'.sw (sw_free q1))⟩
          | er x env' st' => cases e1
          | no => exact (show False from p2).elim
        · refine base.run pins s σ H Dn I ⟨.ref a, ev, a, o, rfl, .inl ⟨kvs, h0, ?_⟩⟩
          exact for_core S E (wk_keys S h0 n1 rk) p2
    · exact (show False from p1).elim
  · exact (show False from p1).elim
theorem comp_turns {xs : List RP.D} {gd : Option Nat} {g : MG} {ts : MT} {elt : ME} {vs is : List Nat} (his : ∀ i ∈ is, i ∈ vs) {σ : L2.St} {H : Hp} {Q : VK} {W : Wd} {st : St} {env : Env} {J : It} (S : Sim X.K H W st) (E : EnvR X.K H W σ env) {fin : List RP.D → St → R RP.D}
    (hfin : ∀ ys st2, fin ys st2 = .ok (.lst ys) st2 ∨ fin ys st2 = .ok (.ref st2.length) (st2 ++ [.lst ys])) (wk : Wk X.K J gd xs H W) (hxl : xs.length ≤ sizeLine)
    (p : Post X.K Wx σ H W ((compL c gd xs g ts elt (wipeE env vs) xs st).bind fin) (Aft X.K H W Q)) :
    ∀ D, H D = none → ∃ Wn : Nat → Nat → Hp → Prop, (∃ m, Wn 0 m (upd H D (.lst []))) ∧ ∀ i m H, Wn i m H →
      (J.stop i H ∧ Q (.ref D) H) ∨ (J.go i H ∧ ∃ Nx : Hp → Prop, (∀ H', Nx H' → ∃ m', m' < m ∧ Wn (i + 1) m' H') ∧ ∀ x H', J.yld i H x H' → tG X.K is g x (L2.wipe σ vs) H' fun σ2 H2 => L2.wipe σ2 vs = L2.wipe σ vs ∧ tTs X.K c WF ts σ2 H2 fun b H3 =>
        if b = true then tE X.K c WF elt σ2 H3 fun y H4 => ∃ acc, H4 D = some (.lst acc) ∧ acc.length < sizeLine ∧ Nx (upd H4 D (.lst (acc ++ [y]))) else Nx H3) := by
  intro D hD
  have T1 := Step.refl H W
  have hDr := S.fresh hD
  have hDB := S.freshB hD
  refine ⟨fun i m H2 => m = xs.length - i ∧ i ≤ xs.length ∧ ∃ W2 st2 acc accV, Step H W H2 W2 ∧ Sim X.K H2 W2 st2 ∧ D ∈ W2.B ∧ H2 D = some (.lst accV) ∧ acc.length ≤ i ∧ Reps X.K H2 W2 accV acc ∧
    Post X.K Wx σ H W ((compL c gd xs g ts elt (wipeE env vs) (xs.drop i) st2).bind fun ys st3 => fin (acc ++ ys) st3) (Aft X.K H W Q), ⟨xs.length, by simp, Nat.zero_le _, ⟨W.rho, D :: W.B⟩, st, [], [], Step.busy S hD, S.busy hD, List.mem_cons_self, upd_same, Nat.zero_le _, .nil, ?_⟩, ?_⟩
  · simpa using p
  rintro i m H2 ⟨rfl, hi, W2, st2, acc, accV, T2, S2, hB, hD2, hal, hacc, p2⟩
  by_cases hlt : i < xs.length
  · -- a turn
    obtain ⟨d, hd⟩ : ∃ d, xs[i]? = some d := ⟨xs[i], List.getElem?_eq_getElem hlt⟩
    have edrop : xs.drop i = d :: xs.drop (i + 1) := by
      rw [List.drop_eq_getElem_cons hlt]
      have : xs[i] = d := by rw [List.getElem?_eq_getElem hlt] at hd; exact Option.some.inj hd
      rw [this]
    rw [edrop] at p2
    unfold compL at p2
    by_cases hg : gOk gd xs st2
    · rw [if_pos hg] at p2
      refine .inr ⟨wk.go i H2 W2 st2 T2 S2 hg hlt, fun H5 => ∃ W5 st5 acc5 accV5, Step H W H5 W5 ∧ Sim X.K H5 W5 st5 ∧ D ∈ W5.B ∧ H5 D = some (.lst accV5) ∧ acc5.length ≤ i + 1 ∧ Reps X.K H5 W5 accV5 acc5 ∧
        Post X.K Wx σ H W ((compL c gd xs g ts elt (wipeE env vs) (xs.drop (i + 1)) st5).bind fun ys st3 => fin (acc5 ++ ys) st3) (Aft X.K H W Q), fun H' n' => ⟨xs.length - (i + 1), by omega, rfl, hlt, n'⟩, fun x H' y => ?_⟩
      obtain ⟨Ty, Sy, rx⟩ := wk.yld i H2 W2 st2 d x H' T2 S2 hg hd y
      replace T2 := T2.trans Ty
      replace hacc := hacc.step S2 Ty
      replace hD2 := (Ty.keep D _ hD2 (fun z => S2.dis D z hB)).1
      replace S2 := Sy
      clear Sy Ty
      have Ew := (E.step S (T1.trans T2)).wipe vs
      split at p2
      · exact (show False from p2).elim
      · rename_i env1 henv1
        refine ⟨W2, st2, d, wipeE env vs, env1, S2, rx, Ew, henv1, fun σ' E1 hl hj => ⟨?_, ?_⟩⟩
        · have h1 : L2.wipe σ' vs = L2.wipe (L2.wipe σ vs) vs := wipe_ext hl fun j hjv => hj j fun z => hjv (his j z)
          rw [h1, wipe_wipe]
        · have p3 := p2.bind
          have p3' : Post X.K Wx σ H W ((ts c env1 st2).calm.bind fun b st1 => if b = true then (elt c env1 st1).calm.bind fun y st2 => (compL c gd xs g ts elt (wipeE env vs) (xs.drop (i + 1)) st2).bind fun ys st3 => .ok (y :: ys) st3 else compL c gd xs g ts elt (wipeE env vs) (xs.drop (i + 1)) st1) fun ys st3 => Post X.K Wx σ H W (fin (acc ++ ys) st3) (Aft X.K H W Q) := p3
          refine ⟨W2, st2, env1, S2, E1, (p3'.calmed σ' _ W2).mono fun bb st3 p4 H3 W3 T3 S3 => ?_⟩
          have hDr2 : D ∉ W2.rho := fun z => S2.dis D z hB
          have hD3 := (T3.keep D _ hD2 hDr2).1
          cases bb with
          | true =>
            rw [if_pos rfl] at p4
            dsimp only
            rw [if_pos rfl]
            refine ⟨W3, st3, env1, S3, E1.step S2 T3, (p4.calmed σ' _ W3).mono fun dy st4 p5 yv H4 W4 T4 S4 R4 => ?_⟩
            have hB3 := T3.sub D hB
            have hDr3 : D ∉ W3.rho := fun z => S3.dis D z hB3
            have hD4 := (T4.keep D _ hD3 hDr3).1
            have hB4 := T4.sub D hB3
            have T24 := T3.trans T4
            have hacc4 := hacc.step S2 T24
            refine ⟨accV, hD4, ?_, W4, st4, acc ++ [dy], accV ++ [yv], ?_, S4.wr hB4 hD4 trivial, hB4, upd_same, by simp; omega, (hacc4.append (.cons R4 .nil)).wr hB4 hD4 trivial, ?_⟩
            · have h1 := hacc.length
              have h2 : xs.length ≤ sizeLine := hxl
              omega
            · have T14 := T2.trans T24
              exact ⟨T14.pre, T14.B, T14.sub, fun a o ha hn => ⟨by rw [upd_ne (ne_of_none ha hD)]; exact (T14.keep a o ha hn).1, (T14.keep a o ha hn).2⟩⟩
            · have p6 := p5.bind
              generalize hr : compL c gd xs g ts elt (wipeE env vs) (xs.drop (i + 1)) st4 = r at p6 ⊢
              cases r with
              | er x st => exact p6
              | no => exact p6
              | ok ys st3 =>
                have p7 : Post X.K Wx σ H W (fin (acc ++ (dy :: ys)) st3) (Aft X.K H W Q) := p6
                show Post X.K Wx σ H W (fin (acc ++ [dy] ++ ys) st3) _
                rw [List.append_assoc]
                exact p7
          | false =>
            rw [if_neg Bool.false_ne_true] at p4
            dsimp only
            rw [if_neg Bool.false_ne_true]
            refine ⟨W3, st3, acc, accV, T2.trans T3, S3, T3.sub D hB, hD3, by omega, hacc.step S2 T3, ?_⟩
            generalize hr : compL c gd xs g ts elt (wipeE env vs) (xs.drop (i + 1)) st3 = r at p4 ⊢
            cases r with
            | er x st => exact p4
            | no => exact p4
            | ok ys st3 => exact p4
    · rw [if_neg hg] at p2
      exact (show False from p2).elim
  · -- the end
    have e : i = xs.length := by omega
    rw [List.drop_of_length_le (by omega)] at p2
    unfold compL at p2
    by_cases hg : gOk gd xs st2
    · rw [if_pos hg] at p2
      have p3 : Post X.K Wx σ H W (fin (acc ++ []) st2) (Aft X.K H W Q) := p2
      rw [List.append_nil] at p3
      refine .inl ⟨wk.stop i H2 W2 st2 T2 S2 hg e, ?_⟩
      obtain ⟨rho2, B2⟩ := W2
      have hsub : ∀ a ∈ B2.filter (fun a => decide (a ≠ D)), a ∈ B2 := fun a ha => (List.mem_filter.mp ha).1
      have hDn : D ∉ B2.filter (fun a => decide (a ≠ D)) := fun z => by
        have := (List.mem_filter.mp z).2
        simp at this
      have hDr2 : D ∉ rho2 := fun z => S2.dis D z hB
      have T3 : Step H W H2 ⟨rho2, B2.filter (fun a => decide (a ≠ D))⟩ :=
        ⟨T2.pre, fun a ha => T2.B a (hsub a ha), fun a ha => List.mem_filter.mpr ⟨T2.sub a ha, by simp; intro z; subst z; exact hDB ha⟩, T2.keep⟩
      rcases hfin acc st2 with hf | hf
      · rw [hf] at p3
        exact p3 _ H2 _ (T1.trans T3) (S2.unB hsub) (.lst hD2 hDr2 hDn (hacc.unB hsub))
      · rw [hf] at p3
        have S3 := S2.unB hsub
        have hacc3 := hacc.unB hsub
        have T4 : Step H W H2 ⟨rho2 ++ [D], B2.filter (fun a => decide (a ≠ D))⟩ := by
          refine ⟨?_, T3.B, T3.sub, fun a o ha hn => ⟨(T3.keep a o ha hn).1, fun z => ?_⟩⟩
          · obtain ⟨m, em⟩ := T2.pre
            exact ⟨m ++ [D], by show rho2 ++ [D] = _; rw [show rho2 = W.rho ++ m from em, List.append_assoc]⟩
          · rcases List.mem_append.mp z with z | z
            · exact (T3.keep a o ha hn).2 z
            · have : a = D := by simpa using z
              subst this
              rw [hD] at ha; cases ha
        refine p3 (.ref D) H2 _ (T1.trans T4) (Sim.cellB hB hsub hDn S2 ⟨accV, hD2, hacc.cellB hB hsub⟩) (.ref ?_)
        show (rho2 ++ [D])[st2.length]? = some D
        have hlen : rho2.length = st2.length := S2.len
        rw [← hlen]
        simp
    · rw [if_neg hg] at p2
      exact (show False from p2).elim
variable {elt tg : Expr} {ifs : List Expr} {scope : Scope} {own : List (Str × Nat)} {g : MG} {ts : MT} {me : ME} {is : List Nat} {x : Str} {i : Nat} {p pos : Pos} {vs : List Nat}
theorem dCompK (hv2 : own.map (·.2) = vs) (hc : X.calm = true) (hND : X.N.Nodup) (hN : X.N[i]? = some x) (hv : Vis X.env.scope x) (hd : (x == ("__debug__" : Str)) = false) (hcd : (x == ("__classdict__" : Str)) = false) (ok : BlkOk X.N X.env.scope scope own) (his : ∀ i ∈ is, i ∈ vs)
    (hg : ∀ (s : Shared) (H : Hp) (C : Addr) (cl : List (Str × Addr)) (fp : List Addr), PG (X.blk s H scope (compEnvC scope cl C X.env) fp) tg (tG X.K is g)) (ht : ∀ (s : Shared) (H : Hp) (C : Addr) (cl : List (Str × Addr)) (fp : List Addr), PTs (X.blk s H scope (compEnvC scope cl C X.env) fp) ifs (tTs X.K c WF ts))
    (he : ∀ (s : Shared) (H : Hp) (C : Addr) (cl : List (Str × Addr)) (fp : List Addr), PE (X.blk s H scope (compEnvC scope cl C X.env) fp) elt (tE X.K c WF me)) (hs : ∀ y, foldedSetIterable (.Name x p) X.env y = pure y) :
    PE X (.ListComp elt [⟨tg, .Name x p, ifs, 0⟩] scope pos) (tE X.K c Wx (mCompK vs i g ts me)) := by
  subst hv2
  have base := pe_lc (pos := pos) hc hND (pi_keys (tg := tg) (pe_var (pos := p) hN hv hd hcd)) ok hg ht he hs
  refine ⟨fun pins s σ H Q I h => ?_⟩
  obtain ⟨W, st, env, S, E, p1⟩ := h
  unfold mCompK at p1
  split at p1
  · rename_i ks ws hev
    split at p1
    · rename_i hkl
      obtain ⟨v, ev, r⟩ := E.get i _ hev
      have p2 : Post X.K WF σ H W ((compL c none ks g ts me (wipeE env (own.map (·.2))) ks st).bind fun ys st2 => .ok (.lst ys) st2) (Aft X.K H W Q) := by
        generalize (compL c none ks g ts me (wipeE env (own.map (·.2))) ks st).bind (fun ys st2 => R.ok (D.lst ys) st2) = r at p1
        cases r with
        | er x st => exact (show False from p1).elim
        | _ => exact p1
      have p3 : ∀ (H1 : Hp) (Q1 : VK), (∀ d st', Aft X.K H W Q d st' → Aft X.K H1 W Q1 d st') → Post X.K WF σ H1 W ((compL c none ks g ts me (wipeE env (own.map (·.2))) ks st).bind fun ys st2 => .ok (.lst ys) st2) (Aft X.K H1 W Q1) := fun H1 Q1 hq => by
        generalize e : (compL c none ks g ts me (wipeE env (own.map (·.2))) ks st).bind (fun ys st2 => R.ok (D.lst ys) st2) = r at p1 p2
        cases r with
        | er x st => exact (show False from p1).elim
        | no => exact p2
        | ok d st' => exact hq d st' p2
      have bl := bigLine
      cases r with
      | dct hrd n1 n2 rk rv =>
        rename_i a kvs
        rcases hrd with h0 | ⟨o, h0⟩
        · refine (pe_lock base).run pins s σ H Q I ⟨a, _, h0, trivial, fun od => ?_⟩
          have w := sw_lock (od := od) h0
          refine ⟨.ref a, ev, a, od, rfl, .inl ⟨kvs, upd_same, ?_⟩⟩
          exact comp_turns his (S.sw w n1) (E.sw w) (fun ys st2 => .inl rfl) (wk_keys (S.sw w n1) upd_same n1 (rk.sw w)) (by omega) (p3 _ (fun v H' => H' a = some (.frz od (.dK kvs)) ∧ Q v (upd H' a (.dK kvs))) fun d st' hq => fun v' H' W' T S' R' => let ⟨q1, q2, q3⟩ := unlock_step h0 n1 T; ⟨q1, hq v' _ W' q3 (S'.sw (sw_free q1) q2) (R'.sw (sw_free q1))⟩)
        · refine base.run pins s σ H Q I ⟨.ref a, ev, a, o, rfl, .inl ⟨kvs, h0, ?_⟩⟩
          exact comp_turns his S E (fun ys st2 => .inl rfl) (wk_keys S h0 n1 rk) (by omega) p2
    · exact (show False from p1).elim
  · exact (show False from p1).elim
end
def xUpdate : Meth := fun st o ds => match o, ds with
  | .ref n, [.dct ks2 vs2] => match st[n]? with
    | some (.dct ks vs) => if ks.length + ks2.length ≤ big then some (.non, st.set n (.dct (dPuts ks vs (ks2.zip vs2)).1 (dPuts ks vs (ks2.zip vs2)).2)) else none
    | _ => none
  | _, _ => none
def isDC (st : St) (d : D) : Bool := match d with
  | .ref n => match st[n]? with
    | some (.dct _ _) => true
    | _ => false
  | _ => false
def mDm (f : Meth) (o : ME) (ms : List ME) : ME := fun c env st => (o c env st).bind fun x st1 => if isDC st1 x = true then (mArgs ms c env st1).bind fun ds st2 => match f st2 x ds with
  | some (d, st3) => .ok d st3
  | none => .no
  else .no
theorem prd_zip {K : PySem.W.Frag} {H : Hp} {W : Wd} : ∀ {kvs : List (Key × V)} {ks vs : List D}, Reps K H W (kvs.map fun kv => kV kv.1) ks → Reps K H W (kvs.map (·.2)) vs → Prd K H W kvs (ks.zip vs)
  | [], _, _, .nil, .nil => .nil
  | (k, v) :: kvs, _, _, .cons h1 r1, .cons h2 r2 => .cons h1 h2 (prd_zip r1 r2)
section
variable {X : Cx}
theorem mt_updateL : MtR X "dict.update" (liftM X.K xUpdate) := fun pins s σ H x xs v us Q I rx rxs h => by
  obtain ⟨W, st, d, ds, d2, st2, S, r, rs, e, q⟩ := h
  have bl := bigLine
  unfold xUpdate at e
  split at e
  · rename_i n ks2 vs2
    split at e
    · rename_i ks vs hn
      split at e
      · rename_i hl
        cases e
        cases r with
        | ref hr =>
          rename_i a
          obtain ⟨kvs, hv, rk, rv⟩ := S.cell _ a _ hr hn
          cases rs with
          | cons q1 rr =>
            cases rr
            cases q1 with
            | dct hrd n1 n2 rk2 rv2 =>
              rename_i b more
              cases rx
              cases rxs with
              | cons ru rn =>
                cases rn
                cases ru
                have hab : a ≠ b := fun z => n1 (by rw [← z]; exact List.mem_of_getElem? hr)
                obtain ⟨z1, hd1, us1, rel1, dd1⟩ := dk_of I.hok hv
                obtain ⟨z2, hd2, us2, rel2, dd2⟩ := dk_rd I.hok hrd
                have l1 := rk.length
                have l2 := rk2.length
                rw [List.length_map] at l1 l2
                have l3 := rel1.length
                have l4 := rel2.length
                have lm := length_mergeK more kvs
                refine call_meetsIn PySem.F.slot_dict_update dd1.typeIs PySem.F.entry_dict_update (PySem.F.args_dict_update_2 _ _) (meets_dict_update (mixKind X.prog X.w) a b hab hd2) ⟨us1, us2, dd1, dd2, by omega, fun h' dd' _ hs => ?_⟩
                have he : ∃ o, h'.get? a = some o := let ⟨o, _, _, ho, _⟩ := dd'; ⟨o, ho⟩
                have J : Inv X pins σ (upd H a (.dK (mergeK kvs more))) { s with heap := h' } := d_write (t' := s.toks) I (by rw [hv]; exact True.intro) hs he (dk_new (by omega) hd1 (rel2.merge rel1) dd')
                have T := Step.write S (o := .dK (mergeK kvs more)) hr
                have pr := puts_rep (prd_zip rk2 rv2) rk rv
                exact ⟨.non, _, J, rfl, q .non _ W T (S.write hr ⟨_, upd_same, pr.1.step S T, pr.2.step S T⟩) .non⟩
      · cases e
    · cases e
  · cases e
theorem tyD {K : PySem.W.Frag} {H : Hp} {W : Wd} {st : St} {v : V} {d : D} (S : Sim K H W st) (r : Rep K H W v d) (h : isDC st d = true) : tyV K "dict" v H := by
  cases d with
  | ref n =>
    cases r with
    | ref hr =>
      have h' : (match st[n]? with | some (.dct _ _) => true | _ => false) = true := h
      split at h'
      · rename_i ks vs hn
        obtain ⟨kvs, hv, _⟩ := S.cell _ _ _ hr hn
        exact .inr (.inr (.inl ⟨rfl, .inl ⟨_, hv⟩⟩))
      · cases h'
  | _ => exact absurd h Bool.false_ne_true
variable {c : Call} {Wx : WX} {o e : Expr} {es : List Expr} {mo : ME} {ms : List ME} {name : Str} {apos cpos : Pos} {id : String} {f : Meth}
theorem dDm (slot : Slot "dict" name id) (hty : typeOf (.builtin id) = pure (.type "method_descriptor")) (hm : MtR X id (liftM X.K f)) (ho : PE X o (tE X.K c Wx mo)) (ha : PA X (e :: es) (tAs X.K c Wx (mArgs ms))) (hbase : attributeBase o name X.env (eval o X.env) = eval o X.env)
    (hfew : ((backTo cpos (starEach (e :: es) X.env)).all (fun x => !x.1) && (backToKw cpos (keywordEach [] X.env)).all (fun x => x.1.isSome)
      && decide ((e :: es).length + ([] : List Keyword).length + (if ([] : List Keyword).isEmpty then 0 else 1) < 30)) = true)
    (hline : (apos.endLine == cpos.line) = true) (hs : starEach (e :: es) X.env = (false, eval e X.env) :: starEach es X.env) (hplain : (backTo cpos (starEach es X.env)).any (·.1) = false) :
    PE X (.Call (.Attribute o name apos) (e :: es) [] cpos) (tE X.K c Wx (mDm f mo ms)) :=
  PE.weak (pe_bm F.plainAttrs_dict slot hty hm ho ha hbase hfew hline hs hplain) fun σ H Q h => by
    obtain ⟨W, st, env, S, E, p⟩ := h
    refine ⟨W, st, env, S, E, p.bind.mono fun dx st1 p1 x H1 W1 T1 S1 R1 => ?_⟩
    split at p1
    · rename_i hl
      refine ⟨tyD S1 R1 hl, W1, st1, env, S1, E.step S T1, (p1.bind.at T1).mono fun ds st2 p2 xs H2 W2 T2 S2 R2 => ?_⟩
      split at p2
      · rename_i d st3 he
        exact ⟨W2, st2, dx, ds, d, st3, S2, R1.step S1 T2, R2, he, fun v H' W' T S' R => p2 v H' W' ((T1.trans T2).trans T) S' R⟩
      · exact (show False from p2).elim
    · exact (show False from p1).elim
end
end RP
end
section
set_option Elab.async false
set_option linter.all false
set_option maxRecDepth 100000
set_option maxHeartbeats 1000000
namespace RP
open PySem PySem.Spec PyProof.Rows L2
def ownXc (K : PySem.W.Frag) (C : Addr) : Bool := match K.lookup C with
  | some ⟨.type "type", _, .cls k, slots⟩ => (match k.mro, slots.toList with
    | .ref me :: up, [_, _, _, _, some (.builtin nw), _] => decide (me = C) && (decide (nw = "ValueError.__new__") && (!k.hasDel && (k.hasDict && HandSPX.refsVE up)))
    | _, _ => false)
  | _ => false
theorem ownXc_ok {K : PySem.W.Frag} {C : Addr} (h : ownXc K C = true) : ∃ nm q N bs bm sn sub ab col dd k0 k1 k2 k3 k5, K.lookup C = some (excClassObj nm q C N bs bm true sn sub ab col dd k0 k1 k2 k3 k5 "ValueError.__new__") ∧ PySem.HandSPX.refsVE bm = true := by
  unfold ownXc at h
  split at h
  · rename_i dd k slots hC
    split at h
    · rename_i me up k0 k1 k2 k3 nw k5 hm hs
      obtain ⟨h1, h⟩ := He.ba h
      obtain ⟨h2, h⟩ := He.ba h
      obtain ⟨h3, h⟩ := He.ba h
      obtain ⟨h4, h5⟩ := He.ba h
      have h1 := of_decide_eq_true h1
      have h2 := of_decide_eq_true h2
      subst h1 h2
      obtain ⟨nm, bs, mro, ns, qn, hd, sn, sub, ab, col, del⟩ := k
      dsimp only at hm h3 h4
      subst hm h4
      have h3 : del = false := by simpa using h3
      subst h3
      have hsl : slots = #[k0, k1, k2, k3, some (.builtin "ValueError.__new__"), k5] := by
        obtain ⟨l⟩ := slots
        simp only at hs
        rw [hs]
      subst hsl
      exact ⟨nm, qn, ns, bs, up, sn, sub, ab, col, dd, k0, k1, k2, k3, k5, hC, h5⟩
    · cases h
  · cases h
def hasI (K : PySem.W.Frag) (D : Addr) : Bool := match PySem.W.findCls K (.ref D) (.type "type") "__init__" with
  | some (.val (.builtin i)) => decide (i = "ValueError.__init__")
  | _ => false
theorem hasI_ok {K : PySem.W.Frag} {D : Addr} (h : hasI K D = true) : PySem.W.findCls K (.ref D) (.type "type") "__init__" = some (.val (.builtin "ValueError.__init__")) := by
  unfold hasI at h
  split at h
  · rename_i i e
    have := of_decide_eq_true h
    subst this
    exact e
  · cases h
def xcB (K : PySem.W.Frag) (x y : Str) : Bool := ownXc K (He.ga K x) && (He.eqO (PySem.W.findIn K (.ref (He.ga K x)) "__setattr__") (some (some (.builtin "object.__setattr__"))) && (decide (PySem.W.subIn K (.ref (He.ga K x)) (.type "BaseException") = some true) &&
  (decide (PySem.W.typeIn K (.ref (He.ga K x)) = some (.type "type")) && (PySem.W.keepIn K (.ref (He.ga K x)) && (He.eqO (PySem.W.findIn K (.ref (He.ga K x)) "__init__") (some (some (.ref (He.ma K (He.ga K x) "__init__")))) &&
  (decide (PySem.W.typeIn K (.ref (He.ma K (He.ga K x) "__init__")) = some (.type "function")) && (He.eqO (PySem.W.specialIn K (.ref (He.ga K y)) "__getattribute__") (some (some (.builtin "type.__getattribute__"))) && (PySem.W.readsIn K (He.ga K y) (.type "type") && hasI K (He.ga K y)))))))))
structure XcK (K : PySem.W.Frag) (x y : Str) : Prop where
  oex : OexC K (He.ga K x)
  ini : PySem.W.findIn K (.ref (He.ga K x)) "__init__" = some (some (.ref (He.ma K (He.ga K x) "__init__")))
  ity : PySem.W.typeIn K (.ref (He.ma K (He.ga K x) "__init__")) = some (.type "function")
  get : PySem.W.specialIn K (.ref (He.ga K y)) "__getattribute__" = some (some (.builtin "type.__getattribute__"))
  rds : PySem.W.readsIn K (He.ga K y) (.type "type") = true
  bas : PySem.W.findCls K (.ref (He.ga K y)) (.type "type") "__init__" = some (.val (.builtin "ValueError.__init__"))
theorem xcK_of {K : PySem.W.Frag} {x y : Str} (h : xcB K x y = true) : XcK K x y := by
  obtain ⟨h1, h⟩ := He.ba h
  obtain ⟨h2, h⟩ := He.ba h
  obtain ⟨h3, h⟩ := He.ba h
  obtain ⟨h4, h⟩ := He.ba h
  obtain ⟨h5, h⟩ := He.ba h
  obtain ⟨h6, h⟩ := He.ba h
  obtain ⟨h7, h⟩ := He.ba h
  obtain ⟨h8, h⟩ := He.ba h
  obtain ⟨h9, h10⟩ := He.ba h
  exact ⟨⟨ownXc_ok h1, He.eqO_ok h2, of_decide_eq_true h3, of_decide_eq_true h4, h5⟩, He.eqO_ok h6, of_decide_eq_true h7, He.eqO_ok h8, h9, hasI_ok h10⟩
def xF (x y : Str) (q : Str) (st : Stmt) : Fc := fun _ K mg => mg x = some (.ref (He.ga K x)) ∧ mg y = some (.ref (He.ga K y)) ∧ XcK K x y ∧ ∃ fd, FunD K "__init__" q (defArgs st) (defBody st) (defScope st) [] [] (He.ma K (He.ga K x) "__init__") fd ∧ Binds K fd ["self"] []
def eF (x y : Str) (b : Bool) : Fc := fun _ K _ => PySem.W.exmOne K (.ref (He.ga K x)) (.ref (He.ga K y)) = some b
def gF (x : Str) : Fc := fun _ K mg => mg x = some (.ref (He.ga K x))
def inCls (s : Stmt) (i : Nat) : Stmt := match s with
  | .ClassDef _ _ _ b _ _ _ _ _ _ _ => b.getD i (.Pass ⟨0, 0, 0, 0⟩)
  | _ => .Pass ⟨0, 0, 0, 0⟩
def IniOk (x y q : Str) (st : Stmt) : Prop := ∀ (P : Program) (w : World) (K : PySem.W.Frag) (mg : Str → Option Value) (base : Heap), xF x y q st w K mg → ∃ fd, Binds K fd ["self"] [] ∧ FnG P w K mg base 1 (He.ma K (He.ga K x) "__init__") fd ["self"] (spIni K)
theorem ini_len {K : PySem.W.Frag} : ∀ vs H Q E, spIni K vs H Q E → vs.length = ["self"].length := fun vs H Q E h => by obtain ⟨b, C, rfl, _⟩ := h; rfl
theorem takesN {X : Cx} : L2N.Takes X (fun _ _ _ _ => False) := fun _ _ x => by
  obtain ⟨_, _, _, _, _, _, _, _, _, _, _, _, _, _, _, _, z⟩ := x
  exact z.elim
def sRaise (x : Str) : MS := fun _ env st => .er ⟨x, []⟩ env st
noncomputable def sTry (tks : List (Str × Bool)) (a b : MS) : MS := fun c env st => match a c env st with
  | .er x env1 st1 => (match tks.lookup x.cls with
    | some true => (b c env1 st1).calm
    | some false => .er x env1 st1
    | none => .no)
  | r => r
section
variable {X : Cx} {c : Call} {Wx : WX}
theorem sRaiseD {x y q : Str} {st : Stmt} {n : Nat} {p pos pos' : Pos} (hi : IniOk x y q st) (hx : xF x y q st X.w X.K X.mg) (h2 : 2 ≤ n) (hr : RoomG n X.A) (hgd : X.A.guards = some []) (hc : X.calm = true) (tk : L2N.Takes X Wx) (hg : Gl X x) (hdb : (x == ("__debug__" : Str)) = false) :
    PS X (.Raise (some (.Call (.Name x p) [] [] pos)) none pos') (tSs X.K c Wx (sRaise x)) := by
  obtain ⟨fd, hb, F⟩ := hi X.prog X.w X.K X.mg X.base hx
  obtain ⟨hmx, hmy, k, _⟩ := hx
  refine PS.weak (L2N.ps_raise (pos := pos') hc tk (mk_none (p := p) (pos := pos) k.oex k.ini k.ity F { hd := hr.hd, dp := by have := hr.dp; omega, un := by have := hr.un; omega, un3 := by have := hr.un3; omega } hgd hb hg hmx hdb)) fun Dn σ H h => ?_
  obtain ⟨W, st, env, S, E, p⟩ := h
  exact p σ H W _ none (Step.refl _ _) S E ⟨rfl, .inl ⟨rfl, rfl⟩⟩
theorem sTryD {y : Str} {tks : List (Str × Bool)} {ma mb : MS} {body suite : List Stmt} {b0 : Stmt} {np pos pos' : Pos} (hs : X.stack = X.env :: X.outer) (hf : X.env.frame = some X.env.locals) (hg : Gl X y) (hdb : (y == ("__debug__" : Str)) = false) (hm : gF y X.w X.K X.mg) (tk : L2N.Takes X Wx)
    (htk : All (fun p => eF p.1 y p.2 X.w X.K X.mg) tks)
    (hb : ∀ (W : WX) (pn : List (Addr × Obj)) (xe : Value → Shared → Prop), L2N.Takes (X.tr pn xe) W → PassesOwn (model X.prog X.w) X.A X.env xe → PSs (X.tr pn xe) body (tSs X.K c W ma))
    (hsu : ∀ (a : Addr) (oe : Obj) (pn : List (Addr × Obj)), PSs (X.suite a ((a, oe) :: pn)) (b0 :: suite) (tSs X.K c WF mb)) :
    PS X (.Try body [.ExceptHandler (some (.Name y np)) none (b0 :: suite) pos'] [] [] pos) (tSs X.K c Wx (sTry tks ma mb)) := by
  have htk' : ∀ (x : Str) (b : Bool), tks.lookup x = some b → PySem.W.exmOne X.K (.ref (He.ga X.K x)) (.ref (He.ga X.K y)) = some b := by
    clear hb hsu
    induction tks with
    | nil => intro x b h; cases h
    | cons p l ih =>
      intro x b h
      obtain ⟨px, pb⟩ := p
      by_cases e : x = px
      · subst e
        simp [List.lookup] at h
        subst h
        exact htk.1
      · have e' : (x == px) = false := by simpa using e
        simp [List.lookup, e'] at h
        exact ih htk.2 x b h
  refine PS.weak (L2N.ps_try_many (X := X) (pos := pos) (tb := fun W => tSs X.K c W ma) hs hf tk hb (.cons (pos' := pos') (np := np) (c := .ref (He.ga X.K y)) (ts := fun _ _ _ => tSs X.K c WF mb) ⟨hg, hdb, .inl hm⟩ (fun a oe cls d pn _ _ => hsu a oe pn) .nil)) fun Dn σ H h => ?_
  obtain ⟨W, st, env, S, E, p⟩ := h
  refine ⟨W, st, env, S, E, ?_⟩
  unfold sTry at p
  generalize ma c env st = r at p ⊢
  cases r with
  | nx env' st' => exact p
  | rt d st' => exact p
  | bk env' st' => exact p
  | ct env' st' => exact p
  | no => exact p
  | er x env1 st1 =>
    intro σ' H' W' cls dd T S' E' xr
    have xr' := xr
    obtain ⟨rfl, _⟩ := xr'
    dsimp only at p
    split at p
    · rename_i hl
      refine ⟨true, htk' _ _ hl, fun _ a ha => ⟨W', st1, env1, S', E', ?_⟩, fun z => by cases z⟩
      have p' := p.at T
      generalize mb c env1 st1 = r2 at p' ⊢
      cases r2 with
      | er x2 env2 st2 => exact (show False from p').elim
      | _ => exact p'
    · rename_i hl
      exact ⟨false, htk' _ _ hl, (fun z => by cases z), fun _ => p σ' H' W' _ dd T S' E' xr⟩
    · exact (show False from p).elim
end
def frS (n : Nat) (g : Addr → Option Obj) : PySem.W.Frag := He.frT g (cStatics :: He.asD g n)
structure SaysS (fa : List He.Fa) (fn : List He.DefD) (ts : List He.Tab) (ex : PySem.W.Frag → Bool) (w : World) (K : PySem.W.Frag) : Prop where
  t : He.SaysT fa fn ts w K
  more : ex K = true
def seenS (n : Nat) (fa : List He.Fa) (fn : List He.DefD) (ts : List He.Tab) (ex : PySem.W.Frag → Bool) (g : Addr → Option Obj) : He.AlT × Bool := (He.obsT fa fn ts (frS n g), ex (frS n g))
def hookS (n : Nat) (fa : List He.Fa) (fn : List He.DefD) (ts : List He.Tab) (ex : PySem.W.Frag → Bool) : PySem.W.Hook :=
  { α := He.AlT × Bool, obs := fun s => seenS n fa fn ts ex s.heap.get?, val := fun w => (He.valT fn ts w, true), says := fun w h => ∃ K, K.In h ∧ SaysS fa fn ts ex w K,
    of := fun w s e => ⟨frS n s.heap.get?, He.frT_in, ⟨congrArg Prod.fst e, congrArg Prod.snd e⟩⟩, keeps := fun w h h' ⟨K, hK, c⟩ k => ⟨K, PySem.W.Frag.In.keeps hK k, c⟩ }
theorem seenS_eq {n : Nat} {fa : List He.Fa} {fn : List He.DefD} {ts : List He.Tab} {ex : PySem.W.Frag → Bool} {g : Addr → Option Obj} {s : Shared} (h : ∀ a, g a = s.heap.get? a) : seenS n fa fn ts ex g = (hookS n fa fn ts ex).obs s := by
  rw [show g = s.heap.get? from funext h]
  rfl
end RP
end
section
set_option Elab.async false
set_option linter.all false
set_option maxRecDepth 100000
set_option maxHeartbeats 1000000
namespace RP
open PySem PySem.Spec PyProof.Rows L2
def fldD (x f : Str) (st : St) (d : D) : Option D := match d with
  | .ref n => match st[n]? with
    | some (.ins c fs) => if c = x then fs.lookup f else none
    | _ => none
  | _ => none
def putFd (f : Str) (v : D) : List (Str × D) → List (Str × D)
  | [] => [(f, v)]
  | (g, x) :: r => if g = f then (g, v) :: r else (g, x) :: putFd f v r
def setFld (x f : Str) (st : St) (o d : D) : Option St := match o with
  | .ref n => match st[n]? with
    | some (.ins c fs) => if c = x ∧ fs.length < 1000 then some (st.set n (.ins c (putFd f d fs))) else none
    | _ => none
  | _ => none
def sFldM (x f : Str) (o e : ME) : MS := fun c env st => RS.ofR (e c env st) env fun d st1 => RS.ofR (o c env st1) env fun y st2 => match setFld x f st2 y d with
  | some st3 => .nx env st3
  | none => .no
def clF (x : Str) : Fc := fun _ K _ => Cls K (He.ga K x)
def naF (x f : Str) : Fc := fun _ K _ => NoAttr K (He.ga K x) f
def mkF (x : Str) : Fc := fun _ K mg => mg x = some (.ref (He.ga K x)) ∧ Mk K (He.ga K x) (He.ma K (He.ga K x) "__init__")
section
variable {K : PySem.W.Frag} {H : Hp} {W : Wd}
theorem lookup_rep {f : Str} : ∀ {fs' : List (Str × V)} {fs : List (Str × D)} {d : D}, fs'.map (·.1) = fs.map (·.1) → Reps K H W (fs'.map (·.2)) (fs.map (·.2)) → fs.lookup f = some d → ∃ v, fs'.lookup f = some v ∧ Rep K H W v d
  | [], [], d, _, _, h => by cases h
  | [], _ :: _, d, e, _, h => by cases e
  | _ :: _, [], d, e, _, h => by cases e
  | (g, v) :: fs', (g2, d2) :: fs, d, e, .cons r rs, h => by
    rw [List.map_cons, List.map_cons] at e
    obtain ⟨e1, e2⟩ := List.cons.inj e
    have e1 : g = g2 := e1
    subst e1
    by_cases hb : (f == g) = true
    · simp only [List.lookup, hb] at h ⊢
      cases h
      exact ⟨v, rfl, r⟩
    · have hb : (f == g) = false := by simpa using hb
      simp only [List.lookup, hb] at h ⊢
      exact lookup_rep e2 rs h
theorem lookup_non {f : Str} : ∀ {fs' : List (Str × V)} {fs : List (Str × D)}, fs'.map (·.1) = fs.map (·.1) → fs.lookup f = none → fs'.lookup f = none
  | [], [], _, h => rfl
  | [], _ :: _, e, h => by cases e
  | _ :: _, [], e, h => by cases e
  | (g, v) :: fs', (g2, d2) :: fs, e, h => by
    rw [List.map_cons, List.map_cons] at e
    obtain ⟨e1, e2⟩ := List.cons.inj e
    have e1 : g = g2 := e1
    subst e1
    by_cases hb : (f == g) = true
    · simp only [List.lookup, hb] at h
      cases h
    · have hb : (f == g) = false := by simpa using hb
      simp only [List.lookup, hb] at h ⊢
      exact lookup_non e2 h
theorem putF_rep {f : Str} {v : V} {d : D} (rv : Rep K H W v d) : ∀ {fs' : List (Str × V)} {fs : List (Str × D)}, fs'.map (·.1) = fs.map (·.1) → Reps K H W (fs'.map (·.2)) (fs.map (·.2)) →
    (putF f v fs').map (·.1) = (putFd f d fs).map (·.1) ∧ Reps K H W ((putF f v fs').map (·.2)) ((putFd f d fs).map (·.2))
  | [], [], _, _ => ⟨rfl, .cons rv .nil⟩
  | [], _ :: _, e, _ => by cases e
  | _ :: _, [], e, _ => by cases e
  | (g, u) :: fs', (g2, d2) :: fs, e, .cons r rs => by
    rw [List.map_cons, List.map_cons] at e
    obtain ⟨e1, e2⟩ := List.cons.inj e
    have e1 : g = g2 := e1
    subst e1
    unfold putF putFd
    by_cases hb : g = f
    · rw [if_pos hb, if_pos hb]
      exact ⟨by rw [List.map_cons, List.map_cons, e2], .cons rv rs⟩
    · rw [if_neg hb, if_neg hb]
      obtain ⟨a, b⟩ := putF_rep (f := f) rv e2 rs
      exact ⟨by rw [List.map_cons, List.map_cons, a], .cons r b⟩
end
section
variable {X : Cx} {c : Call} {Wx : WX} {o e : Expr} {mo me : ME} {pos pos' : Pos}
theorem dFld {x f : Str} (hc : clF x X.w X.K X.mg) (hn : naF x f X.w X.K X.mg) (he : PE X e (tE X.K c Wx me)) (hb : attributeBase e f X.env (eval e X.env) = eval e X.env) : PE X (.Attribute e f pos) (tE X.K c Wx (mOp1 (fldD x f) me)) :=
  PE.weak (pe_fld he hb) fun σ H Q h => by
    obtain ⟨W, st, env, S, E, p⟩ := h
    refine ⟨W, st, env, S, E, p.bind.mono fun d st1 p1 v H1 W1 T1 S1 R1 => ?_⟩
    obtain ⟨d2, e2, p2⟩ := p1.of
    unfold fldD at e2
    split at e2
    · rename_i n
      split at e2
      · rename_i c2 fs hs
        split at e2
        · rename_i hx
          subst hx
          cases R1 with
          | ref hr =>
            obtain ⟨dx, fs', hH, hk, rs⟩ := S1.cell _ _ _ hr hs
            obtain ⟨u, l, r⟩ := lookup_rep hk rs e2
            exact ⟨_, _, dx, fs', u, rfl, hH, hc, hn, l, p2 u H1 W1 T1 S1 r⟩
        · cases e2
      · cases e2
    · cases e2
theorem putF_len {fs' : List (Str × V)} {fs : List (Str × D)} (e : fs'.map (·.1) = fs.map (·.1)) : fs'.length = fs.length := by
  have := congrArg List.length e
  simpa using this
theorem sFldD {x f : Str} (hc : clF x X.w X.K X.mg) (hn : naF x f X.w X.K X.mg) (he : PE X e (tE X.K c Wx me)) (ho : PE X o (tE X.K c Wx mo)) (hs : swapsWith e (some (.Attribute o f pos')) pos.line X.env = pure false) :
    PS X (.Assign [.Attribute o f pos'] e pos) (tSs X.K c Wx (sFldM x f mo me)) := PS.weak (ps_fld ho he hs) fun Dn σ H h => by
  obtain ⟨W, st, env, S, E, p⟩ := h
  refine ⟨W, st, env, S, E, (p.ofR S E).mono fun d st1 p1 v H1 W1 T1 S1 R1 => ?_⟩
  refine ⟨W1, st1, env, S1, E.step S T1, ((p1.at T1).ofR S1 (E.step S T1)).mono fun y st2 p2 u H2 W2 T2 S2 R2 => ?_⟩
  split at p2
  · rename_i st3 e3
    unfold setFld at e3
    split at e3
    · rename_i n
      split at e3
      · rename_i c2 fs hst
        split at e3
        · rename_i hx
          obtain ⟨hx, hl⟩ := hx
          subst hx
          cases e3
          cases R2 with
          | ref hr =>
            obtain ⟨dx, fs', hH, hk, rs⟩ := S2.cell _ _ _ hr hst
            have T := Step.write S2 (o := .ins (He.ga X.K c2) dx (putF f v fs')) hr
            have rv := (R1.step S1 T2).step S2 T
            obtain ⟨k1, k2⟩ := putF_rep (f := f) rv hk (rs.step S2 T)
            refine ⟨_, _, dx, fs', rfl, hH, hc, hn, by rw [putF_len hk]; exact hl, ?_⟩
            exact p2 σ _ W2 (T2.trans T) (S2.write hr ⟨dx, _, upd_same, k1, k2⟩) (((E.step S T1).step S1 T2).step S2 T)
        · cases e3
      · cases e3
    · cases e3
  · exact (show False from p2).elim
end
def tMakeS (C : Addr) (sp : Sp) (E : L2.St → XK) (t : TA) : TE := fun σ H Q => t σ H fun vs H1 => ∀ x dx, H1 x = none → H1 dx = none → dx ≠ x →
  sp (.ref x :: vs) (upd (upd H1 dx (.own x)) x (.ins C dx [])) (fun v H2 => v = .non ∧ Q (.ref x) H2) (E σ)
def tMethS (C : Addr) (m : Str) (sp : Sp) (E : L2.St → XK) (ta : TE) (t : TA) : TE := fun σ H Q => ta σ H fun x H1 => ∃ a dx fs, x = .ref a ∧ H1 a = some (.ins C dx fs) ∧ fs.lookup m = none ∧ t σ H1 fun vs H2 => sp (x :: vs) H2 Q (E σ)
section
variable {X : Cx} {k : Nat} {f C : Addr} {fd : FuncData} {ps : List Str} {sp : Sp} {E : L2.St → XK} {x m : Str} {p pos apos : Pos} {e o : Expr} {es : List Expr} {ta : TE} {t : TA}
theorem run_fnG {pins : List (Addr × Obj)} {σ : L2.St} {H : Hp} {s : Shared} {Q : VK} {us : List Value} {vs : List V} (F : FnG X.prog X.w X.K X.mg X.base k f fd ps sp) (hr : RoomG k X.A) (hgd : X.A.guards = some []) (hb : Binds X.K fd ps []) (hx : PassesAt (L2N.CX X.prog X.w) X σ (E σ))
    (J : Inv X pins σ H s) (r : Vals vs us) (q : sp vs H Q (E σ)) : wpAny (model X.prog X.w) X.A (call (.ref f) us) (EP X pins σ Q) X.xe s := by
  have hl : us.length = ps.length := by rw [← r.length]; exact F.len _ _ _ _ q
  have bd := hb s us J.kIn (by rw [List.append_nil]; exact hl)
  rw [List.append_nil] at bd
  refine wpAny_call (codeAny_mono (F.run X.A X.stack s H ⟨us, []⟩ us vs Q (E σ) hr hgd J.env0 bd r q) fun z s2 hz => ?_)
  rcases z with er | fl
  · exact hx pins H s er s2 J hz
  · cases fl with
    | ret u => exact J.after hz
    | _ => exact False.elim hz
theorem pe_methG {pl : Sem Bool} (he : PE X o ta) (hc : Cls X.K C) (hm : L2.Meth X.K C m f) (F : FnG X.prog X.w X.K X.mg X.base k f fd ps sp) (hr : RoomG k X.A) (hgd : X.A.guards = some []) (hb : Binds X.K fd ps []) (hx : ∀ σ, PassesAt (L2N.CX X.prog X.w) X σ (E σ)) (ha : PA X (e :: es) t)
    (hst : starEach (e :: es) X.env = (false, eval e X.env) :: starEach es X.env) (hpl : (backTo pos (starEach es X.env)).any (·.1) = false)
    (ht : eval (.Call (.Attribute o m apos) (e :: es) [] pos) X.env = (eval o X.env >>= fun ov => standAt apos.atName >>= fun _ => holding [ov] (getMethod ov m pl) >>= fun fp =>
      callWith pos fp.1 fp.2 (backTo pos (starEach (e :: es) X.env)) (backToKw pos (keywordEach [] X.env)))) :
    PE X (.Call (.Attribute o m apos) (e :: es) [] pos) (tMethS C m sp E ta t) := ⟨fun pins s σ H Q I h => by
  refine PySem.W.methodCall_KW (pl := pl) (thn (he.run pins s σ H _ I h) fun u s1 hu => ?_) ht
  obtain ⟨y, H1, J, ry, a, dx, fs, rfl, ea, l, q⟩ := hu
  cases ry
  refine getmeth_ok J ea hc hm l (PySem.W.callWith_K (first := [.ref a]) (h₀ := X.base) I.ok.mod.kin hm.kp (thn (ha.run pos pins s1 σ H1 _ J q) fun us s2 hs => ?_) hst hpl)
  obtain ⟨vs, H2, J2, r, q2⟩ := hs
  exact ⟨J2.kIn, run_fnG (us := .ref a :: us) (vs := .ref a :: vs) F hr hgd hb (hx σ) J2 (.cons rfl r) q2⟩⟩
theorem pe_methG0 {pl : Sem Bool} (he : PE X o ta) (hc : Cls X.K C) (hm : L2.Meth X.K C m f) (F : FnG X.prog X.w X.K X.mg X.base k f fd ps sp) (hr : RoomG k X.A) (hgd : X.A.guards = some []) (hb : Binds X.K fd ps []) (hx : ∀ σ, PassesAt (L2N.CX X.prog X.w) X σ (E σ))
    (ht : eval (.Call (.Attribute o m apos) [] [] pos) X.env = (eval o X.env >>= fun ov => standAt apos.atName >>= fun _ => holding [ov] (getMethod ov m pl) >>= fun fp =>
      callWith pos fp.1 fp.2 (backTo pos (starEach [] X.env)) (backToKw pos (keywordEach [] X.env)))) :
    PE X (.Call (.Attribute o m apos) [] [] pos) (tMethS C m sp E ta tNil) := ⟨fun pins s σ H Q I h => by
  refine PySem.W.methodCall_KW (pl := pl) (thn (he.run pins s σ H _ I h) fun u s1 hu => ?_) ht
  obtain ⟨y, H1, J, ry, a, dx, fs, rfl, ea, l, q⟩ := hu
  cases ry
  exact getmeth_ok J ea hc hm l (PySem.W.callWith_K0 (first := [.ref a]) J.kIn hm.kp (run_fnG (us := [.ref a]) (vs := [.ref a]) F hr hgd hb (hx σ) J (.cons rfl .nil) q))⟩
theorem RoomB.make {A : Around} (r : RoomB k A) (C : Addr) (us : List Value) : RoomG k (A.under (.builtin "type.__call__" ⟨.ref C :: us, []⟩)) :=
  { hd := r.hd, dp := by rw [make_depth]; have := r.dp2; omega, un := by rw [make_units]; have := r.un2; omega, un3 := by rw [make_units]; have := r.un4; omega }
theorem pe_makeG (M : Mk X.K C f) (F : FnG X.prog X.w X.K X.mg X.base k f fd ps sp) (hr : RoomB k X.A) (hgd : X.A.guards = some []) (hg : Gl X x) (hm : X.mg x = some (.ref C)) (hb : Binds X.K fd ps []) (hx : ∀ σ, PassesAt (L2N.CX X.prog X.w) X σ (E σ)) (ha : PA X (e :: es) t)
    (hdb : (x == ("__debug__" : Str)) = false) (he : starEach (e :: es) X.env = (false, eval e X.env) :: starEach es X.env) (hpl : (backTo pos (starEach es X.env)).any (·.1) = false) :
    PE X (.Call (.Name x p) (e :: es) [] pos) (tMakeS C sp E t) := ⟨fun pins s σ H Q I h => by
  refine PySem.wpAny_Call_Name_kw (ld_glob I hg hm (PySem.W.callWith_K (h₀ := X.base) I.ok.mod.kin M.kp (thn (ha.run pos pins s σ H _ I h) fun us s1 hs => ?_) he hpl) hdb)
  obtain ⟨vs, H1, J, r, q⟩ := hs
  refine ⟨J.kIn, ?_⟩
  have q0 := q (s1.heap.objs.size + 1) s1.heap.objs.size (J.hok.fresh (Nat.le_succ _)) (J.hok.fresh (Nat.le_refl _)) (Nat.ne_of_lt (Nat.lt_succ_self _))
  have J2 := Inv.made (C := C) J
  have r2 : Vals (V.ref (s1.heap.objs.size + 1) :: vs) (Value.ref (s1.heap.objs.size + 1) :: us) := .cons rfl r
  have hl : (Value.ref (s1.heap.objs.size + 1) :: us).length = ps.length := by rw [← r2.length]; exact F.len _ _ _ _ q0
  have bd := hb _ (Value.ref (s1.heap.objs.size + 1) :: us) J2.kIn (by rw [List.append_nil]; exact hl)
  rw [List.append_nil] at bd
  refine wpAny_call (make_map (f := f) J.kIn M.makes M.init (beq_iff_eq.mp M.fn) (codeAny_mono (F.run _ X.stack _ _ ⟨Value.ref (s1.heap.objs.size + 1) :: us, []⟩ _ _ _ (E σ) (hr.make C us) hgd (J2.env0.make C us []) bd r2 q0) fun z s2 hz => ?_))
  rcases z with er | fl
  · exact hx σ pins _ _ er s2 J2 hz
  · cases fl with
    | ret u =>
      obtain ⟨v, H', J3, rv, ev, q3⟩ := J2.after hz
      subst ev
      exact ⟨rv, V.ref (s1.heap.objs.size + 1), H', J3, rfl, q3⟩
    | _ => exact False.elim hz⟩
end
def mMake (x f : Str) (ms : List ME) : ME := fun c env st => (mArgs ms c env st).bind fun ds st1 => (c f (.ref st1.length :: ds) (st1 ++ [.ins x []])).bind fun d st2 => if isNon d = true then .ok (.ref st1.length) st2 else .no
def isIns (x m : Str) (st : St) (d : D) : Bool := match d with
  | .ref n => match st[n]? with
    | some (.ins c fs) => decide (c = x) && (fs.lookup m).isNone
    | _ => false
  | _ => false
def mMethM (x m f : Str) (o : ME) (ms : List ME) : ME := fun c env st => (o c env st).bind fun d st1 => if isIns x m st1 d = true then (mArgs ms c env st1).bind fun ds st2 => c f (d :: ds) st2 else .no
noncomputable def mMeth1 (x m f : Str) (o : ME) (ms : List ME) : ME := fun c env st => (o c env st).bind fun d st1 => if isIns x m st1 d = true then (mArgs ms c env st1).bind fun ds st2 => ice st2 (c f (d :: ds) st2) else .no
section
variable {X : Cx} {c : Call} {Wx : WX} {o e : Expr} {mo : ME} {pos apos p : Pos} {es : List Expr} {ms : List ME} {x m f : Str} {k np : Nat}
theorem ins_at {K : PySem.W.Frag} {H : Hp} {W : Wd} {st : St} {v : V} {d : D} (S : Sim K H W st) (R : Rep K H W v d) (h : isIns x m st d = true) : ∃ a dx fs', v = .ref a ∧ H a = some (.ins (He.ga K x) dx fs') ∧ fs'.lookup m = none := by
  unfold isIns at h
  split at h
  · split at h
    · rename_i c2 fs hst
      obtain ⟨h1, h2⟩ := He.ba h
      have h1 := of_decide_eq_true h1
      subst h1
      cases R with
      | ref hr =>
        obtain ⟨dx, fs', hH, hk, rs⟩ := S.cell _ _ _ hr hst
        exact ⟨_, dx, fs', rfl, hH, lookup_non hk (by simpa using h2)⟩
    · cases h
  · cases h
theorem meth_weak {C : Addr} {own : Option (Str × Str)} {σ : L2.St} {H : Hp} {Q : VK} (h : tE X.K c Wx (mMethM x m f mo ms) σ H Q) (hl : ms.length + 1 = np) (hC : C = He.ga X.K x) : tMethS C m (spF X.K c f np) (WE Wx) (tE X.K c Wx mo) (tAs X.K c Wx (mArgs ms)) σ H Q := by
  subst hC
  obtain ⟨W, st, env, S, E, p⟩ := h
  refine ⟨W, st, env, S, E, p.bind.mono fun d st1 p1 v H1 W1 T1 S1 R1 => ?_⟩
  split at p1
  · rename_i hi
    obtain ⟨a, dx, fs', ev, hH, hk⟩ := ins_at S1 R1 hi
    refine ⟨a, dx, fs', ev, hH, hk, W1, st1, env, S1, E.step S T1, (args_post (p1.at T1)).mono fun ds st2 p2 vs H2 W2 T2 S2 R2 => ?_⟩
    refine ⟨W2, st2, d :: ds, S2, .cons (R1.step S1 T2) R2, by rw [List.length_cons, p2.1]; exact hl, ?_⟩
    have p3 := p2.2
    generalize c f (d :: ds) st2 = r at p3 ⊢
    cases r with
    | no => exact p3
    | er x st => exact fun H' W' cls dd T S' x' => p3 H' W' cls dd (T2.trans T) S' x'
    | ok d st' => exact fun v H' W' T S' R => p3 v H' W' (T1.trans (T2.trans T)) S' R
  · exact (show False from p1).elim
theorem meth_weak1 {C : Addr} {σ : L2.St} {H : Hp} {Q : VK} (h : tE X.K c Wx (mMeth1 x m f mo ms) σ H Q) (hl : ms.length + 1 = np) (hC : C = He.ga X.K x) : tMethS C m (spF X.K c f np) (WE Wx) (tE X.K c Wx mo) (tAs X.K c Wx (mArgs ms)) σ H Q := by
  subst hC
  obtain ⟨W, st, env, S, E, p⟩ := h
  refine ⟨W, st, env, S, E, p.bind.mono fun d st1 p1 v H1 W1 T1 S1 R1 => ?_⟩
  split at p1
  · rename_i hi
    obtain ⟨a, dx, fs', ev, hH, hk⟩ := ins_at S1 R1 hi
    refine ⟨a, dx, fs', ev, hH, hk, W1, st1, env, S1, E.step S T1, (args_post (p1.at T1)).mono fun ds st2 p2 vs H2 W2 T2 S2 R2 => ?_⟩
    refine ⟨W2, st2, d :: ds, S2, .cons (R1.step S1 T2) R2, by rw [List.length_cons, p2.1]; exact hl, ?_⟩
    exact ice_ok S2 (fun cls dd H' h => h) T2 (fun _ _ h v H' W' T S' R => h v H' W' (T1.trans T) S' R) p2.2
  · exact (show False from p1).elim
theorem dMethM {pl : Sem Bool} (hc : clF x X.w X.K X.mg) (F : FnAt X.prog X.w X.K X.mg X.base c k (some (x, m)) f np) (hr : RoomG k X.A) (hgd : X.A.guards = some []) (tk : L2N.Takes X Wx) (ho : PE X o (tE X.K c Wx mo)) (ha : PA X (e :: es) (tAs X.K c Wx (mArgs ms))) (hl : ms.length + 1 = np)
    (hst : starEach (e :: es) X.env = (false, eval e X.env) :: starEach es X.env) (hpl : (backTo pos (starEach es X.env)).any (·.1) = false)
    (ht : eval (.Call (.Attribute o m apos) (e :: es) [] pos) X.env = (eval o X.env >>= fun ov => standAt apos.atName >>= fun _ => holding [ov] (getMethod ov m pl) >>= fun fp =>
      callWith pos fp.1 fp.2 (backTo pos (starEach (e :: es) X.env)) (backToKw pos (keywordEach [] X.env)))) :
    PE X (.Call (.Attribute o m apos) (e :: es) [] pos) (tE X.K c Wx (mMethM x m f mo ms)) := by
  obtain ⟨ad, fd, ps, hm, hb, F⟩ := F.ex
  exact PE.weak (pe_methG (E := WE Wx) ho hc hm F hr hgd hb (fun σ => L2N.passAt tk σ) ha hst hpl ht) fun σ H Q h => meth_weak (own := none) h hl rfl
theorem dMeth1 {pl : Sem Bool} (hc : clF x X.w X.K X.mg) (F : FnAt X.prog X.w X.K X.mg X.base c k (some (x, m)) f np) (hr : RoomG k X.A) (hgd : X.A.guards = some []) (tk : L2N.Takes X Wx) (ho : PE X o (tE X.K c Wx mo)) (ha : PA X (e :: es) (tAs X.K c Wx (mArgs ms))) (hl : ms.length + 1 = np)
    (hst : starEach (e :: es) X.env = (false, eval e X.env) :: starEach es X.env) (hpl : (backTo pos (starEach es X.env)).any (·.1) = false)
    (ht : eval (.Call (.Attribute o m apos) (e :: es) [] pos) X.env = (eval o X.env >>= fun ov => standAt apos.atName >>= fun _ => holding [ov] (getMethod ov m pl) >>= fun fp =>
      callWith pos fp.1 fp.2 (backTo pos (starEach (e :: es) X.env)) (backToKw pos (keywordEach [] X.env)))) :
    PE X (.Call (.Attribute o m apos) (e :: es) [] pos) (tE X.K c Wx (mMeth1 x m f mo ms)) := by
  obtain ⟨ad, fd, ps, hm, hb, F⟩ := F.ex
  exact PE.weak (pe_methG (E := WE Wx) ho hc hm F hr hgd hb (fun σ => L2N.passAt tk σ) ha hst hpl ht) fun σ H Q h => meth_weak1 h hl rfl
theorem dMethM0 {pl : Sem Bool} (hc : clF x X.w X.K X.mg) (F : FnAt X.prog X.w X.K X.mg X.base c k (some (x, m)) f 1) (hr : RoomG k X.A) (hgd : X.A.guards = some []) (tk : L2N.Takes X Wx) (ho : PE X o (tE X.K c Wx mo))
    (ht : eval (.Call (.Attribute o m apos) [] [] pos) X.env = (eval o X.env >>= fun ov => standAt apos.atName >>= fun _ => holding [ov] (getMethod ov m pl) >>= fun fp =>
      callWith pos fp.1 fp.2 (backTo pos (starEach [] X.env)) (backToKw pos (keywordEach [] X.env)))) :
    PE X (.Call (.Attribute o m apos) [] [] pos) (tE X.K c Wx (mMethM x m f mo [])) := by
  obtain ⟨ad, fd, ps, hm, hb, F⟩ := F.ex
  refine PE.weak (pe_methG0 (E := WE Wx) ho hc hm F hr hgd hb (fun σ => L2N.passAt tk σ) ht) fun σ H Q h => ?_
  obtain ⟨W, st, env, S, E, p⟩ := h
  refine ⟨W, st, env, S, E, p.bind.mono fun d st1 p1 v H1 W1 T1 S1 R1 => ?_⟩
  split at p1
  · rename_i hi
    obtain ⟨a, dx, fs', ev, hH, hk⟩ := ins_at S1 R1 hi
    refine ⟨a, dx, fs', ev, hH, hk, W1, st1, [d], S1, .cons R1 .nil, rfl, ?_⟩
    have p3 : Post X.K Wx σ H W (c f [d] st1) (Aft X.K H W Q) := p1
    generalize c f [d] st1 = r at p3 ⊢
    cases r with
    | no => exact p3
    | er x st => exact fun H' W' cls dd T S' x' => p3 H' W' cls dd (T1.trans T) S' x'
    | ok d st' => exact fun v H' W' T S' R => p3 v H' W' (T1.trans T) S' R
  · exact (show False from p1).elim
theorem dMake (hk : mkF x X.w X.K X.mg) (F : FnAt X.prog X.w X.K X.mg X.base c k (some (x, "__init__")) f np) (hr : RoomB k X.A) (hgd : X.A.guards = some []) (hg : Gl X x) (tk : L2N.Takes X Wx) (ha : PA X (e :: es) (tAs X.K c Wx (mArgs ms))) (hl : ms.length + 1 = np)
    (hdb : (x == ("__debug__" : Str)) = false) (he : starEach (e :: es) X.env = (false, eval e X.env) :: starEach es X.env) (hpl : (backTo pos (starEach es X.env)).any (·.1) = false) :
    PE X (.Call (.Name x p) (e :: es) [] pos) (tE X.K c Wx (mMake x f ms)) := by
  obtain ⟨ad, fd, ps, hm, hb, F⟩ := F.ex
  obtain ⟨hgm, M⟩ := hk
  have hm : L2.Meth X.K (He.ga X.K x) "__init__" ad := hm
  have ea : ad = He.ma X.K (He.ga X.K x) "__init__" := by
    have z := hm.at_.symm.trans M.init
    cases z
    rfl
  subst ea
  refine PE.weak (pe_makeG (E := WE Wx) M F hr hgd hg hgm hb (fun σ => L2N.passAt tk σ) ha hdb he hpl) fun σ H Q h => ?_
  obtain ⟨W, st, env, S, E, p⟩ := h
  refine ⟨W, st, env, S, E, (args_post p).mono fun ds st1 p1 vs H1 W1 T1 S1 R1 a dx hna hnd hne => ?_⟩
  have Sd := S1.temp (o := .own a) hnd
  have Td := Step.temp S1 (o := .own a) hnd
  have hna' : upd H1 dx (.own a) a = none := by rw [upd_ne (Ne.symm hne)]; exact hna
  have Tc := Step.cell Sd (o := .ins (He.ga X.K x) dx []) hna'
  have Sc := Sd.newcell (o := .ins (He.ga X.K x) dx []) (c := .ins x []) hna' ⟨dx, [], upd_same, rfl, .nil⟩
  have hrho : (W1.rho ++ [a])[st1.length]? = some a := by rw [← S1.len]; simp
  refine ⟨_, st1 ++ [.ins x []], .ref st1.length :: ds, Sc, .cons (.ref hrho) ((R1.step S1 Td).step Sd Tc), by rw [List.length_cons, p1.1]; exact hl, ?_⟩
  have p2 := p1.2
  generalize c f (.ref st1.length :: ds) (st1 ++ [.ins x []]) = r at p2 ⊢
  have TT := (T1.trans Td).trans Tc
  cases r with
  | no => exact p2
  | er x st => exact fun H' W' cls dd T S' x' => p2 H' W' cls dd (TT.trans T) S' x'
  | ok d st' =>
    intro v H' W' T S' R0
    have p3 : Post X.K Wx σ H W (if isNon d = true then R.ok (D.ref st1.length) st' else .no) (Aft X.K H W Q) := p2
    split at p3
    · rename_i hd
      cases d with
      | non =>
        cases R0
        exact ⟨rfl, p3 (.ref a) H' W' (TT.trans T) S' (.ref (T.rho hrho))⟩
      | _ => cases hd
    · exact (show False from p3).elim
end
end RP
end
section
set_option Elab.async false
set_option linter.all false
set_option maxRecDepth 100000
set_option maxHeartbeats 1000000
namespace RP
open PySem PySem.Spec PyProof.Rows L2 PySem.SeqAt
def nilB (st : St) (x y : D) : Option Bool := match see st x, see st y with
  | .lst xs, .lst [] => some xs.isEmpty
  | _, _ => none
def eqN (st : St) (x y : D) : Option D := bD (nilB st x y)
def neN (st : St) (x y : D) : Option D := bD ((nilB st x y).map not)
theorem ib_eqN : IsBl eqN := fun _ _ _ _ h => isBl_bD h
theorem ib_neN : IsBl neN := fun _ _ _ _ h => isBl_bD h
section
variable {X : Cx}
theorem nil_saw {K : PySem.W.Frag} {H : Hp} {W : Wd} {st : St} {x y : V} {dx dy : D} {b : Bool} (S : Sim K H W st) (r1 : Rep K H W x dx) (r2 : Rep K H W y dy) (e : nilB st dx dy = some b) :
    ∃ a xs a2, x = .ref a ∧ y = .ref a2 ∧ H a = some (.lst xs) ∧ H a2 = some (.lst []) ∧ b = xs.isEmpty := by
  have s1 := r1.saw S
  have s2 := r2.saw S
  unfold nilB at e
  generalize see st dx = ex at s1 e
  generalize see st dy = ey at s2 e
  split at e
  · cases e
    cases s1 with
    | lst h1 q1 =>
      cases s2 with
      | lst h2 q2 =>
        cases q2
        refine ⟨_, _, _, rfl, rfl, h1, h2, ?_⟩
        cases q1 <;> rfl
      | rep _ n _ => exact absurd rfl (n _)
    | rep _ n _ => exact absurd rfl (n _)
  · cases e
theorem op_eqN (hu : X.A.units + 501 < cLine) : OpR X (compareOp .Eq) (lift2 X.K eqN) := by
  intro pins s σ H x y v u Q I rx ry h
  obtain ⟨W, st, dx, dy, d, S, r1, r2, e, q⟩ := h
  unfold eqN bD at e
  obtain ⟨b, eb, rfl⟩ := Option.map_eq_some_iff.mp e
  obtain ⟨a, xs, a2, rfl, rfl, h1, h2, rfl⟩ := nil_saw S r1 r2 eb
  cases rx
  cases ry
  obtain ⟨us, ru, t1, _⟩ := I.list (SqL.of h1)
  obtain ⟨ws, rw', t2, _⟩ := I.list (SqL.of h2)
  have hw : ws.toArray.size = 0 := by have := rw'.length; simpa using this.symm
  have hn : us.toArray.size = xs.length := by have := ru.length; simpa using this.symm
  have key : RcAt X.A s (.ref a) (.ref a2) xs.isEmpty := by
    cases xs with
    | nil =>
      have := RcAt.lists (A := X.A) (s := s) (e := fun _ => true) t1.isList t2.isList (by rw [hw, hn]; rfl) (by omega) (fun j h1 h2 => by omega)
      rw [hn] at this
      exact this
    | cons z zs => exact RcAt.lists_lengths t1.isList t2.isList (by rw [hw, hn]; rfl) (by omega)
  exact key X.prog X.w X.xe _ ⟨.bl _, H, I, rfl, q _ H (Step.refl _ _) S (.bl _)⟩
theorem op_neN (hu : X.A.units + 501 < cLine) : OpR X (compareOp .NotEq) (lift2 X.K neN) := by
  intro pins s σ H x y v u Q I rx ry h
  obtain ⟨W, st, dx, dy, d, S, r1, r2, e, q⟩ := h
  unfold neN bD at e
  obtain ⟨b, eb, rfl⟩ := Option.map_eq_some_iff.mp e
  obtain ⟨b', eb2, rfl⟩ := Option.map_eq_some_iff.mp eb
  obtain ⟨a, xs, a2, rfl, rfl, h1, h2, rfl⟩ := nil_saw S r1 r2 eb2
  cases rx
  cases ry
  obtain ⟨us, ru, t1, _⟩ := I.list (SqL.of h1)
  obtain ⟨ws, rw', t2, _⟩ := I.list (SqL.of h2)
  have hw : ws.toArray.size = 0 := by have := rw'.length; simpa using this.symm
  have hn : us.toArray.size = xs.length := by have := ru.length; simpa using this.symm
  have key : RcNeAt X.A s (.ref a) (.ref a2) (!xs.isEmpty) := by
    cases xs with
    | nil =>
      have := RcNeAt.lists (A := X.A) (s := s) (e := fun _ => true) t1.isList t2.isList (by rw [hw, hn]; rfl) (by omega) (fun j h1 h2 => by omega)
      rw [hn] at this
      exact this
    | cons z zs => exact RcNeAt.lists_lengths t1.isList t2.isList (by rw [hw, hn]; rfl) (by omega)
  exact key X.prog X.w X.xe _ ⟨.bl _, H, I, rfl, q _ H (Step.refl _ _) S (.bl _)⟩
def xPop0 : Meth := fun st o ds => match o, ds with
  | .ref n, [] => match st[n]? with
    | some (.lst xs) => (xs[xs.length - 1]?).map fun d => (d, st.set n (.lst xs.dropLast))
    | _ => none
  | _, _ => none
theorem Reps.dropLast {K : PySem.W.Frag} {H : Hp} {W : Wd} {vs : List V} {ds : List D} (r : Reps K H W vs ds) : Reps K H W vs.dropLast ds.dropLast := by
  rw [List.dropLast_eq_take, List.dropLast_eq_take, r.length]
  exact r.take _
theorem mt_pop0L : MtR X "list.pop" (liftM X.K xPop0) := fun pins s σ H x xs v us Q I rx rxs h => by
  refine mt_pop pins s σ H x xs v us Q I rx rxs ?_
  obtain ⟨W, st, d, ds, d2, st2, S, r, rs, e, q⟩ := h
  unfold xPop0 at e
  split at e
  · rename_i n
    split at e
    · rename_i ys hn
      obtain ⟨d', hd, e2⟩ := Option.map_eq_some_iff.mp e
      cases e2
      cases rs
      cases r with
      | ref hr =>
        rename_i a
        obtain ⟨vs, hv, rv⟩ := S.cell _ a _ hr hn
        obtain ⟨y, hy, ry⟩ := rv.at hd
        rw [← rv.length] at hy
        have T := Step.write S (o := .lst vs.dropLast) hr
        exact ⟨a, vs, y, rfl, rfl, hv, hy, q y _ W T (S.write hr ⟨_, upd_same, (rv.dropLast).step S T⟩) (ry.step S T)⟩
    · cases e
  · cases e
variable {c : Call} {Wx : WX} {pos p : Pos} {k : Nat} {f : Str}
theorem dCall0 (F : FnAt X.prog X.w X.K X.mg X.base c k none f 0) (hr : RoomG k X.A) (hgd : X.A.guards = some []) (hg : Gl X f) (tk : L2N.Takes X Wx) (hdb : (f == ("__debug__" : Str)) = false) : PE X (.Call (.Name f p) [] [] pos) (tE X.K c Wx (mCall f [])) := by
  obtain ⟨ad, fd, ps, ⟨hm, hk⟩, hb, F⟩ := F.ex
  refine ⟨fun pins s σ H Q I h => wpAny_Call_Name_kw (ld_glob I hg hm (PySem.W.callWith_K0 I.kIn hk (run_fnG (E := WE Wx) (us := []) (vs := []) F hr hgd hb (L2N.passAt tk σ) I .nil ?_)) hdb)⟩
  obtain ⟨W, st, env, S, E, p⟩ := h
  exact ⟨W, st, [], S, .nil, rfl, ice_ok S (fun cls dd H' h => h) (Step.refl _ _) (fun _ _ h => h) p⟩
def sNever : MS := fun _ _ _ => .no
theorem sNeverD {s : Stmt} : PS X s (tSs X.K c Wx sNever) := PS.weak ps_never fun Dn σ H h => by
  obtain ⟨W, st, env, S, E, p⟩ := h
  exact (show False from p).elim
end
end RP
end
section
set_option Elab.async false
set_option linter.all false
set_option maxRecDepth 100000
set_option maxHeartbeats 2000000
namespace RP
open PySem PySem.Spec PyProof.Rows L2
theorem isExc_pin {X : Cx} {a D : Addr} {oe : Obj} (C : ExcC X.K D) (hp : (a, oe) ∈ X.pn) (hcl : oe.cls = .ref D) (hdi : oe.dict = none) (hf : ∃ vs, oe.data = .fields vs) : CallR X (.builtin "isinstance") (rIsE X.K D a) := by
  rintro pins s σ H xs us Q I r ⟨k, kv, b, rfl, hk, e, q⟩
  cases r with
  | cons r1 r2 =>
    cases r2 with
    | cons r3 r4 =>
      cases r4
      cases r1
      have hk' := hk _ r3
      subst hk'
      have there := (I.pin (a, oe) (List.mem_append_left _ hp)).1
      obtain ⟨vs, hv⟩ := hf
      have at_ : PySem.W.InstAt s.heap a oe D none := by
        obtain ⟨o1, o2, o3, o4⟩ := oe
        dsimp only at hcl hdi hv
        subst hcl hdi hv
        exact ⟨there, rfl, rfl, trivial⟩
      refine PySem.W.kia_one (PySem.W.handS_kitx_exc C.hg C.hk C.hs C.hd C.ha C.hn C.ht C.hm) I.kIn at_ e (fun z => nomatch z) fun t => ?_
      exact ⟨.bl b, H, I.kept (t' := t) (fun _ _ z => z), rfl, q⟩
abbrev blkP (X : Cx) (s : Shared) (H : Hp) (sc : Scope) (ce : PySem.Env) (fp : List Addr) (p : Addr × Obj) : Cx := (X.blk s H sc ce fp).tr [p] fun _ _ => False
section
variable {X : Cx}
theorem pe_lcH {elt tg iter : Expr} {ifs : List Expr} {sc : Scope} {own : List (Str × Nat)} {pos : Pos} {wi : TI} {g : TG} {tt : TT} {te : TE} {p : Addr × Obj} (hot : L2H.Hot1 X.A p) (hp : p ∈ X.pn) (hN : X.N.Nodup) (hi : L2H.PIH X tg iter wi) (bo : BlkOk X.N X.env.scope sc own)
    (hg : ∀ s H C cl fp, PG (blkP X s H sc (compEnvC sc cl C X.env) fp p) tg g) (ht : ∀ s H C cl fp, PTs (blkP X s H sc (compEnvC sc cl C X.env) fp p) ifs tt)
    (he : ∀ s H C cl fp, PE (blkP X s H sc (compEnvC sc cl C X.env) fp p) elt te) (hs : ∀ x, foldedSetIterable iter X.env x = pure x) :
    PE X (.ListComp elt [⟨tg, iter, ifs, 0⟩] sc pos) (tLc wi g tt te (own.map (·.2))) := by
  refine ⟨fun pins s σ H Q I h => ?_⟩
  rw [eval_ListComp]
  have caps : ∀ y ∈ sc.names, y.2 = .free → ∃ c, X.env.cells.lookup y.1 = some c := fun y hy z => (bo.free y hy z).elim (fun k => I.ok.has _ (.inl k)) fun k => I.ok.has _ (.inr k)
  refine wpAny_comprehension_free rfl hs (closure_ok caps) bo.kind (fun y hy z => (bo.uniq y hy).trans (by rw [z])) (thn (hi.run pins s σ H _ I h) fun v1 s1 k1 => thn k1 fun v2 s2 k2 => ?_)
  obtain ⟨it, fp, tn, J, H2, rfl, I2, T, now, fok, q⟩ := k2
  refine wpAny_newObj_type (newEnv_comp ?_) (by show 0 ≤ sizeLine; decide)
  generalize eD : s2.heap.objs.size = D
  have nD : H2 D = none := I2.hok.fresh (Nat.le_of_eq eD)
  obtain ⟨W, ⟨m0, start⟩, turn⟩ := q D nD
  generalize e3 : ({ s2 with heap := s2.heap.push { cls := .type "list", data := .seq ([] : List Value).toArray } } : Shared) = s3
  have eh3 : s3.heap = s2.heap.push { cls := .type "list", data := .seq ([] : List Value).toArray } := by rw [← e3]
  have I3 : Inv X pins σ (upd H2 D (.lst [])) s3 := by
    rw [← e3]
    refine I2.laid (t' := s2.toks) (fun b o z => Heap.get?_push_of_some _ z) (Nat.le_of_eq eD) ⟨Nat.zero_le _, [], 0, .nil, ?_⟩
    rw [← eD]
    exact Heap.get?_push_size _ rfl
  have low : ∀ b ∈ fp, b < s2.heap.objs.size := fun b hb => by
    obtain ⟨o, z, _⟩ := T.obj _ _ now b hb
    exact Heap.lt_size z
  have fok3 : ∀ b ∈ fp, FpOk X pins (upd H2 D (.lst [])) b ∧ b < s3.heap.objs.size := fun b hb => by
    have lb := low b hb
    have lb3 : b < s3.heap.objs.size := by rw [eh3, Heap.size_push]; exact Nat.lt_succ_of_lt lb
    have nb : (upd H2 D (.lst [])) b = none := by
      rw [upd_ne (by rw [← eD]; exact Nat.ne_of_lt lb)]
      exact (fok b hb).1
    exact ⟨⟨nb, (fok b hb).2⟩, lb3⟩
  have now3 : tn 0 s3.heap := T.keep _ _ _ now fun b _ o z => by
    rw [eh3]
    exact Heap.get?_push_of_some _ z
  have B4 := block_start I3 bo hN fok3
  have P3 := I3.pin p (List.mem_append_left _ hp)
  generalize ece : compEnvC sc (cellsFrom (s3.heap.objs.size + 1) sc.names (cloFrom X.env.cells sc.names [])) s3.heap.objs.size X.env = ce at B4
  have eL : ce.locals = s3.heap.objs.size := by rw [← ece]; rfl
  have pg : PG (blkP X s3 (upd H2 D (.lst [])) sc ce fp p) tg g := by rw [← ece]; exact hg _ _ _ _ _
  have pt : PTs (blkP X s3 (upd H2 D (.lst [])) sc ce fp p) ifs tt := by rw [← ece]; exact ht _ _ _ _ _
  have pe : PE (blkP X s3 (upd H2 D (.lst [])) sc ce fp p) elt te := by rw [← ece]; exact he _ _ _ _ _
  have no3 : ∀ b ∈ fp, (upd H2 D (.lst [])) b = none := fun b hb => (fok3 b hb).1.1
  generalize eH3 : upd H2 D (.lst []) = H3 at I3 B4 pg pt pe start no3 fok3 P3
  generalize e4 : ({ s3 with heap := pushCells (s3.heap.push { cls := .type "dict", data := .dict #[] }) sc.names } : Shared) = s4 at B4
  have keep34 : ∀ b o, s3.heap.get? b = some o → s4.heap.get? b = some o := fun b o z => by
    rw [← e4]
    exact pushCells_keeps _ _ _ _ (Heap.get?_push_of_some _ z)
  have I4 : Inv (blkP X s3 H3 sc ce fp p) [] (wipe σ (own.map (·.2))) H3 s4 := by
    have B5 : Inv (X.blk s3 H3 sc ce fp) [p] (wipe σ (own.map (·.2))) H3 s4 := { B4 with
      pin := fun z hz => by
        have ez : z = p := by simpa using hz
        rw [ez]
        refine ⟨keep34 _ _ P3.1, P3.2.1, ?_, fun hm => ?_, P3.2.2.2.2⟩
        · show p.1 ≠ ce.locals
          rw [eL]
          exact Nat.ne_of_lt (Heap.lt_size P3.1)
        · exact (List.mem_cons.mp (I3.stkSub p.1 hm)).elim P3.2.2.1 P3.2.2.2.1 }
    exact B5.toTry _
  have hotB : L2H.HotC (blkP X s3 H3 sc ce fp p) := ⟨p, hot, List.mem_cons_self⟩
  have now4 : tn 0 s4.heap := T.keep _ _ _ now3 fun b _ o z => keep34 b o z
  have stay : ∀ {σ' : L2.St} {H' : Hp} {s' : Shared}, Inv (blkP X s3 H3 sc ce fp p) [] σ' H' s' → (∀ b ∈ fp, H' b = none) → ∀ b ∈ fp, FpOk (blkP X s3 H3 sc ce fp p) [] H' b := fun {σ' H' s'} I' none' b hb => by
    refine ⟨none' b hb, (I'.ok.exf b hb).1, I'.ok.exfs b hb, .inl hb, fun x c z => (I'.ok.exf b hb).2 x c z, fun r hr => ?_⟩
    have er : r = p := by simpa using (show r ∈ [p] ++ ([] : List (Addr × Obj)) from hr)
    rw [er]
    exact fun z => (fok3 b hb).1.2.2.2.2.2 p (List.mem_append_left _ hp) z
  have loop : codeAny (model X.prog X.w) X.A (.compLoop (.ListComp elt [⟨tg, iter, ifs, 0⟩] sc pos) 0 (.ref it) (.ref D) ce) (compPost (model X.prog X.w) X.A X.xe none (fun v s' => EP X pins σ Q v s') (.ref D) s3.heap.objs.size) s4 := by
    refine compLoop_any (fun n s' => ∃ i H', Inv (blkP X s3 H3 sc ce fp p) [] (wipe σ (own.map (·.2))) H' s' ∧ tn i s'.heap ∧ (∀ b ∈ fp, H' b = none) ∧ W i n H') ?_ m0 ⟨0, H3, I4, now4, no3, start⟩
    rintro n s5 ⟨i, H5, I5, now5, no5, w5⟩
    rcases turn i n H5 w5 with ⟨stop, qq⟩ | ⟨go, Nx, less, step⟩
    · refine thnF (T.done (blkP X s3 H3 sc ce fp p) rfl rfl rfl hotB i [] s5 _ H5 (fun _ _ => False) I5 (stay I5 no5) now5 stop) fun r s6 ⟨er, I6⟩ => ?_
      subst er
      have I7 : Inv X pins σ H5 s6 := I3.call' (ch := fp) I6.os I6.base I6.hok I6.bare fun b hb => by
        obtain ⟨_, z1, _, z3, z4, z5⟩ := (fok3 b hb).1
        exact ⟨z3, z1, z4, z5⟩
      have nC : H5 s3.heap.objs.size = none := by
        rw [← eL]
        exact I6.free
      obtain ⟨m, hm, _⟩ := I6.loc
      have hm : s6.heap.Ns ce.locals m := hm
      rw [eL] at hm
      obtain ⟨f0, f1, _, f3, f4, f5⟩ := I3.fpOk (Nat.le_refl _) nC
      refine ⟨m, hm, fun h8 sb => ⟨.ref D, H5, ?_, rfl, qq⟩⟩
      exact I7.turned (t' := s6.toks) (fun b o hb z => (sb.2 b hb).trans z) f0 f1 f3 f4 f5
    · refine thnF (T.item (blkP X s3 H3 sc ce fp p) rfl rfl rfl hotB i [] s5 _ H5 (fun _ _ => False) I5 (stay I5 no5) now5 go) fun r s6 ⟨u, er, k6⟩ => ?_
      subst er
      refine thnF k6 fun _ s7 ⟨x, H7, I7, r7, y7, now7, no7⟩ => ?_
      have P7 := I7.pinned (stay I7 no7) (T.obj _ _ now7)
      refine thnF (pg.run _ s7 _ H7 x u _ P7 r7 (step x H7 y7)) fun _ s8 ⟨σ8, H8, I8, same8, q8⟩ => ?_
      refine thnF (pt.run _ s8 σ8 H8 _ I8 q8) fun b s9 ⟨H9, I9, q9⟩ => ?_
      have close : ∀ {s' : Shared} {H' : Hp}, Inv (blkP X s3 H3 sc ce fp p) ([] ++ pinsAt fp s7.heap) σ8 H' s' → Nx H' → ∃ m, m < n ∧ ∃ i H', Inv (blkP X s3 H3 sc ce fp p) [] (wipe σ (own.map (·.2))) H' s' ∧ tn i s'.heap ∧ (∀ b ∈ fp, H' b = none) ∧ W i m H' := fun {s' H'} I' nx => by
        obtain ⟨m', lm, w'⟩ := less H' nx
        have pins' : ∀ b ∈ fp, ∀ o, s7.heap.get? b = some o → s'.heap.get? b = some o ∧ H' b = none := fun b hb o z => by
          have := I'.pin (b, o) (List.mem_append_right _ (List.mem_append_right _ (mem_pinsAt hb z)))
          exact ⟨this.1, this.2.1⟩
        have long : (wipe σ (own.map (·.2))).length = σ8.length := by rw [← same8, wipe_length]
        refine ⟨m', lm, i + 1, H', (I'.unpinned (pins := [])).weak long (fun j v z => ?_), T.keep _ _ _ now7 fun b hb o z => (pins' b hb o z).1, fun b hb => ?_, w'⟩
        · rw [← same8] at z
          exact (wipe_some z).1
        · obtain ⟨o, z, _⟩ := T.obj _ _ now7 b hb
          exact (pins' b hb o z).2
      cases b with
      | false =>
        simp only [Bool.false_eq_true, if_false] at q9 ⊢
        exact close I9 q9
      | true =>
        simp only [if_true] at q9 ⊢
        refine thnF (pe.run _ s9 σ8 H9 _ I9 q9) fun z s10 ⟨yv, H10, I10, r10, acc, hD, hz, nx⟩ => ?_
        exact app_ok (X := blkP X s3 H3 sc ce fp p) I10 hD hz r10 fun s11 I11 => close I11 nx
  have fin := codeAny_compStart_list loop (T.self X.A 0 _ _ _ now4 loop)
  rw [← ece] at fin
  exact fin
end
end RP
end
section
set_option Elab.async false
set_option linter.all false
set_option maxRecDepth 100000
set_option maxHeartbeats 2000000
namespace RP
open PySem PySem.Spec PyProof.Rows L2
structure RoomP (A : Around) : Prop where
  dp : A.depth + 9 < recursionLimit
  un : A.units + 616 < cLine
theorem RoomG.hot {k : Nat} {A : Around} (r : RoomG (k + 1) A) (e : Value) : RoomP (A.mark (some e)) := ⟨by have := r.dp; show A.depth + 9 < _; omega, by have := r.un3; show A.units + 616 < _; omega⟩
structure FnP (P : Program) (w : World) (K : PySem.W.Frag) (mg : Str → Option Value) (base : Heap) (f : Addr) (fd : FuncData) (ps : List Str) (sp : Addr × Obj → Sp) : Prop where
  len : ∀ p vs H Q E, sp p vs H Q E → vs.length = ps.length
  run : ∀ (A : Around) (up : List PySem.Env) (s : Shared) (H : Hp) (args : Args) (us : List Value) (vs : List V) (Q : VK) (E : XK) (p : Addr × Obj), RoomP A → A.guards = some [] → L2H.Hot1 A p → L2H.PinOk up H s p → Env0 P w K mg base A up s H → BindsTo s fd args (ps.zip us) → Vals vs us → sp p vs H Q E →
    codeAny (model P w) A (.call (.ref f) args) (CR (L2N.CX P w) up P w H s Q E) s
section
variable {P : Program} {w : World} {K : PySem.W.Frag} {mg : Str → Option Value} {base : Heap} {a : Addr} {fd : FuncData}
theorem fnP_of {N ps : List Str} {sp : Addr × Obj → Sp} {x qual : Str} {params : Arguments} {body : List Stmt} {scope : Scope} (F : FunD K x qual params body scope [] [] a fd) (S : FnScope N ps scope) (len : ∀ p vs H Q E, sp p vs H Q E → vs.length = ps.length)
    (hbody : ∀ (cdv : Value) (A : Around) (up : List PySem.Env) (s : Shared) (H : Hp) (vs : List V) (Q : VK) (E : XK) (p : Addr × Obj), L2H.Hot1 A p → A.units + 610 < cLine → A.guards = some [] → sp p vs H Q E →
      ∃ t, PSs (L2H.cxH (L2N.CX P w) P w K mg base N qual scope a cdv A up s H E p) body t ∧ t { nx := fun _ H' => Q .non H', rt := Q } (L2.start N vs) H) : FnP P w K mg base a fd ps sp := by
  obtain ⟨oc, od, dV, kV, doc, pm, an, cdv, ct, osl, rfl, lk, hcd, _, _⟩ := F.ex
  refine ⟨len, fun A up s H args us vs Q E p hr hgd hot hpin e0 hb rv hsp => ?_⟩
  have old : ∀ b o, base.get? b = some o → s.heap.get? b = some o := fun b o e => (e0.bs b o e).1
  have kin : K.In s.heap := e0.mod.kin.keeps old
  have nlim : s.heap.NoLimit := e0.mod.nolimit.keeps old
  refine codeAny_call_function (by have := hr.dp; omega) (kin _ _ lk) rfl S.co S.gen rfl (PySem.W.codeRec_of kin hcd) (hb _ _ _ _ ?_)
  refine wpAny_newFunctionEnv_cells S.kind (fun y hy => (S.par y.1 (List.of_mem_zip hy).1).imp id fun z => ⟨z, PySem.W.cellsFrom_some _ _ _ (.inl z)⟩) fun env he s1 ic => ?_
  subst he
  refine ⟨nlim.keeps ic.toInCall.keep, codeAny_func ?_⟩
  obtain ⟨t, ht, hq⟩ := hbody cdv A up s H vs Q E p hot (by have := hr.un; omega) hgd hsp
  refine wpAny_mono (ht.run [] s1 (L2.start N vs) H _ (L2H.inv_startH S hpin e0 (len _ _ _ _ _ hsp) rv ic) hq) (fun fl s2 hs => ?_) fun _ _ hs => hs
  cases fl with
  | ret u => obtain ⟨v, σ2, H2, J, r2, q⟩ := hs; exact ⟨v, H2, J.os, J.bare, J.base, J.hok, r2, q⟩
  | next => obtain ⟨σ2, H2, J, q⟩ := hs; exact ⟨.non, H2, J.os, J.bare, J.base, J.hok, rfl, q⟩
  | brk => obtain ⟨_, _, _, q⟩ := hs; exact False.elim q
  | cont => obtain ⟨_, _, _, q⟩ := hs; exact False.elim q
end
section
variable {X : Cx} {f : Addr} {fd : FuncData} {ps : List Str} {sp : Addr × Obj → Sp} {E : L2.St → XK} {x : Str} {q pos : Pos} {e : Expr} {es : List Expr} {t : TA}
theorem pe_callP {p : Addr × Obj} (F : FnP X.prog X.w X.K X.mg X.base f fd ps sp) (hr : RoomP X.A) (hgd : X.A.guards = some []) (hot : L2H.Hot1 X.A p) (hp : p ∈ X.pn) (hg : Gl X x) (hm : X.mg x = some (.ref f)) (hk : PySem.W.keepIn X.K (.ref f) = true) (hb : Binds X.K fd ps []) (hx : ∀ σ, PassesAt (L2N.CX X.prog X.w) X σ (E σ))
    (ha : PA X (e :: es) t) (hdb : (x == ("__debug__" : Str)) = false) (he : starEach (e :: es) X.env = (false, eval e X.env) :: starEach es X.env) (hpl : (backTo pos (starEach es X.env)).any (·.1) = false) :
    PE X (.Call (.Name x q) (e :: es) [] pos) (tCallS (sp p) E t) := ⟨fun pins s σ H Q I h => by
  refine PySem.wpAny_Call_Name_kw (ld_glob I hg hm (PySem.W.callWith_K (h₀ := X.base) I.ok.mod.kin hk (thn (ha.run pos pins s σ H _ I h) fun us s1 ⟨vs, H1, J, r, qq⟩ => ⟨J.kIn, ?_⟩) he hpl) hdb)
  have hl : us.length = ps.length := by rw [← r.length]; exact F.len _ _ _ _ _ qq
  have bd := hb s1 us J.kIn (by rw [List.append_nil]; exact hl)
  rw [List.append_nil] at bd
  have P1 := J.pin p (List.mem_append_left _ hp)
  have there : L2H.PinOk X.stack H1 s1 p := ⟨P1.1, P1.2.1, fun z => (List.mem_cons.mp (J.stkSub p.1 z)).elim P1.2.2.1 P1.2.2.2.1, P1.2.2.2.2⟩
  refine wpAny_call (codeAny_mono (F.run X.A X.stack s1 H1 ⟨us, []⟩ us vs Q (E σ) p hr hgd hot there J.env0 bd r qq) fun z s2 hz => ?_)
  rcases z with er | fl
  · exact hx σ pins H1 s1 er s2 J hz
  · cases fl with
    | ret u => exact J.after hz
    | next => exact (show False from hz).elim
    | brk => exact (show False from hz).elim
    | cont => exact (show False from hz).elim⟩
end
end RP
end
section
set_option Elab.async false
set_option linter.all false
set_option maxRecDepth 100000
set_option maxHeartbeats 2000000
namespace RP
open PySem L2
section
variable {X : Cx} {c : Call} {Wx : WX} {a e : Expr} {ma : ME} {pos : Pos}
theorem PIH_weak {tg : Expr} {w w' : TI} (h : L2H.PIH X tg e w) (hw : ∀ σ H R, w' σ H R → w σ H R) : L2H.PIH X tg e w' := ⟨fun pins s σ H R I q => h.run pins s σ H R I (hw _ _ _ q)⟩
theorem iRange1H {tg : Expr} {p : Pos} (hg : Gl X "range") (hm : X.mg "range" = none) (ha : PE X a (tE X.K c Wx ma)) (hs : starEach [a] X.env = [(false, eval a X.env)]) : L2H.PIH X tg (.Call (.Name "range" p) [a] [] pos) (tIs X.K c Wx (iRange1 ma)) :=
  PIH_weak (L2H.pi_range1H hg hm (pa_cons ha pa_nil hs) hs) fun σ H R h => by
    obtain ⟨W, st, env, S, E, p⟩ := h
    refine ⟨W, st, env, S, E, p.bind.mono fun dx st1 p1 x H1 W1 T1 S1 R1 => ?_⟩
    have bi := bigInt
    split at p1
    · rename_i n
      split at p1
      · rename_i hc
        have hc' : -(big : Int) ≤ n ∧ n ≤ (big : Int) := by simpa using hc
        have ev := rep_int R1
        subst ev
        refine ⟨n, rfl, by omega, by omega, ?_⟩
        have w := wk_range (K := X.K) (H0 := H1) (W0 := W1) 0 n.toNat
        have e0 : (List.range n.toNat).map (fun (k : Nat) => D.int (0 + k)) = (List.range n.toNat).map (fun (k : Nat) => D.int k) := by simp
        rw [e0] at w
        have bl := bigLine
        exact p1 _ H1 W1 T1 S1 w (by simp only [List.length_map, List.length_range]; unfold big at hc' bl; omega)
      · exact (show False from p1).elim
    · exact (show False from p1).elim
variable {elt tg iter : Expr} {ifs : List Expr} {scope : Scope} {own : List (Str × Nat)} {it : MI} {g : MG} {ts : MT} {me : ME} {is : List Nat} {p : Addr × Obj}
theorem dCompHM (hot : L2H.Hot1 X.A p) (hp : p ∈ X.pn) (hN : X.N.Nodup) (hi : L2H.PIH X tg iter (tIs X.K c Wx it)) (ok : BlkOk X.N X.env.scope scope own) (his : ∀ i ∈ is, i ∈ own.map (·.2))
    (hg : ∀ s H C cl fp, PG (blkP X s H scope (compEnvC scope cl C X.env) fp p) tg (tG X.K is g)) (ht : ∀ s H C cl fp, PTs (blkP X s H scope (compEnvC scope cl C X.env) fp p) ifs (tTs X.K c WF ts))
    (he : ∀ s H C cl fp, PE (blkP X s H scope (compEnvC scope cl C X.env) fp p) elt (tE X.K c WF me)) (hs : ∀ x, foldedSetIterable iter X.env x = pure x) :
    PE X (.ListComp elt [⟨tg, iter, ifs, 0⟩] scope pos) (tE X.K c Wx (mCompM (own.map (·.2)) it g ts me)) :=
  PE.weak (pe_lcH hot hp hN hi ok hg ht he hs) fun σ H Q h => by
    obtain ⟨W, st, env, S, E, q⟩ := h
    exact comp_core his S E (fun ys st2 => .inr rfl) q
end
end RP
end
section
set_option Elab.async false
set_option linter.all false
set_option maxRecDepth 100000
set_option maxHeartbeats 2000000
namespace RP
open PySem PySem.Spec PyProof.Rows L2
section
open PySem.W PySem.Calls
variable {prog : Program} {w : World} {A : Around} {E : Value → Shared → Prop} {s : Shared} {K : Frag} {x D : Addr} {ox : Obj} {od : Option Obj}
theorem bound_any {C : Addr} {nm : Str} {u v : Value} (h0 : (clsIn K C).isSome = true) (h1 : findIn K (.ref C) nm = some (some u)) (h2 : specialIn K u "__get__" = some (some v)) (h3 : takesIn K u = some true) : findObj K C od nm = some (.bind v u) := by
  unfold findObj
  obtain ⟨cd, h0⟩ := Option.isSome_iff_exists.mp h0
  rw [h0, Option.bind_some, h1, Option.bind_some]
  simp [h2, h3]
theorem askedClass {Q : Option Value → Shared → Prop} (C : ExcC K D) (X : K.In s.heap) (I : PySem.W.InstAt s.heap x ox D od) (h : Q (some (.ref D)) { s with toks := s.toks + 1 }) : wpAny (model prog w) A (getAttr? (.ref x) "__class__") Q E s := by
  have fo : findObj K D od "__class__" = some (.bind (.builtin "getset_descriptor.__get__") (.builtin "object.__class__")) := bound_any (by obtain ⟨cd, hc, _⟩ := any_some C.hd; rw [hc]; rfl) C.ha C.hn C.ht
  obtain ⟨hp, g, d, t, os⟩ := s
  have lT := I.type (M := model prog w)
  have lG := looks_findIn (M := model prog w) X C.hg
  have lH := looks_findIn (M := model prog w) X C.hk
  have lF := looks_find (M := model prog w) X I fo
  have lS : Looks (model prog w) hp (isInstance (.ref x) (.type "BaseException")) true := lT.andThen (looks_subIn X C.hs)
  have z0 : (false && onTheHeap (Value.builtin "BaseException.__getattribute__")) = false := rfl
  have z2 : (Value.builtin "BaseException.__getattribute__" == Value.builtin "object.__getattribute__") = false := by decide +kernel
  have z1 : (onTheHeap (Value.ref D) && Value.builtin "BaseException.__getattribute__" == Value.builtin "object.__getattribute__") = false := by rw [z2]; rfl
  unfold getAttr? getAttrBy? getAttrBy
  refine wpAny_bind (wpAny_mkText (wpAny_bind (wpAny_attempt (wpAny_holding (wpAny_bind (lT.at (wpAny_bind (lG.at ?_))))))))
  show wpAny _ _ (if (onTheHeap (Value.ref D) && Value.builtin "BaseException.__getattribute__" == Value.builtin "object.__getattribute__") = true then _ else _) _ _ _
  rw [z1, if_neg Bool.false_ne_true]
  unfold getAttrByItsOwn hookBefore
  refine wpAny_bind (?_ : wpAny _ _ _ _ _ _)
  rw [if_pos (show onTheHeap (Value.ref D) = true from rfl)]
  refine lH.at (wpAny_bind (wpAny_attempt (wpAny_holding ?_)))
  unfold callGetattribute
  rw [z0, if_neg Bool.false_ne_true]
  unfold boundAndCalled
  rw [PySem.F.excAttr_ValueError.ga.bind (.ref x)]
  refine wpAny_bind (wpAny_pure (?_ : wpAny _ _ (call (.builtin "BaseException.__getattribute__") [.ref x, .str "__class__" t]) _ _ _))
  refine wpAny_call (codeAny_call_builtin PySem.F.excAttr_ValueError.ga.plain PySem.F.entry_bexc_ga (@check_slot (model prog w) _ _ ⟨hp, g, d, t + 1, os⟩ "BaseException.__getattribute__" "BaseException" "__getattribute__" (.ref x) [.str "__class__" t] [] _ (by decide +kernel) (by decide +kernel) lS (PySem.F.args_bexc_ga (.ref x) (.str "__class__" t)) ?_))
  unfold Builtin.«object.__getattribute__»
  refine wpAny_bind (wpAny_of_eq (a := ((Value.ref x : Value), [Value.str "__class__" t])) (by first | rfl | (simp only [slotArgs]; rfl)) ?_)
  refine wpAny_bind (wpAny_pure (wpAny_bind (lT.at (wpAny_bind (lF.at (?_ : wpAny _ _ (holding [Value.builtin "object.__class__"] (call (.builtin "getset_descriptor.__get__") [.builtin "object.__class__", .ref x, .ref D]) >>= ret) _ _ _))))))
  refine wpAny_bind (wpAny_holding (wpAny_call (class_get (s := ⟨hp, g, d, t + 1, os⟩) (ox := ox) (od := od) X I C.hm (wpAny_pure (?_ : wpAny _ _ (handedOut (.ref D)) _ _ _)))))
  rw [handedOut_of (v := .ref D) rfl]
  first
    | exact wpAny_pure (wpAny_pure h)
    | exact wpAny_pure h
    | exact wpAny_pure (wpAny_bind (wpAny_pure (wpAny_pure h)))
theorem kitE (C : ExcC K D) : KitX K (.ref x) (.ref D) (fun h => ∃ od, PySem.W.InstAt h x ox D od) where
  ty := fun _ _ _ ⟨_, I⟩ => I.type
  it := fun _ _ X _ => by
    obtain ⟨cd, hc, _⟩ := any_some C.hd
    unfold clsIn at hc
    split at hc
    · rename_i ho
      exact fun A' Q' E' s' k q => by
        unfold isType loadHead
        exact wpAny_bind (wpAny_loadPart (k _ _ (X _ _ ho)) (wpAny_pure q))
    · cases hc
  ne := fun h tp dd its n sl X htp => by
    obtain ⟨cd, hc, _⟩ := any_some C.hd
    refine Bool.eq_false_iff.mpr fun q => ?_
    have e : D = tp := Value.ref.inj (beq_iff_eq.mp q)
    subst e
    unfold clsIn at hc
    split at hc
    · rename_i ho
      cases (X _ _ ho).symm.trans htp
    · cases hc
  ca := fun X ⟨_, I⟩ k => askedClass C X I k
end
structure PinX (X : Cx) (a : Addr) (oe : Obj) (C : Addr) (d : Option Addr) : Prop where
  mem : (a, oe) ∈ X.pn
  cls : oe.cls = .ref C
  dict : oe.dict = d
  flds : ∃ vs, oe.data = .fields vs
theorem PinX.inst {X : Cx} {a C : Addr} {oe : Obj} {d : Option Addr} {pins : List (Addr × Obj)} {σ : L2.St} {H : Hp} {s : Shared} (p : PinX X a oe C d) (I : Inv X pins σ H s) (hd : d = none ∨ ∃ dd fs, d = some dd ∧ H dd = some (.xd fs)) : ∃ od, PySem.W.InstAt s.heap a oe C od := by
  have there := (I.pin (a, oe) (List.mem_append_left _ p.mem)).1
  obtain ⟨vs, hv⟩ := p.flds
  have nc : PySem.W.notCls oe = true := by unfold PySem.W.notCls; rw [hv]
  rcases hd with hd | ⟨dd, fs, hd, hx⟩
  · exact ⟨none, there, p.cls, nc, by rw [p.dict, hd]; trivial⟩
  · obtain ⟨mA, hns, _⟩ := (show ObjOk X.prog X.w H s.heap dd (.xd fs) from I.hok dd _ hx)
    obtain ⟨o, es, ep, ho, _⟩ := hns
    exact ⟨some o, there, p.cls, nc, by rw [p.dict, hd]; exact ho⟩
def rIsP (K : PySem.W.Frag) (C a : Addr) (d : Option Addr) : List V → Hp → VK → Prop := fun xs H Q => ∃ (k : V) (kv : Value) (b : Bool), xs = [.ref a, k] ∧ (∀ u, RelV k u → u = kv) ∧ PySem.W.kitOne K (.ref C) kv = some b ∧ (d = none ∨ ∃ dd fs, d = some dd ∧ H dd = some (.xd fs)) ∧ Q (.bl b) H
theorem isP {X : Cx} {a C : Addr} {oe : Obj} {d : Option Addr} (T : ExcC X.K C) (p : PinX X a oe C d) : CallR X (.builtin "isinstance") (rIsP X.K C a d) := by
  rintro pins s σ H xs us Q I r ⟨k, kv, b, rfl, hk, e, hd, q⟩
  cases r with
  | cons r1 r2 =>
    cases r2 with
    | cons r3 r4 =>
      cases r4
      cases r1
      have hk' := hk _ r3
      subst hk'
      exact PySem.W.kia_one (kitE T) I.kIn (p.inst I hd) e (fun z => nomatch z) fun t => ⟨.bl b, H, I.kept (t' := t) (fun _ _ z => z), rfl, q⟩
def mIsE (a : Nat) (d : Option Nat) (i : Nat) (b : Bool) : ME := fun _ env st => match env[i]?, d with
  | some (some (.exc a')), none => if a' = a then .ok (.bl b) st else .no
  | some (some (.exf a' d' _ _)), some d0 => if a' = a ∧ d' = d0 then .ok (.bl b) st else .no
  | _, _ => .no
def mXf (a : Nat) (d : Option Nat) (i : Nat) (f : Str) : ME := fun _ env st => match env[i]?, d with
  | some (some (.exf a' d' ks vs)), some d0 => if a' = a ∧ d' = d0 then R.of ((ks.zip vs).lookup f) st else .no
  | _, _ => .no
structure ClsN (X : Cx) (x : Str) (kv : Value) : Prop where
  pe : ∃ v : V, (∀ pos, PE X (.Name x pos) (tC v)) ∧ ∀ u, RelV v u → u = kv
theorem clsG {X : Cx} {x : Str} (hg : Gl X x) (hm : gF x X.w X.K X.mg) (hd : (x == ("__debug__" : Str)) = false) : ClsN X x (.ref (He.ga X.K x)) := ⟨.ref (He.ga X.K x), fun _ => pe_glob hg hm rfl hd, fun _ h => h⟩
theorem clsB {X : Cx} {x : Str} {T : String} (hg : Gl X x) (hm : X.mg x = none) (hv : bootBuiltins x = some (.type T)) (hn : x ≠ "__name__") (hd : (x == ("__debug__" : Str)) = false) : ClsN X x (.type T) := ⟨.ty T, fun _ => pe_bltn hg hm hv rfl hn hd, fun _ h => h⟩
theorem lookup_zip {K : PySem.W.Frag} {H : Hp} {W : Wd} {f : Str} {y : D} : ∀ {fs : List (Str × V)} {ks : List Str} {vs : List D}, fs.map (·.1) = ks → Reps K H W (fs.map (·.2)) vs → (ks.zip vs).lookup f = some y → ∃ v, fs.lookup f = some v ∧ Rep K H W v y
  | [], [], _, _, _, h => by cases h
  | (g, z) :: fs, k :: ks, _, e, .cons h0 r, h => by
    simp only [List.map_cons, List.cons.injEq] at e
    obtain ⟨rfl, e⟩ := e
    by_cases hf : f = g
    · subst hf
      simp [List.lookup] at h ⊢
      subst h
      exact h0
    · have hb : (f == g) = false := by simpa using hf
      simp [List.lookup, hb] at h ⊢
      exact lookup_zip e r h
section
variable {X : Cx} {c : Call} {Wx : WX} {a C : Addr} {oe : Obj} {d : Option Addr} {i : Nat} {e x : Str} {b : Bool} {p1 p2 p3 pos : Pos}
theorem dIsE {kv : Value} (P : PinX X a oe C d) (T : ExcC X.K C) (hN : X.N[i]? = some e) (hv : Vis X.env.scope e) (hd : (e == ("__debug__" : Str)) = false) (hcd : (e == ("__classdict__" : Str)) = false) (hg : Gl X "isinstance") (hm : X.mg "isinstance" = none) (hC : ClsN X x kv) (hk : PySem.W.kitOne X.K (.ref C) kv = some b)
    (he : starEach [.Name e p2, .Name x p3] X.env = (false, eval (.Name e p2) X.env) :: starEach [.Name x p3] X.env) (he2 : starEach [.Name x p3] X.env = [(false, eval (.Name x p3) X.env)]) :
    PE X (.Call (.Name "isinstance" p1) [.Name e p2, .Name x p3] [] pos) (tE X.K c Wx (mIsE a d i b)) := by
  obtain ⟨v, hp, hr⟩ := hC.pe
  refine PE.weak (pe_callB (isP T P) hg hm (by decide +kernel) (pa_cons (pe_var (pos := p2) hN hv hd hcd) (pa_cons (hp p3) pa_nil he2) he) (by decide) rfl he (by rw [he2]; rfl)) fun σ H Q h => ?_
  obtain ⟨W, st, env, S, E, q⟩ := h
  unfold mIsE at q
  split at q
  · rename_i a' hev
    split at q
    · rename_i ha
      subst ha
      obtain ⟨u, eu, r⟩ := E.get i _ hev
      cases r
      exact ⟨_, eu, v, kv, b, rfl, hr, hk, .inl rfl, q _ H W (Step.refl _ _) S (.bl b)⟩
    · exact (show False from q).elim
  · rename_i a' d' ks vs d0 hev
    split at q
    · rename_i ha
      obtain ⟨rfl, rfl⟩ := ha
      obtain ⟨u, eu, r⟩ := E.get i _ hev
      cases r with
      | exf hx _ _ => exact ⟨_, eu, v, kv, b, rfl, hr, hk, .inr ⟨_, _, rfl, hx⟩, q _ H W (Step.refl _ _) S (.bl b)⟩
    · exact (show False from q).elim
  · exact (show False from q).elim
theorem dXf {f : Str} (P : PinX X a oe C d) (T : XfC X.K C) (hno : PySem.W.findIn X.K (.ref C) f = some none) (hN : X.N[i]? = some e) (hv : Vis X.env.scope e) (hd : (e == ("__debug__" : Str)) = false) (hcd : (e == ("__classdict__" : Str)) = false)
    (hb : attributeBase (.Name e p1) f X.env (eval (.Name e p1) X.env) = eval (.Name e p1) X.env) : PE X (.Attribute (.Name e p1) f pos) (tE X.K c Wx (mXf a d i f)) := by
  refine ⟨fun pins s σ H Q I h => ?_⟩
  obtain ⟨W, st, env, S, E, q⟩ := h
  unfold mXf at q
  split at q
  · rename_i a' d' ks vs d0 hev
    split at q
    · rename_i ha
      obtain ⟨rfl, rfl⟩ := ha
      obtain ⟨u, eu, r⟩ := E.get i _ hev
      cases r with
      | exf hx hks hrs =>
        rename_i fs
        obtain ⟨y, hy, q1⟩ := q.of
        obtain ⟨vv, hl, rv⟩ := lookup_zip hks hrs hy
        have pv : PE X (.Name e p1) _ := pe_var (pos := p1) hN hv hd hcd
        refine attr_of hb (thn (pv.run pins s σ H (fun z H1 => z = .ref a' ∧ H1 = H) I ⟨_, eu, rfl, rfl⟩) fun z s1 hh => ?_)
        obtain ⟨zv, H1, I1, rz, rfl, rfl⟩ := hh
        obtain rfl : z = Value.ref a' := rz
        have there := (I1.pin (a', oe) (List.mem_append_left _ P.mem)).1
        obtain ⟨ws, hw⟩ := P.flds
        obtain ⟨mA, hns, hr⟩ := (show ObjOk X.prog X.w H1 s1.heap d' (.xd fs) from I1.hok d' _ hx)
        obtain ⟨ob, ho, hlk⟩ := lookIn_ns hns
        obtain ⟨u2, hu, ru⟩ := RelO.some_of (v := vv) (o := mA f) (by rw [← hl]; exact hr f)
        have J : PySem.W.InstAt s1.heap a' oe C (some ob) := ⟨there, P.cls, by unfold PySem.W.notCls; rw [hw] <;> rfl, by rw [P.dict]; exact ho⟩
        exact HandSPX.exc_get I1.kIn J T.ga T.gg T.exC (PySem.W.findObj_own T.hdC hno rfl (by rw [hlk, hu])) (handed_of ru) ⟨vv, H1, I1.tok _, ru, q1 _ H1 W (Step.refl _ _) S rv⟩
    · exact (show False from q).elim
  · exact (show False from q).elim
end
end RP
end
section
set_option Elab.async false
set_option linter.all false
set_option maxRecDepth 100000
set_option maxHeartbeats 2000000
namespace RP
open PySem PySem.Spec PyProof.Rows L2
def isX (x C : Str) : Bool := decide (x = C) || (decide (C = "PlanError") || decide (C = "ValueError"))
def excV (a : Nat) (d : Option Nat) (fs : List (Str × D)) : D := match d with
  | none => .exc a
  | some b => .exf a b (fs.map (·.1)) (fs.map (·.2))
def dOf (x : Xc) (d : Nat) : Option Nat := if x.fs.isEmpty then none else some d
def outS (i : Nat) : RS → RS
  | .nx env st => .nx (env.set i none) st
  | .bk env st => .bk (env.set i none) st
  | .ct env st => .ct (env.set i none) st
  | .rt d st => .rt d st
  | .er _ _ _ => .no
  | .no => .no
def suiteS (i : Nat) (mb : Nat → Option Nat → Xc → MS) (c : Call) (x : Xc) (env : Env) (st : St) (a d : Nat) : RS := outS i (mb a (dOf x d) x c (env.set i (some (excV a (dOf x d) x.fs))) st)
open Classical in
noncomputable def sTryAs (tks : List (Str × Bool)) (i : Nat) (ma : MS) (mb : Nat → Option Nat → Xc → MS) : MS := fun c env st => match ma c env st with
  | .er x env1 st1 => (match tks.lookup x.cls with
    | some true => if ∀ a d, suiteS i mb c x env1 st1 a d = suiteS i mb c x env1 st1 0 0 then suiteS i mb c x env1 st1 0 0 else .no
    | some false => .er x env1 st1
    | none => .no)
  | r => r
theorem EnvR.gone {K : PySem.W.Frag} {H : Hp} {W : Wd} {σ : L2.St} {env : Env} (i : Nat) (E : EnvR K H W σ env) : EnvR K H W (σ.set i none) (env.set i none) := by
  refine ⟨by simp [E.len], fun j d h => ?_⟩
  by_cases e : i = j
  · subst e
    by_cases hl : i < env.length
    · rw [List.getElem?_set_self hl] at h; cases h
    · rw [List.getElem?_eq_none (by simpa using hl)] at h; cases h
  · rw [List.getElem?_set_ne e] at h
    rw [List.getElem?_set_ne e]
    exact E.get j d h
theorem dOf_of {x : Xc} {dd : Option Addr} {K : PySem.W.Frag} {H : Hp} {W : Wd} {cls : Value} (h : XRep K H W x cls dd) : ∃ d, dOf x d = dd := by
  obtain ⟨_, h⟩ := h
  rcases h with ⟨rfl, h⟩ | ⟨b, fs, rfl, _, _, _, h⟩
  · exact ⟨0, by simp [dOf, h]⟩
  · exact ⟨b, by simp [dOf, h]⟩
theorem excV_rep {x : Xc} {dd : Option Addr} {K : PySem.W.Frag} {H : Hp} {W : Wd} {cls : Value} (h : XRep K H W x cls dd) (a : Addr) : Rep K H W (.ref a) (excV a dd x.fs) := by
  obtain ⟨_, h⟩ := h
  rcases h with ⟨rfl, h⟩ | ⟨b, fs, rfl, h1, h2, h3, h⟩
  · exact .exc a
  · exact .exf h1 h2 h3
section
variable {X : Cx} {c : Call} {Wx : WX}
theorem sTryAsD {y n : Str} {i : Nat} {tks : List (Str × Bool)} {ma : MS} {mb : Nat → Option Nat → Xc → MS} {body suite : List Stmt} {b0 : Stmt} {np pos pos' : Pos} (hs : X.stack = X.env :: X.outer) (hf : X.env.frame = some X.env.locals) (hN : X.N.Nodup) (hi : X.N[i]? = some n) (hln : X.env.kindOf n = some .local)
    (hg : Gl X y) (hdb : (y == ("__debug__" : Str)) = false) (hm : gF y X.w X.K X.mg) (tk : L2N.Takes X Wx) (htk : All (fun p => eF p.1 y p.2 X.w X.K X.mg) tks)
    (hb : ∀ (W : WX) (pn : List (Addr × Obj)) (xe : Value → Shared → Prop), L2N.Takes (X.tr pn xe) W → PassesOwn (model X.prog X.w) X.A X.env xe → PSs (X.tr pn xe) body (tSs X.K c W ma))
    (hsu : ∀ (a : Addr) (oe : Obj) (d : Option Addr) (pn : List (Addr × Obj)) (x : Xc), tks.lookup x.cls = some true → PinX (X.suite a ((a, oe) :: pn)) a oe (He.ga X.K x.cls) d → L2H.Hot1 (X.suite a ((a, oe) :: pn)).A (a, oe) → PSs (X.suite a ((a, oe) :: pn)) (b0 :: suite) (tSs X.K c WF (mb a d x))) :
    PS X (.Try body [.ExceptHandler (some (.Name y np)) (some n) (b0 :: suite) pos'] [] [] pos) (tSs X.K c Wx (sTryAs tks i ma mb)) := by
  have htk' : ∀ (x : Str) (b : Bool), tks.lookup x = some b → PySem.W.exmOne X.K (.ref (He.ga X.K x)) (.ref (He.ga X.K y)) = some b := by
    clear hb hsu
    induction tks with
    | nil => intro x b h; cases h
    | cons p l ih =>
      intro x b h
      obtain ⟨px, pb⟩ := p
      by_cases e : x = px
      · subst e
        simp [List.lookup] at h
        subst h
        exact htk.1
      · have e' : (x == px) = false := by simpa using e
        simp [List.lookup, e'] at h
        exact ih htk.2 x b h
  refine PS.weak (L2N.ps_try_as (X := X) (pos := pos) (pos' := pos') (np := np) (c := .ref (He.ga X.K y)) (tb := fun W => tSs X.K c W ma) (ts := fun a cls d Dn σ H => ∃ x : Xc, tks.lookup x.cls = some true ∧ cls = .ref (He.ga X.K x.cls) ∧ tSs X.K c WF (mb a d x) Dn σ H) hs hf hN hi hln ⟨hg, hdb, .inl hm⟩ tk hb (fun a oe cls d pn hz hfl => ⟨fun pins s σ H Dn I h => ?_⟩)) fun Dn σ H h => ?_
  · obtain ⟨x, hx, rfl, h⟩ := h
    obtain ⟨vs, hv⟩ := hfl
    exact (hsu a oe d pn x hx ⟨List.mem_cons_self, hz.1, hz.2.1, vs, hv⟩ ⟨rfl, vs, hv, hz.2.2 vs hv⟩).run pins s σ H Dn I h
  · obtain ⟨W, st, env, S, E, p⟩ := h
    refine ⟨W, st, env, S, E, ?_⟩
    unfold sTryAs at p
    generalize ma c env st = r at p ⊢
    cases r with
    | nx env' st' => exact p
    | rt d st' => exact p
    | bk env' st' => exact p
    | ct env' st' => exact p
    | no => exact p
    | er x env1 st1 =>
      intro σ' H' W' cls dd T S' E' xr
      have xr' := xr
      obtain ⟨rfl, _⟩ := xr'
      dsimp only at p
      split at p
      · rename_i hl
        split at p
        · rename_i hall
          refine ⟨true, htk' _ _ hl, fun _ a ha => ⟨x, hl, rfl, W', st1, env1.set i (some (excV a dd x.fs)), S', E'.set (excV_rep xr a), ?_⟩, fun z => by cases z⟩
          obtain ⟨d0, hd0⟩ := dOf_of xr
          rw [← hall a d0] at p
          unfold suiteS at p
          rw [hd0] at p
          have p' := p.at T
          generalize mb a dd x c (env1.set i (some (excV a dd x.fs))) st1 = r2 at p' ⊢
          cases r2 with
          | nx env2 st2 => exact fun σ2 H2 W2 T2 S2 E2 => p' _ H2 W2 T2 S2 (E2.gone i)
          | bk env2 st2 => exact fun σ2 H2 W2 T2 S2 E2 => p' _ H2 W2 T2 S2 (E2.gone i)
          | ct env2 st2 => exact fun σ2 H2 W2 T2 S2 E2 => p' _ H2 W2 T2 S2 (E2.gone i)
          | rt d2 st2 => exact p'
          | er x2 env2 st2 => exact (show False from p').elim
          | no => exact (show False from p').elim
        · exact (show False from p).elim
      · rename_i hl
        exact ⟨false, htk' _ _ hl, (fun z => by cases z), fun _ => p σ' H' W' _ dd T S' E' xr⟩
      · exact (show False from p).elim
end
def excB (K : PySem.W.Frag) (C : Addr) : Bool := He.eqO (PySem.W.findIn K (.ref C) "__getattribute__") (some (some (.builtin "BaseException.__getattribute__"))) && (He.eqO (PySem.W.findIn K (.ref C) "__getattr__") (some none) && (decide (PySem.W.subIn K (.ref C) (.type "BaseException") = some true) &&
  (PySem.W.hasDictIn K C && (He.eqO (PySem.W.findIn K (.ref C) "__class__") (some (some (.builtin "object.__class__"))) && (He.eqO (PySem.W.specialIn K (.builtin "object.__class__") "__get__") (some (some (.builtin "getset_descriptor.__get__"))) && (decide (PySem.W.takesIn K (.builtin "object.__class__") = some true) && decide (PySem.W.mroIn K C (.type "object") = some true)))))))
theorem excB_ok {K : PySem.W.Frag} {C : Addr} (h : excB K C = true) : ExcC K C := by
  obtain ⟨h1, h⟩ := He.ba h
  obtain ⟨h2, h⟩ := He.ba h
  obtain ⟨h3, h⟩ := He.ba h
  obtain ⟨h4, h⟩ := He.ba h
  obtain ⟨h5, h⟩ := He.ba h
  obtain ⟨h6, h⟩ := He.ba h
  obtain ⟨h7, h8⟩ := He.ba h
  exact ⟨He.eqO_ok h1, He.eqO_ok h2, of_decide_eq_true h3, h4, He.eqO_ok h5, He.eqO_ok h6, of_decide_eq_true h7, of_decide_eq_true h8⟩
structure IsxK (cs : List Str) (x : Str) (K : PySem.W.Frag) : Prop where
  exc : ExcC K (He.ga K x)
  val : PySem.W.kitOne K (.ref (He.ga K x)) (.type "ValueError") = some (isX x "ValueError")
  own : ∀ C ∈ cs, PySem.W.kitOne K (.ref (He.ga K x)) (.ref (He.ga K C)) = some (isX x C)
def isxF (cs : List Str) (x : Str) : Fc := fun _ K _ => IsxK cs x K
def isxB (cs : List Str) (x : Str) (K : PySem.W.Frag) : Bool := excB K (He.ga K x) && (decide (PySem.W.kitOne K (.ref (He.ga K x)) (.type "ValueError") = some (isX x "ValueError")) && cs.all fun C => decide (PySem.W.kitOne K (.ref (He.ga K x)) (.ref (He.ga K C)) = some (isX x C)))
theorem isxB_ok {cs : List Str} {x : Str} {K : PySem.W.Frag} (h : isxB cs x K = true) : IsxK cs x K := by
  obtain ⟨h1, h⟩ := He.ba h
  obtain ⟨h2, h3⟩ := He.ba h
  exact ⟨excB_ok h1, of_decide_eq_true h2, fun C hC => of_decide_eq_true (List.all_eq_true.mp h3 C hC)⟩
theorem ExcC.xf {K : PySem.W.Frag} {C : Addr} (T : ExcC K C) : XfC K C := ⟨T.hg, T.hk, T.hs, T.hd⟩
theorem tk_all {P : Str → Prop} {x : Str} : ∀ {tks : List (Str × Bool)}, All (fun p => p.2 = true → P p.1) tks → tks.lookup x = some true → P x
  | [], _, h => by cases h
  | (y, b) :: l, ha, h => by
    by_cases e : x = y
    · subst e
      simp [List.lookup] at h
      exact ha.1 h
    · have e' : (x == y) = false := by simpa using e
      simp [List.lookup, e'] at h
      exact tk_all ha.2 h
def nfF (x f : Str) : Fc := fun _ K _ => PySem.W.findIn K (.ref (He.ga K x)) f = some none
def nfB (K : PySem.W.Frag) (x f : Str) : Bool := He.eqO (PySem.W.findIn K (.ref (He.ga K x)) f) (some none)
theorem nfB_ok {K : PySem.W.Frag} {x f : Str} (h : nfB K x f = true) : PySem.W.findIn K (.ref (He.ga K x)) f = some none := He.eqO_ok h
theorem All.mem {α : Type} {P : α → Prop} {x : α} : ∀ {l : List α}, All P l → x ∈ l → P x
  | y :: l, h, hm => by
    rcases List.mem_cons.mp hm with e | e
    · rw [e]; exact h.1
    · exact All.mem h.2 e
theorem RoomG.hot2 {k : Nat} {A : Around} {e : Value} (h : 2 ≤ k) (r : RoomG k A) : RoomP (A.mark (some e)) := ⟨by have := r.dp; show A.depth + 9 < _; omega, by have := r.un3; show A.units + 616 < _; omega⟩
theorem dCompHV {X : Cx} {c : Call} {Wx : WX} {elt tg iter : Expr} {ifs : List Expr} {scope : Scope} {own : List (Str × Nat)} {it : MI} {g : MG} {ts : MT} {me : ME} {is vs : List Nat} {p : Addr × Obj} {pos : Pos} (hv : own.map (·.2) = vs) (hot : L2H.Hot1 X.A p) (hp : p ∈ X.pn) (hN : X.N.Nodup) (hi : L2H.PIH X tg iter (tIs X.K c Wx it)) (ok : BlkOk X.N X.env.scope scope own) (his : ∀ i ∈ is, i ∈ vs)
    (hg : ∀ s H C cl fp, PG (blkP X s H scope (compEnvC scope cl C X.env) fp p) tg (tG X.K is g)) (ht : ∀ s H C cl fp, PTs (blkP X s H scope (compEnvC scope cl C X.env) fp p) ifs (tTs X.K c WF ts))
    (he : ∀ s H C cl fp, PE (blkP X s H scope (compEnvC scope cl C X.env) fp p) elt (tE X.K c WF me)) (hs : ∀ x, foldedSetIterable iter X.env x = pure x) :
    PE X (.ListComp elt [⟨tg, iter, ifs, 0⟩] scope pos) (tE X.K c Wx (mCompM vs it g ts me)) := by
  subst hv
  exact dCompHM hot hp hN hi ok his hg ht he hs
def noC : Call := fun _ _ _ => .no
noncomputable def bCls (a : Nat) (d : Option Nat) (x : Str) : MS :=
  (sSeq (sAsg (gNm 1) (mLst [(mIsE a d 0 (isX x "TooGreat")), (mIsE a d 0 (isX x "TooLong")), (mIsE a d 0 (isX x "NoPaper")), (mIsE a d 0 (isX x "NoText"))])) (sSeq (sAsg (gNm 1) (mOp2 addD (mVar 1) (mLst [(mIsE a d 0 (isX x "NoLine")), (mNot (mIsE a d 0 (isX x "ValueError")))]))) (sSeq (sAsg (gNm 2) (mLst [(mCst (.str "great")), (mCst (.str "long")), (mCst (.str "paper")), (mCst (.str "text")), (mCst (.str "line")), (mCst (.str "odd"))])) (sRet (mCompM [3] (iRange1 (mCst (.int 6))) (gNm 3) (tVal (mOp2 idxD (mVar 1) (mVar 3))) (mOp2 idxD (mVar 2) (mVar 3)))))))
def defF (st : Stmt) (q : Str) (ps : List Str) : Fc := fun _ K mg => ∃ f fd, mg q = some (.ref f) ∧ PySem.W.keepIn K (.ref f) = true ∧ FunD K q q (defArgs st) (defBody st) (defScope st) [] [] f fd ∧ Binds K fd ps []
def clsCs : List Str := ["TooGreat", "TooLong", "NoPaper", "NoText", "NoLine"]
structure ClsG (cs : List Str) (mg : Str → Option Value) (K : PySem.W.Frag) : Prop where
  own : ∀ C ∈ cs, mg C = some (.ref (He.ga K C))
  val : mg "ValueError" = none
  isi : mg "isinstance" = none
  rng : mg "range" = none
def clsGF (cs : List Str) : Fc := fun _ K mg => ClsG cs mg K
noncomputable def clsR (a : Nat) (d : Option Nat) (x : Str) (dv : D) (st : St) : R D := (runFn noC ⟨1, 4, bCls a d x⟩ [dv] st).calm
def spCls (cs : List Str) (K : PySem.W.Frag) : Addr × Obj → Sp := fun p vs H Q E => ∃ x d dv W st, IsxK cs x K ∧ p.2.cls = .ref (He.ga K x) ∧ p.2.dict = d ∧ (∃ ws, p.2.data = .fields ws) ∧ Sim K H W st ∧ Reps K H W vs [dv] ∧ Post K (fun cls d _ H => E cls d H) [] H W (clsR p.1 d x dv st) (Aft K H W Q)
def ClsOk (st : Stmt) (q : Str) (cs : List Str) : Prop := ∀ (P : Program) (w : World) (K : PySem.W.Frag) (mg : Str → Option Value) (base : Heap), defF st q ["_law_e"] w K mg → ClsG cs mg K → ∃ f fd, mg q = some (.ref f) ∧ PySem.W.keepIn K (.ref f) = true ∧ Binds K fd ["_law_e"] [] ∧ FnP P w K mg base f fd ["_law_e"] (spCls cs K)
theorem clsOk_of {st : Stmt} {q : Str} {n cs : List Str} (hS : FnScope n ["_law_e"] (defScope st)) (hn : n.length = 4)
    (hb : ∀ (P : Program) (w : World) (K : PySem.W.Frag) (mg : Str → Option Value) (base : Heap) (c : Call) (f : Addr) (cdv : Value) (A : Around) (up : List PySem.Env) (s : Shared) (H : Hp) (E : XK) (p : Addr × Obj) (x : Str) (d : Option Addr), ClsG cs mg K → IsxK cs x K → PinX (L2H.cxH (L2N.CX P w) P w K mg base n q (defScope st) f cdv A up s H E p) p.1 p.2 (He.ga K x) d →
      L2H.Hot1 A p → A.units + 610 < cLine → A.guards = some [] → PSs (L2H.cxH (L2N.CX P w) P w K mg base n q (defScope st) f cdv A up s H E p) (defBody st) (tSs K c (WL E) (bCls p.1 d x))) : ClsOk st q cs := by
  intro P w K mg base hd hG
  obtain ⟨f, fd, h1, h2, F, h3⟩ := hd
  refine ⟨f, fd, h1, h2, h3, fnP_of F hS (fun p vs H Q E h => ?_) fun cdv A up s H vs Q E p hot hu hgd h => ?_⟩
  · obtain ⟨x, d, dv, W, st, _, _, _, _, _, r, _⟩ := h
    exact r.length
  · obtain ⟨x, d, dv, W, st, hX, p1, p2, p3, S, r, po⟩ := h
    refine ⟨_, hb P w K mg base noC f cdv A up s H E p x d hG hX ⟨List.mem_cons_self, p1, p2, p3⟩ hot hu hgd, W, st, [dv].map some ++ List.replicate (n.length - [dv].length) none, S, start_env r, ?_⟩
    unfold clsR runFn at po
    have hc : ([dv] : List D).length = (⟨1, 4, bCls p.1 d x⟩ : Fn).np := rfl
    rw [if_pos hc] at po
    dsimp only at po
    have e3 : n.length - [dv].length = 4 - 1 := by rw [hn]; rfl
    rw [e3]
    generalize bCls p.1 d x noC ([dv].map some ++ List.replicate (4 - 1) none) st = r2 at po ⊢
    cases r2 with
    | nx env st1 =>
      obtain ⟨d2, st2, e⟩ := gc_ok_some st .non st1
      dsimp only at po
      rw [e] at po
      exact fun σ' H' W' T' S' E' => by
        obtain ⟨W2, T2, S2, r2⟩ := gc_ok S T' S' .non e
        exact po _ H' W2 T2 S2 r2
    | rt dd st1 =>
      obtain ⟨d2, st2, e⟩ := gc_ok_some st dd st1
      dsimp only at po
      rw [e] at po
      exact fun v H' W' T' S' R' => by
        obtain ⟨W2, T2, S2, r2⟩ := gc_ok S T' S' R' e
        exact po v H' W2 T2 S2 r2
    | bk env st1 => exact (show False from po).elim
    | ct env st1 => exact (show False from po).elim
    | er x env st1 => exact (show False from po).elim
    | no => exact (show False from po).elim
noncomputable def mCls (a : Nat) (d : Option Nat) (x : Str) (i : Nat) : ME := fun _ env st => match env[i]? with
  | some (some dv) => ice st (clsR a d x dv st)
  | _ => .no
theorem clsR_er {a : Nat} {d : Option Nat} {x : Str} {dv : D} {st : St} {y : Xc} {st' : St} : clsR a d x dv st ≠ .er y st' := by
  unfold clsR
  cases runFn noC ⟨1, 4, bCls a d x⟩ [dv] st <;> intro h <;> cases h
theorem dCls {X : Cx} {c : Call} {Wx : WX} {a : Addr} {oe : Obj} {d : Option Addr} {x e q : Str} {i : Nat} {st : Stmt} {cs : List Str} {p1 p2 pos : Pos} (ok : ClsOk st q cs) (hd : defF st q ["_law_e"] X.w X.K X.mg) (hG : clsGF cs X.w X.K X.mg) (P : PinX X a oe (He.ga X.K x) d) (hX : IsxK cs x X.K) (hot : L2H.Hot1 X.A (a, oe)) (hr : RoomP X.A) (hgd : X.A.guards = some [])
    (hN : X.N[i]? = some e) (hv : Vis X.env.scope e) (hde : (e == ("__debug__" : Str)) = false) (hcd : (e == ("__classdict__" : Str)) = false) (hg : Gl X q) (hdb : (q == ("__debug__" : Str)) = false) (he : starEach [.Name e p2] X.env = [(false, eval (.Name e p2) X.env)]) :
    PE X (.Call (.Name q p1) [.Name e p2] [] pos) (tE X.K c Wx (mCls a d x i)) := by
  obtain ⟨f, fd, h1, h2, h3, F⟩ := ok X.prog X.w X.K X.mg X.base hd hG
  refine PE.weak (pe_callP F hr hgd hot P.mem hg h1 h2 h3 (fun σ => L2N.passAt takesN σ) (pa_cons (pe_var (pos := p2) hN hv hde hcd) pa_nil he) hdb he rfl) fun σ H Q h => ?_
  obtain ⟨W, st, env, S, E, po⟩ := h
  unfold mCls at po
  split at po
  · rename_i dv hev
    obtain ⟨v, ev, r⟩ := E.get i _ hev
    refine ⟨v, ev, x, d, dv, W, st, hX, P.cls, P.dict, P.flds, S, .cons r .nil, ?_⟩
    have key := ice_ok (Wy := Wx) (τ := σ) S (fun _ _ _ h => h) (Step.refl H W) (fun _ _ h => h) po
    have ne : ∀ y st', clsR a d x dv st ≠ .er y st' := fun _ _ => clsR_er
    dsimp only
    generalize clsR a d x dv st = r3 at key ne ⊢
    cases r3 with
    | ok d2 st2 => exact key
    | er y st2 => exact absurd rfl (ne y st2)
    | no => exact key
  · exact (show False from po).elim
end RP
end
section
set_option Elab.async false
set_option linter.all false
set_option maxRecDepth 100000
set_option maxHeartbeats 2000000
namespace RP
open PySem PySem.Spec PyProof.Rows L2
section
variable {X : Cx} {x : Str} {D : Addr} {e : Expr} {es : List Expr} {ta : TA} {p1 p2 pos : Pos}
theorem pe_upInitN {pl : Sem Bool} (hg : Gl X x) (hm : X.mg x = some (.ref D)) (hdb : (x == ("__debug__" : Str)) = false) (sp : PySem.W.specialIn X.K (.ref D) "__getattribute__" = some (some (.builtin "type.__getattribute__")))
    (rd : PySem.W.readsIn X.K D (.type "type") = true) (fi : PySem.W.findCls X.K (.ref D) (.type "type") "__init__" = some (.val (.builtin "ValueError.__init__"))) (ha : PA X (e :: es) ta)
    (hev : eval (.Call (.Attribute (.Name x p1) "__init__" p2) (e :: es) [] pos) X.env = (do
      let ov ← eval (.Name x p1) X.env
      standAt p2.atName
      let (f, first) ← holding [ov] (getMethod ov "__init__" pl)
      callWith pos f first (backTo pos (starEach (e :: es) X.env)) (backToKw pos (keywordEach [] X.env))))
    (hst : starEach (e :: es) X.env = (false, eval e X.env) :: starEach es X.env) (hpl : (backTo pos (starEach es X.env)).any (·.1) = false) : PE X (.Call (.Attribute (.Name x p1) "__init__" p2) (e :: es) [] pos) (tVeI X.K ta) :=
  ⟨fun pins s σ H Q I h => by
    refine PySem.W.methodCall_KW (ld_glob I hg hm (PySem.W.method_cls I.kIn sp (PySem.W.cls_value I.kIn rd fi (by decide +kernel) ?_)) hdb) hev
    refine PyProof.Rows.callWith_method1 (thn (ha.run pos pins _ σ H _ (I.tok _) h) fun us s1 h1 => ?_) hst hpl
    obtain ⟨vs, H1, J, rs, a, C, ws, rfl, hl, T, ea, q⟩ := h1
    cases rs with
    | cons r0 rr =>
      cases r0
      refine oinit_ok T J ea ?_ fun s' J' => ⟨.non, H1, J', rfl, q⟩
      have := rr.length
      rw [sizeLine_eq]
      omega⟩
end
def spIniF (K : PySem.W.Frag) (fs : List Str) : Sp := fun vs H Q E => ∃ (a C : Addr) (ws : List V), vs = .ref a :: ws ∧ ws.length = fs.length ∧ OexC K C ∧ (∀ f ∈ fs, PySem.W.findIn K (.ref C) f = some none) ∧ H a = some (exo a C none) ∧
  ∀ (dx : Addr) (H2 : Hp), H dx = none → dx ≠ a → H2 a = some (exo a C (some dx)) → H2 dx = some (exd dx (fs.zip ws).reverse) → (∀ b, b ≠ a → b ≠ dx → H2 b = H b) → Q .non H2
theorem mk_fields {X : Cx} {x : Str} {C fI : Addr} {k : Nat} {fd : FuncData} {ps fs : List Str} {e : Expr} {es : List Expr} {ta : TA} {p pos : Pos} (T : OexC X.K C) (hno : ∀ f ∈ fs, PySem.W.findIn X.K (.ref C) f = some none) (iC : PySem.W.findIn X.K (.ref C) "__init__" = some (some (.ref fI))) (tI : PySem.W.typeIn X.K (.ref fI) = some (.type "function"))
    (Fi : FnG X.prog X.w X.K X.mg X.base k fI fd ps (spIniF X.K fs)) (hr : RoomG (k + 1) X.A) (hgd : X.A.guards = some []) (hb : Binds X.K fd ps []) (hg : Gl X x) (hm : X.mg x = some (.ref C)) (hdb : (x == ("__debug__" : Str)) = false)
    (ha : PA X (e :: es) ta) (he : starEach (e :: es) X.env = (false, eval e X.env) :: starEach es X.env) (hpl : (backTo pos (starEach es X.env)).any (·.1) = false) :
    L2N.PMk X (.Call (.Name x p) (e :: es) [] pos) (fun σ H Q => ta σ H fun vs H1 => vs.length = fs.length ∧ vs.length ≤ 1000 ∧ ∀ d, H1 d = none → Q (.ref C) (some d) (upd H1 d (.xd (fs.zip vs).reverse))) := by
  intro pins s σ H Q I h
  obtain ⟨nm, qn, N, bs, bm, sn, sub, ab, col, dd, k0, k1, k2, k3, k5, hC, hbm⟩ := T.cls
  refine wpAny_Call_Name_kw (ld_glob I hg hm (PySem.W.callWith_K (h₀ := X.base) I.ok.mod.kin T.kC (thn (ha.run pos pins s σ H _ I h) fun us s1 ⟨vs, H1, I1, r1, hl1, hz, q⟩ => ⟨I1.kIn, ?_⟩) he hpl) hdb)
  show wpAny _ _ (call (.ref C) us) _ _ _
  obtain ⟨hA, gA, dA, tA, oA⟩ := s1
  have sz : hA.objs.size ≤ hA.objs.size + 1 := Nat.le_succ _
  have keep : ∀ b o, hA.get? b = some o → ((hA.push (PySem.W.kdv_tup us)).push (PySem.HandSPX.excO C hA.objs.size)).get? b = some o := fun b o z => Heap.get?_push_of_some _ (Heap.get?_push_of_some _ z)
  have here : ((hA.push (PySem.W.kdv_tup us)).push (PySem.HandSPX.excO C hA.objs.size)).get? (hA.objs.size + 1) = some (PySem.HandSPX.excO C hA.objs.size) := by heap_get
  have hn : H1 (hA.objs.size + 1) = none := I1.hok.fresh sz
  have J := I1.laid (t' := tA) (a := hA.objs.size + 1) (o := exo (hA.objs.size + 1) C none) (h' := (hA.push (PySem.W.kdv_tup us)).push (PySem.HandSPX.excO C hA.objs.size)) keep sz (exo_ok here)
  have hq : spIniF X.K fs (V.ref (hA.objs.size + 1) :: vs) (upd H1 (hA.objs.size + 1) (exo (hA.objs.size + 1) C none)) (fun v H2 => v = .non ∧ ∃ dx, H1 dx = none ∧ dx ≠ hA.objs.size + 1 ∧ H2 (hA.objs.size + 1) = some (exo (hA.objs.size + 1) C (some dx)) ∧ H2 dx = some (exd dx (fs.zip vs).reverse) ∧ ∀ b, b ≠ hA.objs.size + 1 → b ≠ dx → H2 b = H1 b) (fun _ _ _ => False) :=
    ⟨_, _, _, rfl, hl1, T, hno, upd_same, fun dx H2 n1 n2 n3 n4 n5 => ⟨rfl, dx, by rw [upd_ne n2] at n1; exact n1, n2, n3, n4, fun b b1 b2 => by rw [n5 b b1 b2, upd_ne b1]⟩⟩
  have r2 : Vals (V.ref (hA.objs.size + 1) :: vs) (Value.ref (hA.objs.size + 1) :: us) := .cons rfl r1
  have hl : (Value.ref (hA.objs.size + 1) :: us).length = ps.length := by rw [← r2.length]; exact Fi.len _ _ _ _ hq
  have hus : us.length ≤ sizeLine := by
    rw [← Paired.length r1, sizeLine_eq]
    omega
  refine wpAny_call (PySem.HandSPX.call_own PySem.F.excBase_ValueError (fun Y => PySem.HandSPX.refsVE_contains Y bm hbm) (I1.kIn _ _ hC) (PySem.W.looks_findIn I1.kIn iC) (fun self => PySem.W.bind_fn I1.kIn self tI) hus ?_)
  refine codeAny_mono (Fi.run _ X.stack _ _ ⟨Value.ref (hA.objs.size + 1) :: us, []⟩ (Value.ref (hA.objs.size + 1) :: us) (V.ref (hA.objs.size + 1) :: vs) _ (fun _ _ _ => False) { hd := hr.hd, dp := by rw [make_depth]; have := hr.dp; omega, un := by rw [make_units]; have := hr.un; omega, un3 := by rw [make_units]; have := hr.un3; omega } ?_ (J.env0.make C us []) ?_ r2 hq) fun r s' hr' => ?_
  · exact hgd
  · have bd := hb _ (Value.ref (hA.objs.size + 1) :: us) J.kIn (by rw [List.append_nil]; exact hl)
    rw [List.append_nil] at bd
    exact bd
  · cases r with
    | error er =>
      obtain ⟨_, _, _, _, _, _, _, _, _, _, _, _, hF⟩ := hr'
      exact hF.elim
    | ok fl =>
      cases fl with
      | ret u =>
        obtain ⟨v, H2, os2, br2, un2, hok2, rv, ev, dx, n1, n2, n3, n4, n5⟩ := hr'
        subst ev
        obtain ⟨h2, g2, d2, t2, o2⟩ := s'
        obtain ⟨t0, G, J2, kG, ge, hoe, na⟩ := mk_end0 (d2 := d2) (t2 := t2) I1 sz keep un2 hok2 os2 br2 n3 n4 n1
        have eH : upd (del H2 (hA.objs.size + 1)) dx (.xd (fs.zip vs).reverse) = upd H1 dx (.xd (fs.zip vs).reverse) := by
          funext b
          by_cases hb1 : b = dx
          · rw [hb1, upd_same, upd_same]
          · rw [upd_ne hb1, upd_ne hb1]
            by_cases hb2 : b = hA.objs.size + 1
            · rw [hb2, del_same, hn]
            · rw [del_ne hb2]; exact n5 b hb2 hb1
        rw [eH] at J2 na
        exact ⟨rv, _, _, _, ⟨G, g2, d2, t2, o2⟩, _, .ref C, some dx, rfl, J2, kG, ge, hoe, ⟨rfl, rfl, fun vs e => by cases e; rfl⟩, rfl, rfl, na, rfl, br2, raises_own T.exC T.tyC, q dx n1⟩
      | next => exact (show False from hr').elim
      | brk => exact (show False from hr').elim
      | cont => exact (show False from hr').elim
def sRaiseF (x : Str) (fs : List Str) (ms : List ME) : MS := fun c env st => RS.ofR (mArgs ms c env st) env fun ds st1 => if ds.length = fs.length ∧ ds ≠ [] ∧ ds.length ≤ 1000 then .er ⟨x, (fs.zip ds).reverse⟩ env st1 else .no
def xfF (x y : Str) (q : Str) (st : Stmt) (fs : List Str) : Fc := fun _ K mg => mg x = some (.ref (He.ga K x)) ∧ mg y = some (.ref (He.ga K y)) ∧ XcK K x y ∧ (∀ f ∈ fs, PySem.W.findIn K (.ref (He.ga K x)) f = some none) ∧ ∃ fd, FunD K "__init__" q (defArgs st) (defBody st) (defScope st) [] [] (He.ma K (He.ga K x) "__init__") fd ∧ Binds K fd ("self" :: fs) []
def IniFOk (x y q : Str) (st : Stmt) (fs : List Str) : Prop := ∀ (P : Program) (w : World) (K : PySem.W.Frag) (mg : Str → Option Value) (base : Heap), xfF x y q st fs w K mg → ∃ fd, Binds K fd ("self" :: fs) [] ∧ FnG P w K mg base 1 (He.ma K (He.ga K x) "__init__") fd ("self" :: fs) (spIniF K fs)
theorem iniF_len {K : PySem.W.Frag} {fs : List Str} : ∀ vs H Q E, spIniF K fs vs H Q E → vs.length = (("self" : Str) :: fs).length := fun vs H Q E h => by obtain ⟨b, C, ws, rfl, hl, _⟩ := h; simp [hl]
def nofB (K : PySem.W.Frag) (x : Str) (fs : List Str) : Bool := fs.all fun f => He.eqO (PySem.W.findIn K (.ref (He.ga K x)) f) (some none)
theorem nofB_ok {K : PySem.W.Frag} {x : Str} {fs : List Str} (h : nofB K x fs = true) : ∀ f ∈ fs, PySem.W.findIn K (.ref (He.ga K x)) f = some none := fun f hf => He.eqO_ok (List.all_eq_true.mp h f hf)
theorem zip_fst {α β : Type} : ∀ {xs : List α} {ys : List β}, ys.length = xs.length → (xs.zip ys).map (·.1) = xs
  | [], [], _ => rfl
  | x :: xs, y :: ys, h => by simp [zip_fst (xs := xs) (ys := ys) (by simpa using h)]
theorem zip_snd {α β : Type} : ∀ {xs : List α} {ys : List β}, ys.length = xs.length → (xs.zip ys).map (·.2) = ys
  | [], [], _ => rfl
  | x :: xs, y :: ys, h => by simp [zip_snd (xs := xs) (ys := ys) (by simpa using h)]
theorem sRaiseFD {X : Cx} {c : Call} {Wx : WX} {x y q : Str} {st : Stmt} {fs : List Str} {n : Nat} {e : Expr} {es : List Expr} {ms : List ME} {p pos pos' : Pos} (hi : IniFOk x y q st fs) (hx : xfF x y q st fs X.w X.K X.mg) (h2 : 2 ≤ n) (hr : RoomG n X.A) (hgd : X.A.guards = some []) (hc : X.calm = true) (tk : L2N.Takes X Wx) (hg : Gl X x) (hdb : (x == ("__debug__" : Str)) = false)
    (ha : PA X (e :: es) (tAs X.K c Wx (mArgs ms))) (he : starEach (e :: es) X.env = (false, eval e X.env) :: starEach es X.env) (hpl : (backTo pos (starEach es X.env)).any (·.1) = false) :
    PS X (.Raise (some (.Call (.Name x p) (e :: es) [] pos)) none pos') (tSs X.K c Wx (sRaiseF x fs ms)) := by
  obtain ⟨fd, hb, F⟩ := hi X.prog X.w X.K X.mg X.base hx
  obtain ⟨hmx, hmy, k, hno, _⟩ := hx
  refine PS.weak (L2N.ps_raise (pos := pos') hc tk (mk_fields (p := p) (pos := pos) k.oex hno k.ini k.ity F { hd := hr.hd, dp := by have := hr.dp; omega, un := by have := hr.un; omega, un3 := by have := hr.un3; omega } hgd hb hg hmx hdb ha he hpl)) fun Dn σ H h => ?_
  obtain ⟨W, st, env, S, E, p⟩ := h
  refine ⟨W, st, env, S, E, (p.ofR S E).mono fun ds st1 p1 vs H1 W1 T1 S1 R1 => ?_⟩
  split at p1
  · rename_i hl
    have lv := R1.length
    refine ⟨by omega, by omega, fun d hd => ?_⟩
    have T2 := Step.temp S1 (o := .xd (fs.zip vs).reverse) hd
    refine p1 σ _ W1 _ (some d) (T1.trans T2) (S1.temp hd) (E.step S (T1.trans T2)) ⟨rfl, .inr ⟨d, _, rfl, upd_same, ?_, ?_, ?_⟩⟩
    · rw [List.map_reverse, List.map_reverse, zip_fst (by omega), zip_fst (by omega)]
    · rw [List.map_reverse, List.map_reverse, zip_snd (by omega), zip_snd (by omega)]
      exact (R1.step S1 T2).reverse
    · obtain ⟨z1, z2, _⟩ := hl
      cases ds with
      | nil => exact absurd rfl z2
      | cons d0 ds =>
        cases fs with
        | nil => simp at z1
        | cons f0 fs => simp
  · exact (show False from p1).elim
end RP
end
section
set_option Elab.async false
set_option linter.all false
set_option maxRecDepth 100000
set_option maxHeartbeats 1000000
namespace RP
open PySem PySem.Spec PyProof.Rows L2
def eqK (ks2 vs2 : List D) : List D → List D → Bool
  | k :: ks, v :: vs => (match look ks2 vs2 k with
    | some y => eqD v y
    | none => false) && eqK ks2 vs2 ks vs
  | _, _ => true
def eqDc (st : St) (x y : D) : Option Bool := match see st x, see st y with
  | .dct ks vs, .dct ks2 vs2 => if (plns vs && plns vs2) && decide (min (deps vs) (deps vs2) ≤ 500) then some (decide (ks.length = ks2.length) && eqK ks2 vs2 ks vs) else none
  | _, _ => none
def eqKB (st : St) (x y : D) : Option D := bD (eqDc st x y)
def neKB (st : St) (x y : D) : Option D := bD ((eqDc st x y).map not)
theorem ib_eqK : IsBl eqKB := fun _ _ _ _ h => isBl_bD h
theorem ib_neK : IsBl neKB := fun _ _ _ _ h => isBl_bD h
theorem look_mem {x y : D} : ∀ {ks vs : List D}, look ks vs x = some y → y ∈ vs
  | [], _, h => by simp [look] at h
  | k :: ks, [], h => by simp [look] at h
  | k :: ks, v :: vs, h => by
    rw [look] at h
    split at h
    · cases h; exact List.mem_cons_self
    · exact List.mem_cons_of_mem _ (look_mem h)
theorem plns_mem {d : D} : ∀ {ds : List D}, plns ds = true → d ∈ ds → pln d = true
  | x :: xs, h, hm => by
    simp only [plns, Bool.and_eq_true] at h
    rcases List.mem_cons.mp hm with e | e
    · rw [e]; exact h.1
    · exact plns_mem h.2 e
theorem deps_mem {d : D} : ∀ {ds : List D}, d ∈ ds → dep d ≤ deps ds
  | x :: xs, hm => by
    rw [deps]
    rcases List.mem_cons.mp hm with e | e
    · rw [e]; exact Nat.le_max_left _ _
    · exact Nat.le_trans (deps_mem e) (Nat.le_max_right _ _)
section
variable {X : Cx}
theorem hitsL {pins : List (Addr × Obj)} {σ : L2.St} {H : Hp} {s : Shared} {W : Wd} {A : Around} {kb : List (Key × V)} {ub : List (Key × Value)} {ks2 vs2 : List D} (I : Inv X pins σ H s) (hu : A.units + 500 < cLine) (rb : KV kb ub) (r1 : Reps X.K H W (kb.map fun kv => kV kv.1) ks2) (r2 : Reps X.K H W (kb.map (·.2)) vs2) (p2 : plns vs2 = true) :
    ∀ {ka : List (Key × V)} {ua : List (Key × Value)} {ks vs : List D}, KV ka ua → Reps X.K H W (ka.map fun kv => kV kv.1) ks → Reps X.K H W (ka.map (·.2)) vs → plns vs = true → min (deps vs) (deps vs2) ≤ 500 → PySem.W.KeqHits A s ub ua (eqK ks2 vs2 ks vs)
  | [], _, _, _, .nil, .nil, .nil, _, _ => .nil
  | (k, v) :: ka, (k', u) :: ua, kd :: ks, vd :: vs, .cons h ra, .cons q1 ra1, .cons q2 ra2, hp, hd => by
    obtain ⟨he, hr⟩ := h
    dsimp only at he hr
    subst he
    simp only [plns, Bool.and_eq_true] at hp
    have hd' : min (deps vs) (deps vs2) ≤ 500 := by rw [deps] at hd; omega
    have lk := look_val r1 r2 q1
    have kv := rb.val k
    rw [eqK]
    cases e : look ks2 vs2 kd with
    | none =>
      rw [lk.2 e] at kv
      have hn : valueAt ub k = none := by
        cases h2 : valueAt ub k with
        | none => rfl
        | some z => rw [h2] at kv; exact kv.elim
      simp only [Bool.false_and]
      exact .miss hn
    | some y =>
      obtain ⟨yv, e1, ry⟩ := lk.1 y e
      rw [e1] at kv
      obtain ⟨yu, h2, ru⟩ : ∃ yu, valueAt ub k = some yu ∧ RelV yv yu := by
        cases h2 : valueAt ub k with
        | none => rw [h2] at kv; exact kv.elim
        | some z => rw [h2] at kv; exact ⟨z, rfl, kv⟩
      have my := look_mem e
      refine .hit h2 (plEq I 500 A vd y v yv u yu ?_ hu (q2.pl _ hp.1) (ry.pl _ (plns_mem p2 my)) hr ru) (hitsL I hu rb r1 r2 p2 ra ra1 ra2 hp.2 hd')
      have := deps_mem my
      rw [deps] at hd
      omega
theorem op_eqK (hu : X.A.units + 501 < cLine) : OpR X (compareOp .Eq) (lift2 X.K eqKB) := by
  intro pins s σ H x y v u Q I rx ry h
  obtain ⟨W, st, dx, dy, d, S, r1, r2, e, q⟩ := h
  unfold eqKB bD at e
  obtain ⟨b, eb, rfl⟩ := Option.map_eq_some_iff.mp e
  have s1 := r1.saw S
  have s2 := r2.saw S
  unfold eqDc at eb
  generalize see st dx = ex at s1 eb
  generalize see st dy = ey at s2 eb
  split at eb
  · rename_i ks0 vs0 ks1 vs1
    split at eb
    · rename_i hc
      simp only [Bool.and_eq_true, decide_eq_true_eq] at hc
      cases eb
      obtain ⟨a, ka, rfl, ha, ra1, ra2⟩ := saw_dct s1
      obtain ⟨b, kb, rfl, hb, rb1, rb2⟩ := saw_dct s2
      cases rx
      cases ry
      obtain ⟨_, ya, ua, ra, da⟩ := dk_rd I.hok ha
      obtain ⟨_, yb, ub, rb, db⟩ := dk_rd I.hok hb
      refine PySem.W.keq_eq (knd := mixKind X.prog X.w) ya yb da db (by omega) (fun _ => hitsL I (by show X.A.units + 1 + 500 < _; omega) rb rb1 rb2 hc.1.2 ra ra1 ra2 hc.1.1 hc.2) ⟨.bl _, H, I, rfl, ?_⟩
      have l1 := ra1.length
      have l2 := rb1.length
      rw [List.length_map] at l1 l2
      have e1 : (ua.length == ub.length) = decide (ks0.length = ks1.length) := by rw [← ra.length, ← rb.length, l1, l2]; exact Bool.beq_eq_decide_eq _ _
      rw [e1]
      exact q _ H (Step.refl _ _) S (.bl _)
    · cases eb
  · cases eb
theorem op_neK (hu : X.A.units + 501 < cLine) : OpR X (compareOp .NotEq) (lift2 X.K neKB) := by
  intro pins s σ H x y v u Q I rx ry h
  obtain ⟨W, st, dx, dy, d, S, r1, r2, e, q⟩ := h
  unfold neKB bD at e
  obtain ⟨b', eb', rfl⟩ := Option.map_eq_some_iff.mp e
  obtain ⟨b, eb, rfl⟩ := Option.map_eq_some_iff.mp eb'
  have s1 := r1.saw S
  have s2 := r2.saw S
  unfold eqDc at eb
  generalize see st dx = ex at s1 eb
  generalize see st dy = ey at s2 eb
  split at eb
  · rename_i ks0 vs0 ks1 vs1
    split at eb
    · rename_i hc
      simp only [Bool.and_eq_true, decide_eq_true_eq] at hc
      cases eb
      obtain ⟨a, ka, rfl, ha, ra1, ra2⟩ := saw_dct s1
      obtain ⟨b, kb, rfl, hb, rb1, rb2⟩ := saw_dct s2
      cases rx
      cases ry
      obtain ⟨_, ya, ua, ra, da⟩ := dk_rd I.hok ha
      obtain ⟨_, yb, ub, rb, db⟩ := dk_rd I.hok hb
      refine PySem.W.keq_ne (knd := mixKind X.prog X.w) ya yb da db (by omega) (fun _ => hitsL I (by show X.A.units + 1 + 500 < _; omega) rb rb1 rb2 hc.1.2 ra ra1 ra2 hc.1.1 hc.2) ⟨.bl _, H, I, rfl, ?_⟩
      have l1 := ra1.length
      have l2 := rb1.length
      rw [List.length_map] at l1 l2
      have e1 : (ua.length == ub.length) = decide (ks0.length = ks1.length) := by rw [← ra.length, ← rb.length, l1, l2]; exact Bool.beq_eq_decide_eq _ _
      rw [e1]
      exact q _ H (Step.refl _ _) S (.bl _)
    · cases eb
  · cases eb
def xClearK : Meth := fun st o ds => match o, ds with
  | .ref n, [] => match st[n]? with
    | some (.dct ks vs) => some (.non, st.set n (.dct [] []))
    | _ => none
  | _, _ => none
theorem mt_clearK : MtR X "dict.clear" (liftM X.K xClearK) := fun pins s σ H x xs v us Q I rx rxs h => by
  obtain ⟨W, st, d, ds, d2, st2, S, r, rs, e, q⟩ := h
  unfold xClearK at e
  split at e
  · rename_i n
    split at e
    · rename_i ks vs hn
      cases e
      cases r with
      | ref hr =>
        rename_i a
        obtain ⟨kvs, hv, rk, rv⟩ := S.cell _ a _ hr hn
        cases rs
        cases rxs
        cases rx
        have T := Step.write S (o := .dK []) hr
        exact d_clear I hv fun s' J => ⟨.non, _, J, rfl, q .non _ W T (S.write hr ⟨[], upd_same, .nil, .nil⟩) .non⟩
    · cases e
  · cases e
variable {c : Call} {Wx : WX} {o : Expr} {mo : ME} {name : Str} {apos cpos : Pos} {id : String} {f : Meth}
theorem dDm0 (slot : Slot "dict" name id) (hty : typeOf (.builtin id) = pure (.type "method_descriptor")) (hm : MtR X id (liftM X.K f)) (ho : PE X o (tE X.K c Wx mo)) (hbase : attributeBase o name X.env (eval o X.env) = eval o X.env) (hline : (apos.endLine == cpos.line) = true) :
    PE X (.Call (.Attribute o name apos) [] [] cpos) (tE X.K c Wx (mDm f mo [])) :=
  PE.weak (pe_bm0 F.plainAttrs_dict slot hty hm ho hbase hline) fun σ H Q h => by
    obtain ⟨W, st, env, S, E, p⟩ := h
    refine ⟨W, st, env, S, E, p.bind.mono fun dx st1 p1 x H1 W1 T1 S1 R1 => ?_⟩
    split at p1
    · rename_i hl
      refine ⟨tyD S1 R1 hl, ?_⟩
      have p2 : Post X.K Wx σ H W (match f st1 dx [] with | some (d, st3) => R.ok d st3 | none => .no) (Aft X.K H W Q) := p1
      split at p2
      · rename_i d st3 he
        exact ⟨W1, st1, dx, [], d, st3, S1, R1, .nil, he, fun v H' W' T S' R => p2 v H' W' (T1.trans T) S' R⟩
      · exact (show False from p2).elim
    · exact (show False from p1).elim
end
end RP
end
section
set_option Elab.async false
set_option linter.all false
set_option maxRecDepth 100000
set_option maxHeartbeats 2000000
namespace RP
open PySem PySem.Spec PyProof.Rows L2
structure FnQ (P : Program) (w : World) (K : PySem.W.Frag) (mg : Str → Option Value) (base : Heap) (k : Nat) (f : Addr) (fd : FuncData) (ps : List Str) (sp : Addr × Obj → Sp) : Prop where
  len : ∀ p vs H Q E, sp p vs H Q E → vs.length = ps.length
  run : ∀ (A : Around) (up : List PySem.Env) (s : Shared) (H : Hp) (args : Args) (us : List Value) (vs : List V) (Q : VK) (E : XK) (p : Addr × Obj), RoomG k A → A.guards = some [] → L2H.PinOk up H s p → Env0 P w K mg base A up s H → BindsTo s fd args (ps.zip us) → Vals vs us → sp p vs H Q E →
    codeAny (model P w) A (.call (.ref f) args) (CR (L2N.CX P w) up P w H s Q E) s
abbrev cxQ (P : Program) (w : World) (K : PySem.W.Frag) (mg : Str → Option Value) (base : Heap) (N : List Str) (qual : Str) (scope : Scope) (f : Addr) (cd : Value) (A : Around) (outer : List PySem.Env) (s : Shared) (H : Hp) (E : XK) (p : Addr × Obj) : Cx :=
  (cxOf (L2N.CX P w) P w K mg base N qual scope f cd A outer s H E).tr [p] (cxOf (L2N.CX P w) P w K mg base N qual scope f cd A outer s H E).xe
section
variable {P : Program} {w : World} {K : PySem.W.Frag} {mg : Str → Option Value} {base : Heap} {a : Addr} {fd : FuncData}
theorem fnQ_of {N ps : List Str} {k : Nat} {sp : Addr × Obj → Sp} {x qual : Str} {params : Arguments} {body : List Stmt} {scope : Scope} (F : FunD K x qual params body scope [] [] a fd) (S : FnScope N ps scope) (len : ∀ p vs H Q E, sp p vs H Q E → vs.length = ps.length)
    (hbody : ∀ (cdv : Value) (A : Around) (up : List PySem.Env) (s : Shared) (H : Hp) (vs : List V) (Q : VK) (E : XK) (p : Addr × Obj), RoomB k (A.deeper (PyProof.Rows.envOfC qual scope s.heap.objs.size a cdv)) → (A.deeper (PyProof.Rows.envOfC qual scope s.heap.objs.size a cdv)).guards = some [] → sp p vs H Q E →
      ∃ t, PSs (cxQ P w K mg base N qual scope a cdv A up s H E p) body t ∧ t { nx := fun _ H' => Q .non H', rt := Q } (L2.start N vs) H) : FnQ P w K mg base (k + 1) a fd ps sp := by
  obtain ⟨oc, od, dV, kV, doc, pm, an, cdv, ct, osl, rfl, lk, hcd, _, _⟩ := F.ex
  refine ⟨len, fun A up s H args us vs Q E p hr hgd hpin e0 hb rv hsp => ?_⟩
  have old : ∀ b o, base.get? b = some o → s.heap.get? b = some o := fun b o e => (e0.bs b o e).1
  have kin : K.In s.heap := e0.mod.kin.keeps old
  have nlim : s.heap.NoLimit := e0.mod.nolimit.keeps old
  refine codeAny_call_function hr.depth (kin _ _ lk) rfl S.co S.gen rfl (PySem.W.codeRec_of kin hcd) (hb _ _ _ _ ?_)
  refine wpAny_newFunctionEnv_cells S.kind (fun y hy => (S.par y.1 (List.of_mem_zip hy).1).imp id fun z => ⟨z, PySem.W.cellsFrom_some _ _ _ (.inl z)⟩) fun env he s1 ic => ?_
  subst he
  refine ⟨nlim.keeps ic.toInCall.keep, codeAny_func ?_⟩
  obtain ⟨t, ht, hq⟩ := hbody cdv A up s H vs Q E p (roomB_of hr _) hgd hsp
  have I0 := inv_start (CX := L2N.CX P w) (E := E) S hr.hd e0 (len _ _ _ _ _ hsp) rv ic
  have I1 : Inv (cxOf (L2N.CX P w) P w K mg base N qual scope a cdv A up s H E) [p] (L2.start N vs) H s1 := { I0 with
    pin := fun z hz => by
      have ez : z = p := by simpa [cxOf] using hz
      rw [ez]
      exact ⟨ic.toInCall.keep _ _ hpin.get, hpin.free, Nat.ne_of_lt (Heap.lt_size hpin.get), hpin.nofs, hpin.nocell⟩ }
  refine wpAny_mono (ht.run [] s1 (L2.start N vs) H _ (I1.toTry _) hq) (fun fl s2 hs => ?_) fun _ _ hs => hs
  cases fl with
  | ret u => obtain ⟨v, σ2, H2, J, r2, q⟩ := hs; exact ⟨v, H2, J.os, J.bare, J.base, J.hok, r2, q⟩
  | next => obtain ⟨σ2, H2, J, q⟩ := hs; exact ⟨.non, H2, J.os, J.bare, J.base, J.hok, rfl, q⟩
  | brk => obtain ⟨_, _, _, q⟩ := hs; exact False.elim q
  | cont => obtain ⟨_, _, _, q⟩ := hs; exact False.elim q
end
structure NewX (X : Cx) (C : Addr) (pins : List (Addr × Obj)) (σ : L2.St) (H : Hp) (a : Addr) (oe : Obj) (s : Shared) : Prop where
  inv : Inv X pins σ H s
  pin : L2H.PinOk X.stack H s (a, oe)
  cls : oe.cls = .ref C
  dict : oe.dict = none
  flds : ∃ vs, oe.data = .fields vs
  nL : a ≠ X.env.locals
  nF : a ∉ X.fs
section
variable {X : Cx} {C : Addr} {x : Str} {p pos : Pos}
theorem mk_new (q : PySem.W.excIn X.K C [.type "ValueError", .type "Exception", .type "BaseException", .type "object"] "ValueError.__new__" = true) (gC : X.mg x = some (.ref C)) (kC : PySem.W.keepIn X.K (.ref C) = true) (hg : Gl X x) (hdb : (x == ("__debug__" : Str)) = false) {pins : List (Addr × Obj)} {s : Shared} {σ : L2.St} {H : Hp} (I : Inv X pins σ H s) :
    wpAny (model X.prog X.w) X.A (eval (.Call (.Name x p) [] [] pos) X.env) (fun u s1 => ∃ a oe, u = .ref a ∧ NewX X C pins σ H a oe s1) X.xe s := by
  refine wpAny_Call_Name_kw (ld_glob I hg gC (PySem.W.callWith_K0 I.kIn kC ?_) hdb)
  show wpAny _ _ (call (.ref C) []) _ _ _
  obtain ⟨bm, N, nm, qn, bs, hdct, sn, sub, ab, col, dd, k0, k1, k2, k3, k5, mN, hC, hN, hni, T⟩ := exc_obj I.kIn q
  refine wpAny_call_exc_subT PySem.F.excBase_ValueError T hC hN hni (fun h' a hm => ?_) (by show 0 ≤ sizeLine; omega)
  have hn : H a = none := I.hok.gone hm.new
  obtain ⟨t, ht, _, _⟩ := hm.there
  refine ⟨a, _, rfl, I.kept (t' := s.toks) hm.keeps, ⟨ht, hn, fun hf => ?_, fun v => by simp⟩, rfl, rfl, ⟨_, rfl⟩, fun e => ?_, fun hf => ?_⟩
  · obtain ⟨_, o, ho, _⟩ := I.stack.mem hf
    have hw := hm.new
    rw [ho] at hw
    cases hw
  · obtain ⟨m, hns, _⟩ := I.loc
    obtain ⟨o, es, ep, ho, _⟩ := hns
    have hw := hm.new
    rw [e, ho] at hw
    cases hw
  · obtain ⟨_, o, ho, _⟩ := I.funs.mem hf
    have hw := hm.new
    rw [ho] at hw
    cases hw
theorem pe_callQ {f : Addr} {fd : FuncData} {ps : List Str} {sp : Addr × Obj → Sp} {E : L2.St → XK} {y : Str} {k : Nat} {p1 pos0 : Pos} (F : FnQ X.prog X.w X.K X.mg X.base k f fd ps sp) (hr : RoomG k X.A) (hgd : X.A.guards = some []) (hgy : Gl X y) (hm : X.mg y = some (.ref f)) (hk : PySem.W.keepIn X.K (.ref f) = true) (hb : Binds X.K fd ps []) (hx : ∀ σ, PassesAt (L2N.CX X.prog X.w) X σ (E σ))
    (q : PySem.W.excIn X.K C [.type "ValueError", .type "Exception", .type "BaseException", .type "object"] "ValueError.__new__" = true) (gC : X.mg x = some (.ref C)) (kC : PySem.W.keepIn X.K (.ref C) = true) (hg : Gl X x) (hdb : (x == ("__debug__" : Str)) = false) (hdy : (y == ("__debug__" : Str)) = false)
    (he : starEach [.Call (.Name x p) [] [] pos] X.env = (false, eval (.Call (.Name x p) [] [] pos) X.env) :: starEach [] X.env) :
    PE X (.Call (.Name y p1) [.Call (.Name x p) [] [] pos] [] pos0) (fun σ H Q => ∀ a oe, oe.cls = .ref C → oe.dict = none → (∃ vs, oe.data = .fields vs) → sp (a, oe) [.ref a] H Q (E σ)) := ⟨fun pins s σ H Q I h => by
  refine PySem.wpAny_Call_Name_kw (ld_glob I hgy hm (PySem.W.callWith_K (h₀ := X.base) I.ok.mod.kin hk ?_ he rfl) hdy)
  rw [he]
  show wpAny _ _ (spliced ((false, eval (.Call (.Name x p) [] [] pos) X.env) :: backTo pos0 (starEach [] X.env))) _ _ s
  refine Calls.spliced_cons (thn (mk_new q gC kC hg hdb I) fun u s1 hu => ?_)
  obtain ⟨a, oe, rfl, N⟩ := hu
  refine Calls.spliced_nil ⟨N.inv.kIn, ?_⟩
  have hs := h a oe N.cls N.dict N.flds
  have hl : ([Value.ref a] : List Value).length = ps.length := F.len _ _ _ _ _ hs
  have bd := hb s1 [.ref a] N.inv.kIn (by rw [List.append_nil]; exact hl)
  rw [List.append_nil] at bd
  refine wpAny_call (codeAny_mono (F.run X.A X.stack s1 H ⟨[.ref a], []⟩ [.ref a] [.ref a] Q (E σ) (a, oe) hr hgd N.pin N.inv.env0 bd (.cons rfl .nil) hs) fun z s2 hz => ?_)
  rcases z with er | fl
  · exact hx σ pins H s1 er s2 N.inv hz
  · cases fl with
    | ret u => exact N.inv.after hz
    | _ => exact False.elim hz⟩
end
theorem pe_isNew {X : Cx} {C : Addr} {x y : Str} {kv : Value} {b : Bool} {p1 p2 p3 p4 pos : Pos} (T : ExcC X.K C) (q : PySem.W.excIn X.K C [.type "ValueError", .type "Exception", .type "BaseException", .type "object"] "ValueError.__new__" = true) (gC : X.mg x = some (.ref C)) (kC : PySem.W.keepIn X.K (.ref C) = true) (hg : Gl X x) (hdb : (x == ("__debug__" : Str)) = false)
    (hgi : Gl X "isinstance") (hm : X.mg "isinstance" = none) (hC : ClsN X y kv) (hk : PySem.W.kitOne X.K (.ref C) kv = some b) (he : starEach [.Call (.Name x p2) [] [] p3, .Name y p4] X.env = (false, eval (.Call (.Name x p2) [] [] p3) X.env) :: starEach [.Name y p4] X.env) (he2 : starEach [.Name y p4] X.env = [(false, eval (.Name y p4) X.env)]) :
    PE X (.Call (.Name "isinstance" p1) [.Call (.Name x p2) [] [] p3, .Name y p4] [] pos) (fun _ H Q => Q (.bl b) H) := ⟨fun pins s σ H Q I h => by
  obtain ⟨v, hp, hr⟩ := hC.pe
  refine wpAny_Call_Name_kw (ld_blt (u := .builtin "isinstance") I hgi hm (by decide +kernel) ?_ (by decide) rfl)
  refine PyProof.Rows.callWith_builtin1 (?_ : wpAny _ _ (spliced (backTo pos (starEach [.Call (.Name x p2) [] [] p3, .Name y p4] X.env))) _ _ s) he (by rw [he2]; rfl)
  rw [he]
  show wpAny _ _ (spliced ((false, eval (.Call (.Name x p2) [] [] p3) X.env) :: backTo pos (starEach [.Name y p4] X.env))) _ _ s
  refine Calls.spliced_cons (thn (mk_new q gC kC hg hdb I) fun u s1 hu => ?_)
  obtain ⟨a, oe, rfl, N⟩ := hu
  have pp : L2H.PinOk X.stack H s1 (a, oe) := N.pin
  have pe2 : PA X [.Name y p4] _ := pa_cons (hp p4) pa_nil he2
  have J1 : Inv X ((a, oe) :: pins) σ H s1 := { N.inv with
   pin := fun z hz => by
    rcases List.mem_append.mp hz with z1 | z1
    · exact N.inv.pin z (List.mem_append_left _ z1)
    · rcases List.mem_cons.mp z1 with z2 | z2
      · rw [z2]
        exact ⟨pp.get, pp.free, N.nL, N.nF, pp.nocell⟩
      · exact N.inv.pin z (List.mem_append_right _ z2) }
  refine thn (pe2.run pos ((a, oe) :: pins) s1 σ H (fun vs H1 => vs = [v] ∧ H1 = H) J1 ⟨rfl, rfl⟩) fun us s2 hh => ?_
  obtain ⟨vs, H1, J2, rv, rfl, rfl⟩ := hh
  cases rv with
  | cons r1 r2 =>
    cases r2
    have hk' := hr _ r1
    subst hk'
    have at2 := J2.pin (a, oe) (List.mem_append_right _ List.mem_cons_self)
    obtain ⟨ws, hw⟩ := N.flds
    have J3 : Inv X pins σ H1 s2 := { J2 with
     pin := fun z hz => by
      rcases List.mem_append.mp hz with z1 | z1
      · exact J2.pin z (List.mem_append_left _ z1)
      · exact J2.pin z (List.mem_append_right _ (List.mem_cons_of_mem _ z1)) }
    refine PySem.W.kia_one (kitE (x := a) (ox := oe) T) J3.kIn ⟨none, at2.1, N.cls, by unfold PySem.W.notCls; rw [hw], by rw [N.dict]; trivial⟩ hk (fun z => nomatch z) fun t => ⟨.bl b, H1, J3.kept (t' := t) (fun _ _ z => z), rfl, h⟩⟩
def ClsOkN (st : Stmt) (q : Str) (cs : List Str) : Prop := ∀ (P : Program) (w : World) (K : PySem.W.Frag) (mg : Str → Option Value) (base : Heap), defF st q ["_law_e"] w K mg → ClsG cs mg K → ∃ f fd, mg q = some (.ref f) ∧ PySem.W.keepIn K (.ref f) = true ∧ Binds K fd ["_law_e"] [] ∧ FnQ P w K mg base 1 f fd ["_law_e"] (spCls cs K)
theorem clsOkN_of {st : Stmt} {q : Str} {n cs : List Str} (hS : FnScope n ["_law_e"] (defScope st)) (hn : n.length = 4)
    (hb : ∀ (P : Program) (w : World) (K : PySem.W.Frag) (mg : Str → Option Value) (base : Heap) (c : Call) (f : Addr) (cdv : Value) (A : Around) (up : List PySem.Env) (s : Shared) (H : Hp) (E : XK) (p : Addr × Obj) (x : Str) (d : Option Addr), ClsG cs mg K → IsxK cs x K → PinX (cxQ P w K mg base n q (defScope st) f cdv A up s H E p) p.1 p.2 (He.ga K x) d →
      (A.deeper (PyProof.Rows.envOfC q (defScope st) s.heap.objs.size f cdv)).units + 501 < cLine → (A.deeper (PyProof.Rows.envOfC q (defScope st) s.heap.objs.size f cdv)).guards = some [] → PSs (cxQ P w K mg base n q (defScope st) f cdv A up s H E p) (defBody st) (tSs K c (WL E) (bCls p.1 d x))) : ClsOkN st q cs := by
  intro P w K mg base hd hG
  obtain ⟨f, fd, h1, h2, F, h3⟩ := hd
  refine ⟨f, fd, h1, h2, h3, fnQ_of (k := 0) F hS (fun p vs H Q E h => ?_) fun cdv A up s H vs Q E p hrB hgd h => ?_⟩
  · obtain ⟨x, d, dv, W, st, _, _, _, _, _, r, _⟩ := h
    exact r.length
  · obtain ⟨x, d, dv, W, st, hX, p1, p2, p3, S, r, po⟩ := h
    refine ⟨_, hb P w K mg base noC f cdv A up s H E p x d hG hX ⟨List.mem_cons_self, p1, p2, p3⟩ (by have := hrB.un3; omega) hgd, W, st, [dv].map some ++ List.replicate (n.length - [dv].length) none, S, start_env r, ?_⟩
    unfold clsR runFn at po
    have hc : ([dv] : List D).length = (⟨1, 4, bCls p.1 d x⟩ : Fn).np := rfl
    rw [if_pos hc] at po
    dsimp only at po
    have e3 : n.length - [dv].length = 4 - 1 := by rw [hn]; rfl
    rw [e3]
    generalize bCls p.1 d x noC ([dv].map some ++ List.replicate (4 - 1) none) st = r2 at po ⊢
    cases r2 with
    | nx env st1 =>
      obtain ⟨d2, st2, e⟩ := gc_ok_some st .non st1
      dsimp only at po
      rw [e] at po
      exact fun σ' H' W' T' S' E' => by
        obtain ⟨W2, T2, S2, r2⟩ := gc_ok S T' S' .non e
        exact po _ H' W2 T2 S2 r2
    | rt dd st1 =>
      obtain ⟨d2, st2, e⟩ := gc_ok_some st dd st1
      dsimp only at po
      rw [e] at po
      exact fun v H' W' T' S' R' => by
        obtain ⟨W2, T2, S2, r2⟩ := gc_ok S T' S' R' e
        exact po v H' W2 T2 S2 r2
    | bk env st1 => exact (show False from po).elim
    | ct env st1 => exact (show False from po).elim
    | er x env st1 => exact (show False from po).elim
    | no => exact (show False from po).elim
open Classical in
noncomputable def mClsN (x : Str) : ME := fun _ _ st => if ∀ a, clsR a none x (.exc a) st = clsR 0 none x (.exc 0) st then ice st (clsR 0 none x (.exc 0) st) else .no
structure NewK (K : PySem.W.Frag) (x : Str) : Prop where
  exi : PySem.W.excIn K (He.ga K x) [.type "ValueError", .type "Exception", .type "BaseException", .type "object"] "ValueError.__new__" = true
  keep : PySem.W.keepIn K (.ref (He.ga K x)) = true
def newF (x : Str) : Fc := fun _ K _ => NewK K x
def newB (K : PySem.W.Frag) (x : Str) : Bool := PySem.W.excIn K (He.ga K x) [.type "ValueError", .type "Exception", .type "BaseException", .type "object"] "ValueError.__new__" && PySem.W.keepIn K (.ref (He.ga K x))
theorem newB_ok {K : PySem.W.Frag} {x : Str} (h : newB K x = true) : NewK K x := ⟨(He.ba h).1, (He.ba h).2⟩
section
variable {X : Cx} {c : Call} {Wx : WX} {p1 p2 p3 p4 pos : Pos}
theorem dClsN {x q : Str} {st : Stmt} {cs : List Str} {k : Nat} (ok : ClsOkN st q cs) (hd : defF st q ["_law_e"] X.w X.K X.mg) (hG : clsGF cs X.w X.K X.mg) (hX : isxF cs x X.w X.K X.mg) (hN : newF x X.w X.K X.mg) (gC : gF x X.w X.K X.mg) (hk : 1 ≤ k) (hr : RoomG k X.A) (hgd : X.A.guards = some [])
    (hgx : Gl X x) (hdx : (x == ("__debug__" : Str)) = false) (hg : Gl X q) (hdb : (q == ("__debug__" : Str)) = false) (he : starEach [.Call (.Name x p2) [] [] p3] X.env = (false, eval (.Call (.Name x p2) [] [] p3) X.env) :: starEach [] X.env) :
    PE X (.Call (.Name q p1) [.Call (.Name x p2) [] [] p3] [] pos) (tE X.K c Wx (mClsN x)) := by
  obtain ⟨f, fd, h1, h2, h3, F⟩ := ok X.prog X.w X.K X.mg X.base hd hG
  refine PE.weak (pe_callQ F { hd := hr.hd, dp := by have := hr.dp; omega, un := by have := hr.un; omega, un3 := by have := hr.un3; omega } hgd hg h1 h2 h3 (fun σ => L2N.passAt takesN σ) hN.exi gC hN.keep hgx hdx hdb he) fun σ H Q h => ?_
  obtain ⟨W, st, env, S, E, po⟩ := h
  unfold mClsN at po
  split at po
  · rename_i hall
    intro a oe e1 e2 e3
    rw [← hall a] at po
    refine ⟨x, none, .exc a, W, st, hX, e1, e2, e3, S, .cons (.exc a) .nil, ?_⟩
    have key := ice_ok (Wy := Wx) (τ := σ) S (fun _ _ _ h => h) (Step.refl H W) (fun _ _ h => h) po
    have ne : ∀ y st', clsR a none x (.exc a) st ≠ .er y st' := fun _ _ => clsR_er
    generalize clsR a none x (.exc a) st = r3 at key ne ⊢
    cases r3 with
    | ok d2 st2 => exact key
    | er y st2 => exact absurd rfl (ne y st2)
    | no => exact key
  · exact (show False from po).elim
theorem dIsN {x y : Str} {kv : Value} {b : Bool} {cs : List Str} (hX : isxF cs x X.w X.K X.mg) (hN : newF x X.w X.K X.mg) (gC : gF x X.w X.K X.mg) (hgx : Gl X x) (hdx : (x == ("__debug__" : Str)) = false) (hgi : Gl X "isinstance") (hm : X.mg "isinstance" = none) (hC : ClsN X y kv) (hk : PySem.W.kitOne X.K (.ref (He.ga X.K x)) kv = some b)
    (he : starEach [.Call (.Name x p2) [] [] p3, .Name y p4] X.env = (false, eval (.Call (.Name x p2) [] [] p3) X.env) :: starEach [.Name y p4] X.env) (he2 : starEach [.Name y p4] X.env = [(false, eval (.Name y p4) X.env)]) :
    PE X (.Call (.Name "isinstance" p1) [.Call (.Name x p2) [] [] p3, .Name y p4] [] pos) (tE X.K c Wx (mCst (.bl b))) :=
  PE.weak (pe_isNew hX.exc hN.exi gC hN.keep hgx hdx hgi hm hC hk he he2) fun σ H Q h => by
    obtain ⟨W, st, env, S, E, po⟩ := h
    exact po _ H W (Step.refl _ _) S (.bl b)
end
noncomputable def mIce (me : ME) : ME := fun c env st => ice st (me c env st)
theorem dIce {X : Cx} {c : Call} {Wx : WX} {e : Expr} {me : ME} (h : PE X e (tE X.K c Wx me)) : PE X e (tE X.K c Wx (mIce me)) := PE.weak h fun σ H Q h => by
  obtain ⟨W, st, env, S, E, po⟩ := h
  exact ⟨W, st, env, S, E, ice_ok S (fun _ _ _ h => h) (Step.refl H W) (fun _ _ h => h) po⟩
end RP
end
section
set_option Elab.async false
set_option linter.all false
set_option maxRecDepth 100000
set_option maxHeartbeats 1000000
namespace RP
open PySem PySem.Spec PyProof.Rows L2
open Classical in
noncomputable def keysO (c : Call) (f : Str) (st : St) : List D → Option (List D)
  | [] => some []
  | x :: xs => match c f [x] st with
    | .ok k st' => if st' = st then (keysO c f st xs).map (k :: ·) else none
    | _ => none
def leP (p q : D × D) : Bool := !PySem.W.dataLt (toPy q.2) (toPy p.2)
def sortK (ds ks : List D) : List D := ((ds.zip ks).mergeSort leP).map (·.1)
def isT1 : D → Bool
  | .tup (_ :: _) => true
  | _ => false
def keyOkA (ks : List D) : Bool := plns ks && ks.all isT1 && ks.all (fun k => ks.all fun k' => PySem.W.alike (toPy k) (toPy k')) && ks.all (fun k => decide ((toPy k).depth ≤ 480))
noncomputable def sortKO (c : Call) (f : Str) (st : St) (x : D) : Option (List D) := match see st x with
  | .lst ds => match keysO c f st ds with
    | some ks => if keyOkA ks && decide (ds.length ≤ big) then some (sortK ds ks) else none
    | none => none
  | _ => none
noncomputable def mSortK (f : Str) (a : ME) : ME := fun c env st => (a c env st).bind fun x st1 => match sortKO c f st1 x with
  | some zs => .ok (.lst zs) st1
  | none => .no
noncomputable def mSortKM (f : Str) (a : ME) : ME := fun c env st => (a c env st).bind fun x st1 => match sortKO c f st1 x with
  | some zs => .ok (.ref st1.length) (st1 ++ [.lst zs])
  | none => .no
theorem keysO_at {c : Call} {f : Str} {st : St} : ∀ {ds ks : List D}, keysO c f st ds = some ks → ds.length = ks.length ∧ ∀ (i : Nat) (d k : D), ds[i]? = some d → ks[i]? = some k → c f [d] st = .ok k st
  | [], ks, h => by cases h; exact ⟨rfl, fun i d k h1 _ => by simp at h1⟩
  | x :: xs, ks, h => by
    unfold keysO at h
    split at h
    · rename_i k st' e
      split at h
      · rename_i hs
        subst hs
        obtain ⟨ks', e2, rfl⟩ := Option.map_eq_some_iff.mp h
        obtain ⟨l, a⟩ := keysO_at e2
        refine ⟨by simp [l], fun i d k' h1 h2 => ?_⟩
        cases i with
        | zero => cases h1; cases h2; exact e
        | succ i => exact a i d k' (by simpa using h1) (by simpa using h2)
      · cases h
    · cases h
section
variable {prog : Program} {w : World} {A : Around} {E : Value → Shared → Prop} {a kS : Addr} {vs : List Value} {e1 : Nat} {P : PySem.Fin → Shared → Prop} {f : Value}
theorem rest_by (Iv : Nat → Array Value → Shared → Prop) (hk : ∀ i kA s, Iv i kA s → kA.size = i ∧ ∃ e, s.heap.get? kS = some (seqObj "list" kA e)) (hZ : vs.length ≤ sizeLine)
    (turn : ∀ i v kA s, vs[i]? = some v → Iv i kA s → wpAny (model prog w) A (call f [v]) (fun u s2 => (∃ e, s2.heap.get? kS = some (seqObj "list" kA e)) ∧ Iv (i + 1) (kA.push u) { s2 with heap := s2.heap.update kS (Obj.mapSeq (·.push u)) }) (fun _ _ => False) s)
    (fin : ∀ kA s, Iv vs.length kA s → wpAny (model prog w) A (ksk_end a false vs.toArray e1 (.ref kS) kA) P E s) {s : Shared} (h0 : Iv 0 #[] s) :
    wpAny (model prog w) A (ksk_rest a f false vs.toArray e1 (.ref kS)) P E s := by
  unfold ksk_rest
  refine wpAny_bind (wpAny_rule ?_)
  rw [List.forIn_toArray]
  refine wpAny_bind (ksk_fold (fun i s' => ∃ kA, Iv i kA s') vs 0 s ⟨_, h0⟩ (fun j x s' hx ⟨kA, iv⟩ => ?_) fun s' ⟨kA, iv⟩ => ?_)
  · rw [Nat.zero_add] at iv ⊢
    obtain ⟨z, _⟩ := hk _ _ _ iv
    have hj := (List.getElem?_eq_some_iff.mp hx).1
    refine wpAny_bind (wpAny_attempt (wpAny_mono (turn j x kA s' hx iv) (fun u s2 ⟨⟨e, q⟩, iv2⟩ => ?_) fun _ _ hF => hF.elim))
    try dsimp only
    refine wpAny_bind (listUpdate_at q rfl ?_ (by omega) (by rw [Array.size_push]; omega))
    exact wpAny_pure ⟨rfl, _, iv2⟩
  · rw [Nat.zero_add] at iv
    obtain ⟨_, e, q⟩ := hk _ _ _ iv
    try dsimp only
    exact wpAny_bind (listItems_at q rfl (fin kA s' iv))
end
section
variable {P : Program} {w : World} {fs : List Addr} {H H1 : Hp} {h h1 h' : Heap} {a d : Addr} {o : HO}
theorem un_but (u : Un fs [] H H1 h h1) (ha : h.get? a = none) (hd : h.get? d = none) (k : ∀ b o, b ≠ a → b ≠ d → h1.get? b = some o → h'.get? b = some o) : Un fs [] H H1 h h' := by
  have na : ∀ b o, h.get? b = some o → b ≠ a ∧ b ≠ d := fun b o e => ⟨(fun z => by rw [z, ha] at e; cases e), (fun z => by rw [z, hd] at e; cases e)⟩
  refine ⟨fun b o e n hb hx => k b o (na b o e).1 (na b o e).2 (u.keep b o e n hb hx), fun b o e n hb hx => ?_, u.free, fun b o e hx => ?_, u.tups, u.frzs, u.tbls⟩
  · obtain ⟨sl, q⟩ := u.slot b o e n hb hx
    exact ⟨sl, k b _ (na b o e).1 (na b o e).2 q⟩
  · obtain ⟨o', q⟩ := u.there b o e hx
    exact ⟨o', k b _ (na b o e).1 (na b o e).2 q⟩
theorem hok_but (ok : HOk P w H1 h1) (ha : H1 a = none) (hd : H1 d = none) (k : ∀ b o, b ≠ a → b ≠ d → h1.get? b = some o → h'.get? b = some o) : HOk P w H1 h' := fun b u e => by
  have ne : ∀ c v, H1 c = some v → c ≠ a ∧ c ≠ d := fun c v e => ⟨(fun z => by rw [z, ha] at e; cases e), (fun z => by rw [z, hd] at e; cases e)⟩
  refine (ok b u e).stay (fun c v hc q => ?_) (fun _ q => q) fun _ _ q => q
  rcases hc with z | z
  · subst z; exact k _ _ (ne _ _ e).1 (ne _ _ e).2 q
  · exact k _ _ (ne _ _ z).1 (ne _ _ z).2 q
theorem un_track (u : Un fs [] H H1 h h') (ha : h.get? a = none) (na : H1 a = none) : Un fs [] H (upd H1 a o) h h' :=
  ⟨u.keep, u.slot, fun b ob e n hx => by rw [upd_ne (fun z => by rw [z, ha] at e; cases e)]; exact u.free b ob e n hx, u.there,
    fun b xs e => by rw [upd_ne (ne_of_none (u.tups b xs e) na)]; exact u.tups b xs e, fun b ob xs e => by rw [upd_ne (ne_of_none (u.frzs b ob xs e) na)]; exact u.frzs b ob xs e,
    fun b ps e => by obtain ⟨m, q⟩ := u.tbls b ps e; exact ⟨m, by rw [upd_ne (ne_of_none q na)]; exact q⟩⟩
theorem hok_track (ok : HOk P w H1 h') (na : H1 a = none) (new : ObjOk P w (upd H1 a o) h' a o) : HOk P w (upd H1 a o) h' := fun b u e => by
  by_cases hb : b = a
  · subst hb; rw [upd_same] at e; cases e; exact new
  · rw [upd_ne hb] at e
    exact (ok b u e).stay (fun c v _ q => q) (fun c q => by rw [upd_ne (ne_of_none q na)]; exact q) fun c xs q => by rw [upd_ne (ne_of_none q na)]; exact q
end
section
variable {X : Cx} {pins : List (Addr × Obj)} {σ : L2.St} {H : Hp} {W : Wd} {s : Shared}
theorem each_reads (I : L2.Inv X pins σ H s) : ∀ {xs : List V} {ds : List D} {us : List Value}, Reps X.K H W xs ds → plns ds = true → Vals xs us → PySem.W.EachIs (fun v d => ∃ as, Reads s.heap v d as) us (ds.map toPy)
  | _, _, _, .nil, _, r => by cases r; exact .nil
  | _, d :: ds, _, .cons h hs, e, r => by
    have e' : pln d = true ∧ plns ds = true := by simpa [plns] using e
    cases r with
    | cons r1 rr => exact .cons (Pl.reads I _ (h.pl _ e'.1) r1) (each_reads I hs e'.2 rr)
theorem each_rel : ∀ {xs : List V} {us : List Value} {ps : List (D × D)}, Vals xs us → xs.length = ps.length → PySem.W.EachIs (fun v (b : V × D × D) => RelV b.1 v) us (xs.zip ps)
  | _, _, [], .nil, _ => .nil
  | _, _, _ :: _, .nil, h => by simp at h
  | _, _, [], .cons _ _, h => by simp at h
  | _, _, p :: ps, .cons r t, h => .cons r (each_rel t (by simpa using h))
theorem each_vals : ∀ {us : List Value} {bs : List (V × D × D)}, PySem.W.EachIs (fun v (b : V × D × D) => RelV b.1 v) us bs → Vals (bs.map (·.1)) us
  | _, _, .nil => .nil
  | _, _, .cons r t => .cons r (each_vals t)
theorem reps_of : ∀ {bs : List (V × D × D)}, (∀ b ∈ bs, Rep X.K H W b.1 b.2.1) → Reps X.K H W (bs.map (·.1)) (bs.map (·.2.1))
  | [], _ => .nil
  | b :: bs, h => .cons (h b (by simp)) (reps_of fun x hx => h x (by simp [hx]))
theorem reps_zip : ∀ {xs : List V} {ds ks : List D}, Reps X.K H W xs ds → ∀ b ∈ xs.zip (ds.zip ks), Rep X.K H W b.1 b.2.1
  | _, _, _, .nil, b, hb => by simp at hb
  | _, _, [], .cons _ _, b, hb => by simp at hb
  | _, _, k :: ks, .cons h r, b, hb => by
    rw [List.zip_cons_cons, List.zip_cons_cons] at hb
    rcases List.mem_cons.mp hb with rfl | hb
    · exact h
    · exact reps_zip r b hb
theorem Reps.snoc {xs : List V} {ds : List D} {x : V} {d : D} (r : Reps X.K H W xs ds) (h : Rep X.K H W x d) : Reps X.K H W (xs ++ [x]) (ds ++ [d]) := r.append (.cons h .nil)
end
theorem RoomB.in11 {k : Nat} {A : Around} (r : RoomB k A) : RoomG k A.in1.in1 :=
  { hd := r.hd, dp := r.dp, un := by have := r.un2; show A.units + 1 + 1 + 16 * k + 200 < _; omega, un3 := by have := r.un4; show A.units + 1 + 1 + 16 * k + 600 < _; omega }
def rSortK (K : PySem.W.Frag) (c : Call) (f : Str) (fa : Addr) : List V → List V → Hp → VK → Prop := fun vs zs H Q => ∃ W st x dx ds, vs = [x] ∧ zs = [.ref fa] ∧ Sim K H W st ∧ Rep K H W x dx ∧ sortKO c f st dx = some ds ∧
  ∀ p H' W' xs, Step H W H' W' → Sim K H' W' st → Reps K H' W' xs ds → H' p = none → Q (.ref p) (upd H' p (.lst xs))
section
variable {X : Cx} {c : Call} {Wx : WX} {k : Nat} {f : Str} {fa : Addr} {fd : FuncData} {ps : List Str}
theorem call_sortK (F : FnG X.prog X.w X.K X.mg X.base k fa fd ps (spF X.K c f 1)) (hr : RoomG k X.A.in1.in1) (hgd : X.A.guards = some []) (hb : Binds X.K fd ps []) :
    CallRK X (.builtin "sorted") [Str.ofString "key"] (rSortK X.K c f fa) := by
  intro pins s σ H vs zs us ws Q I r rz h
  obtain ⟨W, st, x, dx, out, rfl, rfl, S, rx, e, q⟩ := h
  have sw := rx.saw S
  unfold sortKO at e
  generalize see st dx = ex at sw e
  split at e
  · rename_i ds
    split at e
    · rename_i ks hks
      split at e
      · rename_i hc
        cases e
        simp only [keyOkA, Bool.and_eq_true, decide_eq_true_eq] at hc
        obtain ⟨⟨⟨⟨hp, ht1⟩, hal⟩, hdp⟩, hbig⟩ := hc
        obtain ⟨hlen, hcall⟩ := keysO_at hks
        obtain ⟨l, xs, rfl, hl, rxs⟩ := saw_lst sw
        obtain rfl := Vals.ref1 r
        obtain ⟨w1, rfl, e1⟩ := vals1 rz
        obtain rfl : w1 = Value.ref fa := e1
        obtain ⟨its, rv, hL, hz⟩ := I.list (SqL.of hl)
        have hil : its.length ≤ sizeLine := by rw [← rv.length]; exact hz
        have hxd : xs.length = ds.length := rxs.length
        refine PySem.W.sorted_of_sort hL.isList hil (ksk_s1 _ _) (fun _ => ksk_l1 _ _) fun E' => ?_
        rw [show [Str.ofString "key"].zip [Value.ref fa] = [(Str.ofString "key", Value.ref fa)] from rfl, ksk_t1]
        unfold ksk_tree
        have ho := PySem.W.copyHeap_at s.heap its
        obtain ⟨n1, ho1⟩ : ∃ n1, ((PySem.W.copyHeap s.heap its).update (s.heap.objs.size + 1) (Obj.mapSeq fun _ => (#[] : Array Value))).get? (s.heap.objs.size + 1) = some (seqObj "list" #[] n1) := ⟨_, get?_update_seq ho fun _ => #[]⟩
        refine wpAny_bind (listItems_at ho rfl ?_)
        refine wpAny_bind (listUpdate_at ho rfl ?_ (by rw [List.size_toArray]; exact hil) (Nat.zero_le _))
        refine wpAny_bind (seqEpoch_at ho1 rfl ?_)
        refine wpAny_bind (wpAny_newTuple ?_ hil)
        refine wpAny_bind (wpAny_newList ?_ (Nat.zero_le _))
        refine wpAny_holding ?_
        generalize hh1 : (PySem.W.copyHeap s.heap its).update (s.heap.objs.size + 1) (Obj.mapSeq fun _ => (#[] : Array Value)) = h1 at ho1
        have hs1 : s.heap.objs.size + 1 < h1.objs.size := Heap.lt_size ho1
        have old1 : ∀ b o, s.heap.get? b = some o → h1.get? b = some o := fun b o e => by
          rw [← hh1]
          exact (Heap.get?_update_ne _ _ _ _ (Nat.ne_of_lt (Nat.lt_succ_of_lt (Heap.lt_size e)))).trans (PySem.W.copyHeap_old e)
        generalize ha : s.heap.objs.size + 1 = a at ho1 hs1
        have ha0 : s.heap.get? a = none := Heap.get?_none_of_le (by omega)
        have haf : a ∉ frs X.stack := fun z => by
          rcases List.mem_cons.mp (I.stkSub a z) with z | z
          · exact absurd (show X.env.locals < s.heap.objs.size from I.lt) (by rw [← z, ← ha]; exact Nat.not_lt.mpr (Nat.le_succ _))
          · exact I.nofs (by omega) z
        have old3 : ∀ b o, h1.get? b = some o → ((h1.push (seqObj "tuple" its.toArray 0)).push (seqObj "list" #[] 0)).get? b = some o := fun b o e => Heap.get?_push_of_some _ (Heap.get?_push_of_some _ e)
        generalize hkS : (h1.push (seqObj "tuple" its.toArray 0)).objs.size = kS
        have hka : a < kS := by rw [← hkS, size_push']; omega
        have hk0 : s.heap.get? kS = none := Heap.get?_none_of_le (by omega)
        have hkf : kS ∉ frs X.stack := fun z => by
          rcases List.mem_cons.mp (I.stkSub kS z) with z | z
          · exact absurd (show X.env.locals < s.heap.objs.size from I.lt) (by rw [← z]; exact Nat.not_lt.mpr (by omega))
          · exact I.nofs (by omega) z
        have hkn : ((h1.push (seqObj "tuple" its.toArray 0)).push (seqObj "list" #[] 0)).get? kS = some (seqObj "list" #[] 0) := by
          rw [← hkS]; exact Heap.get?_push_size _ rfl
        refine rest_by (a := a) (kS := kS) (fun i kA s' => kA.size = i ∧ ∃ H1 W1 ks1 e, s'.os = s.os ∧ AllBare s'.gens ∧ Un (frs X.stack) [] H H1 s.heap s'.heap ∧ HOk X.prog X.w H1 s'.heap ∧ Step H W H1 W1 ∧ Sim X.K H1 W1 st ∧
          s'.heap.get? kS = some (seqObj "list" kA e) ∧ s'.heap.get? a = some (seqObj "list" #[] n1) ∧ H1 kS = none ∧ H1 a = none ∧ Vals ks1 kA.toList ∧ Reps X.K H1 W1 ks1 (ks.take i)) ?_ hil ?_ ?_ ?_
        · rintro i kA s' ⟨h0, H1, W1, ks1, e, _, _, _, _, _, _, hk, _⟩
          exact ⟨h0, e, hk⟩
        · rintro i v kA s' hv ⟨h0, H1, W1, ks1, e, os, bare, un, hok, T1, S1, hk, hka1, nk, na, vk, rk⟩
          have J : Inv X pins σ H1 s' := I.call' (ch := []) os un hok bare (fun _ z => nomatch z)
          have hi : i < its.length := (List.getElem?_eq_some_iff.mp hv).1
          have hid : i < ds.length := by have := rv.length; omega
          obtain ⟨d, hd⟩ : ∃ d, ds[i]? = some d := ⟨_, List.getElem?_eq_getElem hid⟩
          obtain ⟨kd, hkd⟩ : ∃ d, ks[i]? = some d := ⟨_, List.getElem?_eq_getElem (by omega)⟩
          obtain ⟨xv, hxv, rxd⟩ := rxs.get hd
          obtain ⟨v', hv', rxv⟩ := rv.get hxv
          rw [hv] at hv'
          cases hv'
          have rxd1 := rxd.step S T1
          have hc := hcall i d kd hd hkd
          have env0 : Env0 X.prog X.w X.K X.mg X.base X.A.in1.in1 X.stack s' H1 := { J.env0 with frames := J.env0.frames }
          have hsp : spF X.K c f 1 [xv] H1 (fun u H2 => ∃ W2, Step H1 W1 H2 W2 ∧ Sim X.K H2 W2 st ∧ Rep X.K H2 W2 u kd) (fun _ _ _ => False) := by
            refine ⟨W1, st, [d], S1, .cons rxd1 .nil, rfl, ?_⟩
            rw [hc]
            exact fun u H2 W2 T2 S2 R2 => ⟨W2, T2, S2, R2⟩
          have hps : ps.length = 1 := (F.len _ _ _ _ hsp).symm
          have bd := hb s' [v] J.kIn (by simp [hps])
          rw [List.append_nil] at bd
          refine wpAny_call (codeAny_mono (F.run X.A.in1.in1 X.stack s' H1 ⟨[v], []⟩ [v] [xv] _ _ hr hgd env0 bd (.cons rxv .nil) hsp) fun z s2 hz => ?_)
          · rcases z with er | fl
            · obtain ⟨_, _, _, _, _, _, _, _, _, _, _, _, hF⟩ := hz
              exact hF.elim
            · cases fl with
              | ret u =>
                obtain ⟨v2, H2, os2, bare2, un2, hok2, ru, W2, T2, S2, R2⟩ := hz
                have hk2 := un2.keep kS _ hk nk hkf (by simp)
                have ha2 := un2.keep a _ hka1 na haf (by simp)
                have nk2 := un2.free kS _ hk nk (by simp)
                have na2 := un2.free a _ hka1 na (by simp)
                have sb := Heap.SameBut.update s2.heap kS (Obj.mapSeq (·.push u))
                have kb : ∀ b o, b ≠ kS → b ≠ kS → s2.heap.get? b = some o → (s2.heap.update kS (Obj.mapSeq (·.push u))).get? b = some o := fun b o hb _ e => (sb.2 b hb).trans e
                refine ⟨⟨e, hk2⟩, by rw [Array.size_push, h0], H2, W2, ks1 ++ [v2], _, os2.trans os, bare2, un_but (un.trans un2) hk0 hk0 kb, hok_but hok2 nk2 nk2 kb, T1.trans T2, S2, get?_update_seq hk2 (·.push u), (sb.2 a (Nat.ne_of_lt hka)).trans ha2, nk2, na2, ?_, ?_⟩
                · rw [Array.toList_push]
                  exact vk.append (.cons ru .nil)
                · rw [List.take_add_one, hkd]
                  exact (rk.step S1 T2).snoc R2
              | _ => exact False.elim hz
        · rintro kA s' ⟨h0, H1, W1, ks1, e, os, bare, un, hok, T1, S1, hk, hka1, nk, na, vk, rk⟩
          have J : Inv X pins σ H1 s' := I.call' (ch := []) os un hok bare (fun _ z => nomatch z)
          have hil2 : its.length = ks.length := by have := rv.length; omega
          rw [hil2, List.take_length] at rk
          have er := each_reads J rk hp vk
          have hkl : kA.size = its.length := h0
          have hAl : PySem.W.AllAlike (ks.map toPy) := fun d hd d' hd' => by
            obtain ⟨x, hx, rfl⟩ := List.mem_map.mp hd
            obtain ⟨y, hy, rfl⟩ := List.mem_map.mp hd'
            exact List.all_eq_true.mp (List.all_eq_true.mp hal x hx) y hy
          have hSo : PySem.W.Sortable (ks.map toPy) := .inl fun d hd => by
            obtain ⟨x, hx, rfl⟩ := List.mem_map.mp hd
            have h1 := List.all_eq_true.mp ht1 x hx
            cases x with
            | tup ys => cases ys with
              | nil => cases h1
              | cons y ys => exact ⟨toPy y, toPys ys, by simp [toPy, toPys]⟩
            | _ => cases h1
          have hu : ∀ d ∈ ks.map toPy, X.A.in1.in1.units + d.depth < cLine := fun d hd => by
            obtain ⟨x, hx, rfl⟩ := List.mem_map.mp hd
            have h1 := of_decide_eq_true (List.all_eq_true.mp hdp x hx)
            have := hr.un3
            omega
          refine PySem.W.keyH_end (κ := PySem.W.dataKind s'.heap (ks.map toPy)) (h₁ := PySem.W.hideAll s'.heap [kS]) (fun b o _ e => PySem.W.of_hideAll _ e) (PySem.W.hideAll_none _ (by simp)) hk hka1 (Nat.ne_of_gt hka)
            (PySem.W.SortsAt.data (s := s') er hAl hSo hu) hkl hil fun h' tk cc kp hD => ⟨rfl, ?_⟩
          have kb : ∀ b o, b ≠ a → b ≠ kS → s'.heap.get? b = some o → h'.get? b = some o := fun b o h1 h2 e => kp b o h1 (PySem.W.hideAll_get _ e (by simpa using h2))
          have en : (xs.zip (ds.zip ks)).map (fun b => toPy b.2.2) = ks.map toPy := by
            have : (xs.zip (ds.zip ks)).map (fun b => b.2.2) = ks := by
              have e1 : (xs.zip (ds.zip ks)).map (·.2) = ds.zip ks := by rw [List.map_snd_zip]; simp; omega
              have e2 : (ds.zip ks).map (·.2) = ks := by rw [List.map_snd_zip]; omega
              rw [← e1, List.map_map] at e2
              exact e2
            have h2 := congrArg (List.map toPy) this
            rw [List.map_map] at h2
            exact h2
          have ko : PySem.W.KeyedOut false ((xs.zip (ds.zip ks)).map fun b => toPy b.2.2) its (PySem.W.sortVals (PySem.W.dataKind s'.heap (ks.map toPy)) false kA.toList its) := by
            rw [en]
            exact ⟨s'.heap, kA.toList, hAl, rfl, er⟩
          have ev := PySem.W.keyedOut_each (fun b : V × D × D => toPy b.2.2) ko (each_rel rv (by simp; omega))
          generalize hbs : (xs.zip (ds.zip ks)).mergeSort (PySem.W.dataLe false fun b : V × D × D => toPy b.2.2) = bs at ev
          have hmem : ∀ b ∈ bs, Rep X.K H1 W1 b.1 b.2.1 := fun b hb => by
            rw [← hbs] at hb
            exact (reps_zip rxs b (List.mem_mergeSort.mp hb)).step S T1
          have hso : bs.map (·.2.1) = sortK ds ks := by
            have h1 : bs.map (·.2) = (ds.zip ks).mergeSort leP := by
              have h2 := List.map_mergeSort (r := PySem.W.dataLe false fun b : V × D × D => toPy b.2.2) (s := leP) (f := fun b : V × D × D => b.2) (l := xs.zip (ds.zip ks)) (fun a _ b _ => rfl)
              rw [← hbs, h2, List.map_snd_zip (by simp; omega)]
            unfold sortK
            rw [← h1, List.map_map]
            rfl
          have vv := each_vals ev
          have rr := reps_of hmem
          rw [hso] at rr
          have na' := na
          refine ⟨.ref a, upd H1 a (.lst (bs.map (·.1))), I.call' (s' := { s' with heap := h', toks := tk }) (ch := []) os (un_track (un_but un ha0 hk0 kb) ha0 na) (hok_track (hok_but hok na nk kb) na ⟨?_, _, cc, vv, hD⟩) bare (fun _ z => nomatch z), rfl, q a H1 W1 _ T1 S1 rr na⟩
          rw [List.length_map, ← hbs, List.length_mergeSort]
          simp
          omega
        · refine ⟨rfl, H, W, [], 0, rfl, I.bare, Un.kept fun b o e => old3 b o (old1 b o e), I.hok.kept fun b o e => old3 b o (old1 b o e), Step.refl _ _, S, hkn, old3 _ _ ho1, I.hok.fresh (by omega), I.hok.fresh (by omega), .nil, .nil⟩
      · cases e
    · cases e
  · cases e
variable {e0 : Expr} {ma : ME} {p p2 kp pos : Pos}
theorem pe_sortK (F : FnAt X.prog X.w X.K X.mg X.base c k none f 1) (hr : RoomB k X.A) (hgd : X.A.guards = some []) (hg : Gl X "sorted") (hm : X.mg "sorted" = none) (hg2 : Gl X f) (hdb : (f == ("__debug__" : Str)) = false) {te : TE} (ha : PE X e0 te)
    (na : starEach [e0] X.env = (false, eval e0 X.env) :: starEach [] X.env) (he : backTo pos (starEach [e0] X.env) = (false, eval e0 X.env) :: backTo pos (starEach [] X.env)) (hpl : (backTo pos (starEach [e0] X.env)).any (·.1) = false) :
    ∃ fa, PE X (.Call (.Name "sorted" p) [e0] [⟨some (Str.ofString "key"), .Name f p2, kp⟩] pos) (tCKw (rSortK X.K c f fa) (tCons te tNil) (tCons (tC (.ref fa)) tNil)) := by
  obtain ⟨fa, fd, ps, ⟨hm2, hk⟩, hb, F⟩ := F.ex
  exact ⟨fa, pe_callBK (call_sortK F hr.in11 hgd hb) hg hm (by decide +kernel) (pa_cons ha pa_nil na) (pk_cons (pe_glob hg2 hm2 rfl hdb) pk_nil) (by decide) (by decide) he hpl rfl rfl rfl⟩
theorem dSortK (F : FnAt X.prog X.w X.K X.mg X.base c k none f 1) (hr : RoomB k X.A) (hgd : X.A.guards = some []) (hg : Gl X "sorted") (hm : X.mg "sorted" = none) (hg2 : Gl X f) (hdb : (f == ("__debug__" : Str)) = false) (ha : PE X e0 (tE X.K c Wx ma))
    (na : starEach [e0] X.env = (false, eval e0 X.env) :: starEach [] X.env) (he : backTo pos (starEach [e0] X.env) = (false, eval e0 X.env) :: backTo pos (starEach [] X.env)) (hpl : (backTo pos (starEach [e0] X.env)).any (·.1) = false) :
    PE X (.Call (.Name "sorted" p) [e0] [⟨some (Str.ofString "key"), .Name f p2, kp⟩] pos) (tE X.K c Wx (mSortK f ma)) := by
  obtain ⟨fa, h⟩ := pe_sortK (p := p) (p2 := p2) (kp := kp) F hr hgd hg hm hg2 hdb ha na he hpl
  refine PE.weak h fun σ H Q h => ?_
  obtain ⟨W, st, env, S, En, pp⟩ := h
  refine ⟨W, st, env, S, En, pp.bind.mono fun dx st1 p1 x H1 W1 T1 S1 R1 => ?_⟩
  split at p1
  · rename_i zs hz
    exact ⟨W1, st1, x, dx, zs, rfl, rfl, S1, R1, hz, fun ad H' W' xs T S' R hp => newL S' R (fun v H2 T2 S2 R2 => p1 v H2 W' ((T1.trans T).trans T2) S2 R2) ad hp⟩
  · exact (show False from p1).elim
theorem dSortKM (F : FnAt X.prog X.w X.K X.mg X.base c k none f 1) (hr : RoomB k X.A) (hgd : X.A.guards = some []) (hg : Gl X "sorted") (hm : X.mg "sorted" = none) (hg2 : Gl X f) (hdb : (f == ("__debug__" : Str)) = false) (ha : PE X e0 (tE X.K c Wx ma))
    (na : starEach [e0] X.env = (false, eval e0 X.env) :: starEach [] X.env) (he : backTo pos (starEach [e0] X.env) = (false, eval e0 X.env) :: backTo pos (starEach [] X.env)) (hpl : (backTo pos (starEach [e0] X.env)).any (·.1) = false) :
    PE X (.Call (.Name "sorted" p) [e0] [⟨some (Str.ofString "key"), .Name f p2, kp⟩] pos) (tE X.K c Wx (mSortKM f ma)) := by
  obtain ⟨fa, h⟩ := pe_sortK (p := p) (p2 := p2) (kp := kp) F hr hgd hg hm hg2 hdb ha na he hpl
  refine PE.weak h fun σ H Q h => ?_
  obtain ⟨W, st, env, S, En, pp⟩ := h
  refine ⟨W, st, env, S, En, pp.bind.mono fun dx st1 p1 x H1 W1 T1 S1 R1 => ?_⟩
  split at p1
  · rename_i zs hz
    exact ⟨W1, st1, x, dx, zs, rfl, rfl, S1, R1, hz, fun ad H' W' xs T S' R hp => newCell S' R (fun v H2 W2 T2 S2 R2 => p1 v H2 W2 ((T1.trans T).trans T2) S2 R2) ad hp⟩
  · exact (show False from p1).elim
end
def ltX (st : St) (x y : D) : Option D := match x, y with
  | .int i, .int j => some (.bl (decide (i < j)))
  | .tup xs, .tup ys => if plns xs && plns ys && PySem.W.alike (toPy (.tup xs)) (toPy (.tup ys)) && decide (min (toPy (.tup xs)).depth (toPy (.tup ys)).depth ≤ 500) then some (.bl (PySem.W.dataLt (toPy (.tup xs)) (toPy (.tup ys)))) else none
  | _, _ => none
section
variable {X : Cx}
theorem op_ltX (hu : X.A.units + 501 < cLine) : OpR X (compareOp .Lt) (lift2 X.K ltX) := by
  intro pins s σ H x y v u Q I rx ry h
  obtain ⟨W, st, dx, dy, d, S, r1, r2, e, q⟩ := h
  unfold ltX at e
  split at e
  · cases e
    exact op_lt pins s σ H x y v u Q I rx ry ⟨_, _, rep_int r1, rep_int r2, q _ H (Step.refl _ _) S (.bl _)⟩
  · rename_i xs ys
    split at e
    · rename_i hc
      cases e
      simp only [Bool.and_eq_true, decide_eq_true_eq] at hc
      obtain ⟨⟨⟨p1, p2⟩, al⟩, hd⟩ := hc
      obtain ⟨as, ra⟩ := Pl.reads I _ (r1.pl _ (by simpa [pln] using p1)) rx
      obtain ⟨bs, rb⟩ := Pl.reads I _ (r2.pl _ (by simpa [pln] using p2)) ry
      exact PySem.W.rcLt_alike _ _ X.A s v u as bs ra rb al (by simp [toPy]) (by omega) X.prog X.w X.xe _ ⟨.bl _, H, I, rfl, q _ H (Step.refl _ _) S (.bl _)⟩
    · cases e
  · cases e
theorem ib_ltX : IsBl ltX := fun _ _ _ _ h => by
  unfold ltX at h
  split at h
  · cases h; exact ⟨_, rfl⟩
  · split at h
    · cases h; exact ⟨_, rfl⟩
    · cases h
  · cases h
end
end RP
end
section
set_option Elab.async false
set_option linter.all false
set_option maxRecDepth 100000
set_option maxHeartbeats 1000000
namespace RP
open PySem PySem.Spec PyProof.Rows L2
mutual
theorem toPy_plain : ∀ d : D, (toPy d).plain = true
  | .non => by simp [toPy, PyData.plain]
  | .bl _ => by simp [toPy, PyData.plain]
  | .int _ => by simp [toPy, PyData.plain]
  | .str _ => by simp [toPy, PyData.plain]
  | .tup xs => by simp [toPy, PyData.plain, toPys_plain xs]
  | .lst xs => by simp [toPy, PyData.plain, toPys_plain xs]
  | .dct _ _ => by simp [toPy, PyData.plain]
  | .set _ => by simp [toPy, PyData.plain]
  | .frz _ => by simp [toPy, PyData.plain]
  | .ref _ => by simp [toPy, PyData.plain]
  | .exc _ => by simp [toPy, PyData.plain]
  | .exf _ _ _ _ => by simp [toPy, PyData.plain]
theorem toPys_plain : ∀ ds : List D, PyData.plainAll (toPys ds) = true
  | [] => by simp [toPys, PyData.plainAll]
  | d :: ds => by simp [toPys, PyData.plainAll, toPy_plain d, toPys_plain ds]
end
mutual
theorem eqv_toPy : ∀ (a b : D), pln a = true → pln b = true → PyData.eqv (toPy a) (toPy b) = eqD a b
  | .non, b, _, hb => by cases b <;> first | (simp [pln] at hb; done) | simp [toPy, PyData.eqv, eqD]
  | .bl x, b, _, hb => by cases b <;> first | (simp [pln] at hb; done) | simp [toPy, PyData.eqv, eqD]
  | .int x, b, _, hb => by cases b <;> first | (simp [pln] at hb; done) | simp [toPy, PyData.eqv, eqD]
  | .str x, b, _, hb => by cases b <;> first | (simp [pln] at hb; done) | simp [toPy, PyData.eqv, eqD]
  | .tup xs, b, ha, hb => by
    cases b with
    | tup ys => simpa [toPy, PyData.eqv, eqD] using eqvs_toPy xs ys (by simpa [pln] using ha) (by simpa [pln] using hb)
    | _ => first | (simp [pln] at hb; done) | simp [toPy, PyData.eqv, eqD]
  | .lst xs, b, ha, hb => by
    cases b with
    | lst ys => simpa [toPy, PyData.eqv, eqD] using eqvs_toPy xs ys (by simpa [pln] using ha) (by simpa [pln] using hb)
    | _ => first | (simp [pln] at hb; done) | simp [toPy, PyData.eqv, eqD]
  | .dct _ _, _, ha, _ => by simp [pln] at ha
  | .set _, _, ha, _ => by simp [pln] at ha
  | .frz _, _, ha, _ => by simp [pln] at ha
  | .ref _, _, ha, _ => by simp [pln] at ha
  | .exc _, _, ha, _ => by simp [pln] at ha
  | .exf _ _ _ _, _, ha, _ => by simp [pln] at ha
theorem eqvs_toPy : ∀ (xs ys : List D), plns xs = true → plns ys = true → PyData.eqvAll (toPys xs) (toPys ys) = eqDs xs ys
  | [], [], _, _ => by simp [toPys, PyData.eqvAll, eqDs]
  | [], _ :: _, _, _ => by simp [toPys, PyData.eqvAll, eqDs]
  | _ :: _, [], _, _ => by simp [toPys, PyData.eqvAll, eqDs]
  | x :: xs, y :: ys, ha, hb => by
    have ha' : pln x = true ∧ plns xs = true := by simpa [plns] using ha
    have hb' : pln y = true ∧ plns ys = true := by simpa [plns] using hb
    simp [toPys, PyData.eqvAll, eqDs, eqv_toPy x y ha'.1 hb'.1, eqvs_toPy xs ys ha'.2 hb'.2]
end
theorem toPys_mapK : ∀ ds : List D, toPys ds = ds.map toPy
  | [] => by simp [toPys]
  | d :: ds => by simp [toPys, toPys_mapK ds]
def xRemove : Meth := fun st o ds => match o, ds with
  | .ref n, [d] => match st[n]? with
    | some (.lst xs) => if plns xs && pln (see st d) && decide ((toPy (see st d)).depth ≤ 480) then (xs.findIdx? fun y => eqD y (see st d)).map fun j => (.non, st.set n (.lst (xs.eraseIdx j))) else none
    | _ => none
  | _, _ => none
def xCount : Meth := fun st o ds => match ds with
  | [d] => match see st o with
    | .lst xs => if plns xs && pln (see st d) && decide ((toPy (see st d)).depth ≤ 480) then some (.int ((xs.countP fun y => eqD y (see st d) : Nat) : Int), st) else none
    | _ => none
  | _ => none
def xCountT : Meth := fun st o ds => match ds with
  | [d] => match o with
    | .tup xs => if plns xs && pln (see st d) && decide ((toPy (see st d)).depth ≤ 480) then some (.int ((xs.countP fun y => eqD y (see st d) : Nat) : Int), st) else none
    | _ => none
  | _ => none
theorem findIdx_congr {α : Type} {p q : α → Bool} : ∀ {xs : List α}, (∀ x ∈ xs, p x = q x) → xs.findIdx? p = xs.findIdx? q
  | [], _ => rfl
  | x :: xs, h => by rw [List.findIdx?_cons, List.findIdx?_cons, h x (by simp), findIdx_congr fun y hy => h y (by simp [hy])]
theorem place_eq {xs : List D} {d : D} (hx : plns xs = true) (hd : pln d = true) : SeqAt.dataPlace (toPys xs) (toPy d) = xs.findIdx? fun y => eqD y d := by
  unfold SeqAt.dataPlace
  rw [toPys_mapK, List.findIdx?_map]
  exact findIdx_congr fun x m => eqv_toPy x d (plns_mem hx m) hd
theorem count_eq {xs : List D} {d : D} (hx : plns xs = true) (hd : pln d = true) : ((toPys xs).countP fun y => PyData.eqv y (toPy d)) = xs.countP fun y => eqD y d := by
  rw [toPys_mapK, List.countP_map]
  exact List.countP_congr fun x m => by simp [eqv_toPy x d (plns_mem hx m) hd]
section
variable {X : Cx}
theorem mt_removeL (hu : X.A.units + 501 < cLine) : MtR X "list.remove" (liftM X.K xRemove) := fun pins s σ H x xs v us Q I rx rxs h => by
  obtain ⟨W, st, d, ds, d2, st2, S, r, rs, e, q⟩ := h
  unfold xRemove at e
  split at e
  · rename_i n d1
    split at e
    · rename_i ys hn
      split at e
      · rename_i hc
        simp only [Bool.and_eq_true, decide_eq_true_eq] at hc
        obtain ⟨⟨p1, p2⟩, hd⟩ := hc
        obtain ⟨j, hj, e2⟩ := Option.map_eq_some_iff.mp e
        cases e2
        cases r with
        | ref hr =>
          rename_i a
          obtain ⟨vs, hv, rv⟩ := S.cell _ a _ hr hn
          cases rs with
          | cons r1 rn =>
            cases rn
            cases rx
            obtain ⟨u, rfl, ru⟩ := rxs.one
            obtain ⟨z, its, m, rr, hl, e0⟩ := I.lstM hv
            obtain ⟨as, ra⟩ := Pls.reads I _ (rv.pl _ p1) rr
            obtain ⟨bs, rb⟩ := Pl.reads I _ ((r1.saw S).pl p2) ru
            have hlt : j < vs.length := by
              obtain ⟨h1, _⟩ := List.findIdx?_eq_some_iff_getElem.mp hj
              rw [rv.length]; exact h1
            have T := Step.write S (o := .lst (vs.eraseIdx j)) hr
            refine SeqAt.remove_list_data (vs := its.toArray) (xs := toPys ys) ⟨_, e0, rfl, m, rfl⟩ (by simpa using ra) rb (toPys_plain _) (toPy_plain _) (by omega) ((place_eq p1 p2).trans hj) (by rw [List.size_toArray, ← hl]; exact z) ?_
            refine ⟨.non, _, I.lset (its' := its.eraseIdx j) hv e0 ?_ (rr.eraseIdx j) ?_, rfl, q .non _ W T (S.write hr ⟨_, upd_same, (rv.erase _).step S T⟩) .non⟩
            · show its.toArray.eraseIdxIfInBounds j = (its.eraseIdx j).toArray
              rw [List.eraseIdxIfInBounds_toArray]
            · have := List.length_eraseIdx_le vs j
              omega
      · cases e
    · cases e
  · cases e
theorem mt_countL (hu : X.A.units + 501 < cLine) : MtR X "list.count" (liftM X.K xCount) := fun pins s σ H x xs v us Q I rx rxs h => by
  obtain ⟨W, st, d, ds, d2, st2, S, r, rs, e, q⟩ := h
  have sw := r.saw S
  unfold xCount at e
  split at e
  · rename_i d1
    generalize see st d = ex at sw e
    split at e
    · rename_i ys
      split at e
      · rename_i hc
        simp only [Bool.and_eq_true, decide_eq_true_eq] at hc
        obtain ⟨⟨p1, p2⟩, hd⟩ := hc
        cases e
        obtain ⟨a, vs, rfl, hv, rv⟩ := saw_lst sw
        cases rs with
        | cons r1 rn =>
          cases rn
          cases rx
          obtain ⟨u, rfl, ru⟩ := rxs.one
          obtain ⟨z, its, m, rr, hl, e0⟩ := I.lstM hv
          obtain ⟨as, ra⟩ := Pls.reads I _ (rv.pl _ p1) rr
          obtain ⟨bs, rb⟩ := Pl.reads I _ ((r1.saw S).pl p2) ru
          refine SeqAt.count_list_data (vs := its.toArray) (xs := toPys ys) ⟨_, e0, rfl, m, rfl⟩ (by simpa using ra) rb (toPys_plain _) (toPy_plain _) (by omega) ?_
          rw [count_eq p1 p2]
          exact ⟨.int _, H, I.tok _, ⟨_, rfl⟩, q _ H W (Step.refl _ _) S (.int _)⟩
      · cases e
    · cases e
  · cases e
theorem mt_countT (hu : X.A.units + 501 < cLine) : MtR X "tuple.count" (liftM X.K xCountT) := fun pins s σ H x xs v us Q I rx rxs h => by
  obtain ⟨W, st, d, ds, d2, st2, S, r, rs, e, q⟩ := h
  unfold xCountT at e
  split at e
  · rename_i d1
    split at e
    · rename_i ys
      split at e
      · rename_i hc
        simp only [Bool.and_eq_true, decide_eq_true_eq] at hc
        obtain ⟨⟨p1, p2⟩, hd⟩ := hc
        cases e
        cases r with
        | tup ht rv =>
          cases rs with
          | cons r1 rn =>
            cases rn
            cases rx
            obtain ⟨u, rfl, ru⟩ := rxs.one
            obtain ⟨its, rr, ⟨o, e0, hcl, m, hdt⟩, z⟩ := I.tuple ht.sq
            obtain ⟨as, ra⟩ := Pls.reads I _ (rv.pl _ p1) rr
            obtain ⟨bs, rb⟩ := Pl.reads I _ ((r1.saw S).pl p2) ru
            refine SeqAt.count_tuple_data (vs := its.toArray) (xs := toPys ys) ⟨o, e0, hcl, m, hdt⟩ (by simpa using ra) rb (toPys_plain _) (toPy_plain _) (by omega) ?_
            rw [count_eq p1 p2]
            exact ⟨.int _, H, I.tok _, ⟨_, rfl⟩, q _ H W (Step.refl _ _) S (.int _)⟩
      · cases e
    · cases e
  · cases e
end
def mTm (f : Meth) (o : ME) (ms : List ME) : ME := fun c env st => (o c env st).bind fun x st1 => match x with
  | .tup _ => (mArgs ms c env st1).bind fun ds st2 => match f st2 x ds with
    | some (d, st3) => .ok d st3
    | none => .no
  | _ => .no
section
variable {X : Cx} {c : Call} {Wx : WX} {o e : Expr} {es : List Expr} {mo : ME} {ms : List ME} {name : Str} {apos cpos : Pos} {id : String} {f : Meth}
theorem dTm (slot : Slot "tuple" name id) (hty : typeOf (.builtin id) = pure (.type "method_descriptor")) (hm : MtR X id (liftM X.K f)) (ho : PE X o (tE X.K c Wx mo)) (ha : PA X (e :: es) (tAs X.K c Wx (mArgs ms))) (hbase : attributeBase o name X.env (eval o X.env) = eval o X.env)
    (hfew : ((backTo cpos (starEach (e :: es) X.env)).all (fun x => !x.1) && (backToKw cpos (keywordEach [] X.env)).all (fun x => x.1.isSome) && decide ((e :: es).length + ([] : List Keyword).length + (if ([] : List Keyword).isEmpty then 0 else 1) < 30)) = true)
    (hline : (apos.endLine == cpos.line) = true) (hs : starEach (e :: es) X.env = (false, eval e X.env) :: starEach es X.env) (hplain : (backTo cpos (starEach es X.env)).any (·.1) = false) :
    PE X (.Call (.Attribute o name apos) (e :: es) [] cpos) (tE X.K c Wx (mTm f mo ms)) := by
  refine ⟨fun pins s σ H Q I h => ?_⟩
  obtain ⟨W, st, env, S, En, pp⟩ := h
  refine wpAny_Call_method_late hbase hfew hline rfl (thn (ho.run pins s σ H (fun x H1 => ∃ W1 st1 ys, Step H W H1 W1 ∧ Sim X.K H1 W1 st1 ∧ Rep X.K H1 W1 x (.tup ys) ∧ EnvR X.K H1 W1 σ env ∧
    Post X.K Wx σ H W ((mArgs ms c env st1).bind fun ds st2 => match f st2 (.tup ys) ds with | some (d, st3) => R.ok d st3 | none => .no) (Aft X.K H W Q)) I ⟨W, st, env, S, En, pp.bind.mono fun dx st1 p1 x H1 W1 T1 S1 R1 => ?_⟩) fun v s1 ⟨x, H1, I1, r1, q1⟩ => ?_)
  · split at p1
    · rename_i ys
      exact ⟨W1, st1, ys, T1, S1, R1, En.step S T1, p1⟩
    · exact (show False from p1).elim
  · obtain ⟨W1, st1, ys, T1, S1, R1, E1, p1⟩ := q1
    have hv : ∃ a o, v = Value.ref a ∧ s1.heap.get? a = some o ∧ o.cls = .type "tuple" ∧ o.dict = none := by
      cases R1 with
      | tup h r =>
        rename_i a xs
        cases r1
        rcases h with ⟨o, h, hd⟩ | ⟨o, its, n, k1, k2, k3, _⟩
        · obtain ⟨e0, _, its, _, ob, e1, hc⟩ := I1.hok _ _ h
          rw [e0] at e1
          cases e1
          exact ⟨a, o, rfl, e0, hc.1, hd⟩
        · exact ⟨a, o, rfl, I1.kIn _ _ k1, k2, k3⟩
    obtain ⟨a, ob, rfl, e0, hcl, hdn⟩ := hv
    refine ⟨"tuple", _, PySem.F.plainAttrs_tuple, slot, hty, ⟨ob, e0, hcl⟩, (fun b eb => by cases eb; exact ⟨ob, e0, hdn⟩), ?_⟩
    have hA := ha.run cpos pins s1 σ H1 (fun xs H2 => liftM X.K f x xs H2 Q) I1 ⟨W1, st1, env, S1, E1, (p1.bind.at T1).mono fun ds st2 p2 xs H2 W2 T2 S2 R2 => ?_⟩
    · rw [hs] at hA ⊢
      refine Calls.callWith_builtin (by show (false || (backTo cpos (starEach es X.env)).any (·.1)) = false; rw [hplain]; rfl) (Calls.evalArgs_plain (thn hA fun us s2 z => ?_))
      obtain ⟨xs, H2, I2, r2, q2⟩ := z
      exact hm pins s2 σ H2 x xs _ us Q I2 r1 r2 q2
    split at p2
    · rename_i d st3 he
      exact ⟨W2, st2, .tup ys, ds, d, st3, S2, R1.step S1 T2, R2, he, fun v H' W' T S' R => p2 v H' W' ((T1.trans T2).trans T) S' R⟩
    · exact (show False from p2).elim
end
end RP
end
section
set_option Elab.async false
set_option linter.all false
set_option maxRecDepth 100000
set_option maxHeartbeats 4000000
namespace RP
open PySem L2

abbrev CS : List Str := []
def top (i : Nat) : Stmt := PySem.Challenge.pw_ruleplans_k03_trees_in_order.main.body.getD i (.Pass ⟨0, 0, 0, 0⟩)
abbrev s_size_of : Stmt := top 1
def n_size_of : List Str := ["tree", "child"]
noncomputable def b_size_of : MS :=
  (sRet (mOp2 addD (mCst (.int 1)) (mBlt (un1 sumD) [(mComp [1] (iVal (mSlice (mVar 0) (some (mCst (.int 1))) none)) (gNm 1) tYesM (mCall "size_of" [(mVar 1)]))])))
noncomputable def i_size_of : FI := ⟨none, "size_of", "size_of", s_size_of, ["tree"], n_size_of, ⟨1, 2, b_size_of⟩⟩
abbrev s_order_of : Stmt := top 2
def n_order_of : List Str := ["tree"]
noncomputable def b_order_of : MS :=
  (sRet (mTup [(mCall "size_of" [(mVar 0)]), (mVar 0)]))
noncomputable def i_order_of : FI := ⟨none, "order_of", "order_of", s_order_of, ["tree"], n_order_of, ⟨1, 1, b_order_of⟩⟩
abbrev s_in_order : Stmt := top 3
def n_in_order : List Str := ["trees"]
noncomputable def b_in_order : MS :=
  (sRet (mSortKM "order_of" (mVar 0)))
noncomputable def i_in_order : FI := ⟨none, "in_order", "in_order", s_in_order, ["trees"], n_in_order, ⟨1, 1, b_in_order⟩⟩
abbrev s__law_feed : Stmt := top 5
def n__law_feed : List Str := ["_law_script"]
noncomputable def b__law_feed : MS :=
  (sRet (mLstM [(mVar 0), (mCst (.int 0)), (mCst (.int 0)), (mCst (.int 0))]))
noncomputable def i__law_feed : FI := ⟨none, "_law_feed", "_law_feed", s__law_feed, ["_law_script"], n__law_feed, ⟨1, 1, b__law_feed⟩⟩
abbrev s__law_draw : Stmt := top 6
def n__law_draw : List Str := ["_law_feed_here", "_law_many", "_law_script", "_law_cell", "_law_mixed", "_law_figure"]
noncomputable def b__law_draw : MS :=
  (sSeq (sAsg (gNm 2) (mOp2 idxD (mVar 0) (mCst (.int 0))))
  (sSeq (sPut (mVar 0) (mCst (.int 3)) (mOp2 addD (mOp2 idxD (mVar 0) (mCst (.int 3))) (mCst (.int 1))))
  (sSeq (sIf (RP.bAnd (tVal (mOp2 eqB (mOp2 idxD (mVar 0) (mCst (.int 2))) (mCst (.int 0)))) (tVal (mOp2 ltB (mOp2 idxD (mVar 0) (mCst (.int 1))) (mBlt (un1 lenD) [(mVar 2)])))) (sSeq (sPut (mVar 0) (mCst (.int 2)) (mOp2 fdivD (mBlt (un1 absD) [(mOp2 idxD (mVar 2) (mOp2 idxD (mVar 0) (mCst (.int 1))))]) (mOp2 powD (mCst (.int 10)) (mCst (.int 18)))))
  (sPut (mVar 0) (mCst (.int 1)) (mOp2 addD (mOp2 idxD (mVar 0) (mCst (.int 1))) (mCst (.int 1))))) sSkip)
  (sSeq (sIf (tVal (mOp2 gtB (mOp2 idxD (mVar 0) (mCst (.int 2))) (mCst (.int 0)))) (sSeq (sAsg (gNm 5) (mOp2 modD (mOp2 idxD (mVar 0) (mCst (.int 2))) (mVar 1)))
  (sSeq (sPut (mVar 0) (mCst (.int 2)) (mOp2 fdivD (mOp2 idxD (mVar 0) (mCst (.int 2))) (mVar 1)))
  (sRet (mVar 5)))) sSkip)
  (sSeq (sAsg (gNm 3) (mCst (.int 0)))
  (sSeq (sIf (tVal (mOp2 gtB (mBlt (un1 lenD) [(mVar 2)]) (mCst (.int 0)))) (sAsg (gNm 3) (mOp2 idxD (mVar 2) (mOp2 modD (mOp2 idxD (mVar 0) (mCst (.int 3))) (mBlt (un1 lenD) [(mVar 2)])))) sSkip)
  (sSeq (sAsg (gNm 4) (mOp2 modD (mOp2 addD (mOp2 addD (mOp2 mulD (mOp2 modD (mVar 3) (mCst (.int 2147483647))) (mCst (.int 48271))) (mOp2 mulD (mOp2 idxD (mVar 0) (mCst (.int 3))) (mCst (.int 7919)))) (mCst (.int 12345))) (mCst (.int 2147483629))))
  (sSeq (sAsg (gNm 4) (mOp2 modD (mOp2 mulD (mVar 4) (mOp2 addD (mVar 4) (mCst (.int 40692)))) (mCst (.int 2147483587))))
  (sRet (mOp2 modD (mOp2 modD (mOp2 mulD (mVar 4) (mCst (.int 16807))) (mCst (.int 2147483563))) (mVar 1)))))))))))
noncomputable def i__law_draw : FI := ⟨none, "_law_draw", "_law_draw", s__law_draw, ["_law_feed_here", "_law_many"], n__law_draw, ⟨2, 6, b__law_draw⟩⟩
abbrev s__law_signs : Stmt := top 7
def n__law_signs : List Str := ["_law_feed_here", "_law_most", "_law_pool", "_law_start", "_law_stride", "_law_many", "_law_counts", "_law_turn", "_law_k"]
noncomputable def b__law_signs : MS :=
  (sSeq (sAsg (gNm 2) (mLst [(mCst (.str "a")), (mCst (.str "ab")), (mCst (.str "f")), (mCst (.str "fa")), (mCst (.str "b")), (mCst (.str "use")), (mCst (.str "stay")), (mCst (.str "zzzzzzzz"))]))
  (sSeq (sAsg (gNm 3) (mCall "_law_draw" [(mVar 0), (mCst (.int 8))]))
  (sSeq (sAsg (gNm 4) (mOp2 idxD (mLst [(mCst (.int 1)), (mCst (.int 3)), (mCst (.int 5)), (mCst (.int 7))]) (mCall "_law_draw" [(mVar 0), (mCst (.int 4))])))
  (sSeq (sAsg (gNm 5) (mOp2 addD (mCst (.int 2)) (mCall "_law_draw" [(mVar 0), (mOp2 subD (mVar 1) (mCst (.int 1)))])))
  (sSeq (sAsg (gNm 6) (mOp2 addD (mLst [(mCst (.int 0))]) (mComp [8] (iRange1 (mOp2 subD (mVar 5) (mCst (.int 1)))) (gNm 8) tYesM (mOp2 idxD (mLst [(mCst (.int 0)), (mCst (.int 1)), (mCst (.int 1)), (mCst (.int 2)), (mCst (.int 2)), (mCst (.int 3))]) (mCall "_law_draw" [(mVar 0), (mCst (.int 6))])))))
  (sSeq (sAsg (gNm 7) (mCall "_law_draw" [(mVar 0), (mVar 5)]))
  (sSeq (sAsg (gNm 6) (mOp2 addD (mSlice (mVar 6) (some (mVar 7)) none) (mSlice (mVar 6) none (some (mVar 7)))))
  (sRet (mBlt (un1 tupleD) [(mComp [8] (iRange1 (mVar 5)) (gNm 8) tYesM (mTup [(mOp2 idxD (mVar 2) (mOp2 modD (mOp2 addD (mVar 3) (mOp2 mulD (mVar 4) (mVar 8))) (mCst (.int 8)))), (mOp2 idxD (mVar 6) (mVar 8))]))])))))))))
noncomputable def i__law_signs : FI := ⟨none, "_law_signs", "_law_signs", s__law_signs, ["_law_feed_here", "_law_most"], n__law_signs, ⟨2, 9, b__law_signs⟩⟩
abbrev s__law_tree : Stmt := top 8
def n__law_tree : List Str := ["_law_feed_here", "_law_signs_here", "_law_deep_here", "_law_some", "_law_name", "_law_many", "_law_one", "_law_k"]
noncomputable def b__law_tree : MS :=
  (sSeq (sAsg (gNm 3) (mComp [6] (iVal (mVar 1)) (gNm 6) (RP.bOr (tVal (mOp2 gtB (mVar 2) (mCst (.int 1)))) (tVal (mOp2 eqB (mOp2 idxD (mVar 6) (mCst (.int 1))) (mCst (.int 0))))) (mVar 6)))
  (sSeq (sAsg (gTp [4, 5]) (mOp2 idxD (mVar 3) (mCall "_law_draw" [(mVar 0), (mBlt (un1 lenD) [(mVar 3)])])))
  (sRet (mOp2 addD (mTup [(mVar 4)]) (mBlt (un1 tupleD) [(mComp [7] (iRange1 (mVar 5)) (gNm 7) tYesM (mCall "_law_tree" [(mVar 0), (mVar 1), (mOp2 subD (mVar 2) (mCst (.int 1)))]))])))))
noncomputable def i__law_tree : FI := ⟨none, "_law_tree", "_law_tree", s__law_tree, ["_law_feed_here", "_law_signs_here", "_law_deep_here"], n__law_tree, ⟨3, 8, b__law_tree⟩⟩
abbrev s__law_size : Stmt := top 9
def n__law_size : List Str := ["_law_tree_here", "_law_one"]
noncomputable def b__law_size : MS :=
  (sRet (mOp2 addD (mCst (.int 1)) (mBlt (un1 sumD) [(mComp [1] (iVal (mSlice (mVar 0) (some (mCst (.int 1))) none)) (gNm 1) tYesM (mCall "_law_size" [(mVar 1)]))])))
noncomputable def i__law_size : FI := ⟨none, "_law_size", "_law_size", s__law_size, ["_law_tree_here"], n__law_size, ⟨1, 2, b__law_size⟩⟩
abbrev s__law_deep : Stmt := top 10
def n__law_deep : List Str := ["_law_feed_here", "_law_chains", "_law_k", "_law_inner", "_law_rows", "_law_start"]
noncomputable def b__law_deep : MS :=
  (sSeq (sAsg (gNm 1) (mLstM [(mTup [(mCst (.str "a"))]), (mTup [(mCst (.str "a"))])]))
  (sSeq (sFor (iRange1 (mCst (.int 18))) (gNm 2) (sSeq (sPut (mVar 1) (mCst (.int 0)) (mTup [(mCst (.str "f")), (mOp2 idxD (mVar 1) (mCst (.int 0)))]))
  (sIf (tVal (mOp2 ltB (mVar 2) (mCst (.int 4)))) (sPut (mVar 1) (mCst (.int 1)) (mTup [(mCst (.str "f")), (mOp2 idxD (mVar 1) (mCst (.int 1)))])) sSkip)))
  (sSeq (sAsg (gNm 3) (mTup [(mCst (.str "g")), (mOp2 idxD (mVar 1) (mCst (.int 1))), (mOp2 idxD (mVar 1) (mCst (.int 1))), (mOp2 idxD (mVar 1) (mCst (.int 1)))]))
  (sSeq (sFor (iRange1 (mCst (.int 5))) (gNm 2) (sAsg (gNm 3) (mTup [(mCst (.str "f")), (mVar 3)])))
  (sSeq (sAsg (gNm 4) (mLst [(mOp2 idxD (mVar 1) (mCst (.int 0))), (mOp2 idxD (mVar 1) (mCst (.int 0))), (mVar 3)]))
  (sSeq (sAsg (gNm 5) (mCall "_law_draw" [(mVar 0), (mCst (.int 3))]))
  (sRet (mOp2 addD (mTup [(mCst (.str "g"))]) (mBlt (un1 tupleD) [(mSlice (mOp2 addD (mVar 4) (mVar 4)) (some (mVar 5)) (some (mOp2 addD (mVar 5) (mCst (.int 3)))))])))))))))
noncomputable def i__law_deep : FI := ⟨none, "_law_deep", "_law_deep", s__law_deep, ["_law_feed_here"], n__law_deep, ⟨1, 6, b__law_deep⟩⟩
abbrev s__law_ahead : Stmt := top 11
def n__law_ahead : List Str := ["_law_one", "_law_other", "_law_sizes"]
noncomputable def b__law_ahead : MS :=
  (sSeq (sAsg (gNm 2) (mLst [(mCall "_law_size" [(mVar 0)]), (mCall "_law_size" [(mVar 1)])]))
  (sRet (mOr (mOp2 ltX (mOp2 idxD (mVar 2) (mCst (.int 0))) (mOp2 idxD (mVar 2) (mCst (.int 1)))) (mAnd (mOp2 eqB (mOp2 idxD (mVar 2) (mCst (.int 0))) (mOp2 idxD (mVar 2) (mCst (.int 1)))) (mOp2 ltX (mVar 0) (mVar 1))))))
noncomputable def i__law_ahead : FI := ⟨none, "_law_ahead", "_law_ahead", s__law_ahead, ["_law_one", "_law_other"], n__law_ahead, ⟨2, 3, b__law_ahead⟩⟩
abbrev s__law_order_right : Stmt := top 12
def n__law_order_right : List Str := ["_law_some", "_law_kept", "_law_left", "_law_due", "_law_found", "_law_first", "_law_one"]
noncomputable def b__law_order_right : MS :=
  (sSeq (sAsg (gNm 1) (mBlt (un1 listD) [(mVar 0)]))
  (sSeq (sAsg (gNm 2) (mListM (mVar 0)))
  (sSeq (sAsg (gNm 3) (mLstM []))
  (sSeq (sWhile (tVal (mOp2 neB (mVar 2) (mLst []))) (sSeq (sAsg (gNm 5) (mOp2 idxD (mVar 2) (mCst (.int 0))))
  (sSeq (sFor (iVal (mVar 2)) (gNm 6) (sIf (tVal (mCall "_law_ahead" [(mVar 6), (mVar 5)])) (sAsg (gNm 5) (mVar 6)) sSkip))
  (sSeq (sExpr (mLm xRemove (mVar 2) [(mVar 5)]))
  (sExpr (mLm xAppend (mVar 3) [(mVar 5)]))))))
  (sSeq (sAsg (gNm 4) (mCallM "in_order" [(mVar 0)]))
  (sSeq (sIf (RP.bOr (bNot (tVal (mOp1 (isiD .list) (mVar 4)))) (RP.bOr (tVal (mOp2 neB (mVar 4) (mVar 3))) (tVal (mOp2 neB (mVar 0) (mVar 1))))) (sRet (mCst (.bl false))) sSkip)
  (sSeq (sExpr (mLm xAppend (mVar 4) [(mTup [])]))
  (sRet (mOp2 eqB (mCall "in_order" [(mVar 0)]) (mVar 3))))))))))
noncomputable def i__law_order_right : FI := ⟨none, "_law_order_right", "_law_order_right", s__law_order_right, ["_law_some"], n__law_order_right, ⟨1, 7, b__law_order_right⟩⟩
abbrev s_law : Stmt := top 13
def n_law : List Str := ["_law_script", "_law_feed_here", "_law_signs_here", "_law_turn", "_law_deep_here", "_law_some", "_law_k"]
noncomputable def b_law : MS :=
  (sSeq (sAsg (gNm 1) (mCallM "_law_feed" [(mVar 0)]))
  (sSeq (sAsg (gNm 2) (mCall "_law_signs" [(mVar 1), (mCst (.int 6))]))
  (sSeq (sFor (iRange1 (mCst (.int 2))) (gNm 3) (sSeq (sAsg (gNm 5) (mCompM [6] (iRange1 (mCall "_law_draw" [(mVar 1), (mCst (.int 13))])) (gNm 6) tYesM (mCall "_law_tree" [(mVar 1), (mVar 2), (mOp2 addD (mCst (.int 1)) (mCall "_law_draw" [(mVar 1), (mCst (.int 3))]))])))
  (sSeq (sIf (RP.bAnd (tVal (mOp2 neB (mVar 5) (mLst []))) (tVal (mOp2 eqB (mCall "_law_draw" [(mVar 1), (mCst (.int 2))]) (mCst (.int 0))))) (sExpr (mLm xInsert (mVar 5) [(mCall "_law_draw" [(mVar 1), (mBlt (un1 lenD) [(mVar 5)])]), (mOp2 idxD (mVar 5) (mCall "_law_draw" [(mVar 1), (mBlt (un1 lenD) [(mVar 5)])]))])) sSkip)
  (sIf (bNot (tVal (mCall "_law_order_right" [(mVar 5)]))) (sRet (mCst (.bl false))) sSkip))))
  (sSeq (sAsg (gNm 4) (mComp [6] (iRange1 (mCst (.int 3))) (gNm 6) tYesM (mCall "_law_deep" [(mVar 1)])))
  (sRet (mCall "_law_order_right" [(mOp2 addD (mVar 4) (mLst [(mOp2 idxD (mOp2 idxD (mVar 4) (mCst (.int 0))) (mCst (.int 1))), (mTup [(mCst (.str "a"))]), (mOp2 idxD (mOp2 idxD (mVar 4) (mCst (.int 1))) (mCst (.int 2)))]))]))))))
noncomputable def i_law : FI := ⟨none, "law", "law", s_law, ["_law_script"], n_law, ⟨1, 7, b_law⟩⟩
noncomputable def LL : List FI := [i_size_of, i_order_of, i_in_order, i__law_feed, i__law_draw, i__law_signs, i__law_tree, i__law_size, i__law_deep, i__law_ahead, i__law_order_right, i_law]
noncomputable def BB : List Fc := [bF "sum", bF "sorted", bF "len", bF "abs", bF "range", bF "tuple", bF "list", bF "isinstance"]
theorem sc_size_of : FnScope n_size_of ["tree"] (defScope s_size_of) := ⟨rfl, rfl, rfl, by decide +kernel, rfl, by decide +kernel, by decide +kernel⟩
theorem ok_size_of : Body LL BB i_size_of := by
  intro P w K mg base c n f cdv A outer s H E h2 hF hB hrB hgd
  have hr := hrB.toRoomG
  have hu : (A.deeper (PyProof.Rows.envOfC i_size_of.name (defScope i_size_of.st) s.heap.objs.size f cdv)).units + 501 < cLine := by have := hrB.un3; omega
  have hu1 : (A.deeper (PyProof.Rows.envOfC i_size_of.name (defScope i_size_of.st) s.heap.objs.size f cdv)).units + 1 < cLine := by have := hr.un; omega
  have ND : n_size_of.Nodup := sc_size_of.nd
  exact (sOne (sRetD (dOp2 op_addL kInt (dBlt (call_sumL rfl) rfl (hB 0 _ rfl) (by decide +kernel) (dCons (dCompV (own := [("child", 1)]) (is := [1]) rfl rfl ND (iVald (dSlice (dVar (i := 0) rfl (.inl rfl) rfl rfl) (dOSome kInt) dONone)) (blkOk_by (N := n_size_of) (sc := defScope s_size_of) (by decide +kernel)) (by decide) (fun _ _ _ _ _ => (gNmd (i := 1) ND rfl (.inl rfl) (.inr rfl))) (fun _ _ _ _ _ => dPtsNil) (fun _ _ _ _ _ => (dCall (hF 0 _ rfl) hr hgd rfl takesN (dCons (dVar (i := 1) rfl (.inl rfl) rfl rfl) dNil rfl) rfl rfl rfl rfl)) (fun _ => rfl)) dNil rfl) (by decide) rfl rfl rfl))))
theorem sc_order_of : FnScope n_order_of ["tree"] (defScope s_order_of) := ⟨rfl, rfl, rfl, by decide +kernel, rfl, by decide +kernel, by decide +kernel⟩
theorem ok_order_of : Body LL BB i_order_of := by
  intro P w K mg base c n f cdv A outer s H E h2 hF hB hrB hgd
  have hr := hrB.toRoomG
  have hu : (A.deeper (PyProof.Rows.envOfC i_order_of.name (defScope i_order_of.st) s.heap.objs.size f cdv)).units + 501 < cLine := by have := hrB.un3; omega
  have hu1 : (A.deeper (PyProof.Rows.envOfC i_order_of.name (defScope i_order_of.st) s.heap.objs.size f cdv)).units + 1 < cLine := by have := hr.un; omega
  have ND : n_order_of.Nodup := sc_order_of.nd
  exact (sOne (sRetD (dTup (dCons (dCall (hF 0 _ rfl) hr hgd rfl cx_takes (dCons (dVar (i := 0) rfl (.inl rfl) rfl rfl) dNil rfl) rfl rfl rfl rfl) (dCons (dVar (i := 0) rfl (.inl rfl) rfl rfl) dNil rfl) rfl) (Nat.le_of_ble_eq_true rfl))))
theorem sc_in_order : FnScope n_in_order ["trees"] (defScope s_in_order) := ⟨rfl, rfl, rfl, by decide +kernel, rfl, by decide +kernel, by decide +kernel⟩
theorem ok_in_order : Body LL BB i_in_order := by
  intro P w K mg base c n f cdv A outer s H E h2 hF hB hrB hgd
  have hr := hrB.toRoomG
  have hu : (A.deeper (PyProof.Rows.envOfC i_in_order.name (defScope i_in_order.st) s.heap.objs.size f cdv)).units + 501 < cLine := by have := hrB.un3; omega
  have hu1 : (A.deeper (PyProof.Rows.envOfC i_in_order.name (defScope i_in_order.st) s.heap.objs.size f cdv)).units + 1 < cLine := by have := hr.un; omega
  have ND : n_in_order.Nodup := sc_in_order.nd
  exact (sOne (sRetD (dSortKM (hF 1 _ rfl) hrB hgd rfl (hB 1 _ rfl) rfl rfl (dVar (i := 0) rfl (.inl rfl) rfl rfl) rfl rfl rfl)))
theorem sc__law_feed : FnScope n__law_feed ["_law_script"] (defScope s__law_feed) := ⟨rfl, rfl, rfl, by decide +kernel, rfl, by decide +kernel, by decide +kernel⟩
theorem ok__law_feed : Body LL BB i__law_feed := by
  intro P w K mg base c n f cdv A outer s H E h2 hF hB hrB hgd
  have hr := hrB.toRoomG
  have hu : (A.deeper (PyProof.Rows.envOfC i__law_feed.name (defScope i__law_feed.st) s.heap.objs.size f cdv)).units + 501 < cLine := by have := hrB.un3; omega
  have hu1 : (A.deeper (PyProof.Rows.envOfC i__law_feed.name (defScope i__law_feed.st) s.heap.objs.size f cdv)).units + 1 < cLine := by have := hr.un; omega
  have ND : n__law_feed.Nodup := sc__law_feed.nd
  exact (sOne (sRetD (dLstM (dCons (dVar (i := 0) rfl (.inl rfl) rfl rfl) (dCons kInt (dCons kInt (dCons kInt dNil rfl) rfl) rfl) rfl) (Nat.le_of_ble_eq_true rfl))))
theorem sc__law_draw : FnScope n__law_draw ["_law_feed_here", "_law_many"] (defScope s__law_draw) := ⟨rfl, rfl, rfl, by decide +kernel, rfl, by decide +kernel, by decide +kernel⟩
theorem ok__law_draw : Body LL BB i__law_draw := by
  intro P w K mg base c n f cdv A outer s H E h2 hF hB hrB hgd
  have hr := hrB.toRoomG
  have hu : (A.deeper (PyProof.Rows.envOfC i__law_draw.name (defScope i__law_draw.st) s.heap.objs.size f cdv)).units + 501 < cLine := by have := hrB.un3; omega
  have hu1 : (A.deeper (PyProof.Rows.envOfC i__law_draw.name (defScope i__law_draw.st) s.heap.objs.size f cdv)).units + 1 < cLine := by have := hr.un; omega
  have ND : n__law_draw.Nodup := sc__law_draw.nd
  exact (sConsD (sSetD (i := 2) ND rfl (.inl rfl) (dIx (ix_L hu) (dVar (i := 0) rfl (.inl rfl) rfl rfl) kInt (fun _ _ => rfl)) rfl (.inr rfl))
  (sConsD (sPutD hu1 (dOp2 op_addL (dIx (ix_L hu) (dVar (i := 0) rfl (.inl rfl) rfl rfl) kInt (fun _ _ => rfl)) kInt) (dVar (i := 0) rfl (.inl rfl) rfl rfl) kInt rfl (fun _ => rfl) rfl rfl)
  (sConsD (sIfD (PW.pt (bAndD (bCmp ib_eq (op_eqL hu) (dIx (ix_L hu) (dVar (i := 0) rfl (.inl rfl) rfl rfl) kInt (fun _ _ => rfl)) kInt rfl) (bAnd1 (bCmp ib_lt op_ltL (dIx (ix_L hu) (dVar (i := 0) rfl (.inl rfl) rfl rfl) kInt (fun _ _ => rfl)) (dBlt call_lenL rfl (hB 2 _ rfl) (by decide +kernel) (dCons (dVar (i := 2) rfl (.inl rfl) rfl rfl) dNil rfl) (by decide) rfl rfl rfl) rfl)))) (sConsD (sPutD hu1 (dOp2 op_fdivL (dBlt call_absL rfl (hB 3 _ rfl) (by decide +kernel) (dCons (dIx (ix_L hu) (dVar (i := 2) rfl (.inl rfl) rfl rfl) (dIx (ix_L hu) (dVar (i := 0) rfl (.inl rfl) rfl rfl) kInt (fun _ _ => rfl)) (fun _ _ => rfl)) dNil rfl) (by decide) rfl rfl rfl) (dOp2 op_powL kInt kInt)) (dVar (i := 0) rfl (.inl rfl) rfl rfl) kInt rfl (fun _ => rfl) rfl rfl)
  (sOne (sPutD hu1 (dOp2 op_addL (dIx (ix_L hu) (dVar (i := 0) rfl (.inl rfl) rfl rfl) kInt (fun _ _ => rfl)) kInt) (dVar (i := 0) rfl (.inl rfl) rfl rfl) kInt rfl (fun _ => rfl) rfl rfl))) sNil)
  (sConsD (sIfD (bCmp ib_gt op_gtL (dIx (ix_L hu) (dVar (i := 0) rfl (.inl rfl) rfl rfl) kInt (fun _ _ => rfl)) kInt rfl) (sConsD (sSetD (i := 5) ND rfl (.inl rfl) (dOp2 op_modL (dIx (ix_L hu) (dVar (i := 0) rfl (.inl rfl) rfl rfl) kInt (fun _ _ => rfl)) (dVar (i := 1) rfl (.inl rfl) rfl rfl)) rfl (.inr rfl))
  (sConsD (sPutD hu1 (dOp2 op_fdivL (dIx (ix_L hu) (dVar (i := 0) rfl (.inl rfl) rfl rfl) kInt (fun _ _ => rfl)) (dVar (i := 1) rfl (.inl rfl) rfl rfl)) (dVar (i := 0) rfl (.inl rfl) rfl rfl) kInt rfl (fun _ => rfl) rfl rfl)
  (sOne (sRetD (dVar (i := 5) rfl (.inl rfl) rfl rfl))))) sNil)
  (sConsD (sSetD (i := 3) ND rfl (.inl rfl) kInt rfl (.inr rfl))
  (sConsD (sIfD (bCmp ib_gt op_gtL (dBlt call_lenL rfl (hB 2 _ rfl) (by decide +kernel) (dCons (dVar (i := 2) rfl (.inl rfl) rfl rfl) dNil rfl) (by decide) rfl rfl rfl) kInt rfl) (sOne (sSetD (i := 3) ND rfl (.inl rfl) (dIx (ix_L hu) (dVar (i := 2) rfl (.inl rfl) rfl rfl) (dOp2 op_modL (dIx (ix_L hu) (dVar (i := 0) rfl (.inl rfl) rfl rfl) kInt (fun _ _ => rfl)) (dBlt call_lenL rfl (hB 2 _ rfl) (by decide +kernel) (dCons (dVar (i := 2) rfl (.inl rfl) rfl rfl) dNil rfl) (by decide) rfl rfl rfl)) (fun _ _ => rfl)) rfl (.inr rfl))) sNil)
  (sConsD (sSetD (i := 4) ND rfl (.inl rfl) (dOp2 op_modL (dOp2 op_addL (dOp2 op_addL (dOp2 op_mulL (dOp2 op_modL (dVar (i := 3) rfl (.inl rfl) rfl rfl) kInt) kInt) (dOp2 op_mulL (dIx (ix_L hu) (dVar (i := 0) rfl (.inl rfl) rfl rfl) kInt (fun _ _ => rfl)) kInt)) kInt) kInt) rfl (.inr rfl))
  (sConsD (sSetD (i := 4) ND rfl (.inl rfl) (dOp2 op_modL (dOp2 op_mulL (dVar (i := 4) rfl (.inl rfl) rfl rfl) (dOp2 op_addL (dVar (i := 4) rfl (.inl rfl) rfl rfl) kInt)) kInt) rfl (.inr rfl))
  (sOne (sRetD (dOp2 op_modL (dOp2 op_modL (dOp2 op_mulL (dVar (i := 4) rfl (.inl rfl) rfl rfl) kInt) kInt) (dVar (i := 1) rfl (.inl rfl) rfl rfl))))))))))))
theorem sc__law_signs : FnScope n__law_signs ["_law_feed_here", "_law_most"] (defScope s__law_signs) := ⟨rfl, rfl, rfl, by decide +kernel, rfl, by decide +kernel, by decide +kernel⟩
theorem ok__law_signs : Body LL BB i__law_signs := by
  intro P w K mg base c n f cdv A outer s H E h2 hF hB hrB hgd
  have hr := hrB.toRoomG
  have hu : (A.deeper (PyProof.Rows.envOfC i__law_signs.name (defScope i__law_signs.st) s.heap.objs.size f cdv)).units + 501 < cLine := by have := hrB.un3; omega
  have hu1 : (A.deeper (PyProof.Rows.envOfC i__law_signs.name (defScope i__law_signs.st) s.heap.objs.size f cdv)).units + 1 < cLine := by have := hr.un; omega
  have ND : n__law_signs.Nodup := sc__law_signs.nd
  exact (sConsD (sSetD (i := 2) ND rfl (.inr rfl) (dLst (dCons kStr (dCons kStr (dCons kStr (dCons kStr (dCons kStr (dCons kStr (dCons kStr (dCons kStr dNil rfl) rfl) rfl) rfl) rfl) rfl) rfl) rfl) (Nat.le_of_ble_eq_true rfl)) rfl (.inl rfl))
  (sConsD (sSetD (i := 3) ND rfl (.inr rfl) (dCall (hF 4 _ rfl) hr hgd rfl cx_takes (dCons (dVar (i := 0) rfl (.inr (.inl rfl)) rfl rfl) (dCons kInt dNil rfl) rfl) rfl rfl rfl rfl) rfl (.inl rfl))
  (sConsD (sSetD (i := 4) ND rfl (.inr rfl) (dIx (ix_L hu) (dLst (dCons kInt (dCons kInt (dCons kInt (dCons kInt dNil rfl) rfl) rfl) rfl) (Nat.le_of_ble_eq_true rfl)) (dCall (hF 4 _ rfl) hr hgd rfl cx_takes (dCons (dVar (i := 0) rfl (.inr (.inl rfl)) rfl rfl) (dCons kInt dNil rfl) rfl) rfl rfl rfl rfl) (fun _ _ => rfl)) rfl (.inl rfl))
  (sConsD (sSetD (i := 5) ND rfl (.inl rfl) (dOp2 op_addL kInt (dCall (hF 4 _ rfl) hr hgd rfl cx_takes (dCons (dVar (i := 0) rfl (.inr (.inl rfl)) rfl rfl) (dCons (dOp2 op_subL (dVar (i := 1) rfl (.inl rfl) rfl rfl) kInt) dNil rfl) rfl) rfl rfl rfl rfl)) rfl (.inr rfl))
  (sConsD (sSetD (i := 6) ND rfl (.inr rfl) (dOp2 op_addL (dLst (dCons kInt dNil rfl) (Nat.le_of_ble_eq_true rfl)) (dCompV (own := [("_law_k", 8)]) (is := [8]) rfl rfl ND (iRange1d rfl (hB 4 _ rfl) (dOp2 op_subL (dVar (i := 5) rfl (.inl rfl) rfl rfl) kInt) rfl) (blkOk_by (N := n__law_signs) (sc := defScope s__law_signs) (by decide +kernel)) (by decide) (fun _ _ _ _ _ => (gNmd (i := 8) ND rfl (.inl rfl) (.inr rfl))) (fun _ _ _ _ _ => dPtsNil) (fun _ _ _ _ _ => (dIx (ix_L hu) (dLst (dCons kInt (dCons kInt (dCons kInt (dCons kInt (dCons kInt (dCons kInt dNil rfl) rfl) rfl) rfl) rfl) rfl) (Nat.le_of_ble_eq_true rfl)) (dCall (hF 4 _ rfl) hr hgd rfl takesN (dCons (dVar (i := 0) rfl (.inr (.inl rfl)) rfl rfl) (dCons kInt dNil rfl) rfl) rfl rfl rfl rfl) (fun _ _ => rfl))) (fun _ => rfl))) rfl (.inl rfl))
  (sConsD (sSetD (i := 7) ND rfl (.inl rfl) (dCall (hF 4 _ rfl) hr hgd rfl cx_takes (dCons (dVar (i := 0) rfl (.inr (.inl rfl)) rfl rfl) (dCons (dVar (i := 5) rfl (.inl rfl) rfl rfl) dNil rfl) rfl) rfl rfl rfl rfl) rfl (.inr rfl))
  (sConsD (sSetD (i := 6) ND rfl (.inr rfl) (dOp2 op_addL (dSlice (dVar (i := 6) rfl (.inr (.inl rfl)) rfl rfl) (dOSome (dVar (i := 7) rfl (.inl rfl) rfl rfl)) dONone) (dSlice (dVar (i := 6) rfl (.inr (.inl rfl)) rfl rfl) dONone (dOSome (dVar (i := 7) rfl (.inl rfl) rfl rfl)))) rfl (.inl rfl))
  (sOne (sRetD (dTy call_tupleL rfl (hB 5 _ rfl) (by decide +kernel) (dCons (dCompV (own := [("_law_k", 8)]) (is := [8]) rfl rfl ND (iRange1d rfl (hB 4 _ rfl) (dVar (i := 5) rfl (.inl rfl) rfl rfl) rfl) (blkOk_by (N := n__law_signs) (sc := defScope s__law_signs) (by decide +kernel)) (by decide) (fun _ _ _ _ _ => (gNmd (i := 8) ND rfl (.inl rfl) (.inr rfl))) (fun _ _ _ _ _ => dPtsNil) (fun _ _ _ _ _ => (dTup (dCons (dIx (ix_L hu) (dVar (i := 2) rfl (.inr (.inl rfl)) rfl rfl) (dOp2 op_modL (dOp2 op_addL (dVar (i := 3) rfl (.inr (.inl rfl)) rfl rfl) (dOp2 op_mulL (dVar (i := 4) rfl (.inr (.inl rfl)) rfl rfl) (dVar (i := 8) rfl (.inl rfl) rfl rfl))) kInt) (fun _ _ => rfl)) (dCons (dIx (ix_L hu) (dVar (i := 6) rfl (.inr (.inl rfl)) rfl rfl) (dVar (i := 8) rfl (.inl rfl) rfl rfl) (fun _ _ => rfl)) dNil rfl) rfl) (Nat.le_of_ble_eq_true rfl))) (fun _ => rfl)) dNil rfl) (by decide) rfl rfl rfl))))))))))
theorem sc__law_tree : FnScope n__law_tree ["_law_feed_here", "_law_signs_here", "_law_deep_here"] (defScope s__law_tree) := ⟨rfl, rfl, rfl, by decide +kernel, rfl, by decide +kernel, by decide +kernel⟩
theorem ok__law_tree : Body LL BB i__law_tree := by
  intro P w K mg base c n f cdv A outer s H E h2 hF hB hrB hgd
  have hr := hrB.toRoomG
  have hu : (A.deeper (PyProof.Rows.envOfC i__law_tree.name (defScope i__law_tree.st) s.heap.objs.size f cdv)).units + 501 < cLine := by have := hrB.un3; omega
  have hu1 : (A.deeper (PyProof.Rows.envOfC i__law_tree.name (defScope i__law_tree.st) s.heap.objs.size f cdv)).units + 1 < cLine := by have := hr.un; omega
  have ND : n__law_tree.Nodup := sc__law_tree.nd
  exact (sConsD (sSetV (own := [("_law_one", 6)]) (i := 3) (is := [6]) rfl rfl ND rfl rfl (sw_true rfl rfl rfl (by decide +kernel)) (iVald (dVar (i := 1) rfl (.inr (.inl rfl)) rfl rfl)) (blkOk_by (N := n__law_tree) (sc := defScope s__law_tree) (by decide +kernel)) (by decide) (fun _ _ _ _ _ => (gNmd (i := 6) ND rfl (.inl rfl) (.inr rfl))) (fun _ _ _ _ _ => (dPtsOne (PW.pt (bOrD (bCmp ib_gt op_gtL (dVar (i := 2) rfl (.inr (.inl rfl)) rfl rfl) kInt rfl) (bOr1 (bCmp ib_eq (op_eqL hu) (dIx (ix_L hu) (dVar (i := 6) rfl (.inl rfl) rfl rfl) kInt (fun _ _ => rfl)) kInt rfl)))))) (fun _ _ _ _ _ => (dVar (i := 6) rfl (.inl rfl) rfl rfl)) (fun _ => rfl))
  (sConsD (sAsgD (is := [4, 5]) (dIx (ix_L hu) (dVar (i := 3) rfl (.inl rfl) rfl rfl) (dCall (hF 4 _ rfl) hr hgd rfl cx_takes (dCons (dVar (i := 0) rfl (.inr (.inl rfl)) rfl rfl) (dCons (dBlt call_lenL rfl (hB 2 _ rfl) (by decide +kernel) (dCons (dVar (i := 3) rfl (.inl rfl) rfl rfl) dNil rfl) (by decide) rfl rfl rfl) dNil rfl) rfl) rfl rfl rfl rfl) (fun _ _ => rfl)) (gTpd rfl (gConsD (i := 4) ND rfl (.inl rfl) (.inr rfl) (gConsD (i := 5) ND rfl (.inl rfl) (.inr rfl) gNilD)) rfl rfl) rfl rfl rfl)
  (sOne (sRetD (dOp2 op_addL (dTup (dCons (dVar (i := 4) rfl (.inl rfl) rfl rfl) dNil rfl) (Nat.le_of_ble_eq_true rfl)) (dTy call_tupleL rfl (hB 5 _ rfl) (by decide +kernel) (dCons (dCompV (own := [("_law_k", 7)]) (is := [7]) rfl rfl ND (iRange1d rfl (hB 4 _ rfl) (dVar (i := 5) rfl (.inl rfl) rfl rfl) rfl) (blkOk_by (N := n__law_tree) (sc := defScope s__law_tree) (by decide +kernel)) (by decide) (fun _ _ _ _ _ => (gNmd (i := 7) ND rfl (.inl rfl) (.inr rfl))) (fun _ _ _ _ _ => dPtsNil) (fun _ _ _ _ _ => (dCall (hF 6 _ rfl) hr hgd rfl takesN (dCons (dVar (i := 0) rfl (.inr (.inl rfl)) rfl rfl) (dCons (dVar (i := 1) rfl (.inr (.inl rfl)) rfl rfl) (dCons (dOp2 op_subL (dVar (i := 2) rfl (.inr (.inl rfl)) rfl rfl) kInt) dNil rfl) rfl) rfl) rfl rfl rfl rfl)) (fun _ => rfl)) dNil rfl) (by decide) rfl rfl rfl))))))
theorem sc__law_size : FnScope n__law_size ["_law_tree_here"] (defScope s__law_size) := ⟨rfl, rfl, rfl, by decide +kernel, rfl, by decide +kernel, by decide +kernel⟩
theorem ok__law_size : Body LL BB i__law_size := by
  intro P w K mg base c n f cdv A outer s H E h2 hF hB hrB hgd
  have hr := hrB.toRoomG
  have hu : (A.deeper (PyProof.Rows.envOfC i__law_size.name (defScope i__law_size.st) s.heap.objs.size f cdv)).units + 501 < cLine := by have := hrB.un3; omega
  have hu1 : (A.deeper (PyProof.Rows.envOfC i__law_size.name (defScope i__law_size.st) s.heap.objs.size f cdv)).units + 1 < cLine := by have := hr.un; omega
  have ND : n__law_size.Nodup := sc__law_size.nd
  exact (sOne (sRetD (dOp2 op_addL kInt (dBlt (call_sumL rfl) rfl (hB 0 _ rfl) (by decide +kernel) (dCons (dCompV (own := [("_law_one", 1)]) (is := [1]) rfl rfl ND (iVald (dSlice (dVar (i := 0) rfl (.inl rfl) rfl rfl) (dOSome kInt) dONone)) (blkOk_by (N := n__law_size) (sc := defScope s__law_size) (by decide +kernel)) (by decide) (fun _ _ _ _ _ => (gNmd (i := 1) ND rfl (.inl rfl) (.inr rfl))) (fun _ _ _ _ _ => dPtsNil) (fun _ _ _ _ _ => (dCall (hF 7 _ rfl) hr hgd rfl takesN (dCons (dVar (i := 1) rfl (.inl rfl) rfl rfl) dNil rfl) rfl rfl rfl rfl)) (fun _ => rfl)) dNil rfl) (by decide) rfl rfl rfl))))
theorem sc__law_deep : FnScope n__law_deep ["_law_feed_here"] (defScope s__law_deep) := ⟨rfl, rfl, rfl, by decide +kernel, rfl, by decide +kernel, by decide +kernel⟩
theorem ok__law_deep : Body LL BB i__law_deep := by
  intro P w K mg base c n f cdv A outer s H E h2 hF hB hrB hgd
  have hr := hrB.toRoomG
  have hu : (A.deeper (PyProof.Rows.envOfC i__law_deep.name (defScope i__law_deep.st) s.heap.objs.size f cdv)).units + 501 < cLine := by have := hrB.un3; omega
  have hu1 : (A.deeper (PyProof.Rows.envOfC i__law_deep.name (defScope i__law_deep.st) s.heap.objs.size f cdv)).units + 1 < cLine := by have := hr.un; omega
  have ND : n__law_deep.Nodup := sc__law_deep.nd
  exact (sConsD (sSetD (i := 1) ND rfl (.inl rfl) (dLstM (dCons (dTup (dCons kStr dNil rfl) (Nat.le_of_ble_eq_true rfl)) (dCons (dTup (dCons kStr dNil rfl) (Nat.le_of_ble_eq_true rfl)) dNil rfl) rfl) (Nat.le_of_ble_eq_true rfl)) rfl (.inr rfl))
  (sConsD (sForD (is := [2]) cx_passes rfl (iRange1d rfl (hB 4 _ rfl) kInt rfl) (gNmd (i := 2) ND rfl (.inl rfl) (.inr rfl)) (sConsD (sPutD hu1 (dTup (dCons kStr (dCons (dIx (ix_L hu) (dVar (i := 1) rfl (.inl rfl) rfl rfl) kInt (fun _ _ => rfl)) dNil rfl) rfl) (Nat.le_of_ble_eq_true rfl)) (dVar (i := 1) rfl (.inl rfl) rfl rfl) kInt rfl (fun _ => rfl) rfl rfl)
  (sOne (sIfD (bCmp ib_lt op_ltL (dVar (i := 2) rfl (.inl rfl) rfl rfl) kInt rfl) (sOne (sPutD hu1 (dTup (dCons kStr (dCons (dIx (ix_L hu) (dVar (i := 1) rfl (.inl rfl) rfl rfl) kInt (fun _ _ => rfl)) dNil rfl) rfl) (Nat.le_of_ble_eq_true rfl)) (dVar (i := 1) rfl (.inl rfl) rfl rfl) kInt rfl (fun _ => rfl) rfl rfl)) sNil))) (fun _ => rfl))
  (sConsD (sSetD (i := 3) ND rfl (.inl rfl) (dTup (dCons kStr (dCons (dIx (ix_L hu) (dVar (i := 1) rfl (.inl rfl) rfl rfl) kInt (fun _ _ => rfl)) (dCons (dIx (ix_L hu) (dVar (i := 1) rfl (.inl rfl) rfl rfl) kInt (fun _ _ => rfl)) (dCons (dIx (ix_L hu) (dVar (i := 1) rfl (.inl rfl) rfl rfl) kInt (fun _ _ => rfl)) dNil rfl) rfl) rfl) rfl) (Nat.le_of_ble_eq_true rfl)) rfl (.inr rfl))
  (sConsD (sForD (is := [2]) cx_passes rfl (iRange1d rfl (hB 4 _ rfl) kInt rfl) (gNmd (i := 2) ND rfl (.inl rfl) (.inr rfl)) (sOne (sSetD (i := 3) ND rfl (.inl rfl) (dTup (dCons kStr (dCons (dVar (i := 3) rfl (.inl rfl) rfl rfl) dNil rfl) rfl) (Nat.le_of_ble_eq_true rfl)) rfl (.inr rfl))) (fun _ => rfl))
  (sConsD (sSetD (i := 4) ND rfl (.inl rfl) (dLst (dCons (dIx (ix_L hu) (dVar (i := 1) rfl (.inl rfl) rfl rfl) kInt (fun _ _ => rfl)) (dCons (dIx (ix_L hu) (dVar (i := 1) rfl (.inl rfl) rfl rfl) kInt (fun _ _ => rfl)) (dCons (dVar (i := 3) rfl (.inl rfl) rfl rfl) dNil rfl) rfl) rfl) (Nat.le_of_ble_eq_true rfl)) rfl (.inr rfl))
  (sConsD (sSetD (i := 5) ND rfl (.inl rfl) (dCall (hF 4 _ rfl) hr hgd rfl cx_takes (dCons (dVar (i := 0) rfl (.inl rfl) rfl rfl) (dCons kInt dNil rfl) rfl) rfl rfl rfl rfl) rfl (.inr rfl))
  (sOne (sRetD (dOp2 op_addL (dTup (dCons kStr dNil rfl) (Nat.le_of_ble_eq_true rfl)) (dTy call_tupleL rfl (hB 5 _ rfl) (by decide +kernel) (dCons (dSlice (dOp2 op_addL (dVar (i := 4) rfl (.inl rfl) rfl rfl) (dVar (i := 4) rfl (.inl rfl) rfl rfl)) (dOSome (dVar (i := 5) rfl (.inl rfl) rfl rfl)) (dOSome (dOp2 op_addL (dVar (i := 5) rfl (.inl rfl) rfl rfl) kInt))) dNil rfl) (by decide) rfl rfl rfl))))))))))
theorem sc__law_ahead : FnScope n__law_ahead ["_law_one", "_law_other"] (defScope s__law_ahead) := ⟨rfl, rfl, rfl, by decide +kernel, rfl, by decide +kernel, by decide +kernel⟩
theorem ok__law_ahead : Body LL BB i__law_ahead := by
  intro P w K mg base c n f cdv A outer s H E h2 hF hB hrB hgd
  have hr := hrB.toRoomG
  have hu : (A.deeper (PyProof.Rows.envOfC i__law_ahead.name (defScope i__law_ahead.st) s.heap.objs.size f cdv)).units + 501 < cLine := by have := hrB.un3; omega
  have hu1 : (A.deeper (PyProof.Rows.envOfC i__law_ahead.name (defScope i__law_ahead.st) s.heap.objs.size f cdv)).units + 1 < cLine := by have := hr.un; omega
  have ND : n__law_ahead.Nodup := sc__law_ahead.nd
  exact (sConsD (sSetD (i := 2) ND rfl (.inl rfl) (dLst (dCons (dCall (hF 7 _ rfl) hr hgd rfl cx_takes (dCons (dVar (i := 0) rfl (.inl rfl) rfl rfl) dNil rfl) rfl rfl rfl rfl) (dCons (dCall (hF 7 _ rfl) hr hgd rfl cx_takes (dCons (dVar (i := 1) rfl (.inl rfl) rfl rfl) dNil rfl) rfl rfl rfl rfl) dNil rfl) rfl) (Nat.le_of_ble_eq_true rfl)) rfl (.inr rfl))
  (sOne (sRetD (dOr (dCmp (op_ltX hu) (dIx (ix_L hu) (dVar (i := 2) rfl (.inl rfl) rfl rfl) kInt (fun _ _ => rfl)) (dIx (ix_L hu) (dVar (i := 2) rfl (.inl rfl) rfl rfl) kInt (fun _ _ => rfl)) rfl) (dOne (dAnd (dCmp (op_eqL hu) (dIx (ix_L hu) (dVar (i := 2) rfl (.inl rfl) rfl rfl) kInt (fun _ _ => rfl)) (dIx (ix_L hu) (dVar (i := 2) rfl (.inl rfl) rfl rfl) kInt (fun _ _ => rfl)) rfl) (dOne (dCmp (op_ltX hu) (dVar (i := 0) rfl (.inl rfl) rfl rfl) (dVar (i := 1) rfl (.inl rfl) rfl rfl) rfl))))))))
theorem sc__law_order_right : FnScope n__law_order_right ["_law_some"] (defScope s__law_order_right) := ⟨rfl, rfl, rfl, by decide +kernel, rfl, by decide +kernel, by decide +kernel⟩
theorem ok__law_order_right : Body LL BB i__law_order_right := by
  intro P w K mg base c n f cdv A outer s H E h2 hF hB hrB hgd
  have hr := hrB.toRoomG
  have hu : (A.deeper (PyProof.Rows.envOfC i__law_order_right.name (defScope i__law_order_right.st) s.heap.objs.size f cdv)).units + 501 < cLine := by have := hrB.un3; omega
  have hu1 : (A.deeper (PyProof.Rows.envOfC i__law_order_right.name (defScope i__law_order_right.st) s.heap.objs.size f cdv)).units + 1 < cLine := by have := hr.un; omega
  have ND : n__law_order_right.Nodup := sc__law_order_right.nd
  exact (sConsD (sSetD (i := 1) ND rfl (.inl rfl) (dTy call_listL rfl (hB 6 _ rfl) (by decide +kernel) (dCons (dVar (i := 0) rfl (.inl rfl) rfl rfl) dNil rfl) (by decide) rfl rfl rfl) rfl (.inr rfl))
  (sConsD (sSetD (i := 2) ND rfl (.inl rfl) (dListM rfl (hB 6 _ rfl) (dVar (i := 0) rfl (.inl rfl) rfl rfl) rfl) rfl (.inr rfl))
  (sConsD (sSetD (i := 3) ND rfl (.inl rfl) (dLstM dNil (Nat.le_of_ble_eq_true rfl)) rfl (.inr rfl))
  (sConsD (sWhileD cx_passes (bCmp ib_ne (op_neL hu) (dVar (i := 2) rfl (.inl rfl) rfl rfl) (dLst dNil (Nat.le_of_ble_eq_true rfl)) rfl) (sConsD (sSetD (i := 5) ND rfl (.inl rfl) (dIx (ix_L hu) (dVar (i := 2) rfl (.inl rfl) rfl rfl) kInt (fun _ _ => rfl)) rfl (.inr rfl))
  (sConsD (sForD (is := [6]) cx_passes rfl (iVald (dVar (i := 2) rfl (.inl rfl) rfl rfl)) (gNmd (i := 6) ND rfl (.inl rfl) (.inr rfl)) (sOne (sIfD (bVal (dCall (hF 9 _ rfl) hr hgd rfl cx_takes (dCons (dVar (i := 6) rfl (.inl rfl) rfl rfl) (dCons (dVar (i := 5) rfl (.inl rfl) rfl rfl) dNil rfl) rfl) rfl rfl rfl rfl) (fun _ => rfl)) (sOne (sSetD (i := 5) ND rfl (.inl rfl) (dVar (i := 6) rfl (.inl rfl) rfl rfl) rfl (.inr rfl))) sNil)) (fun _ => rfl))
  (sConsD (sExprD (dLm F.slot_list_remove F.type_list_remove (mt_removeL hu) (dVar (i := 2) rfl (.inl rfl) rfl rfl) (dCons (dVar (i := 5) rfl (.inl rfl) rfl rfl) dNil rfl) rfl rfl rfl rfl rfl) rfl)
  (sOne (sExprD (dLm F.slot_list_append F.type_list_append mt_appendL (dVar (i := 3) rfl (.inl rfl) rfl rfl) (dCons (dVar (i := 5) rfl (.inl rfl) rfl rfl) dNil rfl) rfl rfl rfl rfl rfl) rfl))))))
  (sConsD (sSetD (i := 4) ND rfl (.inl rfl) (dCallM (hF 2 _ rfl) hr hgd rfl cx_takes (dCons (dVar (i := 0) rfl (.inl rfl) rfl rfl) dNil rfl) rfl rfl rfl rfl) rfl (.inr rfl))
  (sConsD (sIfD (PW.pt (bOrD (bNotD (bVal (dIsi (k := .list) rfl (hB 7 _ rfl) rfl (hB 6 _ rfl) (by decide +kernel) (dVar (i := 4) rfl (.inl rfl) rfl rfl) (by decide) rfl rfl) (fun _ => rfl))) (bOrD (bCmp ib_ne (op_neL hu) (dVar (i := 4) rfl (.inl rfl) rfl rfl) (dVar (i := 3) rfl (.inl rfl) rfl rfl) rfl) (bOr1 (bCmp ib_ne (op_neL hu) (dVar (i := 0) rfl (.inl rfl) rfl rfl) (dVar (i := 1) rfl (.inl rfl) rfl rfl) rfl))))) (sOne (sRetD kBl)) sNil)
  (sConsD (sExprD (dLm F.slot_list_append F.type_list_append mt_appendL (dVar (i := 4) rfl (.inl rfl) rfl rfl) (dCons (dTup dNil (Nat.le_of_ble_eq_true rfl)) dNil rfl) rfl rfl rfl rfl rfl) rfl)
  (sOne (sRetD (dCmp (op_eqL hu) (dCall (hF 2 _ rfl) hr hgd rfl cx_takes (dCons (dVar (i := 0) rfl (.inl rfl) rfl rfl) dNil rfl) rfl rfl rfl rfl) (dVar (i := 3) rfl (.inl rfl) rfl rfl) rfl))))))))))
theorem sc_law : FnScope n_law ["_law_script"] (defScope s_law) := ⟨rfl, rfl, rfl, by decide +kernel, rfl, by decide +kernel, by decide +kernel⟩
theorem ok_law : Body LL BB i_law := by
  intro P w K mg base c n f cdv A outer s H E h2 hF hB hrB hgd
  have hr := hrB.toRoomG
  have hu : (A.deeper (PyProof.Rows.envOfC i_law.name (defScope i_law.st) s.heap.objs.size f cdv)).units + 501 < cLine := by have := hrB.un3; omega
  have hu1 : (A.deeper (PyProof.Rows.envOfC i_law.name (defScope i_law.st) s.heap.objs.size f cdv)).units + 1 < cLine := by have := hr.un; omega
  have ND : n_law.Nodup := sc_law.nd
  exact (sConsD (sSetD (i := 1) ND rfl (.inr rfl) (dCallM (hF 3 _ rfl) hr hgd rfl cx_takes (dCons (dVar (i := 0) rfl (.inl rfl) rfl rfl) dNil rfl) rfl rfl rfl rfl) rfl (.inl rfl))
  (sConsD (sSetD (i := 2) ND rfl (.inr rfl) (dCall (hF 5 _ rfl) hr hgd rfl cx_takes (dCons (dVar (i := 1) rfl (.inr (.inl rfl)) rfl rfl) (dCons kInt dNil rfl) rfl) rfl rfl rfl rfl) rfl (.inl rfl))
  (sConsD (sForD (is := [3]) cx_passes rfl (iRange1d rfl (hB 4 _ rfl) kInt rfl) (gNmd (i := 3) ND rfl (.inl rfl) (.inr rfl)) (sConsD (sSetVM (own := [("_law_k", 6)]) (i := 5) (is := [6]) rfl rfl ND rfl rfl (sw_true rfl rfl rfl (by decide +kernel)) (iRange1d rfl (hB 4 _ rfl) (dCall (hF 4 _ rfl) hr hgd rfl cx_takes (dCons (dVar (i := 1) rfl (.inr (.inl rfl)) rfl rfl) (dCons kInt dNil rfl) rfl) rfl rfl rfl rfl) rfl) (blkOk_by (N := n_law) (sc := defScope s_law) (by decide +kernel)) (by decide) (fun _ _ _ _ _ => (gNmd (i := 6) ND rfl (.inl rfl) (.inr rfl))) (fun _ _ _ _ _ => dPtsNil) (fun _ _ _ _ _ => (dCall (hF 6 _ rfl) hr hgd rfl takesN (dCons (dVar (i := 1) rfl (.inr (.inl rfl)) rfl rfl) (dCons (dVar (i := 2) rfl (.inr (.inl rfl)) rfl rfl) (dCons (dOp2 op_addL kInt (dCall (hF 4 _ rfl) hr hgd rfl takesN (dCons (dVar (i := 1) rfl (.inr (.inl rfl)) rfl rfl) (dCons kInt dNil rfl) rfl) rfl rfl rfl rfl)) dNil rfl) rfl) rfl) rfl rfl rfl rfl)) (fun _ => rfl))
  (sConsD (sIfD (PW.pt (bAndD (bCmp ib_ne (op_neL hu) (dVar (i := 5) rfl (.inl rfl) rfl rfl) (dLst dNil (Nat.le_of_ble_eq_true rfl)) rfl) (bAnd1 (bCmp ib_eq (op_eqL hu) (dCall (hF 4 _ rfl) hr hgd rfl cx_takes (dCons (dVar (i := 1) rfl (.inr (.inl rfl)) rfl rfl) (dCons kInt dNil rfl) rfl) rfl rfl rfl rfl) kInt rfl)))) (sOne (sExprD (dLm F.slot_list_insert F.type_list_insert mt_insertL (dVar (i := 5) rfl (.inl rfl) rfl rfl) (dCons (dCall (hF 4 _ rfl) hr hgd rfl cx_takes (dCons (dVar (i := 1) rfl (.inr (.inl rfl)) rfl rfl) (dCons (dBlt call_lenL rfl (hB 2 _ rfl) (by decide +kernel) (dCons (dVar (i := 5) rfl (.inl rfl) rfl rfl) dNil rfl) (by decide) rfl rfl rfl) dNil rfl) rfl) rfl rfl rfl rfl) (dCons (dIx (ix_L hu) (dVar (i := 5) rfl (.inl rfl) rfl rfl) (dCall (hF 4 _ rfl) hr hgd rfl cx_takes (dCons (dVar (i := 1) rfl (.inr (.inl rfl)) rfl rfl) (dCons (dBlt call_lenL rfl (hB 2 _ rfl) (by decide +kernel) (dCons (dVar (i := 5) rfl (.inl rfl) rfl rfl) dNil rfl) (by decide) rfl rfl rfl) dNil rfl) rfl) rfl rfl rfl rfl) (fun _ _ => rfl)) dNil rfl) rfl) rfl rfl rfl rfl rfl) rfl)) sNil)
  (sOne (sIfD (bNotD (bVal (dCall (hF 10 _ rfl) hr hgd rfl cx_takes (dCons (dVar (i := 5) rfl (.inl rfl) rfl rfl) dNil rfl) rfl rfl rfl rfl) (fun _ => rfl))) (sOne (sRetD kBl)) sNil)))) (fun _ => rfl))
  (sConsD (sSetV (own := [("_law_k", 6)]) (i := 4) (is := [6]) rfl rfl ND rfl rfl (sw_true rfl rfl rfl (by decide +kernel)) (iRange1d rfl (hB 4 _ rfl) kInt rfl) (blkOk_by (N := n_law) (sc := defScope s_law) (by decide +kernel)) (by decide) (fun _ _ _ _ _ => (gNmd (i := 6) ND rfl (.inl rfl) (.inr rfl))) (fun _ _ _ _ _ => dPtsNil) (fun _ _ _ _ _ => (dCall (hF 8 _ rfl) hr hgd rfl takesN (dCons (dVar (i := 1) rfl (.inr (.inl rfl)) rfl rfl) dNil rfl) rfl rfl rfl rfl)) (fun _ => rfl))
  (sOne (sRetD (dCall (hF 10 _ rfl) hr hgd rfl cx_takes (dCons (dOp2 op_addL (dVar (i := 4) rfl (.inl rfl) rfl rfl) (dLst (dCons (dIx (ix_L hu) (dIx (ix_L hu) (dVar (i := 4) rfl (.inl rfl) rfl rfl) kInt (fun _ _ => rfl)) kInt (fun _ _ => rfl)) (dCons (dTup (dCons kStr dNil rfl) (Nat.le_of_ble_eq_true rfl)) (dCons (dIx (ix_L hu) (dIx (ix_L hu) (dVar (i := 4) rfl (.inl rfl) rfl rfl) kInt (fun _ _ => rfl)) kInt (fun _ _ => rfl)) dNil rfl) rfl) rfl) (Nat.le_of_ble_eq_true rfl))) dNil rfl) rfl rfl rfl rfl)))))))
end RP
end
section
set_option Elab.async false
set_option linter.all false
set_option maxRecDepth 100000
namespace RP
open PySem
def Ok {α : Type} (r : R α) (Q : α → St → Prop) : Prop := match r with
  | .ok a st => Q a st
  | _ => False
def OkS (r : RS) (qn : Env → St → Prop) (qr : D → St → Prop) (qb qc : Env → St → Prop) : Prop := match r with
  | .nx env st => qn env st
  | .rt d st => qr d st
  | .bk env st => qb env st
  | .ct env st => qc env st
  | _ => False
section
variable {α β : Type} {r : R α} {Q Q' : α → St → Prop} {c : Call} {env : Env} {st : St} {d : D}
theorem Ok.mono (h : Ok r Q) (hq : ∀ a st, Q a st → Q' a st) : Ok r Q' := by
  cases r with
  | ok a st => exact hq a st h
  | er x st => exact h
  | no => exact h
theorem Ok.ex (h : Ok r Q) : ∃ a st, r = .ok a st ∧ Q a st := by
  cases r with
  | ok a st => exact ⟨a, st, rfl, h⟩
  | er x st => exact h.elim
  | no => exact h.elim
theorem ok_ok {a : α} : Ok (R.ok a st) Q ↔ Q a st := Iff.rfl
theorem ok_no : Ok (R.no : R α) Q ↔ False := Iff.rfl
theorem ok_er {x : Xc} : Ok (R.er x st : R α) Q ↔ False := Iff.rfl
theorem ok_bind {k : α → St → R β} {P : β → St → Prop} : Ok (r.bind k) P ↔ Ok r fun a st => Ok (k a st) P := by cases r <;> exact Iff.rfl
theorem ok_of {o : Option α} : Ok (R.of o st) Q ↔ ∃ a, o = some a ∧ Q a st := by
  cases o with
  | none => exact ⟨fun h => h.elim, fun ⟨a, e, _⟩ => by cases e⟩
  | some a => exact ⟨fun h => ⟨a, rfl, h⟩, fun ⟨b, e, h⟩ => by cases e; exact h⟩
theorem ok_of_some {a : α} : Ok (R.of (some a) st) Q ↔ Q a st := Iff.rfl
theorem ok_if {p : Prop} [Decidable p] {r' : R α} : Ok (if p then r else r') Q ↔ if p then Ok r Q else Ok r' Q := by
  by_cases h : p <;> simp [h]
end
section
variable {c : Call} {env : Env} {st : St} {d : D} {Q : D → St → Prop} {QB : Bool → St → Prop} {QA : List D → St → Prop} {ma mb me : ME} {ta tb : MT} {ms : List ME}
theorem ok_var {i : Nat} : Ok (mVar i c env st) Q ↔ ∃ d, env[i]? = some (some d) ∧ Q d st := by
  unfold mVar
  split
  · rename_i d h
    exact ⟨fun q => ⟨d, h, q⟩, fun ⟨e, h', q⟩ => by rw [h] at h'; cases h'; exact q⟩
  · rename_i h
    exact ⟨fun q => q.elim, fun ⟨e, h', q⟩ => (h e h').elim⟩
theorem ok_cst : Ok (mCst d c env st) Q ↔ Q d st := Iff.rfl
theorem ok_nil : Ok (mArgs [] c env st) QA ↔ QA [] st := Iff.rfl
theorem ok_cons : Ok (mArgs (ma :: ms) c env st) QA ↔ Ok (ma c env st) fun d st1 => Ok (mArgs ms c env st1) fun ds st2 => QA (d :: ds) st2 := by
  show Ok (R.bind _ _) _ ↔ _
  rw [ok_bind]
  simp only [ok_bind, ok_ok]
theorem ok_tup : Ok (mTup ms c env st) Q ↔ Ok (mArgs ms c env st) fun ds st1 => Q (.tup ds) st1 := by show Ok (R.bind _ _) _ ↔ _; simp only [ok_bind, ok_ok]
theorem ok_lst : Ok (mLst ms c env st) Q ↔ Ok (mArgs ms c env st) fun ds st1 => Q (.lst ds) st1 := by show Ok (R.bind _ _) _ ↔ _; simp only [ok_bind, ok_ok]
theorem ok_lstM : Ok (mLstM ms c env st) Q ↔ Ok (mArgs ms c env st) fun ds st1 => Q (.ref st1.length) (st1 ++ [.lst ds]) := by show Ok (R.bind _ _) _ ↔ _; simp only [ok_bind, ok_ok]
theorem ok_op2 {f : St → D → D → Option D} : Ok (mOp2 f ma mb c env st) Q ↔ Ok (ma c env st) fun x st1 => Ok (mb c env st1) fun y st2 => ∃ d, f st2 x y = some d ∧ Q d st2 := by show Ok (R.bind _ _) _ ↔ _; simp only [ok_bind, ok_of]
theorem ok_op1 {f : St → D → Option D} : Ok (mOp1 f ma c env st) Q ↔ Ok (ma c env st) fun x st1 => ∃ d, f st1 x = some d ∧ Q d st1 := by show Ok (R.bind _ _) _ ↔ _; simp only [ok_bind, ok_of]
theorem ok_blt {f : St → List D → Option D} : Ok (mBlt f ms c env st) Q ↔ Ok (mArgs ms c env st) fun ds st1 => ∃ d, f st1 ds = some d ∧ Q d st1 := by show Ok (R.bind _ _) _ ↔ _; simp only [ok_bind, ok_of]
theorem ok_listM : Ok (mListM ma c env st) Q ↔ Ok (ma c env st) fun x st1 => ∃ xs, listD st1 x = some (.lst xs) ∧ Q (.ref st1.length) (st1 ++ [.lst xs]) := by
  show Ok (R.bind _ _) _ ↔ _
  simp only [ok_bind]
  refine iff_of_eq (congrArg (Ok (ma c env st)) (funext fun x => funext fun st1 => propext ?_))
  split
  · rename_i xs h
    exact ⟨fun q => ⟨xs, h, q⟩, fun ⟨ys, e, q⟩ => by rw [h] at e; cases e; exact q⟩
  · rename_i h
    exact ⟨fun q => q.elim, fun ⟨ys, e, q⟩ => (h ys e).elim⟩
theorem ok_chain {f g : St → D → D → Option D} : Ok (mChain f g ma mb me c env st) Q ↔ Ok (ma c env st) fun x st1 => Ok (mb c env st1) fun y st2 => (f st2 x y = some (.bl true) ∧ Ok (me c env st2) fun z st3 => ∃ d, g st3 y z = some d ∧ Q d st3) ∨ (f st2 x y = some (.bl false) ∧ Q (.bl false) st2) := by
  show Ok (R.bind _ _) _ ↔ _
  simp only [ok_bind]
  refine iff_of_eq (congrArg (Ok (ma c env st)) (funext fun x => funext fun st1 => congrArg (Ok (mb c env st1)) (funext fun y => funext fun st2 => propext ?_)))
  split
  · rename_i h; simp [h, ok_bind, ok_of]
  · rename_i h; simp [h, ok_ok]
  · rename_i h1 h2; simp only [ok_no, false_iff]; exact fun z => z.elim (fun y => h1 y.1) (fun y => h2 y.1)
theorem ok_and : Ok (mAnd ma mb c env st) Q ↔ Ok (ma c env st) fun x st1 => ∃ b, tru st1 x = some b ∧ (if b = true then Ok (mb c env st1) Q else Q x st1) := by
  show Ok (R.bind _ _) _ ↔ _
  simp only [ok_bind]
  refine iff_of_eq (congrArg (Ok (ma c env st)) (funext fun x => funext fun st1 => propext ?_))
  cases h : tru st1 x with
  | none => simp [ok_no]
  | some b => cases b <;> simp [ok_ok]
theorem ok_or : Ok (mOr ma mb c env st) Q ↔ Ok (ma c env st) fun x st1 => ∃ b, tru st1 x = some b ∧ (if b = true then Q x st1 else Ok (mb c env st1) Q) := by
  show Ok (R.bind _ _) _ ↔ _
  simp only [ok_bind]
  refine iff_of_eq (congrArg (Ok (ma c env st)) (funext fun x => funext fun st1 => propext ?_))
  cases h : tru st1 x with
  | none => simp [ok_no]
  | some b => cases b <;> simp [ok_ok]
theorem ok_not : Ok (mNot ma c env st) Q ↔ Ok (ma c env st) fun x st1 => ∃ b, tru st1 x = some b ∧ Q (.bl (!b)) st1 := by
  show Ok (R.bind _ _) _ ↔ _
  simp only [ok_bind, ok_of]
  refine iff_of_eq (congrArg (Ok (ma c env st)) (funext fun x => funext fun st1 => propext ?_))
  cases h : tru st1 x with
  | none => simp
  | some b => simp
theorem ok_tval : Ok (tVal ma c env st) QB ↔ Ok (ma c env st) fun x st1 => ∃ b, tru st1 x = some b ∧ QB b st1 := by show Ok (R.bind _ _) _ ↔ _; simp only [ok_bind, ok_of]
theorem ok_band : Ok (bAnd ta tb c env st) QB ↔ Ok (ta c env st) fun x st1 => if x = true then Ok (tb c env st1) QB else QB false st1 := by
  show Ok (R.bind _ _) _ ↔ _
  rw [ok_bind]
  simp only [ok_if, ok_ok]
theorem ok_bor : Ok (bOr ta tb c env st) QB ↔ Ok (ta c env st) fun x st1 => if x = true then QB true st1 else Ok (tb c env st1) QB := by
  show Ok (R.bind _ _) _ ↔ _
  rw [ok_bind]
  simp only [ok_if, ok_ok]
theorem ok_bnot : Ok (bNot ta c env st) QB ↔ Ok (ta c env st) fun x st1 => QB (!x) st1 := by show Ok (R.bind _ _) _ ↔ _; simp only [ok_bind, ok_ok]
theorem ok_yes : Ok (tYesM c env st) QB ↔ QB true st := Iff.rfl
theorem ok_mif : Ok (mIf ta ma mb c env st) Q ↔ Ok (ta c env st) fun x st1 => if x = true then Ok (ma c env st1) Q else Ok (mb c env st1) Q := by
  show Ok (R.bind _ _) _ ↔ _
  rw [ok_bind]
  simp only [ok_if]
theorem ok_callM {f : Str} : Ok (mCallM f ms c env st) Q ↔ Ok (mArgs ms c env st) fun ds st1 => Ok (c f ds st1) Q := by show Ok (R.bind _ _) _ ↔ _; simp only [ok_bind]
theorem ok_call {f : Str} : Ok (mCall f ms c env st) Q ↔ Ok (mArgs ms c env st) fun ds st1 => Ok (ice st1 (c f ds st1)) Q := by show Ok (R.bind _ _) _ ↔ _; simp only [ok_bind]
theorem ok_lm {f : Meth} : Ok (mLm f ma ms c env st) Q ↔ Ok (ma c env st) fun x st1 => isL st1 x = true ∧ Ok (mArgs ms c env st1) fun ds st2 => ∃ d st3, f st2 x ds = some (d, st3) ∧ Q d st3 := by
  show Ok (R.bind _ _) _ ↔ _
  simp only [ok_bind, ok_if, ok_no]
  refine iff_of_eq (congrArg (Ok (ma c env st)) (funext fun x => funext fun st1 => propext ?_))
  by_cases h : isL st1 x = true
  · simp only [h, if_true, true_and]
    refine iff_of_eq (congrArg (Ok (mArgs ms c env st1)) (funext fun ds => funext fun st2 => propext ?_))
    cases h2 : f st2 x ds with
    | none => simp [ok_no]
    | some p => obtain ⟨d, st3⟩ := p; exact ⟨fun q => ⟨d, st3, rfl, q⟩, fun ⟨_, _, e, q⟩ => by cases e; exact q⟩
  · simp [h]
theorem ok_sm {f : SMeth} : Ok (mSm f ma ms c env st) Q ↔ Ok (ma c env st) fun x st1 => ∃ z, x = .str z ∧ Ok (mArgs ms c env st1) fun ds st2 => ∃ d, f st2 z ds = some d ∧ Q d st2 := by
  show Ok (R.bind _ _) _ ↔ _
  simp only [ok_bind]
  refine iff_of_eq (congrArg (Ok (ma c env st)) (funext fun x => funext fun st1 => propext ?_))
  cases x <;> simp [ok_no, ok_bind, ok_of]
theorem ok_get1 : Ok (mGet1 ma mb c env st) Q ↔ Ok (ma c env st) fun x st1 => isDc st1 x = true ∧ Ok (mb c env st1) fun y st2 => ∃ ks vs, see st2 x = .dct ks vs ∧ keyish y = true ∧ Q ((look ks vs y).getD .non) st2 := by
  show Ok (R.bind _ _) _ ↔ _
  simp only [ok_bind, ok_if, ok_no]
  refine iff_of_eq (congrArg (Ok (ma c env st)) (funext fun x => funext fun st1 => propext ?_))
  by_cases h : isDc st1 x = true
  · simp only [h, if_true, true_and]
    refine iff_of_eq (congrArg (Ok (mb c env st1)) (funext fun y => funext fun st2 => propext ?_))
    split
    · rename_i ks vs h2
      by_cases hk : keyish y = true
      · rw [if_pos hk]
        exact ⟨fun q => ⟨ks, vs, h2, hk, q⟩, fun ⟨ks', vs', e, _, q⟩ => by rw [h2] at e; cases e; exact q⟩
      · rw [if_neg hk]
        exact ⟨fun q => q.elim, fun ⟨_, _, _, k, _⟩ => (hk k).elim⟩
    · rename_i h2
      exact ⟨fun q => q.elim, fun ⟨ks', vs', e, _⟩ => (h2 _ _ e).elim⟩
  · simp [h]
theorem ok_get2 : Ok (mGet2 ma mb me c env st) Q ↔ Ok (ma c env st) fun x st1 => isDc st1 x = true ∧ Ok (mb c env st1) fun y st2 => Ok (me c env st2) fun z st3 => ∃ ks vs, see st3 x = .dct ks vs ∧ keyish y = true ∧ Q ((look ks vs y).getD z) st3 := by
  show Ok (R.bind _ _) _ ↔ _
  simp only [ok_bind, ok_if, ok_no]
  refine iff_of_eq (congrArg (Ok (ma c env st)) (funext fun x => funext fun st1 => propext ?_))
  by_cases h : isDc st1 x = true
  · simp only [h, if_true, true_and]
    refine iff_of_eq (congrArg (Ok (mb c env st1)) (funext fun y => funext fun st2 => congrArg (Ok (me c env st2)) (funext fun z => funext fun st3 => propext ?_)))
    split
    · rename_i ks vs h2
      by_cases hk : keyish y = true
      · rw [if_pos hk]
        exact ⟨fun q => ⟨ks, vs, h2, hk, q⟩, fun ⟨ks', vs', e, _, q⟩ => by rw [h2] at e; cases e; exact q⟩
      · rw [if_neg hk]
        exact ⟨fun q => q.elim, fun ⟨_, _, _, k, _⟩ => (hk k).elim⟩
    · rename_i h2
      exact ⟨fun q => q.elim, fun ⟨ks', vs', e, _⟩ => (h2 _ _ e).elim⟩
  · simp [h]
theorem ok_addM : Ok (mAddM ma mb c env st) Q ↔ Ok (ma c env st) fun x st1 => Ok (mb c env st1) fun y st2 => ∃ xs ys, see st2 x = .lst xs ∧ see st2 y = .lst ys ∧ xs.length + ys.length ≤ big ∧ Q (.ref st2.length) (st2 ++ [.lst (xs ++ ys)]) := by
  show Ok (R.bind _ _) _ ↔ _
  simp only [ok_bind]
  refine iff_of_eq (congrArg (Ok (ma c env st)) (funext fun x => funext fun st1 => congrArg (Ok (mb c env st1)) (funext fun y => funext fun st2 => propext ?_)))
  split
  · rename_i xs ys e1 e2
    by_cases h : xs.length + ys.length ≤ big
    · rw [if_pos h]
      exact ⟨fun q => ⟨xs, ys, e1, e2, h, q⟩, fun ⟨xs', ys', f1, f2, _, q⟩ => by rw [e1] at f1; rw [e2] at f2; cases f1; cases f2; exact q⟩
    · rw [if_neg h]
      exact ⟨fun q => q.elim, fun ⟨xs', ys', f1, f2, k, _⟩ => by rw [e1] at f1; rw [e2] at f2; cases f1; cases f2; exact (h k).elim⟩
  · rename_i hno
    exact ⟨fun q => q.elim, fun ⟨xs', ys', f1, f2, _⟩ => (hno _ _ f1 f2).elim⟩
theorem ok_optN {QO : Option Int → St → Prop} : Ok (optI none c env st) QO ↔ QO none st := Iff.rfl
theorem ok_optS {QO : Option Int → St → Prop} : Ok (optI (some me) c env st) QO ↔ Ok (me c env st) fun d st1 => ∃ i, d = .int i ∧ QO (some i) st1 := by
  show Ok (R.bind _ _) _ ↔ _
  simp only [ok_bind]
  refine iff_of_eq (congrArg (Ok (me c env st)) (funext fun x => funext fun st1 => propext ?_))
  cases x <;> simp [ok_no, ok_ok]
theorem ok_slice {lo hi : Option ME} : Ok (mSlice ma lo hi c env st) Q ↔ Ok (ma c env st) fun x st1 => Ok (optI lo c env st1) fun i st2 => Ok (optI hi c env st2) fun j st3 => ∃ d, sliceD st3 x i j = some d ∧ Q d st3 := by show Ok (R.bind _ _) _ ↔ _; simp only [ok_bind, ok_of]
theorem ok_ival {QI : List D × Option Nat → St → Prop} : Ok (iVal ma c env st) QI ↔ Ok (ma c env st) fun x st1 => ∃ p, itD st1 x = some p ∧ QI p st1 := by show Ok (R.bind _ _) _ ↔ _; simp only [ok_bind, ok_of]
theorem ok_range1 {QI : List D × Option Nat → St → Prop} : Ok (iRange1 ma c env st) QI ↔ Ok (ma c env st) fun x st1 => ∃ n : Int, x = .int n ∧ (-(big : Int) ≤ n ∧ n ≤ (big : Int)) ∧ QI ((List.range n.toNat).map fun (k : Nat) => .int k, none) st1 := by
  show Ok (R.bind _ _) _ ↔ _
  simp only [ok_bind]
  refine iff_of_eq (congrArg (Ok (ma c env st)) (funext fun x => funext fun st1 => propext ?_))
  cases x <;> simp [ok_no, ok_ok, ok_if]
theorem ok_range2 {QI : List D × Option Nat → St → Prop} : Ok (iRange2 ma mb c env st) QI ↔ Ok (ma c env st) fun x st1 => Ok (mb c env st1) fun y st2 => ∃ m n : Int, x = .int m ∧ y = .int n ∧ (-(big : Int) ≤ m ∧ m ≤ (big : Int) ∧ -(big : Int) ≤ n ∧ n ≤ (big : Int)) ∧ QI ((List.range (n - m).toNat).map fun (k : Nat) => .int (m + k), none) st2 := by
  show Ok (R.bind _ _) _ ↔ _
  simp only [ok_bind]
  refine iff_of_eq (congrArg (Ok (ma c env st)) (funext fun x => funext fun st1 => congrArg (Ok (mb c env st1)) (funext fun y => funext fun st2 => propext ?_)))
  cases x <;> cases y <;> simp [ok_no, ok_ok, ok_if, and_assoc]
theorem ok_zip {QI : List D × Option Nat → St → Prop} : Ok (iZip ma mb c env st) QI ↔ Ok (ma c env st) fun x st1 => Ok (mb c env st1) fun y st2 => ∃ xs ys, x = .tup xs ∧ y = .tup ys ∧ QI (List.zipWith (fun x y => D.tup [x, y]) xs ys, none) st2 := by
  show Ok (R.bind _ _) _ ↔ _
  simp only [ok_bind, ok_cons, ok_nil]
  refine iff_of_eq (congrArg (Ok (ma c env st)) (funext fun x => funext fun st1 => congrArg (Ok (mb c env st1)) (funext fun y => funext fun st2 => propext ?_)))
  cases x <;> cases y <;> simp [ok_no, ok_ok]
theorem ok_comp {own : List Nat} {it : MI} {g : MG} {ts : MT} {elt : ME} : Ok (mComp own it g ts elt c env st) Q ↔ Ok (it c env st) fun p st1 => Ok (compL c p.2 p.1 g ts elt (wipeE env own) p.1 st1) fun ys st2 => Q (.lst ys) st2 := by show Ok (R.bind _ _) _ ↔ _; simp only [ok_bind, ok_ok]
theorem ok_compM {own : List Nat} {it : MI} {g : MG} {ts : MT} {elt : ME} : Ok (mCompM own it g ts elt c env st) Q ↔ Ok (it c env st) fun p st1 => Ok (compL c p.2 p.1 g ts elt (wipeE env own) p.1 st1) fun ys st2 => Q (.ref st2.length) (st2 ++ [.lst ys]) := by show Ok (R.bind _ _) _ ↔ _; simp only [ok_bind, ok_ok]
end
section
variable {c : Call} {env : Env} {st : St} {qn qb qc : Env → St → Prop} {qr : D → St → Prop} {me mo mi : ME} {ta : MT} {a b : MS} {g : MG} {it : MI}
theorem OkS.mono {r : RS} {qn' qb' qc' : Env → St → Prop} {qr' : D → St → Prop} (h : OkS r qn qr qb qc) (hn : ∀ e s, qn e s → qn' e s) (hr : ∀ e s, qr e s → qr' e s) (hb : ∀ e s, qb e s → qb' e s) (hc : ∀ e s, qc e s → qc' e s) : OkS r qn' qr' qb' qc' := by
  cases r with
  | nx e s => exact hn e s h
  | rt e s => exact hr e s h
  | bk e s => exact hb e s h
  | ct e s => exact hc e s h
  | er x e s => exact h
  | no => exact h
theorem s_nx {e : Env} {s : St} : OkS (.nx e s) qn qr qb qc ↔ qn e s := Iff.rfl
theorem s_ofR {α : Type} {r : R α} {k : α → St → RS} : OkS (RS.ofR r env k) qn qr qb qc ↔ Ok r fun x st1 => OkS (k x st1) qn qr qb qc := by cases r <;> exact Iff.rfl
theorem s_skip : OkS (sSkip c env st) qn qr qb qc ↔ qn env st := Iff.rfl
theorem s_seq : OkS (sSeq a b c env st) qn qr qb qc ↔ OkS (a c env st) (fun e s => OkS (b c e s) qn qr qb qc) qr qb qc := by
  show OkS (RS.bind (a c env st) _) _ _ _ _ ↔ _
  cases a c env st <;> exact Iff.rfl
theorem seq_mid (P : Env → St → Prop) (h1 : OkS (a c env st) P qr qb qc) (h2 : ∀ e s, P e s → OkS (b c e s) qn qr qb qc) : OkS (sSeq a b c env st) qn qr qb qc := s_seq.mpr (h1.mono h2 (fun _ _ h => h) (fun _ _ h => h) (fun _ _ h => h))
theorem s_expr : OkS (sExpr me c env st) qn qr qb qc ↔ Ok (me c env st) fun _ st1 => qn env st1 := by show OkS (RS.ofR _ _ _) _ _ _ _ ↔ _; rw [s_ofR]; exact Iff.rfl
theorem s_asg : OkS (sAsg g me c env st) qn qr qb qc ↔ Ok (me c env st) fun d st1 => ∃ env1, g d env = some env1 ∧ qn env1 st1 := by
  show OkS (RS.ofR _ _ _) _ _ _ _ ↔ _
  rw [s_ofR]
  refine iff_of_eq (congrArg (Ok (me c env st)) (funext fun x => funext fun st1 => propext ?_))
  cases h : g x env with
  | none => simp [OkS]
  | some e => simp [OkS]
theorem s_put : OkS (sPut mo mi me c env st) qn qr qb qc ↔ Ok (me c env st) fun d st1 => Ok (mo c env st1) fun x st2 => Ok (mi c env st2) fun y st3 => ∃ st4, putIx st3 x y d = some st4 ∧ qn env st4 := by
  show OkS (RS.ofR _ _ _) _ _ _ _ ↔ _
  rw [s_ofR]
  simp only [s_ofR]
  refine iff_of_eq (congrArg (Ok (me c env st)) (funext fun d => funext fun st1 => congrArg (Ok (mo c env st1)) (funext fun x => funext fun st2 => congrArg (Ok (mi c env st2)) (funext fun y => funext fun st3 => propext ?_))))
  cases h : putIx st3 x y d with
  | none => simp [OkS]
  | some e => simp [OkS]
theorem s_ret : OkS (sRet me c env st) qn qr qb qc ↔ Ok (me c env st) qr := by show OkS (RS.ofR _ _ _) _ _ _ _ ↔ _; rw [s_ofR]; exact Iff.rfl
theorem s_retN : OkS (sRetN c env st) qn qr qb qc ↔ qr .non st := Iff.rfl
theorem s_brk : OkS (sBrk c env st) qn qr qb qc ↔ qb env st := Iff.rfl
theorem s_cnt : OkS (sCnt c env st) qn qr qb qc ↔ qc env st := Iff.rfl
theorem s_if : OkS (sIf ta a b c env st) qn qr qb qc ↔ Ok (ta c env st) fun x st1 => if x = true then OkS (a c env st1) qn qr qb qc else OkS (b c env st1) qn qr qb qc := by
  show OkS (RS.ofR _ _ _) _ _ _ _ ↔ _
  rw [s_ofR]
  refine iff_of_eq (congrArg (Ok (ta c env st)) (funext fun x => funext fun st1 => propext ?_))
  cases x <;> simp
theorem s_for : OkS (sFor it g a c env st) qn qr qb qc ↔ Ok (it c env st) fun p st1 => OkS (forL c p.2 p.1 g a p.1 env st1) qn qr qb qc := by show OkS (RS.ofR _ _ _) _ _ _ _ ↔ _; rw [s_ofR]
theorem s_while : OkS (sWhile ta a c env st) qn qr qb qc ↔ OkS (whileN c ta a wMost env st) qn qr qb qc := Iff.rfl
end
section
variable {c : Call} {gd : Option Nat} {all : List D} {g : MG} {ts : MT} {elt : ME} {a : MS}
theorem comp_inv {env : Env} (I : List D → List D → St → Prop) : ∀ (xs done : List D) (ys : List D) (st : St) (Q : List D → St → Prop), I done ys st →
    (∀ (x : D) (rest done ys : List D) (st : St), done ++ x :: rest = all → I done ys st → ∃ env1, g x env = some env1 ∧ Ok (ts c env1 st) fun b st1 => if b = true then Ok (elt c env1 st1) fun y st2 => I (done ++ [x]) (ys ++ [y]) st2 else I (done ++ [x]) ys st1) →
    (∀ done ys st, I done ys st → gOk gd all st) → done ++ xs = all → (∀ ys' st', I all (ys ++ ys') st' → Q ys' st') → Ok (compL c gd all g ts elt env xs st) Q
  | [], done, ys, st, Q, h, turn, hg, he, q => by
    unfold compL
    rw [if_pos (hg _ _ _ h)]
    rw [List.append_nil] at he
    subst he
    exact q [] st (by simpa using h)
  | x :: xs, done, ys, st, Q, h, turn, hg, he, q => by
    unfold compL
    rw [if_pos (hg _ _ _ h)]
    obtain ⟨env1, e1, t1⟩ := turn x xs done ys st he h
    rw [e1]
    show Ok (R.bind (ts c env1 st).calm _) Q
    rw [ok_bind]
    have calm : ∀ {α : Type} {r : R α} {P : α → St → Prop}, Ok r P → Ok r.calm P := fun {α r P} h => by cases r <;> exact h
    refine calm (t1.mono fun b st1 t2 => ?_)
    cases b with
    | true =>
      simp only [if_true] at t2 ⊢
      rw [ok_bind]
      refine calm (t2.mono fun y st2 t3 => ?_)
      rw [ok_bind]
      refine comp_inv I xs (done ++ [x]) (ys ++ [y]) st2 _ t3 turn hg (by simpa using he) fun ys' st' t4 => ?_
      exact q (y :: ys') st' (by simpa using t4)
    | false =>
      simp only [Bool.false_eq_true, if_false] at t2 ⊢
      exact comp_inv I xs (done ++ [x]) ys st1 _ t2 turn hg (by simpa using he) q
theorem comp_pure {env : Env} {st : St} (p : D → Bool) (f : D → D) (hg : gOk gd all st) : ∀ (xs : List D) (Q : List D → St → Prop), (∀ x ∈ xs, ∃ env1, g x env = some env1 ∧ ts c env1 st = .ok (p x) st ∧ (p x = true → elt c env1 st = .ok (f x) st)) →
    Q ((xs.filter p).map f) st → Ok (compL c gd all g ts elt env xs st) Q
  | [], Q, turn, q => by
    unfold compL
    rw [if_pos hg]
    exact q
  | x :: xs, Q, turn, q => by
    unfold compL
    rw [if_pos hg]
    obtain ⟨env1, e1, e2, e3⟩ := turn x List.mem_cons_self
    rw [e1]
    show Ok (R.bind (ts c env1 st).calm _) Q
    rw [e2]
    show Ok (if p x = true then _ else _) Q
    rw [ok_if]
    by_cases hp : p x = true
    · rw [if_pos hp, e3 hp]
      show Ok (R.bind (compL c gd all g ts elt env xs st) fun ys st3 => R.ok (f x :: ys) st3) Q
      rw [ok_bind]
      refine comp_pure p f hg xs _ (fun y hy => turn y (List.mem_cons_of_mem _ hy)) ?_
      rw [List.filter_cons_of_pos hp] at q
      exact q
    · rw [if_neg hp]
      refine comp_pure p f hg xs _ (fun y hy => turn y (List.mem_cons_of_mem _ hy)) ?_
      rw [List.filter_cons_of_neg hp] at q
      exact q
theorem for_inv (I : List D → Env → St → Prop) {qn : Env → St → Prop} {qr : D → St → Prop} {qb qc : Env → St → Prop} : ∀ (xs done : List D) (env : Env) (st : St), I done env st →
    (∀ (x : D) (rest done : List D) (env : Env) (st : St), done ++ x :: rest = all → I done env st → ∃ env1, g x env = some env1 ∧ OkS (a c env1 st) (I (done ++ [x])) qr qn (I (done ++ [x]))) →
    (∀ done env st, I done env st → gOk gd all st) → done ++ xs = all → (∀ env st, I all env st → qn env st) → OkS (forL c gd all g a xs env st) qn qr qb qc
  | [], done, env, st, h, turn, hg, he, q => by
    unfold forL
    rw [if_pos (hg _ _ _ h)]
    rw [List.append_nil] at he
    subst he
    exact q env st h
  | x :: xs, done, env, st, h, turn, hg, he, q => by
    unfold forL
    rw [if_pos (hg _ _ _ h)]
    obtain ⟨env1, e1, t1⟩ := turn x xs done env st he h
    rw [e1]
    show OkS (match a c env1 st with
        | .nx env2 st2 => forL c gd all g a xs env2 st2
        | .ct env2 st2 => forL c gd all g a xs env2 st2
        | .bk env2 st2 => .nx env2 st2
        | r => r) qn qr qb qc
    generalize a c env1 st = r at t1 ⊢
    cases r with
    | nx e s => exact for_inv I xs (done ++ [x]) e s t1 turn hg (by simpa using he) q
    | ct e s => exact for_inv I xs (done ++ [x]) e s t1 turn hg (by simpa using he) q
    | bk e s => exact t1
    | rt d s => exact t1
    | er y e s => exact t1
    | no => exact t1
theorem while_inv {ta : MT} (I : Nat → Env → St → Prop) {qn : Env → St → Prop} {qr : D → St → Prop} {qb qc : Env → St → Prop} (turn : ∀ n env st, I n env st → Ok (ta c env st) fun b st1 => if b = true then 0 < n ∧ OkS (a c env st1) (fun e s => ∃ m, m < n ∧ I m e s) qr qn (fun e s => ∃ m, m < n ∧ I m e s) else qn env st1) :
    ∀ (N n : Nat) (env : Env) (st : St), I n env st → n < N → OkS (whileN c ta a N env st) qn qr qb qc
  | 0, n, env, st, h, hn => by omega
  | N + 1, n, env, st, h, hn => by
    unfold whileN
    rw [s_ofR]
    refine (turn n env st h).mono fun b st1 t => ?_
    cases b with
    | false =>
      simp only [Bool.false_eq_true, if_false] at t ⊢
      exact t
    | true =>
      simp only [if_true] at t ⊢
      obtain ⟨h0, t⟩ := t
      generalize a c env st1 = r at t ⊢
      cases r with
      | nx e s => obtain ⟨m, hm, i⟩ := t; exact while_inv I turn N m e s i (by omega)
      | ct e s => obtain ⟨m, hm, i⟩ := t; exact while_inv I turn N m e s i (by omega)
      | bk e s => exact t
      | rt d s => exact t
      | er y e s => exact t
      | no => exact t
end
theorem run_at {L : List FI} (hnd : (L.map (·.name)).Nodup) {k : Nat} {i : FI} (h : L[k]? = some i) (n : Nat) (ds : List D) (st : St) : run (tabOf L) (n + 1) i.name ds st = runFn (run (tabOf L) n) i.fn ds st := by
  show (match tabOf L i.name with | some fn => runFn (run (tabOf L) n) fn ds st | none => .no) = _
  rw [tab_ok hnd k i h]
theorem ok_fn {f : Fn} {c : Call} {ds : List D} {st : St} {Q : D → St → Prop} (hl : ds.length = f.np) (h : OkS (f.body c (ds.map some ++ List.replicate (f.ns - f.np) none) st) (fun _ st1 => Ok (gc st .non st1) Q) (fun d st1 => Ok (gc st d st1) Q) (fun _ _ => False) (fun _ _ => False)) : Ok (runFn c f ds st) Q := by
  unfold runFn
  rw [if_pos hl]
  generalize f.body c (ds.map some ++ List.replicate (f.ns - f.np) none) st = r at h ⊢
  cases r with
  | nx e s => exact h
  | rt d s => exact h
  | bk e s => exact h.elim
  | ct e s => exact h.elim
  | er x e s => exact h.elim
  | no => exact h.elim
theorem gc_same {st st' : St} {d : D} (h : st'.length = st.length) : gc st d st' = .ok d st' := by unfold gc; rw [if_pos h]
theorem gc_val {st st' : St} {d : D} (h : st.length ≤ st'.length) (ho : Old st st') (hb : bel st.length d = true) : gc st d st' = .ok d (st'.take st.length) := by
  unfold gc
  by_cases he : st'.length = st.length
  · rw [if_pos he, ← he, List.take_length]
  · rw [if_neg he, if_pos ⟨h, ho⟩, if_pos hb]
theorem gc_ref {st st' : St} {k : Nat} {cl : Cell} (h : st.length ≤ k) (hk : st'[k]? = some cl) (ho : Old st st') (hb : belC st.length cl = true) : gc st (.ref k) st' = .ok (.ref st.length) (st'.take st.length ++ [cl]) := by
  have hl := (List.getElem?_eq_some_iff.mp hk).1
  unfold gc
  rw [if_neg (by omega), if_pos ⟨by omega, ho⟩, if_neg (by simp [bel]; omega)]
  simp [isRef, hk, hb]
theorem ice_val {st : St} {d : D} {st' : St} (h : isRef d = none) : ice st (.ok d st') = .ok d st' := by
  cases d <;> first | rfl | (simp [isRef] at h)
theorem ice_new {st : St} {xs : List D} {st' : St} (h : st'.length = st.length) (ho : Old st (st' ++ [.lst xs])) (hb : bels st.length xs = true) : ice st (.ok (.ref st.length) (st' ++ [.lst xs])) = .ok (.lst xs) st' := by
  unfold ice
  simp only
  rw [if_pos ⟨rfl, by simp [h], ho⟩]
  rw [show (st' ++ [Cell.lst xs])[st.length]? = some (.lst xs) by rw [← h]; simp]
  simp only [hb, if_true]
  rw [← h]
  simp
end RP
end
section
set_option Elab.async false
set_option linter.all false
set_option maxRecDepth 100000
set_option maxHeartbeats 4000000
namespace RP
open PySem L2
def d_size_of : He.DefD := ⟨("size_of", none), "size_of", "size_of", defArgs s_size_of, defBody s_size_of, defScope s_size_of, [], []⟩
def d_order_of : He.DefD := ⟨("order_of", none), "order_of", "order_of", defArgs s_order_of, defBody s_order_of, defScope s_order_of, [], []⟩
def d_in_order : He.DefD := ⟨("in_order", none), "in_order", "in_order", defArgs s_in_order, defBody s_in_order, defScope s_in_order, [], []⟩
def d__law_feed : He.DefD := ⟨("_law_feed", none), "_law_feed", "_law_feed", defArgs s__law_feed, defBody s__law_feed, defScope s__law_feed, [], []⟩
def d__law_draw : He.DefD := ⟨("_law_draw", none), "_law_draw", "_law_draw", defArgs s__law_draw, defBody s__law_draw, defScope s__law_draw, [], []⟩
def d__law_signs : He.DefD := ⟨("_law_signs", none), "_law_signs", "_law_signs", defArgs s__law_signs, defBody s__law_signs, defScope s__law_signs, [], []⟩
def d__law_tree : He.DefD := ⟨("_law_tree", none), "_law_tree", "_law_tree", defArgs s__law_tree, defBody s__law_tree, defScope s__law_tree, [], []⟩
def d__law_size : He.DefD := ⟨("_law_size", none), "_law_size", "_law_size", defArgs s__law_size, defBody s__law_size, defScope s__law_size, [], []⟩
def d__law_deep : He.DefD := ⟨("_law_deep", none), "_law_deep", "_law_deep", defArgs s__law_deep, defBody s__law_deep, defScope s__law_deep, [], []⟩
def d__law_ahead : He.DefD := ⟨("_law_ahead", none), "_law_ahead", "_law_ahead", defArgs s__law_ahead, defBody s__law_ahead, defScope s__law_ahead, [], []⟩
def d__law_order_right : He.DefD := ⟨("_law_order_right", none), "_law_order_right", "_law_order_right", defArgs s__law_order_right, defBody s__law_order_right, defScope s__law_order_right, [], []⟩
def d_law : He.DefD := ⟨("law", none), "law", "law", defArgs s_law, defBody s_law, defScope s_law, [], []⟩
def fnD : List He.DefD := [d_size_of, d_order_of, d_in_order, d__law_feed, d__law_draw, d__law_signs, d__law_tree, d__law_size, d__law_deep, d__law_ahead, d__law_order_right, d_law]
def faD : List He.Fa := [.glo "size_of", .glo "order_of", .glo "in_order", .glo "_law_feed", .glo "_law_draw", .glo "_law_signs", .glo "_law_tree", .glo "_law_size", .glo "_law_deep", .glo "_law_ahead", .glo "_law_order_right", .glo "law", .free "sum", .free "sorted", .free "len", .free "abs", .free "range", .free "tuple", .free "list", .free "isinstance"]
def exD (K : PySem.W.Frag) : Bool := true
def tsD : List He.Tab := []
abbrev RR : PySem.W.OpenRow := PySem.W.OpenLaw.row PySem.Challenge.rw_ruleplans_k03_trees_in_order
abbrev hkD : PySem.W.Hook := hookS 4 faD fnD tsD exD
def obD (s : PySem.W.SharedT) : He.AlT × Bool := seenS 4 faD fnD tsD exD (HandSHeadRun.getT s)
theorem obD_eq (s : PySem.W.SharedT) : obD s = hkD.obs s.abs := seenS_eq (HandSHeadRun.getT_eq s)
theorem runD (w : World) : HandSHeadRun.RunEq RR (PySem.W.view RR.prog [13]) hkD obD 2600 ((["size_of", "order_of", "in_order", "_law_feed", "_law_draw", "_law_signs", "_law_tree", "_law_size", "_law_deep", "_law_ahead", "_law_order_right"] : List Str)) w := by
  intro os
  kernel_rfl
theorem bodies : All (Body LL BB) LL := all_cons ok_size_of (all_cons ok_order_of (all_cons ok_in_order (all_cons ok__law_feed (all_cons ok__law_draw (all_cons ok__law_signs (all_cons ok__law_tree (all_cons ok__law_size (all_cons ok__law_deep (all_cons ok__law_ahead (all_cons ok__law_order_right (all_cons ok_law (all_nil))))))))))))
theorem scopes : All (fun i => FnScope i.N i.ps (defScope i.st)) LL := all_cons sc_size_of (all_cons sc_order_of (all_cons sc_in_order (all_cons sc__law_feed (all_cons sc__law_draw (all_cons sc__law_signs (all_cons sc__law_tree (all_cons sc__law_size (all_cons sc__law_deep (all_cons sc__law_ahead (all_cons sc__law_order_right (all_cons sc_law (all_nil))))))))))))
theorem sizes : All (fun i => i.fn.np = i.ps.length ∧ i.fn.ns = i.N.length) LL := all_cons ⟨rfl, rfl⟩ (all_cons ⟨rfl, rfl⟩ (all_cons ⟨rfl, rfl⟩ (all_cons ⟨rfl, rfl⟩ (all_cons ⟨rfl, rfl⟩ (all_cons ⟨rfl, rfl⟩ (all_cons ⟨rfl, rfl⟩ (all_cons ⟨rfl, rfl⟩ (all_cons ⟨rfl, rfl⟩ (all_cons ⟨rfl, rfl⟩ (all_cons ⟨rfl, rfl⟩ (all_cons ⟨rfl, rfl⟩ (all_nil))))))))))))
theorem names : (LL.map (·.name)).Nodup := by
  show ((["size_of", "order_of", "in_order", "_law_feed", "_law_draw", "_law_signs", "_law_tree", "_law_size", "_law_deep", "_law_ahead", "_law_order_right", "law"] : List Str)).Nodup
  decide +kernel
theorem walk {P : Program} {w : World} {K : PySem.W.Frag} {h : Heap} {mg : Str → Option Value} {f : Addr} (n : Nat) (X : K.In h) (G : h.Ns mainGlobals mg) (hfa : mg ("law" : Str) = some (.ref f)) (cx : SaysS faD fnD tsD exD w K) :
    ∃ fd : FuncData, (∀ (s : Shared) (v : Value), BindsTo s fd ⟨[v], []⟩ [("_law_script", v)]) ∧ ∀ base : Heap, FnG P w K mg base (n + 3) f fd ["_law_script"] (spF K (run (tabOf LL) (n + 1)) "law" 1) := by
  have c : He.SaysD faD fnD K := cx.t.d
  have e0 : ∃ a fd, StandsAt K mg i_size_of.name a i_size_of.own ∧ FunI K i_size_of a fd ∧ Binds K fd i_size_of.ps [] := by
    obtain ⟨fd, F⟩ := c.def_ 0 (d := d_size_of) rfl
    exact ⟨_, fd, ⟨He.glo_ok X G (c.fact 0 (f := .glo "size_of") rfl), F.kp⟩, F, F.bindsN fun _ _ _ _ _ _ us hl => match us, hl with | [_], _ => rfl⟩
  have e1 : ∃ a fd, StandsAt K mg i_order_of.name a i_order_of.own ∧ FunI K i_order_of a fd ∧ Binds K fd i_order_of.ps [] := by
    obtain ⟨fd, F⟩ := c.def_ 1 (d := d_order_of) rfl
    exact ⟨_, fd, ⟨He.glo_ok X G (c.fact 1 (f := .glo "order_of") rfl), F.kp⟩, F, F.bindsN fun _ _ _ _ _ _ us hl => match us, hl with | [_], _ => rfl⟩
  have e2 : ∃ a fd, StandsAt K mg i_in_order.name a i_in_order.own ∧ FunI K i_in_order a fd ∧ Binds K fd i_in_order.ps [] := by
    obtain ⟨fd, F⟩ := c.def_ 2 (d := d_in_order) rfl
    exact ⟨_, fd, ⟨He.glo_ok X G (c.fact 2 (f := .glo "in_order") rfl), F.kp⟩, F, F.bindsN fun _ _ _ _ _ _ us hl => match us, hl with | [_], _ => rfl⟩
  have e3 : ∃ a fd, StandsAt K mg i__law_feed.name a i__law_feed.own ∧ FunI K i__law_feed a fd ∧ Binds K fd i__law_feed.ps [] := by
    obtain ⟨fd, F⟩ := c.def_ 3 (d := d__law_feed) rfl
    exact ⟨_, fd, ⟨He.glo_ok X G (c.fact 3 (f := .glo "_law_feed") rfl), F.kp⟩, F, F.bindsN fun _ _ _ _ _ _ us hl => match us, hl with | [_], _ => rfl⟩
  have e4 : ∃ a fd, StandsAt K mg i__law_draw.name a i__law_draw.own ∧ FunI K i__law_draw a fd ∧ Binds K fd i__law_draw.ps [] := by
    obtain ⟨fd, F⟩ := c.def_ 4 (d := d__law_draw) rfl
    exact ⟨_, fd, ⟨He.glo_ok X G (c.fact 4 (f := .glo "_law_draw") rfl), F.kp⟩, F, F.bindsN fun _ _ _ _ _ _ us hl => match us, hl with | [_, _], _ => rfl⟩
  have e5 : ∃ a fd, StandsAt K mg i__law_signs.name a i__law_signs.own ∧ FunI K i__law_signs a fd ∧ Binds K fd i__law_signs.ps [] := by
    obtain ⟨fd, F⟩ := c.def_ 5 (d := d__law_signs) rfl
    exact ⟨_, fd, ⟨He.glo_ok X G (c.fact 5 (f := .glo "_law_signs") rfl), F.kp⟩, F, F.bindsN fun _ _ _ _ _ _ us hl => match us, hl with | [_, _], _ => rfl⟩
  have e6 : ∃ a fd, StandsAt K mg i__law_tree.name a i__law_tree.own ∧ FunI K i__law_tree a fd ∧ Binds K fd i__law_tree.ps [] := by
    obtain ⟨fd, F⟩ := c.def_ 6 (d := d__law_tree) rfl
    exact ⟨_, fd, ⟨He.glo_ok X G (c.fact 6 (f := .glo "_law_tree") rfl), F.kp⟩, F, F.bindsN fun _ _ _ _ _ _ us hl => match us, hl with | [_, _, _], _ => rfl⟩
  have e7 : ∃ a fd, StandsAt K mg i__law_size.name a i__law_size.own ∧ FunI K i__law_size a fd ∧ Binds K fd i__law_size.ps [] := by
    obtain ⟨fd, F⟩ := c.def_ 7 (d := d__law_size) rfl
    exact ⟨_, fd, ⟨He.glo_ok X G (c.fact 7 (f := .glo "_law_size") rfl), F.kp⟩, F, F.bindsN fun _ _ _ _ _ _ us hl => match us, hl with | [_], _ => rfl⟩
  have e8 : ∃ a fd, StandsAt K mg i__law_deep.name a i__law_deep.own ∧ FunI K i__law_deep a fd ∧ Binds K fd i__law_deep.ps [] := by
    obtain ⟨fd, F⟩ := c.def_ 8 (d := d__law_deep) rfl
    exact ⟨_, fd, ⟨He.glo_ok X G (c.fact 8 (f := .glo "_law_deep") rfl), F.kp⟩, F, F.bindsN fun _ _ _ _ _ _ us hl => match us, hl with | [_], _ => rfl⟩
  have e9 : ∃ a fd, StandsAt K mg i__law_ahead.name a i__law_ahead.own ∧ FunI K i__law_ahead a fd ∧ Binds K fd i__law_ahead.ps [] := by
    obtain ⟨fd, F⟩ := c.def_ 9 (d := d__law_ahead) rfl
    exact ⟨_, fd, ⟨He.glo_ok X G (c.fact 9 (f := .glo "_law_ahead") rfl), F.kp⟩, F, F.bindsN fun _ _ _ _ _ _ us hl => match us, hl with | [_, _], _ => rfl⟩
  have e10 : ∃ a fd, StandsAt K mg i__law_order_right.name a i__law_order_right.own ∧ FunI K i__law_order_right a fd ∧ Binds K fd i__law_order_right.ps [] := by
    obtain ⟨fd, F⟩ := c.def_ 10 (d := d__law_order_right) rfl
    exact ⟨_, fd, ⟨He.glo_ok X G (c.fact 10 (f := .glo "_law_order_right") rfl), F.kp⟩, F, F.bindsN fun _ _ _ _ _ _ us hl => match us, hl with | [_], _ => rfl⟩
  have e11 : ∃ a fd, StandsAt K mg i_law.name a i_law.own ∧ FunI K i_law a fd ∧ Binds K fd i_law.ps [] := by
    obtain ⟨fd, F⟩ := c.def_ 11 (d := d_law) rfl
    exact ⟨_, fd, ⟨He.glo_ok X G (c.fact 11 (f := .glo "law") rfl), F.kp⟩, F, F.bindsN fun _ _ _ _ _ _ us hl => match us, hl with | [_], _ => rfl⟩
  obtain ⟨fd, F⟩ := c.def_ 11 (d := d_law) rfl
  have e := hfa.symm.trans (He.glo_ok X G (c.fact 11 (f := .glo "law") rfl))
  cases e
  have b := FunD.bindsA (ps := ["_law_script"]) F fun _ _ _ _ _ _ us hl => match us, hl with | [_], _ => rfl
  exact ⟨fd, fun s v => b s [v] rfl, fun base => law_of (L := LL) (bs := BB) (j := i_law) n names sizes scopes bodies (all_cons e0 (all_cons e1 (all_cons e2 (all_cons e3 (all_cons e4 (all_cons e5 (all_cons e6 (all_cons e7 (all_cons e8 (all_cons e9 (all_cons e10 (all_cons e11 (all_nil))))))))))))) (all_cons (He.free_ok X G (c.fact 12 (f := .free "sum") rfl)) (all_cons (He.free_ok X G (c.fact 13 (f := .free "sorted") rfl)) (all_cons (He.free_ok X G (c.fact 14 (f := .free "len") rfl)) (all_cons (He.free_ok X G (c.fact 15 (f := .free "abs") rfl)) (all_cons (He.free_ok X G (c.fact 16 (f := .free "range") rfl)) (all_cons (He.free_ok X G (c.fact 17 (f := .free "tuple") rfl)) (all_cons (He.free_ok X G (c.fact 18 (f := .free "list") rfl)) (all_cons (He.free_ok X G (c.fact 19 (f := .free "isinstance") rfl)) (all_nil))))))))) 11 rfl rfl F base⟩
noncomputable abbrev CC (n : Nat) : Call := run (tabOf LL) n
theorem r_size_of (n : Nat) (ds : List D) (st : St) : CC (n + 1) "size_of" ds st = runFn (CC n) ⟨1, 2, b_size_of⟩ ds st := run_at names (k := 0) (i := i_size_of) rfl n ds st
theorem r_order_of (n : Nat) (ds : List D) (st : St) : CC (n + 1) "order_of" ds st = runFn (CC n) ⟨1, 1, b_order_of⟩ ds st := run_at names (k := 1) (i := i_order_of) rfl n ds st
theorem r_in_order (n : Nat) (ds : List D) (st : St) : CC (n + 1) "in_order" ds st = runFn (CC n) ⟨1, 1, b_in_order⟩ ds st := run_at names (k := 2) (i := i_in_order) rfl n ds st
theorem r__law_feed (n : Nat) (ds : List D) (st : St) : CC (n + 1) "_law_feed" ds st = runFn (CC n) ⟨1, 1, b__law_feed⟩ ds st := run_at names (k := 3) (i := i__law_feed) rfl n ds st
theorem r__law_draw (n : Nat) (ds : List D) (st : St) : CC (n + 1) "_law_draw" ds st = runFn (CC n) ⟨2, 6, b__law_draw⟩ ds st := run_at names (k := 4) (i := i__law_draw) rfl n ds st
theorem r__law_signs (n : Nat) (ds : List D) (st : St) : CC (n + 1) "_law_signs" ds st = runFn (CC n) ⟨2, 9, b__law_signs⟩ ds st := run_at names (k := 5) (i := i__law_signs) rfl n ds st
theorem r__law_tree (n : Nat) (ds : List D) (st : St) : CC (n + 1) "_law_tree" ds st = runFn (CC n) ⟨3, 8, b__law_tree⟩ ds st := run_at names (k := 6) (i := i__law_tree) rfl n ds st
theorem r__law_size (n : Nat) (ds : List D) (st : St) : CC (n + 1) "_law_size" ds st = runFn (CC n) ⟨1, 2, b__law_size⟩ ds st := run_at names (k := 7) (i := i__law_size) rfl n ds st
theorem r__law_deep (n : Nat) (ds : List D) (st : St) : CC (n + 1) "_law_deep" ds st = runFn (CC n) ⟨1, 6, b__law_deep⟩ ds st := run_at names (k := 8) (i := i__law_deep) rfl n ds st
theorem r__law_ahead (n : Nat) (ds : List D) (st : St) : CC (n + 1) "_law_ahead" ds st = runFn (CC n) ⟨2, 3, b__law_ahead⟩ ds st := run_at names (k := 9) (i := i__law_ahead) rfl n ds st
theorem r__law_order_right (n : Nat) (ds : List D) (st : St) : CC (n + 1) "_law_order_right" ds st = runFn (CC n) ⟨1, 7, b__law_order_right⟩ ds st := run_at names (k := 10) (i := i__law_order_right) rfl n ds st
theorem r_law (n : Nat) (ds : List D) (st : St) : CC (n + 1) "law" ds st = runFn (CC n) ⟨1, 7, b_law⟩ ds st := run_at names (k := 11) (i := i_law) rfl n ds st
end RP
open PySem PySem.W PySem.Calls PyProof.Rows
theorem holds_of (n : Nat) (hn : RP.RoomG (n + 3) callerA) (hl : ∀ ns : List Int, ns.length ≤ 63 → ∃ st, RP.run (RP.tabOf RP.LL) (n + 1) "law" [.frz ns] [] = .ok (.bl true) st) : PySem.Challenge.rw_ruleplans_k03_trees_in_order.Holds := by
  w_on; o_law
  refine HandSHeadRun.head_any (r := OpenLaw.row PySem.Challenge.rw_ruleplans_k03_trees_in_order) (q := view (OpenLaw.row PySem.Challenge.rw_ruleplans_k03_trees_in_order).prog [13]) (H := RP.hkD) (ob := RP.obD) (M := 2600) (loose := ((["size_of", "order_of", "in_order", "_law_feed", "_law_draw", "_law_signs", "_law_tree", "_law_size", "_law_deep", "_law_ahead", "_law_order_right"] : List Str))) (d := HandSHeadRun.topDef (OpenLaw.row PySem.Challenge.rw_ruleplans_k03_trees_in_order).prog 13) (kwd := []) RP.obD_eq
    (by kernel_rfl) (fun s => by kernel_rfl) RP.runD (by kernel_rfl) (by kernel_rfl) (by kernel_rfl) (by rfl) (by first | assumption | decide +kernel) (by decide +kernel) ⟨rfl, rfl, rfl, rfl, rfl, by decide +kernel⟩ ?hw ?hc
  case hw => w_witness2
  case hc =>
    refine RP.walk_ofG (l := PySem.Challenge.rw_ruleplans_k03_trees_in_order) (n := 63) (k := n + 3) (x := "_law_script") rfl (by decide) (by kernel_rfl) hn ?F
    intro w mg fa h Y G hmg0
    obtain ⟨K, KX, c⟩ := Y
    have hmg : mg ("law" : PySem.Str) = some (.ref fa) := by
      have e : (HandSHeadRun.topDef (OpenLaw.row PySem.Challenge.rw_ruleplans_k03_trees_in_order).prog 13).name = ("law" : PySem.Str) := by kernel_rfl
      rw [← e]
      exact hmg0
    obtain ⟨fd, hb, hF⟩ := RP.walk (P := (PySem.Challenge.rw_ruleplans_k03_trees_in_order).prog) (w := w) n KX G hmg c
    exact ⟨K, fd, RP.spF K (RP.run (RP.tabOf RP.LL) (n + 1)) "law" 1, KX, hb, fun H a ns hl1 hO hS => RP.sp_start hO hS (hl ns hl1), hF⟩
end
section
set_option Elab.async false
set_option linter.all false
set_option maxRecDepth 100000
namespace RP
open PySem
def seeC (n : Nat) : Option Cell → D
  | some (.lst xs) => .lst xs
  | some (.dct ks vs) => .dct ks vs
  | _ => .ref n
theorem see_ref {st : St} {n : Nat} : see st (.ref n) = seeC n st[n]? := by
  unfold see seeC
  rfl
theorem seeC_lst {n : Nat} {xs : List D} : seeC n (some (.lst xs)) = .lst xs := rfl
theorem seeC_dct {n : Nat} {ks vs : List D} : seeC n (some (.dct ks vs)) = .dct ks vs := rfl
def ixC (n : Nat) (o : Option Cell) (i : D) : Option D := match seeC n o, i with
  | .lst xs, .int i => L2.atI xs i
  | .dct ks vs, k => if keyish k then look ks vs k else none
  | _, _ => none
theorem seeC_cases (n : Nat) (o : Option Cell) : (∃ xs, seeC n o = .lst xs) ∨ (∃ ks vs, seeC n o = .dct ks vs) ∨ seeC n o = .ref n := by
  cases o with
  | none => exact .inr (.inr rfl)
  | some c =>
    cases c with
    | lst xs => exact .inl ⟨xs, rfl⟩
    | dct ks vs => exact .inr (.inl ⟨ks, vs, rfl⟩)
    | ins a b => exact .inr (.inr rfl)
theorem idx_ref {st : St} {n : Nat} {i : D} : idxD st (.ref n) i = ixC n st[n]? i := by
  unfold idxD ixC
  rw [see_ref]
  rcases seeC_cases n st[n]? with ⟨xs, e⟩ | ⟨ks, vs, e⟩ | e
  · rw [e]; cases i <;> rfl
  · rw [e]
  · rw [e]
theorem ixC_lst {n : Nat} {xs : List D} {i : Int} : ixC n (some (.lst xs)) (.int i) = L2.atI xs i := rfl
section
variable {st : St} {i j : Int} {xs ys ks vs : List D} {a b : Str} {ns : List Int} {d : D} {n : Nat}
theorem idx_lst : idxD st (.lst xs) (.int i) = L2.atI xs i := rfl
theorem idx_tup : idxD st (.tup xs) (.int i) = L2.atI xs i := rfl
theorem idx_frz : idxD st (.frz ns) (.int i) = (L2.atI ns i).map D.int := rfl
theorem idx_dctS : idxD st (.dct ks vs) (.str a) = look ks vs (.str a) := rfl
theorem at_nat {α : Type} {xs : List α} {k : Nat} : L2.atI xs (k : Int) = xs[k]? := by
  unfold L2.atI L2.ixN
  rw [if_pos (by omega)]
  by_cases h : k < xs.length
  · rw [if_pos (by omega)]; simp
  · rw [if_neg (by omega)]
    rw [List.getElem?_eq_none (by omega)]
    rfl
theorem at0 {α : Type} {xs : List α} : L2.atI xs 0 = xs[0]? := at_nat (k := 0)
theorem at1 {α : Type} {xs : List α} : L2.atI xs 1 = xs[1]? := at_nat (k := 1)
theorem at2 {α : Type} {xs : List α} : L2.atI xs 2 = xs[2]? := at_nat (k := 2)
theorem at3 {α : Type} {xs : List α} : L2.atI xs 3 = xs[3]? := at_nat (k := 3)
theorem at4 {α : Type} {xs : List α} : L2.atI xs 4 = xs[4]? := at_nat (k := 4)
theorem at_m1 {α : Type} {xs : List α} (h : 0 < xs.length) : L2.atI xs (-1) = xs[xs.length - 1]? := by
  unfold L2.atI L2.ixN
  rw [if_neg (by omega), if_pos (by omega)]
  have e : (-1 + (xs.length : Int)).toNat = xs.length - 1 := by omega
  rw [e]; rfl
theorem at_get {α : Type} {xs : List α} {r : Int} (h0 : 0 ≤ r) (h1 : r < xs.length) : ∃ x, x ∈ xs ∧ xs[r.toNat]? = some x ∧ L2.atI xs r = some x := by
  obtain ⟨k, rfl⟩ := Int.eq_ofNat_of_zero_le h0
  have hk : k < xs.length := by omega
  exact ⟨xs[k], List.getElem_mem hk, by simp, by rw [at_nat]; simp⟩
theorem add_int : addD st (.int i) (.int j) = some (.int (i + j)) := rfl
theorem add_tup (h : xs.length + ys.length ≤ big) : addD st (.tup xs) (.tup ys) = some (.tup (xs ++ ys)) := if_pos h
theorem add_lst (h : xs.length + ys.length ≤ big) : addD st (.lst xs) (.lst ys) = some (.lst (xs ++ ys)) := if_pos h
theorem add_str (h : a.length + b.length ≤ big) : addD st (.str a) (.str b) = some (.str (a ++ b)) := if_pos h
theorem sub_int : subD st (.int i) (.int j) = some (.int (i - j)) := rfl
theorem mul_int (h : (-18446744073709551616 < i ∧ i < 18446744073709551616) ∨ (-18446744073709551616 < j ∧ j < 18446744073709551616)) : mulD st (.int i) (.int j) = some (.int (i * j)) := by
  show (if _ then _ else _) = _
  rw [if_pos (by simpa using h)]
theorem mulL (h1 : -18446744073709551616 < i) (h2 : i < 18446744073709551616) : mulD st (.int i) (.int j) = some (.int (i * j)) := mul_int (.inl ⟨h1, h2⟩)
theorem mulR (h1 : -18446744073709551616 < j) (h2 : j < 18446744073709551616) : mulD st (.int i) (.int j) = some (.int (i * j)) := mul_int (.inr ⟨h1, h2⟩)
theorem mul_mod {k : Int} (h0 : 0 < k) (h1 : k < 18446744073709551616) : mulD st (.int (i % k)) (.int j) = some (.int (i % k * j)) :=
  mul_int (.inl ⟨by have := Int.emod_nonneg i (by omega : k ≠ 0); omega, by have := Int.emod_lt_of_pos i h0; omega⟩)
theorem mod_int (h : 0 < j) : modD st (.int i) (.int j) = some (.int (i % j)) := if_pos h
theorem fdiv_int (h : 0 < j) (h2 : j < 18446744073709551616) : fdivD st (.int i) (.int j) = some (.int (i / j)) := by
  show (if _ then _ else _) = _
  rw [if_pos (by simpa using ⟨h, h2⟩)]
theorem pow18 : powD st (.int 10) (.int 18) = some (.int 1000000000000000000) := rfl
theorem lt_int : ltB st (.int i) (.int j) = some (.bl (decide (i < j))) := rfl
theorem le_int : leB st (.int i) (.int j) = some (.bl (decide (i ≤ j))) := rfl
theorem gt_int : gtB st (.int i) (.int j) = some (.bl (decide (j < i))) := rfl
theorem ge_int : geB st (.int i) (.int j) = some (.bl (decide (j ≤ i))) := rfl
theorem tru_bl {b : Bool} : tru st (.bl b) = some b := rfl
theorem tru_int : tru st (.int i) = some (i != 0) := rfl
theorem tru_lst : tru st (.lst xs) = some (!xs.isEmpty) := rfl
theorem tru_tup : tru st (.tup xs) = some (!xs.isEmpty) := rfl
theorem eq_int : eqB st (.int i) (.int j) = some (.bl (i == j)) := by
  unfold eqB eqO
  simp [see, pln, dep, bD, eqD]
theorem ne_int : neB st (.int i) (.int j) = some (.bl (!(i == j))) := by
  unfold neB eqO
  simp [see, pln, dep, bD, eqD]
theorem eq_str : eqB st (.str a) (.str b) = some (.bl (a == b)) := by
  unfold eqB eqO
  simp [see, pln, dep, bD, eqD]
theorem ne_str : neB st (.str a) (.str b) = some (.bl (!(a == b))) := by
  unfold neB eqO
  simp [see, pln, dep, bD, eqD]
theorem eq_bl {x y : Bool} : eqB st (.bl x) (.bl y) = some (.bl (x == y)) := by
  unfold eqB eqO
  simp [see, pln, dep, bD, eqD]
theorem ne_bl {x y : Bool} : neB st (.bl x) (.bl y) = some (.bl (!(x == y))) := by
  unfold neB eqO
  simp [see, pln, dep, bD, eqD]
def putC (st : St) (n : Nat) (o : Option Cell) (i d : D) : Option St := match o, i with
  | some (.lst xs), .int k => (L2.ixN xs.length k).map fun j => st.set n (.lst (xs.set j d))
  | some (.dct ks vs), k => if keyish k && decide (ks.length ≤ big) then some (st.set n (.dct (dPut ks vs k d).1 (dPut ks vs k d).2)) else none
  | _, _ => none
theorem put_ref {i : D} : putIx st (.ref n) i d = putC st n st[n]? i d := rfl
theorem putC_lst : putC st n (some (.lst xs)) (.int i) d = (L2.ixN xs.length i).map fun j => st.set n (.lst (xs.set j d)) := rfl
theorem ix_nat {m k : Nat} (h : k < m) : L2.ixN m (k : Int) = some k := by
  unfold L2.ixN
  rw [if_pos (by omega), if_pos (by omega)]
  simp
theorem ix0 {m : Nat} (h : 0 < m) : L2.ixN m 0 = some 0 := ix_nat h
theorem ix1 {m : Nat} (h : 1 < m) : L2.ixN m 1 = some 1 := ix_nat h
theorem ix2 {m : Nat} (h : 2 < m) : L2.ixN m 2 = some 2 := ix_nat h
theorem ix3 {m : Nat} (h : 3 < m) : L2.ixN m 3 = some 3 := ix_nat h
theorem ix_get {m : Nat} (h0 : 0 ≤ i) (h1 : i < m) : L2.ixN m i = some i.toNat := by
  unfold L2.ixN
  rw [if_pos h0, if_pos h1]
theorem len_lst : lenD st (.lst xs) = some (.int xs.length) := rfl
theorem len_tup : lenD st (.tup xs) = some (.int xs.length) := rfl
theorem len_frz : lenD st (.frz ns) = some (.int ns.length) := rfl
def lenC (n : Nat) (o : Option Cell) : Option D := match seeC n o with
  | .lst xs => some (.int xs.length)
  | .dct ks _ => some (.int ks.length)
  | _ => none
theorem len_ref : lenD st (.ref n) = lenC n st[n]? := by
  unfold lenD lenC
  rw [see_ref]
  rcases seeC_cases n st[n]? with ⟨xs, e⟩ | ⟨ks, vs, e⟩ | e
  · rw [e]
  · rw [e]
  · rw [e]
theorem lenC_lst : lenC n (some (.lst xs)) = some (.int xs.length) := rfl
theorem un1_one {f : St → D → Option D} {x : D} : un1 f st [x] = f st x := rfl
theorem tuple_lst : tupleD st (.lst xs) = some (.tup xs) := rfl
theorem tuple_tup : tupleD st (.tup xs) = some (.tup xs) := rfl
theorem list_lst : listD st (.lst xs) = some (.lst xs) := rfl
theorem list_tup : listD st (.tup xs) = some (.lst xs) := rfl
theorem tuple_ref {n : Nat} (h : st[n]? = some (.lst xs)) : tupleD st (.ref n) = some (.tup xs) := by
  unfold tupleD
  rw [see_ref, h]
  rfl
theorem slice_tup {lo hi : Option Int} : sliceD st (.tup xs) lo hi = some (.tup (cut xs lo hi)) := rfl
theorem slice_lst {lo hi : Option Int} : sliceD st (.lst xs) lo hi = some (.lst (cut xs lo hi)) := rfl
theorem it_tup : itD st (.tup xs) = some (xs, none) := rfl
theorem it_lst : itD st (.lst xs) = some (xs, none) := rfl
theorem it_ref (h : st[n]? = some (.lst xs)) : itD st (.ref n) = some (xs, some n) := by
  unfold itD
  simp only
  rw [h]
theorem cut_from1 {α : Type} {x : α} {l : List α} : cut (x :: l) (some 1) none = l := by
  unfold cut HT.sIx
  simp only [List.length_cons]
  rw [if_neg (by omega)]
  have e : min (1 : Int).toNat (l.length + 1) = 1 := by
    show min 1 (l.length + 1) = 1
    omega
  rw [e]
  simp
theorem cut_to {α : Type} {l : List α} {k : Nat} : cut l none (some (k : Int)) = l.take k := by
  unfold cut HT.sIx
  simp only
  rw [if_neg (by omega)]
  simp only [Int.toNat_natCast, Nat.sub_zero, List.drop_zero]
  rw [List.take_eq_take_iff]
  omega
theorem cut_from {α : Type} {l : List α} {k : Nat} : cut l (some (k : Int)) none = l.drop k := by
  unfold cut HT.sIx
  simp only
  rw [if_neg (by omega)]
  simp only [Int.toNat_natCast]
  by_cases h : k ≤ l.length
  · rw [Nat.min_eq_left h, List.take_of_length_le (by simp)]
  · rw [Nat.min_eq_right (by omega), List.drop_of_length_le (by omega), List.drop_of_length_le (by omega)]
    simp
theorem isL_ref (h : st[n]? = some (.lst xs)) : isL st (.ref n) = true := by
  unfold isL
  simp only
  rw [h]
theorem append_ref (h : st[n]? = some (.lst xs)) (hb : xs.length < big) : xAppend st (.ref n) [d] = some (.non, st.set n (.lst (xs ++ [d]))) := by
  unfold xAppend
  simp only
  rw [h]
  simp only
  rw [if_pos hb]
theorem insert_ref (h : st[n]? = some (.lst xs)) (hb : xs.length < big) (h0 : 0 ≤ i) (h1 : i < (big : Int)) : xInsert st (.ref n) [.int i, d] = some (.non, st.set n (.lst (xs.take i.toNat ++ [d] ++ xs.drop i.toNat))) := by
  unfold xInsert
  simp only
  rw [h]
  simp only
  rw [if_pos ⟨hb, h0, h1⟩]
theorem extend_ref (h : st[n]? = some (.lst xs)) (hb : xs.length + ys.length ≤ big) : xExtend st (.ref n) [.lst ys] = some (.non, st.set n (.lst (xs ++ ys))) := by
  unfold xExtend
  simp only
  rw [h]
  simp only [see]
  rw [if_pos hb]
end
theorem Old.refl (st : St) : Old st st := fun i c hi h => .inl h

theorem at_new {st : St} {c : Cell} : (st ++ [c])[st.length]? = some c := by simp
theorem set_new {st : St} {c c' : Cell} : (st ++ [c]).set st.length c' = st ++ [c'] := by simp [List.set_append]
theorem at_old {st : St} {c : Cell} {n : Nat} (h : n < st.length) : (st ++ [c])[n]? = st[n]? := List.getElem?_append_left h
theorem set_old {st : St} {c c' : Cell} {n : Nat} (h : n < st.length) : (st ++ [c]).set n c' = st.set n c' ++ [c] := by simp [List.set_append, h]
section
variable {st : St}
theorem plns_strs : ∀ {fs : List Str}, plns (fs.map D.str) = true
  | [] => rfl
  | f :: fs => by simp [plns, pln, plns_strs]
theorem pln_strs {fs : List Str} : pln (.lst (fs.map D.str)) = true := by simp [pln, plns_strs]
theorem any_strs {s : Str} : ∀ {fs : List Str}, ((fs.map D.str).any fun z => eqD z (.str s)) = decide (s ∈ fs)
  | [] => rfl
  | f :: fs => by
    simp only [List.map_cons, List.any_cons, any_strs, eqD]
    by_cases h : f = s
    · subst h; simp
    · have h' : ¬ s = f := fun z => h z.symm
      simp [h, h']
theorem in_strs {s : Str} {fs : List Str} : inB st (.str s) (.lst (fs.map D.str)) = some (.bl (decide (s ∈ fs))) := by
  unfold inB inO
  simp [see, pln, plns_strs, dep, bD, any_strs, -List.any_map]
theorem nin_strs {s : Str} {fs : List Str} : ninB st (.str s) (.lst (fs.map D.str)) = some (.bl (!decide (s ∈ fs))) := by
  unfold ninB inO
  simp [see, pln, plns_strs, dep, bD, any_strs, -List.any_map]
theorem in_ref {x : D} {n : Nat} {xs : List D} (h : st[n]? = some (.lst xs)) : inB st x (.ref n) = inB st x (.lst xs) := by
  unfold inB inO
  rw [see_ref, h]
  rfl
theorem nin_ref {x : D} {n : Nat} {xs : List D} (h : st[n]? = some (.lst xs)) : ninB st x (.ref n) = ninB st x (.lst xs) := by
  unfold ninB inO
  rw [see_ref, h]
  rfl
theorem asBools_map : ∀ {bs : List Bool}, asBools (bs.map D.bl) = some bs
  | [] => rfl
  | b :: bs => by simp [asBools, asBools_map]
theorem all_bls {bs : List Bool} : allD st (.lst (bs.map D.bl)) = some (.bl (bs.all id)) := by
  unfold allD
  simp [see, asBools_map]
theorem any_bls {bs : List Bool} : anyD st (.lst (bs.map D.bl)) = some (.bl (bs.any id)) := by
  unfold anyD
  simp [see, asBools_map]
theorem plns_bls : ∀ {bs : List Bool}, plns (bs.map D.bl) = true
  | [] => rfl
  | f :: fs => by simp [plns, pln, plns_bls]
theorem any_bls_eq {v : Bool} : ∀ {bs : List Bool}, ((bs.map D.bl).any fun z => eqD z (.bl v)) = bs.any (· == v)
  | [] => rfl
  | f :: fs => by simp only [List.map_cons, List.any_cons, any_bls_eq, eqD]
theorem nin_bls {v : Bool} {bs : List Bool} : ninB st (.bl v) (.lst (bs.map D.bl)) = some (.bl (!bs.any (· == v))) := by
  unfold ninB inO
  simp [see, pln, plns_bls, dep, bD, any_bls_eq, -List.any_map]
theorem in_bls {v : Bool} {bs : List Bool} : inB st (.bl v) (.lst (bs.map D.bl)) = some (.bl (bs.any (· == v))) := by
  unfold inB inO
  simp [see, pln, plns_bls, dep, bD, any_bls_eq, -List.any_map]
end

inductive Al {α β : Type} (R : α → β → Prop) : List α → List β → Prop
  | nil : Al R [] []
  | cons {x : α} {y : β} {xs : List α} {ys : List β} : R x y → Al R xs ys → Al R (x :: xs) (y :: ys)
section
variable {α β : Type} {R R' : α → β → Prop}
theorem Al.append : ∀ {xs xs' : List α} {ys ys' : List β}, Al R xs ys → Al R xs' ys' → Al R (xs ++ xs') (ys ++ ys')
  | _, _, _, _, .nil, h => h
  | _, _, _, _, .cons r h, h' => .cons r (h.append h')
theorem Al.length : ∀ {xs : List α} {ys : List β}, Al R xs ys → xs.length = ys.length
  | _, _, .nil => rfl
  | _, _, .cons _ h => by simp [h.length]
theorem Al.get : ∀ {xs : List α} {ys : List β}, Al R xs ys → ∀ {k : Nat} {x : α}, xs[k]? = some x → ∃ y, ys[k]? = some y ∧ R x y
  | _, _, .nil, k, x, h => by simp at h
  | _, _, .cons (x := x0) (y := y0) r h, 0, x, e => by
    have e' : x0 = x := by simpa using e
    subst e'
    exact ⟨y0, rfl, r⟩
  | _, _, .cons _ h, k + 1, x, e => by
    obtain ⟨y, e1, r⟩ := h.get (k := k) (x := x) (by simpa using e)
    exact ⟨y, by simpa using e1, r⟩
theorem Al.imp (hr : ∀ x y, R x y → R' x y) : ∀ {xs : List α} {ys : List β}, Al R xs ys → Al R' xs ys
  | _, _, .nil => .nil
  | _, _, .cons r h => .cons (hr _ _ r) (h.imp hr)
theorem Al.left : ∀ {xs : List α} {ys : List β}, Al R xs ys → ∀ y ∈ ys, ∃ x ∈ xs, R x y
  | _, _, .nil, y, h => by simp at h
  | _, _, .cons (x := x0) r h, y, hy => by
    rcases List.mem_cons.mp hy with e | e
    · subst e; exact ⟨x0, List.mem_cons_self, r⟩
    · obtain ⟨x, hx, q⟩ := h.left y e
      exact ⟨x, List.mem_cons_of_mem _ hx, q⟩
end
theorem bels_strs {n : Nat} : ∀ {fs : List Str}, bels n (fs.map D.str) = true
  | [] => rfl
  | f :: fs => by simp [bels, bel, bels_strs]
theorem old_app {st more : St} : Old st (st ++ more) := fun i c hi h => .inl (by rwa [List.getElem?_append_left hi] at h)
theorem ok_ice_new {st : St} {r : R D} {P : List D → Prop} {Q : D → St → Prop} (h : Ok r fun d st' => ∃ xs, d = .ref st.length ∧ st' = st ++ [.lst xs] ∧ bels st.length xs = true ∧ P xs) (hq : ∀ xs, P xs → Q (.lst xs) st) : Ok (ice st r) Q := by
  obtain ⟨d, st', rfl, xs, rfl, rfl, hb, hp⟩ := h.ex
  rw [ice_new rfl old_app hb]
  exact hq xs hp
theorem ok_ice_val {st : St} {r : R D} {Q : D → St → Prop} (h : Ok r fun d st' => isRef d = none ∧ Q d st') : Ok (ice st r) Q := by
  obtain ⟨d, st', rfl, hi, hq⟩ := h.ex
  rw [ice_val hi]
  exact hq
theorem gc_new {st : St} {xs : List D} (hb : bels st.length xs = true) : gc st (.ref st.length) (st ++ [.lst xs]) = .ok (.ref st.length) (st ++ [.lst xs]) := by
  rw [gc_ref (st' := st ++ [.lst xs]) (cl := .lst xs) (Nat.le_refl _) at_new old_app (show belC st.length (.lst xs) = true from hb)]
  simp
end RP
end
section
set_option Elab.async false
set_option linter.all false
set_option maxRecDepth 100000
namespace RP
open PySem
section
variable {FC : Cell → Prop} {n : Nat} {st S S' rest : St}
def Fd (FC : Cell → Prop) (n : Nat) (st : St) : Prop := ∃ c, st[n]? = some c ∧ FC c
def Fr (FC : Cell → Prop) (n : Nat) (st rest S : St) : Prop := ∃ c, FC c ∧ S = st.set n c ++ rest
theorem Fd.lt (h : Fd FC n st) : n < st.length := by
  obtain ⟨c, h, _⟩ := h
  exact (List.getElem?_eq_some_iff.mp h).1
theorem Fr.refl (h : Fd FC n st) : Fr FC n st [] st := by
  obtain ⟨c, h, hc⟩ := h
  refine ⟨c, hc, ?_⟩
  rw [List.append_nil]
  apply List.ext_getElem?
  intro i
  by_cases hi : n = i
  · subst hi
    rw [List.getElem?_set_self (List.getElem?_eq_some_iff.mp h).1, h]
  · rw [List.getElem?_set_ne hi]
theorem Fr.len (h : Fr FC n st rest S) : S.length = st.length + rest.length := by
  obtain ⟨c, _, rfl⟩ := h
  simp
theorem Fr.fd (hd : n < st.length) (h : Fr FC n st rest S) : Fd FC n S := by
  obtain ⟨c, hc, rfl⟩ := h
  exact ⟨c, by rw [List.getElem?_append_left (by simpa using hd), List.getElem?_set_self hd], hc⟩
theorem Fr.at (h : Fr FC n st rest S) (i : Nat) : S[st.length + i]? = rest[i]? := by
  obtain ⟨c, _, rfl⟩ := h
  rw [List.getElem?_append_right (by simp)]
  simp
theorem Fr.old (h : Fr FC n st rest S) {i : Nat} (hi : i < st.length) (hn : i ≠ n) : S[i]? = st[i]? := by
  obtain ⟨c, _, rfl⟩ := h
  rw [List.getElem?_append_left (by simpa using hi), List.getElem?_set_ne (Ne.symm hn)]
theorem Fr.put (h : Fr FC n st rest S) (i : Nat) (c' : Cell) : Fr FC n st (rest.set i c') (S.set (st.length + i) c') := by
  obtain ⟨c, hc, rfl⟩ := h
  refine ⟨c, hc, ?_⟩
  rw [List.set_append_right _ _ (by simp)]
  simp
theorem Fr.push (h : Fr FC n st rest S) (c' : Cell) : Fr FC n st (rest ++ [c']) (S ++ [c']) := by
  obtain ⟨c, hc, rfl⟩ := h
  exact ⟨c, hc, by rw [List.append_assoc]⟩
theorem Fr.go (hd : n < st.length) (h : Fr FC n st rest S) (h' : Fr FC n S [] S') : Fr FC n st rest S' := by
  obtain ⟨c, hc, rfl⟩ := h
  obtain ⟨c', hc', rfl⟩ := h'
  refine ⟨c', hc', ?_⟩
  rw [List.append_nil, List.set_append_left _ _ (by simpa using hd), List.set_set]
theorem Fr.gc (hF : ∀ (c : Cell) (m : Nat), FC c → belC m c = true) (h : Fr FC n st rest S) {d : D} (hb : bel st.length d = true) : ∃ S', RP.gc st d S = .ok d S' ∧ Fr FC n st [] S' := by
  obtain ⟨c, hc, rfl⟩ := h
  refine ⟨st.set n c, ?_, c, hc, by simp⟩
  rw [gc_val (by simp) ?_ hb]
  · congr 1
    rw [List.take_append_of_le_length (by simp), List.take_of_length_le (by simp)]
  · intro i x hi hx
    rw [List.getElem?_append_left (by simpa using hi)] at hx
    by_cases hn : n = i
    · subst hn
      rw [List.getElem?_set_self hi] at hx
      cases hx
      exact .inr (hF _ _ hc)
    · rw [List.getElem?_set_ne hn] at hx
      exact .inl hx
theorem Fr.ok (hF : ∀ (c : Cell) (m : Nat), FC c → belC m c = true) (h : Fr FC n st rest S) {d : D} (hb : bel st.length d = true) {Q : D → St → Prop} (q : ∀ S', Fr FC n st [] S' → Q d S') : Ok (RP.gc st d S) Q := by
  obtain ⟨S', e, h'⟩ := h.gc hF hb
  rw [e]
  exact q S' h'
end
section
variable {c : Call} {env : Env} {st : St} {Q : List D → St → Prop} {i m : Nat} {elt : ME} {all : List D}
theorem comp_map {g : MG} (f : D → D) {xs : List D} (hall : all = xs) (h : ∀ x ∈ xs, ∃ env1, g x env = some env1 ∧ Ok (elt c env1 st) fun d st' => d = f x ∧ st' = st) (q : Q (xs.map f) st) : Ok (compL c none all g tYesM elt env all st) Q := by
  subst hall
  refine comp_pure (fun _ => true) f (fun n h => by cases h) all Q ?_ (by rw [List.filter_eq_self.mpr (fun _ _ => rfl)]; exact q)
  intro x hx
  obtain ⟨env1, e1, h1⟩ := h x hx
  obtain ⟨d, st', e, rfl, rfl⟩ := h1.ex
  exact ⟨env1, e1, rfl, fun _ => e⟩
theorem comp_rng (f : Nat → D) (hi : i < env.length) (hall : all = (List.range m).map fun (k : Nat) => D.int k) (h : ∀ k, k < m → Ok (elt c (env.set i (some (.int k))) st) fun d st' => d = f k ∧ st' = st) (q : Q ((List.range m).map f) st) :
    Ok (compL c none all (gNm i) tYesM elt env all st) Q := by
  refine comp_map (fun d => match d with | .int k => f k.toNat | _ => .non) hall ?_ ?_
  · intro x hx
    obtain ⟨k, hk, rfl⟩ := List.mem_map.mp hx
    exact ⟨env.set i (some (.int k)), by unfold gNm; rw [if_pos hi], by simpa using h k (by simpa using hk)⟩
  · rw [List.map_map]
    exact q
theorem comp_go {g : MG} (I : List D → List D → St → Prop) {xs : List D} (hall : all = xs) (h0 : I [] [] st) (h : ∀ (x : D) (done ys : List D) (st : St), x ∈ xs → I done ys st → ∃ env1, g x env = some env1 ∧ Ok (elt c env1 st) fun y st' => I (done ++ [x]) (ys ++ [y]) st')
    (q : ∀ ys st', I xs ys st' → Q ys st') : Ok (compL c none all g tYesM elt env all st) Q := by
  subst hall
  refine comp_inv I all [] [] st Q h0 ?_ (fun _ _ _ _ n h => by cases h) rfl fun ys st' hi => q ys st' (by simpa using hi)
  intro x rest done ys st' he hi
  obtain ⟨env1, e1, h1⟩ := h x done ys st' (by rw [← he]; simp) hi
  exact ⟨env1, e1, by rw [ok_yes]; simpa using h1⟩
end
section
variable {α : Type} {c : Call} {env : Env} {st : St} {Q : List D → St → Prop} {elt : ME} {ts : MT} {all : List D} {gd : Option Nat} {g : MG} {e : α → D}
theorem enc_at {as : List α} {done rest : List D} {x : D} (h : done ++ x :: rest = as.map e) : ∃ a r, x = e a ∧ as = as.take done.length ++ a :: r ∧ as.take (done.length + 1) = as.take done.length ++ [a] := by
  have hl : done.length < as.length := by
    have := congrArg List.length h
    simp at this
    omega
  have hx : (as.map e)[done.length]? = some x := by rw [← h]; simp
  rw [List.getElem?_map, List.getElem?_eq_getElem hl] at hx
  refine ⟨as[done.length], as.drop (done.length + 1), (Option.some.inj hx).symm, ?_, ?_⟩
  · rw [← List.drop_eq_getElem_cons hl, List.take_append_drop]
  · rw [List.take_succ, List.getElem?_eq_getElem hl]
    rfl
theorem comp_gen (as : List α) (I : List α → List D → St → Prop) (hall : all = as.map e) (h0 : I [] [] st)
    (turn : ∀ (a : α) (rest done : List α) (ys : List D) (st : St), as = done ++ a :: rest → I done ys st → ∃ env1, g (e a) env = some env1 ∧ Ok (ts c env1 st) fun b st1 => if b = true then Ok (elt c env1 st1) fun y st2 => I (done ++ [a]) (ys ++ [y]) st2 else I (done ++ [a]) ys st1)
    (hg : ∀ done ys st, I done ys st → gOk gd all st) (q : ∀ ys st', I as ys st' → Q ys st') : Ok (compL c gd all g ts elt env all st) Q := by
  subst hall
  refine comp_inv (fun done ys st => I (as.take done.length) ys st) (as.map e) [] [] st Q (by simpa using h0) ?_ (fun done ys st => hg _ ys st) rfl fun ys st' h => q ys st' (by simpa using h)
  intro x rest done ys st he hi
  obtain ⟨a, r, rfl, ha, ht⟩ := enc_at he
  have := turn a r _ ys st ha hi
  simpa only [List.length_append, List.length_singleton, ht] using this
theorem comp_encF (as : List α) (p : α → Bool) (f : α → D) (hall : all = as.map e) (hg : gOk gd all st) (h : ∀ a ∈ as, ∃ env1, g (e a) env = some env1 ∧ (Ok (ts c env1 st) fun b st' => b = p a ∧ st' = st) ∧ (p a = true → Ok (elt c env1 st) fun d st' => d = f a ∧ st' = st)) (q : Q ((as.filter p).map f) st) : Ok (compL c gd all g ts elt env all st) Q := by
  refine comp_gen as (fun done ys st' => st' = st ∧ ys = (done.filter p).map f) hall ⟨rfl, rfl⟩ ?_ (fun _ _ _ hi => by rw [hi.1]; exact hg) (fun ys st' hi => by rw [hi.1, hi.2]; exact q)
  rintro a rest done ys st' ha ⟨rfl, rfl⟩
  obtain ⟨env1, e1, h1, h2⟩ := h a (by rw [ha]; simp)
  refine ⟨env1, e1, h1.mono ?_⟩
  rintro b st1 ⟨rfl, rfl⟩
  by_cases hp : p a = true
  · rw [if_pos hp]
    refine (h2 hp).mono ?_
    rintro d st2 ⟨rfl, rfl⟩
    exact ⟨rfl, by simp [hp]⟩
  · rw [if_neg hp]
    exact ⟨rfl, by simp [hp]⟩
theorem comp_enc (as : List α) (f : α → D) (hall : all = as.map e) (hg : gOk gd all st) (h : ∀ a ∈ as, ∃ env1, g (e a) env = some env1 ∧ Ok (elt c env1 st) fun d st' => d = f a ∧ st' = st) (q : Q (as.map f) st) : Ok (compL c gd all g tYesM elt env all st) Q :=
  comp_encF as (fun _ => true) f hall hg (fun a ha => by
    obtain ⟨env1, e1, h1⟩ := h a ha
    exact ⟨env1, e1, ⟨rfl, rfl⟩, fun _ => h1⟩) (by rw [List.filter_eq_self.mpr (fun _ _ => rfl)]; exact q)
theorem for_gen {a : MS} (as : List α) (I : List α → Env → St → Prop) {qn : Env → St → Prop} {qr : D → St → Prop} {qb qc : Env → St → Prop} (hall : all = as.map e) (h0 : I [] env st)
    (turn : ∀ (x : α) (rest done : List α) (env : Env) (st : St), as = done ++ x :: rest → I done env st → ∃ env1, g (e x) env = some env1 ∧ OkS (a c env1 st) (I (done ++ [x])) qr qn (I (done ++ [x])))
    (hg : ∀ done env st, I done env st → gOk gd all st) (q : ∀ env st, I as env st → qn env st) : OkS (forL c gd all g a all env st) qn qr qb qc := by
  subst hall
  refine for_inv (fun done env st => I (as.take done.length) env st) (as.map e) [] env st (by simpa using h0) ?_ (fun done env st => hg _ env st) rfl fun env st h => q env st (by simpa using h)
  intro x rest done env st he hi
  obtain ⟨a', r, rfl, ha, ht⟩ := enc_at he
  have := turn a' r _ env st ha hi
  simpa only [List.length_append, List.length_singleton, ht] using this
theorem gNone {xs : List D} : gOk none xs st := fun n h => by cases h
end
theorem zip_one {α β : Type} : ∀ {xs : List α} {ys : List β}, xs.Nodup → ∀ {a : α} {k k' : β}, (a, k) ∈ xs.zip ys → (a, k') ∈ xs.zip ys → k = k'
  | [], _, _, a, k, k', h, _ => by simp at h
  | x :: xs, [], _, a, k, k', h, _ => by simp at h
  | x :: xs, y :: ys, nd, a, k, k', h, h' => by
    rw [List.nodup_cons] at nd
    rw [List.zip_cons_cons, List.mem_cons] at h h'
    rcases h with h | h
    · cases h
      rcases h' with h' | h'
      · cases h'; rfl
      · exact (nd.1 (List.of_mem_zip h').1).elim
    · rcases h' with h' | h'
      · cases h'
        exact (nd.1 (List.of_mem_zip h).1).elim
      · exact zip_one nd.2 h h'
theorem range_zip {α β γ : Type} (f : α → β → γ) {a : α} {b : β} {xs : List α} {ys : List β} {n : Nat} (h1 : xs.length = n) (h2 : ys.length = n) : (List.range n).map (fun k => f (xs.getD k a) (ys.getD k b)) = (xs.zip ys).map fun p => f p.1 p.2 := by
  apply List.ext_getElem?
  intro i
  by_cases hi : i < n
  · have e1 : xs[i]? = some (xs[i]'(by omega)) := by simp
    have e2 : ys[i]? = some (ys[i]'(by omega)) := by simp
    have e3 : (xs.zip ys)[i]? = some (xs[i]'(by omega), ys[i]'(by omega)) := by rw [List.getElem?_zip_eq_some]; exact ⟨e1, e2⟩
    rw [List.getElem?_map, List.getElem?_map, e3, List.getElem?_range hi]
    simp [List.getD, e1, e2]
  · rw [List.getElem?_eq_none (by simp; omega), List.getElem?_eq_none (by simp; omega)]
end RP
end
section
set_option Elab.async false
set_option linter.all false
set_option maxRecDepth 100000
namespace RP
open PySem
mutual
def nob : D → Bool
  | .tup xs => nobs xs
  | .lst xs => nobs xs
  | .non => true
  | .int _ => true
  | .str _ => true
  | _ => false
def nobs : List D → Bool
  | [] => true
  | x :: xs => nob x && nobs xs
end
theorem nobs_iff : ∀ {xs : List D}, nobs xs = true ↔ ∀ x ∈ xs, nob x = true
  | [] => by simp [nobs]
  | x :: xs => by simp [nobs, nobs_iff (xs := xs)]
theorem plns_iff : ∀ {xs : List D}, plns xs = true ↔ ∀ x ∈ xs, pln x = true
  | [] => by simp [plns]
  | x :: xs => by simp [plns, plns_iff (xs := xs)]
theorem bels_iff {m : Nat} : ∀ {xs : List D}, bels m xs = true ↔ ∀ x ∈ xs, bel m x = true
  | [] => by simp [bels]
  | x :: xs => by simp [bels, bels_iff (xs := xs)]
mutual
theorem pln_nob : ∀ {d : D}, nob d = true → pln d = true
  | .tup xs, h => by simpa [pln] using plns_nob (by simpa [nob] using h)
  | .lst xs, h => by simpa [pln] using plns_nob (by simpa [nob] using h)
  | .non, _ => rfl
  | .int _, _ => rfl
  | .str _, _ => rfl
  | .bl _, h => by simp [nob] at h
  | .dct _ _, h => by simp [nob] at h
  | .set _, h => by simp [nob] at h
  | .frz _, h => by simp [nob] at h
  | .ref _, h => by simp [nob] at h
  | .exc _, h => by simp [nob] at h
  | .exf _ _ _ _, h => by simp [nob] at h
theorem plns_nob : ∀ {ds : List D}, nobs ds = true → plns ds = true
  | [], _ => rfl
  | d :: ds, h => by
    have h' : nob d = true ∧ nobs ds = true := by simpa [nobs] using h
    simp [plns, pln_nob h'.1, plns_nob h'.2]
end
mutual
theorem bel_pln {m : Nat} : ∀ {d : D}, pln d = true → bel m d = true
  | .tup xs, h => by simpa [bel] using bels_pln (by simpa [pln] using h)
  | .lst xs, h => by simpa [bel] using bels_pln (by simpa [pln] using h)
  | .non, _ => rfl
  | .int _, _ => rfl
  | .str _, _ => rfl
  | .bl _, h => rfl
  | .dct _ _, h => by simp [pln] at h
  | .set _, h => by simp [pln] at h
  | .frz _, h => by simp [pln] at h
  | .ref _, h => by simp [pln] at h
  | .exc _, h => by simp [pln] at h
  | .exf _ _ _ _, h => by simp [pln] at h
theorem bels_pln {m : Nat} : ∀ {ds : List D}, plns ds = true → bels m ds = true
  | [], _ => rfl
  | d :: ds, h => by
    have h' : pln d = true ∧ plns ds = true := by simpa [plns] using h
    simp [bels, bel_pln h'.1, bels_pln h'.2]
end
theorem isRef_pln {d : D} (h : pln d = true) : isRef d = none := by
  cases d <;> first | rfl | simp [pln] at h
theorem see_pln {st : St} {d : D} (h : pln d = true) : see st d = d := by
  cases d <;> first | rfl | simp [pln] at h
mutual
theorem eqD_nob : ∀ {d e : D}, nob d = true → nob e = true → (eqD d e = true ↔ d = e)
  | .non, e, _, he => by cases e <;> simp_all [eqD, nob]
  | .int i, e, _, he => by cases e <;> simp_all [eqD, nob]
  | .str x, e, _, he => by cases e <;> simp_all [eqD, nob]
  | .tup xs, e, hd, he => by
    cases e with
    | tup ys => simpa [eqD] using eqDs_nob (d := xs) (e := ys) (by simpa [nob] using hd) (by simpa [nob] using he)
    | _ => simp_all [eqD, nob]
  | .lst xs, e, hd, he => by
    cases e with
    | lst ys => simpa [eqD] using eqDs_nob (d := xs) (e := ys) (by simpa [nob] using hd) (by simpa [nob] using he)
    | _ => simp_all [eqD, nob]
  | .bl _, _, h, _ => by simp [nob] at h
  | .dct _ _, _, h, _ => by simp [nob] at h
  | .set _, _, h, _ => by simp [nob] at h
  | .frz _, _, h, _ => by simp [nob] at h
  | .ref _, _, h, _ => by simp [nob] at h
  | .exc _, _, h, _ => by simp [nob] at h
  | .exf _ _ _ _, _, h, _ => by simp [nob] at h
theorem eqDs_nob : ∀ {d e : List D}, nobs d = true → nobs e = true → (eqDs d e = true ↔ d = e)
  | [], [], _, _ => by simp [eqDs]
  | [], y :: ys, _, _ => by simp [eqDs]
  | x :: xs, [], _, _ => by simp [eqDs]
  | x :: xs, y :: ys, hd, he => by
    have h1 : nob x = true ∧ nobs xs = true := by simpa [nobs] using hd
    have h2 : nob y = true ∧ nobs ys = true := by simpa [nobs] using he
    simp [eqDs, eqD_nob h1.1 h2.1, eqDs_nob h1.2 h2.2]
end
open Classical in
theorem eqD_dec {d e : D} (hd : nob d = true) (he : nob e = true) : eqD d e = decide (d = e) := by
  have := eqD_nob hd he
  by_cases h : d = e
  · rw [decide_eq_true h]; exact this.mpr h
  · rw [decide_eq_false h]; cases q : eqD d e with
    | true => exact (h (this.mp q)).elim
    | false => rfl
theorem deps_le : ∀ {xs : List D} {n : Nat}, (∀ x ∈ xs, dep x ≤ n) → deps xs ≤ n
  | [], n, _ => by simp [deps]
  | x :: xs, n, h => by
    rw [deps]
    exact Nat.max_le.mpr ⟨h x List.mem_cons_self, deps_le fun y hy => h y (List.mem_cons_of_mem _ hy)⟩
theorem le_deps : ∀ {xs : List D} {x : D}, x ∈ xs → dep x ≤ deps xs
  | x :: xs, y, h => by
    rw [deps]
    rcases List.mem_cons.mp h with rfl | h
    · exact Nat.le_max_left _ _
    · exact Nat.le_trans (le_deps h) (Nat.le_max_right _ _)
section
variable {st : St} {d e : D} {xs : List D}
open Classical
theorem eqO_nob (hd : nob d = true) (he : nob e = true) (h : dep d ≤ 500) : eqO st d e = some (decide (d = e)) := by
  unfold eqO
  rw [see_pln (pln_nob hd), see_pln (pln_nob he), if_pos (by simp [pln_nob hd, pln_nob he]; omega), eqD_dec hd he]
theorem eq_nob (hd : nob d = true) (he : nob e = true) (h : dep d ≤ 500) : eqB st d e = some (.bl (decide (d = e))) := by
  unfold eqB
  rw [eqO_nob hd he h]; rfl
theorem ne_nob (hd : nob d = true) (he : nob e = true) (h : dep d ≤ 500) : neB st d e = some (.bl (!decide (d = e))) := by
  unfold neB
  rw [eqO_nob hd he h]; rfl
theorem any_nob (hd : nob d = true) (he : nobs xs = true) : (xs.any fun z => eqD z d) = decide (d ∈ xs) := by
  have h1 : ∀ x ∈ xs, eqD x d = decide (x = d) := fun x hx => eqD_dec (nobs_iff.mp he x hx) hd
  have : (xs.any fun z => eqD z d) = true ↔ d ∈ xs := by
    rw [List.any_eq_true]
    constructor
    · rintro ⟨x, hx, h⟩
      rw [h1 x hx] at h
      rw [← of_decide_eq_true h]; exact hx
    · intro h
      exact ⟨d, h, by rw [h1 d h]; simp⟩
  by_cases h : d ∈ xs
  · rw [decide_eq_true h]; exact this.mpr h
  · rw [decide_eq_false h]
    cases q : (xs.any fun z => eqD z d) with
    | true => exact (h (this.mp q)).elim
    | false => rfl
theorem inO_tup (hd : nob d = true) (he : nobs xs = true) (h : dep d ≤ 500) : inO st d (.tup xs) = some (decide (d ∈ xs)) := by
  have h1 : see st (.tup xs) = .tup xs := rfl
  unfold inO
  simp only [h1, see_pln (pln_nob hd)]
  rw [if_pos (by simp [pln_nob hd, plns_nob he]; omega), any_nob hd he]
theorem inO_lst (hd : nob d = true) (he : nobs xs = true) (h : dep d ≤ 500) : inO st d (.lst xs) = some (decide (d ∈ xs)) := by
  have h1 : see st (.lst xs) = .lst xs := rfl
  unfold inO
  simp only [h1, see_pln (pln_nob hd)]
  rw [if_pos (by simp [pln_nob hd, plns_nob he]; omega), any_nob hd he]
theorem inO_ref {n : Nat} (hn : st[n]? = some (.lst xs)) (hd : nob d = true) (he : nobs xs = true) (h : dep d ≤ 500) : inO st d (.ref n) = some (decide (d ∈ xs)) := by
  have h1 : see st (.ref n) = .lst xs := by simp [see, hn]
  unfold inO
  simp only [h1, see_pln (pln_nob hd)]
  rw [if_pos (by simp [pln_nob hd, plns_nob he]; omega), any_nob hd he]
theorem in_tup (hd : nob d = true) (he : nobs xs = true) (h : dep d ≤ 500) : inB st d (.tup xs) = some (.bl (decide (d ∈ xs))) := by unfold inB; rw [inO_tup hd he h]; rfl
theorem in_lst (hd : nob d = true) (he : nobs xs = true) (h : dep d ≤ 500) : inB st d (.lst xs) = some (.bl (decide (d ∈ xs))) := by unfold inB; rw [inO_lst hd he h]; rfl
theorem in_refl {n : Nat} (hn : st[n]? = some (.lst xs)) (hd : nob d = true) (he : nobs xs = true) (h : dep d ≤ 500) : inB st d (.ref n) = some (.bl (decide (d ∈ xs))) := by unfold inB; rw [inO_ref hn hd he h]; rfl
theorem nin_tup (hd : nob d = true) (he : nobs xs = true) (h : dep d ≤ 500) : ninB st d (.tup xs) = some (.bl (!decide (d ∈ xs))) := by unfold ninB; rw [inO_tup hd he h]; rfl
theorem nin_lst (hd : nob d = true) (he : nobs xs = true) (h : dep d ≤ 500) : ninB st d (.lst xs) = some (.bl (!decide (d ∈ xs))) := by unfold ninB; rw [inO_lst hd he h]; rfl
theorem nin_refl {n : Nat} (hn : st[n]? = some (.lst xs)) (hd : nob d = true) (he : nobs xs = true) (h : dep d ≤ 500) : ninB st d (.ref n) = some (.bl (!decide (d ∈ xs))) := by unfold ninB; rw [inO_ref hn hd he h]; rfl
end
theorem neB_see {st : St} {d e d' e' : D} (h1 : see st d = d') (h2 : see st e = e') (p1 : pln d' = true) (p2 : pln e' = true) : neB st d e = neB st d' e' := by
  unfold neB eqO
  rw [h1, h2, see_pln p1, see_pln p2]
theorem eqB_see {st : St} {d e d' e' : D} (h1 : see st d = d') (h2 : see st e = e') (p1 : pln d' = true) (p2 : pln e' = true) : eqB st d e = eqB st d' e' := by
  unfold eqB eqO
  rw [h1, h2, see_pln p1, see_pln p2]
theorem see_cell {st : St} {n : Nat} {xs : List D} (h : st[n]? = some (.lst xs)) : see st (.ref n) = .lst xs := by simp [see, h]
inductive Pt where
  | unk (x : Str)
  | nd (f : Str) (ks : List Pt)
  deriving Inhabited
mutual
def encT : Pt → D
  | .unk x => .str x
  | .nd f ks => .tup (.str f :: encTs ks)
def encTs : List Pt → List D
  | [] => []
  | t :: ts => encT t :: encTs ts
end
theorem encTs_map : ∀ {ts : List Pt}, encTs ts = ts.map encT
  | [] => rfl
  | t :: ts => by rw [encTs, encTs_map]; rfl
theorem encT_nd {f : Str} {ks : List Pt} : encT (.nd f ks) = .tup (.str f :: ks.map encT) := by rw [encT, encTs_map]
theorem encT_unk {x : Str} : encT (.unk x) = .str x := by rw [encT]
theorem Pt.ind {P : Pt → Prop} (unk : ∀ x, P (.unk x)) (nd : ∀ f ks, (∀ t ∈ ks, P t) → P (.nd f ks)) : ∀ t, P t
  | .unk x => unk x
  | .nd f ks => nd f ks fun t _ => Pt.ind unk nd t
mutual
def hgt : Pt → Nat
  | .unk _ => 0
  | .nd _ ks => hgts ks + 1
def hgts : List Pt → Nat
  | [] => 0
  | t :: ts => max (hgt t) (hgts ts)
end
mutual
def siz : Pt → Nat
  | .unk _ => 1
  | .nd _ ks => 1 + sizs ks
def sizs : List Pt → Nat
  | [] => 0
  | t :: ts => siz t + sizs ts
end
theorem hgts_le : ∀ {ts : List Pt} {n : Nat}, hgts ts ≤ n ↔ ∀ t ∈ ts, hgt t ≤ n
  | [], n => by simp [hgts]
  | t :: ts, n => by simp [hgts, Nat.max_le, hgts_le (ts := ts)]
theorem hgt_mem {ts : List Pt} {t : Pt} (h : t ∈ ts) : hgt t ≤ hgts ts := hgts_le.mp (Nat.le_refl _) t h
theorem sizs_sum : ∀ {ts : List Pt}, sizs ts = (ts.map siz).sum
  | [] => rfl
  | t :: ts => by simp [sizs, sizs_sum]
theorem siz_mem : ∀ {ts : List Pt} {t : Pt}, t ∈ ts → siz t ≤ sizs ts
  | u :: ts, t, h => by
    rw [sizs]
    rcases List.mem_cons.mp h with rfl | h
    · omega
    · have := siz_mem h; omega
theorem siz_pos : ∀ t : Pt, 0 < siz t
  | .unk _ => by rw [siz]; omega
  | .nd _ _ => by rw [siz]; omega
theorem nob_T : ∀ t : Pt, nob (encT t) = true := Pt.ind (fun x => by rw [encT_unk]; rfl) fun f ks ih => by
  rw [encT_nd]
  simp only [nob, nobs, Bool.true_and]
  rw [nobs_iff]
  intro x hx
  obtain ⟨t, ht, rfl⟩ := List.mem_map.mp hx
  exact ih t ht
theorem dep_T : ∀ t : Pt, dep (encT t) = hgt t
  | .unk x => by rw [encT, dep, hgt]; intro a h; cases h; intro a h; cases h
  | .nd f ks => by
    have hd : ∀ ks : List Pt, (∀ t ∈ ks, dep (encT t) = hgt t) → deps (ks.map encT) = hgts ks := by
      intro ks
      induction ks with
      | nil => intro _; rfl
      | cons t ts ih => intro h; rw [List.map_cons, deps, hgts, h t List.mem_cons_self, ih fun u hu => h u (List.mem_cons_of_mem _ hu)]
    rw [encT_nd, dep, deps, hgt, hd ks fun t ht => dep_T t]
    simp [dep]
mutual
theorem encT_inj : ∀ {t u : Pt}, encT t = encT u → t = u
  | .unk x, .unk y, h => by rw [encT, encT] at h; cases h; rfl
  | .unk x, .nd g ls, h => by rw [encT, encT] at h; cases h
  | .nd f ks, .unk y, h => by rw [encT, encT] at h; cases h
  | .nd f ks, .nd g ls, h => by
    rw [encT, encT] at h
    simp only [D.tup.injEq, List.cons.injEq, D.str.injEq] at h
    rw [h.1, encTs_inj h.2]
theorem encTs_inj : ∀ {ts us : List Pt}, encTs ts = encTs us → ts = us
  | [], [], _ => rfl
  | [], u :: us, h => by rw [encTs, encTs] at h; cases h
  | t :: ts, [], h => by rw [encTs, encTs] at h; cases h
  | t :: ts, u :: us, h => by
    rw [encTs, encTs] at h
    simp only [List.cons.injEq] at h
    rw [encT_inj h.1, encTs_inj h.2]
end
theorem encT_iff {t u : Pt} : encT t = encT u ↔ t = u := ⟨encT_inj, fun h => by rw [h]⟩
theorem pln_T (t : Pt) : pln (encT t) = true := pln_nob (nob_T t)
theorem isRef_T (t : Pt) : isRef (encT t) = none := isRef_pln (pln_T t)
theorem bel_T {m : Nat} (t : Pt) : bel m (encT t) = true := bel_pln (pln_T t)
theorem nobs_Ts {ts : List Pt} : nobs (ts.map encT) = true := nobs_iff.mpr fun x hx => by
  obtain ⟨t, _, rfl⟩ := List.mem_map.mp hx
  exact nob_T t
abbrev Sg := List (Str × Nat)
structure One (sg : Sg) : Prop where
  one : ∀ a k k', (a, k) ∈ sg → (a, k') ∈ sg → k = k'
  le : ∀ p ∈ sg, p.2 ≤ 3
def encS (sg : Sg) : D := .tup (sg.map fun p => D.tup [.str p.1, .int p.2])
structure Sgn (sg : Sg) : Prop where
  one : One sg
  nd : (sg.map (·.1)).Nodup
  lo : 0 < sg.length
  hi : sg.length ≤ 6
  bare : ∃ p ∈ sg, p.2 = 0
inductive TreeOf (sg : Sg) : Pt → Prop
  | mk {f : Str} {ks : List Pt} : (f, ks.length) ∈ sg → (∀ t ∈ ks, TreeOf sg t) → TreeOf sg (.nd f ks)
theorem nob_S (sg : Sg) : nob (encS sg) = true := by
  unfold encS
  rw [nob, nobs_iff]
  intro x hx
  obtain ⟨p, _, rfl⟩ := List.mem_map.mp hx
  rfl
abbrev Row := Str × List Str
abbrev Tb := List (Str × List Row)
def encR (r : Row) : D := .tup (.str r.1 :: r.2.map D.str)
def encTb (tb : Tb) : D := .tup (tb.map fun e => D.tup [.str e.1, .tup (e.2.map encR)])
structure TabOk (sg : Sg) (tb : Tb) : Prop where
  nd : (tb.map (·.1)).Nodup
  lo : 0 < tb.length
  hi : tb.length ≤ 4
  row : ∀ e ∈ tb, ∀ r ∈ e.2, (r.1, r.2.length) ∈ sg
  srt : ∀ e ∈ tb, ∀ r ∈ e.2, ∀ s ∈ r.2, s ∈ tb.map (·.1)
  few : ∀ e ∈ tb, e.2.length ≤ 8
  rnd : ∀ e ∈ tb, e.2.Nodup
theorem nob_strs {l : List Str} : nobs (l.map D.str) = true := nobs_iff.mpr fun x hx => by
  obtain ⟨s, _, rfl⟩ := List.mem_map.mp hx
  rfl
theorem map_inj {α β : Type} {f : α → β} (hf : ∀ a b, f a = f b → a = b) : ∀ {l m : List α}, l.map f = m.map f → l = m
  | [], [], _ => rfl
  | [], _ :: _, h => by cases h
  | _ :: _, [], h => by cases h
  | a :: l, b :: m, h => by
    simp only [List.map_cons, List.cons.injEq] at h
    rw [hf a b h.1, map_inj hf h.2]
theorem strs_inj {l m : List Str} (h : l.map D.str = m.map D.str) : l = m := map_inj (fun _ _ h => by cases h; rfl) h
theorem nob_R (r : Row) : nob (encR r) = true := by
  unfold encR
  rw [nob, nobs, nob_strs]
  rfl
theorem encR_inj {r q : Row} (h : encR r = encR q) : r = q := by
  unfold encR at h
  simp only [D.tup.injEq, List.cons.injEq, D.str.injEq] at h
  exact Prod.ext h.1 (strs_inj h.2)
theorem dep_strs {l : List Str} : deps (l.map D.str) = 0 := by
  induction l with
  | nil => rfl
  | cons x l ih => rw [List.map_cons, deps, ih]; simp [dep]
theorem dep_R (r : Row) : dep (encR r) = 1 := by
  unfold encR
  rw [dep, deps, dep_strs]
  simp [dep]
theorem nob_Rs {rs : List Row} : nobs (rs.map encR) = true := nobs_iff.mpr fun x hx => by
  obtain ⟨r, _, rfl⟩ := List.mem_map.mp hx
  exact nob_R r
theorem nob_Tb (tb : Tb) : nob (encTb tb) = true := by
  unfold encTb
  rw [nob, nobs_iff]
  intro x hx
  obtain ⟨p, _, rfl⟩ := List.mem_map.mp hx
  simp [nob, nobs, nob_Rs]
theorem mem_map_inj {α β : Type} {f : α → β} (hf : ∀ a b, f a = f b → a = b) {l : List α} {a : α} : f a ∈ l.map f ↔ a ∈ l := by
  rw [List.mem_map]
  constructor
  · rintro ⟨b, hb, e⟩
    rw [← hf b a e]; exact hb
  · intro h; exact ⟨a, h, rfl⟩
def inAt (gs : List (List Str)) (ss : List Str) (k : Nat) : Bool := match gs[k]?, ss[k]? with
  | some g, some z => decide (z ∈ g)
  | _, _ => true
theorem inAt_eq {gs : List (List Str)} {ss : List Str} {k : Nat} {g : List Str} {z : Str} (h1 : gs[k]? = some g) (h2 : ss[k]? = some z) : inAt gs ss k = decide (z ∈ g) := by
  unfold inAt
  rw [h1, h2]
def rowFits (f : Str) (gs : List (List Str)) (r : Row) : Bool := r.1 == f && (List.range gs.length).all (inAt gs r.2)
def rowsSorts (tb : Tb) (f : Str) (gs : List (List Str)) : List Str := (tb.filter fun e => e.2.any (rowFits f gs)).map (·.1)
mutual
def sortsOf (tb : Tb) : Pt → List Str
  | .unk _ => []
  | .nd f ks => rowsSorts tb f (sortsOfs tb ks)
def sortsOfs (tb : Tb) : List Pt → List (List Str)
  | [] => []
  | t :: ts => sortsOf tb t :: sortsOfs tb ts
end
theorem sortsOfs_map {tb : Tb} : ∀ {ts : List Pt}, sortsOfs tb ts = ts.map (sortsOf tb)
  | [] => rfl
  | t :: ts => by rw [sortsOfs, sortsOfs_map]; rfl
theorem rowFits_iff {f : Str} {gs : List (List Str)} {r : Row} (hl : r.1 = f → r.2.length = gs.length) : rowFits f gs r = true ↔ r.1 = f ∧ ∀ (k : Nat) (z : Str) (g : List Str), r.2[k]? = some z → gs[k]? = some g → z ∈ g := by
  unfold rowFits
  rw [Bool.and_eq_true, beq_iff_eq, List.all_eq_true]
  constructor
  · rintro ⟨h1, h2⟩
    refine ⟨h1, fun k z g hz hg => ?_⟩
    have := h2 k (by simpa using (List.getElem?_eq_some_iff.mp hg).1)
    rw [inAt_eq hg hz] at this
    exact of_decide_eq_true this
  · rintro ⟨h1, h2⟩
    refine ⟨h1, fun k hk => ?_⟩
    have hk' : k < gs.length := by simpa using hk
    have hl' := hl h1
    have e1 : gs[k]? = some gs[k] := by simp
    have e2 : r.2[k]? = some (r.2[k]'(by omega)) := by simp
    rw [inAt_eq e1 e2]
    exact decide_eq_true (h2 k _ _ e2 e1)
theorem mem_rowsSorts {tb : Tb} {f s : Str} {gs : List (List Str)} : s ∈ rowsSorts tb f gs ↔ ∃ rows, (s, rows) ∈ tb ∧ ∃ r ∈ rows, rowFits f gs r = true := by
  unfold rowsSorts
  rw [List.mem_map]
  constructor
  · rintro ⟨⟨z, rows⟩, h, rfl⟩
    obtain ⟨h1, h2⟩ := List.mem_filter.mp h
    obtain ⟨r, hr, hf⟩ := List.any_eq_true.mp h2
    exact ⟨rows, h1, r, hr, hf⟩
  · rintro ⟨rows, h1, r, hr, hf⟩
    exact ⟨(s, rows), List.mem_filter.mpr ⟨h1, List.any_eq_true.mpr ⟨r, hr, hf⟩⟩, rfl⟩
abbrev Rel := List (Str × Str)
def encPr (p : Str × Str) : D := .tup [.str p.1, .str p.2]
theorem encPr_inj {p q : Str × Str} (h : encPr p = encPr q) : p = q := by
  unfold encPr at h
  simp only [D.tup.injEq, List.cons.injEq, D.str.injEq, and_true] at h
  exact Prod.ext h.1 h.2
theorem nob_Pr (p : Str × Str) : nob (encPr p) = true := rfl
theorem dep_Pr (p : Str × Str) : dep (encPr p) = 1 := by simp [encPr, dep, deps]
theorem nob_Prs {l : Rel} : nobs (l.map encPr) = true := nobs_iff.mpr fun x hx => by
  obtain ⟨r, _, rfl⟩ := List.mem_map.mp hx
  exact nob_Pr r
def rowsAt (tb : Tb) (s : Str) : List Row := ((tb.find? fun e => e.1 == s).map (·.2)).getD []
def rowIn (rel : Rel) (r q : Row) : Bool := q.1 == r.1 && (List.zip r.2 q.2).all fun p => decide (p ∈ rel)
def hasRow (rel : Rel) (r : Row) (rows : List Row) : Bool := rows.any (rowIn rel r)
def relOk (tb : Tb) (rel : Rel) (p : Str × Str) : Bool := (rowsAt tb p.1).all fun r => hasRow rel r (rowsAt tb p.2)
def relStep (tb : Tb) (rel : Rel) : Rel := rel.filter (relOk tb rel)
def relAll (tb : Tb) : Rel := tb.flatMap fun e => tb.map fun f => (e.1, f.1)
def chain (tb : Tb) : Nat → Rel
  | 0 => relAll tb
  | k + 1 => relStep tb (chain tb k)
theorem chain_sub {tb : Tb} : ∀ {k : Nat} {p : Str × Str}, p ∈ chain tb k → p ∈ relAll tb
  | 0, _, h => h
  | k + 1, p, h => chain_sub (List.mem_filter.mp h).1
theorem mem_relAll {tb : Tb} {p : Str × Str} : p ∈ relAll tb ↔ p.1 ∈ tb.map (·.1) ∧ p.2 ∈ tb.map (·.1) := by
  unfold relAll
  simp only [List.mem_flatMap, List.mem_map]
  constructor
  · rintro ⟨e, he, f, hf, rfl⟩
    exact ⟨⟨e, he, rfl⟩, f, hf, rfl⟩
  · rintro ⟨⟨e, he, h1⟩, f, hf, h2⟩
    exact ⟨e, he, f, hf, Prod.ext h1 h2⟩
theorem relAll_len {tb : Tb} (h : tb.length ≤ 4) : (relAll tb).length ≤ 16 := by
  unfold relAll
  have key : ∀ l : Tb, (l.flatMap fun e => tb.map fun f => (e.1, f.1)).length = l.length * tb.length := by
    intro l
    induction l with
    | nil => simp
    | cons e l ih => rw [List.flatMap_cons, List.length_append, ih, List.length_map, List.length_cons, Nat.succ_mul]; omega
  rw [key]
  have := Nat.mul_le_mul h h
  omega
theorem relStep_len {tb : Tb} {rel : Rel} : (relStep tb rel).length ≤ rel.length := List.length_filter_le _ _
theorem relStep_eq {tb : Tb} {rel : Rel} (h : (relStep tb rel).length = rel.length) : relStep tb rel = rel := by
  unfold relStep at h ⊢
  exact List.filter_eq_self.mpr (List.length_filter_eq_length_iff.mp h)
theorem chain_fix {tb : Tb} {k : Nat} (h : relStep tb (chain tb k) = chain tb k) : ∀ m, chain tb (k + m) = chain tb k
  | 0 => rfl
  | m + 1 => by
    show relStep tb (chain tb (k + m)) = _
    rw [chain_fix h m, h]
structure IsW (tb : Tb) (rel : Rel) : Prop where
  ch : ∃ k, rel = chain tb k
  fix : relStep tb rel = rel
theorem IsW.uniq {tb : Tb} {r q : Rel} (h : IsW tb r) (h' : IsW tb q) : r = q := by
  obtain ⟨⟨k, rfl⟩, f1⟩ := h
  obtain ⟨⟨m, rfl⟩, f2⟩ := h'
  rw [← chain_fix f1 m, ← chain_fix f2 k, Nat.add_comm]
theorem chain_len (tb : Tb) : ∀ k, (∃ j, j < k ∧ relStep tb (chain tb j) = chain tb j) ∨ (chain tb k).length + k ≤ (relAll tb).length
  | 0 => .inr (Nat.le_refl _)
  | k + 1 => by
    rcases chain_len tb k with ⟨j, hj, h⟩ | h
    · exact .inl ⟨j, by omega, h⟩
    · by_cases hf : relStep tb (chain tb k) = chain tb k
      · exact .inl ⟨k, by omega, hf⟩
      · right
        have h1 := relStep_len (tb := tb) (rel := chain tb k)
        have h2 : (relStep tb (chain tb k)).length ≠ (chain tb k).length := fun e => hf (relStep_eq e)
        show (relStep tb (chain tb k)).length + (k + 1) ≤ _
        omega
theorem isW_ex (tb : Tb) : ∃ rel, IsW tb rel := by
  rcases chain_len tb ((relAll tb).length + 1) with ⟨j, _, h⟩ | h
  · exact ⟨_, ⟨j, rfl⟩, h⟩
  · omega
noncomputable def withinR (tb : Tb) : Rel := Classical.choose (isW_ex tb)
theorem withinR_is (tb : Tb) : IsW tb (withinR tb) := Classical.choose_spec (isW_ex tb)
theorem IsW.eq {tb : Tb} {r : Rel} (h : IsW tb r) : r = withinR tb := h.uniq (withinR_is tb)
theorem find_mem {tb : Tb} (nd : (tb.map (·.1)).Nodup) {s : Str} {rows : List Row} (h : (s, rows) ∈ tb) : tb.find? (fun e => e.1 == s) = some (s, rows) := by
  induction tb with
  | nil => cases h
  | cons e tb ih =>
    rw [List.map_cons, List.nodup_cons] at nd
    rw [List.find?_cons]
    rcases List.mem_cons.mp h with rfl | h
    · simp
    · have : e.1 ≠ s := fun z => nd.1 (by rw [z]; exact List.mem_map.mpr ⟨_, h, rfl⟩)
      have hb : (e.1 == s) = false := by simpa using this
      rw [hb]
      exact ih nd.2 h
theorem rowsAt_mem {tb : Tb} (nd : (tb.map (·.1)).Nodup) {s : Str} {rows : List Row} (h : (s, rows) ∈ tb) : rowsAt tb s = rows := by
  unfold rowsAt
  rw [find_mem nd h]
  rfl
theorem mem_at {tb : Tb} (nd : (tb.map (·.1)).Nodup) {s : Str} (h : s ∈ tb.map (·.1)) : (s, rowsAt tb s) ∈ tb := by
  obtain ⟨⟨z, rows⟩, he, rfl⟩ := List.mem_map.mp h
  rw [show rowsAt tb z = rows from rowsAt_mem nd he]
  exact he
theorem mem_sortsOf {tb : Tb} (nd : (tb.map (·.1)).Nodup) {f s : Str} {ks : List Pt} : s ∈ sortsOf tb (.nd f ks) ↔ s ∈ tb.map (·.1) ∧ ∃ r ∈ rowsAt tb s, rowFits f (sortsOfs tb ks) r = true := by
  rw [sortsOf, mem_rowsSorts]
  constructor
  · rintro ⟨rows, h, r, hr, hf⟩
    exact ⟨List.mem_map.mpr ⟨_, h, rfl⟩, r, by rw [rowsAt_mem nd h]; exact hr, hf⟩
  · rintro ⟨h, r, hr, hf⟩
    exact ⟨_, mem_at nd h, r, hr, hf⟩
theorem row_len {sg : Sg} {tb : Tb} (one : One sg) (htb : TabOk sg tb) {s : Str} {r : Row} {n : Nat} (hs : s ∈ tb.map (·.1)) (hr : r ∈ rowsAt tb s) (hn : (r.1, n) ∈ sg) : r.2.length = n := one.one _ _ _ (htb.row _ (mem_at htb.nd hs) _ hr) hn
theorem zip_all {α β : Type} {p : α × β → Bool} : ∀ {xs : List α} {ys : List β}, (List.zip xs ys).all p = true → ∀ {k : Nat} {x : α} {y : β}, xs[k]? = some x → ys[k]? = some y → p (x, y) = true
  | [], _, _, k, x, y, h, _ => by simp at h
  | _ :: _, [], _, k, x, y, _, h => by simp at h
  | a :: xs, b :: ys, h, 0, x, y, h1, h2 => by
    simp at h1 h2
    subst h1 h2
    rw [List.zip_cons_cons, List.all_cons, Bool.and_eq_true] at h
    exact h.1
  | a :: xs, b :: ys, h, k + 1, x, y, h1, h2 => by
    rw [List.zip_cons_cons, List.all_cons, Bool.and_eq_true] at h
    exact zip_all h.2 (by simpa using h1) (by simpa using h2)
theorem within_sound {sg : Sg} {tb : Tb} (one : One sg) (htb : TabOk sg tb) {rel : Rel} (hw : IsW tb rel) : ∀ (t : Pt), TreeOf sg t → ∀ p ∈ rel, p.1 ∈ sortsOf tb t → p.2 ∈ sortsOf tb t
  | .unk x, ht, _, _, _ => by cases ht
  | .nd f ks, .mk hn hk, p, hp, h1 => by
    obtain ⟨k, hch⟩ := hw.ch
    have hall := mem_relAll.mp (chain_sub (by rw [← hch]; exact hp))
    have hok : relOk tb rel p = true := by
      have := hw.fix
      rw [← this] at hp
      exact (List.mem_filter.mp hp).2
    obtain ⟨hs, r, hr, hf⟩ := (mem_sortsOf htb.nd).mp h1
    have hgl : (sortsOfs tb ks).length = ks.length := by rw [sortsOfs_map, List.length_map]
    have hr1 : ∀ {s : Str} {r : Row}, s ∈ tb.map (·.1) → r ∈ rowsAt tb s → r.1 = f → r.2.length = (sortsOfs tb ks).length := fun hs hr e => by
      rw [hgl]
      exact row_len one htb hs hr (by rw [e]; exact hn)
    obtain ⟨e1, hall1⟩ := (rowFits_iff (hr1 hs hr)).mp hf
    obtain ⟨q, hq, hqi⟩ := List.any_eq_true.mp (List.all_eq_true.mp hok r hr)
    unfold rowIn at hqi
    rw [Bool.and_eq_true, beq_iff_eq] at hqi
    have e2 : q.1 = f := hqi.1.trans e1
    refine (mem_sortsOf htb.nd).mpr ⟨hall.2, q, hq, (rowFits_iff (hr1 hall.2 hq)).mpr ⟨e2, fun k z g hz hg => ?_⟩⟩
    have hkl : k < r.2.length := by
      rw [hr1 hs hr e1]
      exact (List.getElem?_eq_some_iff.mp hg).1
    have hy : r.2[k]? = some r.2[k] := by simp
    have hz1 := hall1 k _ g hy hg
    have hpair := of_decide_eq_true (zip_all hqi.2 hy hz)
    rw [sortsOfs_map, List.getElem?_map] at hg
    obtain ⟨t, ht, rfl⟩ := Option.map_eq_some_iff.mp hg
    exact within_sound one htb hw t (hk t (List.mem_of_getElem? ht)) _ hpair hz1
theorem dPuts_new {α : Type} (k : α → Str) (v : α → D) : ∀ (as done : List α), ((done ++ as).map k).Nodup → dPuts (done.map fun a => D.str (k a)) (done.map v) (as.map fun a => (D.str (k a), v a)) = ((done ++ as).map (fun a => D.str (k a)), (done ++ as).map v)
  | [], done, _ => by simp [dPuts]
  | a :: as, done, h => by
    have h' : ((done ++ [a] ++ as).map k).Nodup := by simpa using h
    have ih := dPuts_new k v as (done ++ [a]) h'
    rw [List.map_cons, dPuts]
    have hno : (done.map fun a => D.str (k a)).any (fun z => eqD z (.str (k a))) = false := by
      rw [List.any_eq_false]
      intro x hx
      obtain ⟨b, hb, rfl⟩ := List.mem_map.mp hx
      simp only [eqD, beq_iff_eq]
      intro e
      rw [List.map_append, List.nodup_append] at h
      exact h.2.2 (k b) (List.mem_map.mpr ⟨b, hb, rfl⟩) (k a) (by simp) e
    unfold dPut
    rw [if_neg (by rw [hno]; exact Bool.false_ne_true)]
    simp only
    rw [show (done.map fun a => D.str (k a)) ++ [D.str (k a)] = (done ++ [a]).map fun a => D.str (k a) by simp, show done.map v ++ [v a] = (done ++ [a]).map v by simp, ih]
    simp
theorem prs_pairs {α : Type} (k : α → Str) (v : α → D) : ∀ (as : List α), prs (as.map fun a => D.tup [.str (k a), v a]) = some (as.map fun a => (D.str (k a), v a))
  | [] => rfl
  | a :: as => by
    rw [List.map_cons, prs, if_pos (show keyish (D.str (k a)) = true from rfl), prs_pairs k v as]
    rfl
theorem dict_tup {α : Type} {st : St} (k : α → Str) (v : α → D) (as : List α) (h : (as.map k).Nodup) : dictD st (.tup (as.map fun a => D.tup [.str (k a), v a])) = some (.dct (as.map fun a => D.str (k a)) (as.map v)) := by
  unfold dictD
  simp only [see]
  rw [prs_pairs]
  have := dPuts_new k v as [] (by simpa using h)
  simp only [List.map_nil, List.nil_append] at this
  simp [this]
theorem look_map {α : Type} (k : α → Str) (v : α → D) (s : Str) : ∀ (as : List α), look (as.map fun a => D.str (k a)) (as.map v) (.str s) = (as.find? fun a => k a == s).map v
  | [] => rfl
  | a :: as => by
    rw [List.map_cons, List.map_cons, look, List.find?_cons]
    by_cases h : k a = s
    · subst h
      rw [if_pos (by simp [eqD])]
      simp
    · have hb : (k a == s) = false := by simpa using h
      rw [if_neg (by simp [eqD, h]), hb, look_map k v s as]
theorem dict_tb {st : St} {tb : Tb} (nd : (tb.map (·.1)).Nodup) : dictD st (encTb tb) = some (.dct (tb.map fun e => D.str e.1) (tb.map fun e => D.tup (e.2.map encR))) := dict_tup (fun e : Str × List Row => e.1) (fun e => D.tup (e.2.map encR)) tb nd
theorem idx_tb {st : St} {tb : Tb} (nd : (tb.map (·.1)).Nodup) {s : Str} (hs : s ∈ tb.map (·.1)) : idxD st (.dct (tb.map fun e => D.str e.1) (tb.map fun e => D.tup (e.2.map encR))) (.str s) = some (.tup ((rowsAt tb s).map encR)) := by
  rw [idx_dctS, look_map (fun e : Str × List Row => e.1) (fun e => D.tup (e.2.map encR)) s tb, find_mem nd (mem_at nd hs)]
  rfl
end RP
end
section
set_option Elab.async false
set_option linter.all false
set_option maxRecDepth 100000
namespace RP
open PySem
inductive Thg (L : Nat) : Nat → D → Prop
  | non {d : Nat} : Thg L d .non
  | bl {d : Nat} (b : Bool) : Thg L d (.bl b)
  | int {d : Nat} (i : Int) : Thg L d (.int i)
  | str {d : Nat} (x : Str) : x.length ≤ L → Thg L d (.str x)
  | tup {d : Nat} {xs : List D} : xs.length ≤ L → (∀ x ∈ xs, Thg L d x) → Thg L (d + 1) (.tup xs)
  | lst {d : Nat} {xs : List D} : xs.length ≤ L → (∀ x ∈ xs, Thg L d x) → Thg L (d + 1) (.lst xs)
theorem Thg.mono {L L' : Nat} (hL : L ≤ L') : ∀ {d d' : Nat} {x : D}, d ≤ d' → Thg L d x → Thg L' d' x := by
  intro d d' x hd h
  induction h generalizing d' with
  | non => exact .non
  | bl b => exact .bl b
  | int i => exact .int i
  | str x h => exact .str x (by omega)
  | tup h _ ih =>
    obtain ⟨e, rfl⟩ : ∃ e, d' = e + 1 := ⟨d' - 1, by omega⟩
    exact .tup (by omega) fun x hx => ih x hx (by omega)
  | lst h _ ih =>
    obtain ⟨e, rfl⟩ : ∃ e, d' = e + 1 := ⟨d' - 1, by omega⟩
    exact .lst (by omega) fun x hx => ih x hx (by omega)
theorem Thg.pln {L : Nat} {d : Nat} {x : D} (h : Thg L d x) : pln x = true := by
  induction h with
  | non => rfl
  | bl b => rfl
  | int i => rfl
  | str x h => rfl
  | tup h _ ih => rw [RP.pln]; exact plns_iff.mpr ih
  | lst h _ ih => rw [RP.pln]; exact plns_iff.mpr ih
theorem Thg.dep {L : Nat} {d : Nat} {x : D} (h : Thg L d x) : dep x ≤ d := by
  induction h with
  | non => simp [RP.dep]
  | bl b => simp [RP.dep]
  | int i => simp [RP.dep]
  | str x h => simp [RP.dep]
  | tup h _ ih => rw [RP.dep]; have := deps_le ih; omega
  | lst h _ ih => rw [RP.dep]; have := deps_le ih; omega
theorem Thg.ref {L : Nat} {d : Nat} {x : D} (h : Thg L d x) : isRef x = none := isRef_pln h.pln
theorem Thg.bel {L : Nat} {d m : Nat} {x : D} (h : Thg L d x) : bel m x = true := bel_pln h.pln
theorem Thg.see {L : Nat} {d : Nat} {x : D} {st : St} (h : Thg L d x) : see st x = x := see_pln h.pln
def lettersL : List Nat := (List.range 26).map (· + 97)
def figuresL : List Nat := (List.range 10).map (· + 48)
def nameB (x : Str) : Bool := decide (1 ≤ x.length) && (decide (x.length ≤ 8) && x.cps.toList.all fun c => decide (c ∈ lettersL))
def isNameB : D → Bool
  | .str x => nameB x
  | _ => false
theorem letters_eq : (("abcdefghijklmnopqrstuvwxyz" : Str).cps.toList) = lettersL := by decide +kernel
theorem figures_eq : (("0123456789" : Str).cps.toList) = figuresL := by decide +kernel
def signsOf (z : Str) : List D := z.cps.toList.map fun c => D.str ⟨#[c]⟩
theorem it_str {st : St} {z : Str} (h : z.length ≤ big) : itD st (.str z) = some (signsOf z, none) := if_pos h
theorem in_sign {st : St} {c : Nat} {z : Str} : inB st (.str ⟨#[c]⟩) (.str z) = some (.bl (decide (c ∈ z.cps.toList))) := rfl
theorem nin_sign {st : St} {c : Nat} {z : Str} : ninB st (.str ⟨#[c]⟩) (.str z) = some (.bl (!decide (c ∈ z.cps.toList))) := rfl
theorem len_str {st : St} {z : Str} (h : z.length ≤ big) : lenD st (.str z) = some (.int z.length) := if_pos h
theorem len_pln {st : St} {xs : List D} : lenD st (.tup xs) = some (.int xs.length) := rfl
def isStrB : D → Bool
  | .str _ => true
  | _ => false
def isTupB : D → Bool
  | .tup _ => true
  | _ => false
def isLstB : D → Bool
  | .lst _ => true
  | _ => false
def isIntB : D → Bool
  | .int _ => true
  | .bl _ => true
  | _ => false
def isBlB : D → Bool
  | .bl _ => true
  | _ => false
section
variable {L d : Nat} {x : D} {st : St}
theorem isi_str (h : Thg L d x) : isiD .str st x = some (.bl (isStrB x)) := by cases h <;> rfl
theorem isi_tup (h : Thg L d x) : isiD .tuple st x = some (.bl (isTupB x)) := by cases h <;> rfl
theorem isi_lst (h : Thg L d x) : isiD .list st x = some (.bl (isLstB x)) := by cases h <;> rfl
theorem isi_int (h : Thg L d x) : isiD .int st x = some (.bl (isIntB x)) := by cases h <;> rfl
theorem isi_bl (h : Thg L d x) : isiD .bool st x = some (.bl (isBlB x)) := by cases h <;> rfl
end
theorem ok_dctM {c : Call} {env : Env} {st : St} {Q : D → St → Prop} : Ok (mDctM c env st) Q ↔ Q (.ref st.length) (st ++ [.dct [] []]) := Iff.rfl
end RP
end
section
set_option Elab.async false
set_option linter.all false
set_option maxRecDepth 100000
set_option maxHeartbeats 4000000
namespace RP
open PySem
def FC (c : Cell) : Prop := ∃ (ns : List Int) (a b k : Int), c = .lst [.frz ns, .int a, .int b, .int k] ∧ 0 ≤ a
theorem fcB (c : Cell) (m : Nat) (h : FC c) : belC m c = true := by
  obtain ⟨ns, a, b, k, rfl, _⟩ := h
  simp [belC, bels, bel]
abbrev Go (n : Nat) (st st' : St) : Prop := Fr FC n st [] st'
theorem draw_ok {n j : Nat} {st : St} {m : Int} (h : Fd FC n st) (hm : 0 < m) (hm2 : m < 1000) : Ok (CC (j + 1) "_law_draw" [.ref n, .int m] st) fun d st' => ∃ r : Int, d = .int r ∧ 0 ≤ r ∧ r < m ∧ Go n st st' := by
  obtain ⟨_, h, ns, a, b, k, rfl, ha⟩ := h
  have hl : n < st.length := (List.getElem?_eq_some_iff.mp h).1
  rw [r__law_draw]
  refine ok_fn rfl ?_
  unfold b__law_draw
  have hm3 : m < 18446744073709551616 := by omega
  have habs : ∀ (st : St) (i : Int), absD st (.int i) = some (.int (if i < 0 then -i else i)) := fun _ _ => rfl
  have fin : ∀ (x a' b' : Int), 0 ≤ a' → Ok (gc st (.int (x % m)) (st.set n (.lst [.frz ns, .int a', .int b', .int (k + 1)]))) fun d st' => ∃ r : Int, d = .int r ∧ 0 ≤ r ∧ r < m ∧ Go n st st' := fun x a' b' ha' => by
    rw [gc_same (by simp)]
    exact ⟨_, rfl, Int.emod_nonneg _ (by omega), Int.emod_lt_of_pos _ hm, _, ⟨_, _, _, _, rfl, ha'⟩, (List.append_nil _).symm⟩
  refine seq_mid (fun e s => e = [some (.ref n), some (.int m), some (.frz ns), none, none, none] ∧ s = st) ?_ ?_
  · simp only [ok_ok, ok_no, ok_bind, ok_of_some, ok_var, ok_cst, ok_nil, ok_cons, ok_tup, ok_lst, ok_lstM, ok_op2, ok_op1, ok_blt, ok_listM, ok_chain, ok_and, ok_or, ok_not, ok_tval, ok_band, ok_bor, ok_bnot, ok_yes, ok_mif, ok_callM, ok_call, ok_lm, ok_optN, ok_optS, ok_slice, ok_ival, ok_range1, ok_range2, ok_zip, ok_sm, ok_addM, ok_get1, ok_get2, ok_comp, ok_compM, s_skip, s_seq, s_expr, s_asg, s_put, s_ret, s_retN, s_brk, s_cnt, s_if, s_for, s_while, List.map_cons, List.map_nil, List.cons_append, List.nil_append, List.replicate, List.getElem?_cons_zero, List.getElem?_cons_succ, List.set_cons_zero, List.set_cons_succ, Option.some.injEq, exists_eq_left', exists_eq_left, Nat.reduceSub, Nat.reduceAdd, Nat.reduceMul, wipeE, gNm, gNms, gTp, D.int.injEq, true_and, and_true, List.length_cons, List.length_nil, Option.bind_some, idx_ref, ixC_lst, idx_lst, idx_tup, idx_frz, at0, at1, at2, at3, add_int, sub_int, mod_int, fdiv_int, pow18, lt_int, le_int, gt_int, ge_int, tru_bl, tru_int, eq_int, ne_int, eq_str, ne_str, eq_bl, ne_bl, put_ref, putC_lst, ix0, ix1, ix2, ix3, len_lst, len_tup, len_frz, len_ref, lenC_lst, un1_one, tuple_lst, tuple_tup, list_lst, list_tup, slice_tup, slice_lst, it_tup, it_lst, cut_from1, Option.map_some, List.set_set, Nat.reduceLT, Int.reduceLT, if_true, Int.toNat_natCast, mul_mod, mulL, mulR, Int.reduceNeg, h, and_self]
  rintro _ s ⟨rfl, e⟩
  subst s
  refine seq_mid (fun e s => e = [some (.ref n), some (.int m), some (.frz ns), none, none, none] ∧ s = st.set n (.lst [.frz ns, .int a, .int b, .int (k + 1)])) ?_ ?_
  · simp only [ok_ok, ok_no, ok_bind, ok_of_some, ok_var, ok_cst, ok_nil, ok_cons, ok_tup, ok_lst, ok_lstM, ok_op2, ok_op1, ok_blt, ok_listM, ok_chain, ok_and, ok_or, ok_not, ok_tval, ok_band, ok_bor, ok_bnot, ok_yes, ok_mif, ok_callM, ok_call, ok_lm, ok_optN, ok_optS, ok_slice, ok_ival, ok_range1, ok_range2, ok_zip, ok_sm, ok_addM, ok_get1, ok_get2, ok_comp, ok_compM, s_skip, s_seq, s_expr, s_asg, s_put, s_ret, s_retN, s_brk, s_cnt, s_if, s_for, s_while, List.map_cons, List.map_nil, List.cons_append, List.nil_append, List.replicate, List.getElem?_cons_zero, List.getElem?_cons_succ, List.set_cons_zero, List.set_cons_succ, Option.some.injEq, exists_eq_left', exists_eq_left, Nat.reduceSub, Nat.reduceAdd, Nat.reduceMul, wipeE, gNm, gNms, gTp, D.int.injEq, true_and, and_true, List.length_cons, List.length_nil, Option.bind_some, idx_ref, ixC_lst, idx_lst, idx_tup, idx_frz, at0, at1, at2, at3, add_int, sub_int, mod_int, fdiv_int, pow18, lt_int, le_int, gt_int, ge_int, tru_bl, tru_int, eq_int, ne_int, eq_str, ne_str, eq_bl, ne_bl, put_ref, putC_lst, ix0, ix1, ix2, ix3, len_lst, len_tup, len_frz, len_ref, lenC_lst, un1_one, tuple_lst, tuple_tup, list_lst, list_tup, slice_tup, slice_lst, it_tup, it_lst, cut_from1, Option.map_some, List.set_set, Nat.reduceLT, Int.reduceLT, if_true, Int.toNat_natCast, mul_mod, mulL, mulR, Int.reduceNeg, h, and_self]
  rintro _ _ ⟨rfl, rfl⟩
  refine seq_mid (fun e s => e = [some (.ref n), some (.int m), some (.frz ns), none, none, none] ∧ ∃ a' b' : Int, 0 ≤ a' ∧ s = st.set n (.lst [.frz ns, .int a', .int b', .int (k + 1)])) ?_ ?_
  · simp only [ok_ok, ok_no, ok_bind, ok_of_some, ok_var, ok_cst, ok_nil, ok_cons, ok_tup, ok_lst, ok_lstM, ok_op2, ok_op1, ok_blt, ok_listM, ok_chain, ok_and, ok_or, ok_not, ok_tval, ok_band, ok_bor, ok_bnot, ok_yes, ok_mif, ok_callM, ok_call, ok_lm, ok_optN, ok_optS, ok_slice, ok_ival, ok_range1, ok_range2, ok_zip, ok_sm, ok_addM, ok_get1, ok_get2, ok_comp, ok_compM, s_skip, s_seq, s_expr, s_asg, s_put, s_ret, s_retN, s_brk, s_cnt, s_if, s_for, s_while, List.map_cons, List.map_nil, List.cons_append, List.nil_append, List.replicate, List.getElem?_cons_zero, List.getElem?_cons_succ, List.set_cons_zero, List.set_cons_succ, Option.some.injEq, exists_eq_left', exists_eq_left, Nat.reduceSub, Nat.reduceAdd, Nat.reduceMul, wipeE, gNm, gNms, gTp, D.int.injEq, true_and, and_true, List.length_cons, List.length_nil, Option.bind_some, idx_ref, ixC_lst, idx_lst, idx_tup, idx_frz, at0, at1, at2, at3, add_int, sub_int, mod_int, fdiv_int, pow18, lt_int, le_int, gt_int, ge_int, tru_bl, tru_int, eq_int, ne_int, eq_str, ne_str, eq_bl, ne_bl, put_ref, putC_lst, ix0, ix1, ix2, ix3, len_lst, len_tup, len_frz, len_ref, lenC_lst, un1_one, tuple_lst, tuple_tup, list_lst, list_tup, slice_tup, slice_lst, it_tup, it_lst, cut_from1, Option.map_some, List.set_set, Nat.reduceLT, Int.reduceLT, if_true, Int.toNat_natCast, mul_mod, mulL, mulR, Int.reduceNeg, h, hl, List.getElem?_set_self, List.length_set]
    by_cases hb : b = 0
    · rw [if_pos (by simpa using hb)]
      by_cases hal : a < ns.length
      · rw [if_pos (by simpa using hal)]
        obtain ⟨x, _, _, hx⟩ := at_get (xs := ns) ha hal
        simp only [hx, habs, List.map_cons, List.map_nil, List.cons_append, List.nil_append, List.replicate, List.getElem?_cons_zero, List.getElem?_cons_succ, List.set_cons_zero, List.set_cons_succ, Option.some.injEq, exists_eq_left', exists_eq_left, Nat.reduceSub, Nat.reduceAdd, Nat.reduceMul, wipeE, gNm, gNms, gTp, D.int.injEq, true_and, and_true, List.length_cons, List.length_nil, Option.bind_some, idx_ref, ixC_lst, idx_lst, idx_tup, idx_frz, at0, at1, at2, at3, add_int, sub_int, mod_int, fdiv_int, pow18, lt_int, le_int, gt_int, ge_int, tru_bl, tru_int, eq_int, ne_int, eq_str, ne_str, eq_bl, ne_bl, put_ref, putC_lst, ix0, ix1, ix2, ix3, len_lst, len_tup, len_frz, len_ref, lenC_lst, un1_one, tuple_lst, tuple_tup, list_lst, list_tup, slice_tup, slice_lst, it_tup, it_lst, cut_from1, Option.map_some, List.set_set, Nat.reduceLT, Int.reduceLT, if_true, Int.toNat_natCast, mul_mod, mulL, mulR, Int.reduceNeg, hl, List.getElem?_set_self, List.length_set]
        exact ⟨_, _, by omega, rfl⟩
      · rw [if_neg (by simpa using hal)]
        exact ⟨_, _, ha, rfl⟩
    · rw [if_neg (by simpa using hb)]
      exact ⟨_, _, ha, rfl⟩
  rintro _ _ ⟨rfl, a', b', ha', rfl⟩
  refine seq_mid (fun e s => e = [some (.ref n), some (.int m), some (.frz ns), none, none, none] ∧ s = st.set n (.lst [.frz ns, .int a', .int b', .int (k + 1)])) ?_ ?_
  · simp only [ok_ok, ok_no, ok_bind, ok_of_some, ok_var, ok_cst, ok_nil, ok_cons, ok_tup, ok_lst, ok_lstM, ok_op2, ok_op1, ok_blt, ok_listM, ok_chain, ok_and, ok_or, ok_not, ok_tval, ok_band, ok_bor, ok_bnot, ok_yes, ok_mif, ok_callM, ok_call, ok_lm, ok_optN, ok_optS, ok_slice, ok_ival, ok_range1, ok_range2, ok_zip, ok_sm, ok_addM, ok_get1, ok_get2, ok_comp, ok_compM, s_skip, s_seq, s_expr, s_asg, s_put, s_ret, s_retN, s_brk, s_cnt, s_if, s_for, s_while, List.map_cons, List.map_nil, List.cons_append, List.nil_append, List.replicate, List.getElem?_cons_zero, List.getElem?_cons_succ, List.set_cons_zero, List.set_cons_succ, Option.some.injEq, exists_eq_left', exists_eq_left, Nat.reduceSub, Nat.reduceAdd, Nat.reduceMul, wipeE, gNm, gNms, gTp, D.int.injEq, true_and, and_true, List.length_cons, List.length_nil, Option.bind_some, idx_ref, ixC_lst, idx_lst, idx_tup, idx_frz, at0, at1, at2, at3, add_int, sub_int, mod_int, fdiv_int, pow18, lt_int, le_int, gt_int, ge_int, tru_bl, tru_int, eq_int, ne_int, eq_str, ne_str, eq_bl, ne_bl, put_ref, putC_lst, ix0, ix1, ix2, ix3, len_lst, len_tup, len_frz, len_ref, lenC_lst, un1_one, tuple_lst, tuple_tup, list_lst, list_tup, slice_tup, slice_lst, it_tup, it_lst, cut_from1, Option.map_some, List.set_set, Nat.reduceLT, Int.reduceLT, if_true, Int.toNat_natCast, mul_mod, mulL, mulR, Int.reduceNeg, h, hl, hm, hm3, List.getElem?_set_self, List.length_set]
    by_cases hb : 0 < b'
    · rw [if_pos (by simpa using hb)]
      exact fin _ _ _ ha'
    · rw [if_neg (by simpa using hb)]
      first | exact ⟨rfl, rfl⟩ | trivial
  rintro _ _ ⟨rfl, rfl⟩
  refine seq_mid (fun e s => e = [some (.ref n), some (.int m), some (.frz ns), some (.int 0), none, none] ∧ s = st.set n (.lst [.frz ns, .int a', .int b', .int (k + 1)])) ?_ ?_
  · simp only [ok_ok, ok_no, ok_bind, ok_of_some, ok_var, ok_cst, ok_nil, ok_cons, ok_tup, ok_lst, ok_lstM, ok_op2, ok_op1, ok_blt, ok_listM, ok_chain, ok_and, ok_or, ok_not, ok_tval, ok_band, ok_bor, ok_bnot, ok_yes, ok_mif, ok_callM, ok_call, ok_lm, ok_optN, ok_optS, ok_slice, ok_ival, ok_range1, ok_range2, ok_zip, ok_sm, ok_addM, ok_get1, ok_get2, ok_comp, ok_compM, s_skip, s_seq, s_expr, s_asg, s_put, s_ret, s_retN, s_brk, s_cnt, s_if, s_for, s_while, List.map_cons, List.map_nil, List.cons_append, List.nil_append, List.replicate, List.getElem?_cons_zero, List.getElem?_cons_succ, List.set_cons_zero, List.set_cons_succ, Option.some.injEq, exists_eq_left', exists_eq_left, Nat.reduceSub, Nat.reduceAdd, Nat.reduceMul, wipeE, gNm, gNms, gTp, D.int.injEq, true_and, and_true, List.length_cons, List.length_nil, Option.bind_some, idx_ref, ixC_lst, idx_lst, idx_tup, idx_frz, at0, at1, at2, at3, add_int, sub_int, mod_int, fdiv_int, pow18, lt_int, le_int, gt_int, ge_int, tru_bl, tru_int, eq_int, ne_int, eq_str, ne_str, eq_bl, ne_bl, put_ref, putC_lst, ix0, ix1, ix2, ix3, len_lst, len_tup, len_frz, len_ref, lenC_lst, un1_one, tuple_lst, tuple_tup, list_lst, list_tup, slice_tup, slice_lst, it_tup, it_lst, cut_from1, Option.map_some, List.set_set, Nat.reduceLT, Int.reduceLT, if_true, Int.toNat_natCast, mul_mod, mulL, mulR, Int.reduceNeg, and_self]
  rintro _ _ ⟨rfl, rfl⟩
  refine seq_mid (fun e s => (∃ x : Int, e = [some (.ref n), some (.int m), some (.frz ns), some (.int x), none, none]) ∧ s = st.set n (.lst [.frz ns, .int a', .int b', .int (k + 1)])) ?_ ?_
  · simp only [ok_ok, ok_no, ok_bind, ok_of_some, ok_var, ok_cst, ok_nil, ok_cons, ok_tup, ok_lst, ok_lstM, ok_op2, ok_op1, ok_blt, ok_listM, ok_chain, ok_and, ok_or, ok_not, ok_tval, ok_band, ok_bor, ok_bnot, ok_yes, ok_mif, ok_callM, ok_call, ok_lm, ok_optN, ok_optS, ok_slice, ok_ival, ok_range1, ok_range2, ok_zip, ok_sm, ok_addM, ok_get1, ok_get2, ok_comp, ok_compM, s_skip, s_seq, s_expr, s_asg, s_put, s_ret, s_retN, s_brk, s_cnt, s_if, s_for, s_while, List.map_cons, List.map_nil, List.cons_append, List.nil_append, List.replicate, List.getElem?_cons_zero, List.getElem?_cons_succ, List.set_cons_zero, List.set_cons_succ, Option.some.injEq, exists_eq_left', exists_eq_left, Nat.reduceSub, Nat.reduceAdd, Nat.reduceMul, wipeE, gNm, gNms, gTp, D.int.injEq, true_and, and_true, List.length_cons, List.length_nil, Option.bind_some, idx_ref, ixC_lst, idx_lst, idx_tup, idx_frz, at0, at1, at2, at3, add_int, sub_int, mod_int, fdiv_int, pow18, lt_int, le_int, gt_int, ge_int, tru_bl, tru_int, eq_int, ne_int, eq_str, ne_str, eq_bl, ne_bl, put_ref, putC_lst, ix0, ix1, ix2, ix3, len_lst, len_tup, len_frz, len_ref, lenC_lst, un1_one, tuple_lst, tuple_tup, list_lst, list_tup, slice_tup, slice_lst, it_tup, it_lst, cut_from1, Option.map_some, List.set_set, Nat.reduceLT, Int.reduceLT, if_true, Int.toNat_natCast, mul_mod, mulL, mulR, Int.reduceNeg, h, hl, List.getElem?_set_self, List.length_set]
    by_cases hn : 0 < (ns.length : Int)
    · rw [if_pos (by simpa using hn)]
      obtain ⟨x, _, _, hx⟩ := at_get (xs := ns) (r := (k + 1) % ns.length) (Int.emod_nonneg _ (by omega)) (Int.emod_lt_of_pos _ hn)
      simp only [mod_int hn, List.map_cons, List.map_nil, List.cons_append, List.nil_append, List.replicate, List.getElem?_cons_zero, List.getElem?_cons_succ, List.set_cons_zero, List.set_cons_succ, Option.some.injEq, exists_eq_left', exists_eq_left, Nat.reduceSub, Nat.reduceAdd, Nat.reduceMul, wipeE, gNm, gNms, gTp, D.int.injEq, true_and, and_true, List.length_cons, List.length_nil, Option.bind_some, idx_ref, ixC_lst, idx_lst, idx_tup, idx_frz, at0, at1, at2, at3, add_int, sub_int, mod_int, fdiv_int, pow18, lt_int, le_int, gt_int, ge_int, tru_bl, tru_int, eq_int, ne_int, eq_str, ne_str, eq_bl, ne_bl, put_ref, putC_lst, ix0, ix1, ix2, ix3, len_lst, len_tup, len_frz, len_ref, lenC_lst, un1_one, tuple_lst, tuple_tup, list_lst, list_tup, slice_tup, slice_lst, it_tup, it_lst, cut_from1, Option.map_some, List.set_set, Nat.reduceLT, Int.reduceLT, if_true, Int.toNat_natCast, mul_mod, mulL, mulR, Int.reduceNeg, hx]
      exact ⟨_, rfl⟩
    · rw [if_neg (by simpa using hn)]
      exact ⟨_, rfl⟩
  rintro _ _ ⟨⟨x, rfl⟩, rfl⟩
  simp only [ok_ok, ok_no, ok_bind, ok_of_some, ok_var, ok_cst, ok_nil, ok_cons, ok_tup, ok_lst, ok_lstM, ok_op2, ok_op1, ok_blt, ok_listM, ok_chain, ok_and, ok_or, ok_not, ok_tval, ok_band, ok_bor, ok_bnot, ok_yes, ok_mif, ok_callM, ok_call, ok_lm, ok_optN, ok_optS, ok_slice, ok_ival, ok_range1, ok_range2, ok_zip, ok_sm, ok_addM, ok_get1, ok_get2, ok_comp, ok_compM, s_skip, s_seq, s_expr, s_asg, s_put, s_ret, s_retN, s_brk, s_cnt, s_if, s_for, s_while, List.map_cons, List.map_nil, List.cons_append, List.nil_append, List.replicate, List.getElem?_cons_zero, List.getElem?_cons_succ, List.set_cons_zero, List.set_cons_succ, Option.some.injEq, exists_eq_left', exists_eq_left, Nat.reduceSub, Nat.reduceAdd, Nat.reduceMul, wipeE, gNm, gNms, gTp, D.int.injEq, true_and, and_true, List.length_cons, List.length_nil, Option.bind_some, idx_ref, ixC_lst, idx_lst, idx_tup, idx_frz, at0, at1, at2, at3, add_int, sub_int, mod_int, fdiv_int, pow18, lt_int, le_int, gt_int, ge_int, tru_bl, tru_int, eq_int, ne_int, eq_str, ne_str, eq_bl, ne_bl, put_ref, putC_lst, ix0, ix1, ix2, ix3, len_lst, len_tup, len_frz, len_ref, lenC_lst, un1_one, tuple_lst, tuple_tup, list_lst, list_tup, slice_tup, slice_lst, it_tup, it_lst, cut_from1, Option.map_some, List.set_set, Nat.reduceLT, Int.reduceLT, if_true, Int.toNat_natCast, mul_mod, mulL, mulR, Int.reduceNeg, h, hl, hm, hm3, List.getElem?_set_self, List.length_set]
  exact fin _ _ _ ha'
theorem draw_call {n j : Nat} {st : St} {m : Int} {Q : D → St → Prop} (h : Fd FC n st) (hm : 0 < m) (hm2 : m < 1000) (q : ∀ (r : Int) (st' : St), 0 ≤ r → r < m → Go n st st' → Q (.int r) st') : Ok (ice st (CC (j + 1) "_law_draw" [.ref n, .int m] st)) Q := by
  refine ok_ice_val ((draw_ok h hm hm2).mono ?_)
  rintro d st' ⟨r, rfl, h0, h1, hg⟩
  exact ⟨rfl, q r st' h0 h1 hg⟩
theorem feed_ok {ns : List Int} {j : Nat} {st : St} : Ok (CC (j + 1) "_law_feed" [.frz ns] st) fun d st' => ∃ c, d = .ref st.length ∧ st' = st ++ [c] ∧ FC c := by
  rw [r__law_feed]
  refine ok_fn rfl ?_
  unfold b__law_feed
  try simp only [ok_ok, ok_no, ok_bind, ok_of_some, ok_var, ok_cst, ok_nil, ok_cons, ok_tup, ok_lst, ok_lstM, ok_op2, ok_op1, ok_blt, ok_listM, ok_chain, ok_and, ok_or, ok_not, ok_tval, ok_band, ok_bor, ok_bnot, ok_yes, ok_mif, ok_callM, ok_call, ok_lm, ok_optN, ok_optS, ok_slice, ok_ival, ok_range1, ok_range2, ok_zip, ok_sm, ok_addM, ok_get1, ok_get2, ok_comp, ok_compM, s_skip, s_seq, s_expr, s_asg, s_put, s_ret, s_retN, s_brk, s_cnt, s_if, s_for, s_while, List.map_cons, List.map_nil, List.cons_append, List.nil_append, List.replicate, List.getElem?_cons_zero, List.getElem?_cons_succ, List.set_cons_zero, List.set_cons_succ, Option.some.injEq, exists_eq_left', exists_eq_left, Nat.reduceSub, Nat.reduceAdd, Nat.reduceMul, wipeE, gNm, gNms, gTp, D.int.injEq, true_and, and_true, List.length_cons, List.length_nil, Option.bind_some, idx_ref, ixC_lst, idx_lst, idx_tup, idx_frz, at0, at1, at2, at3, add_int, sub_int, mod_int, fdiv_int, pow18, lt_int, le_int, gt_int, ge_int, tru_bl, tru_int, eq_int, ne_int, eq_str, ne_str, eq_bl, ne_bl, put_ref, putC_lst, ix0, ix1, ix2, ix3, len_lst, len_tup, len_frz, len_ref, lenC_lst, un1_one, tuple_lst, tuple_tup, list_lst, list_tup, slice_tup, slice_lst, it_tup, it_lst, cut_from1, Option.map_some, List.set_set, Nat.reduceLT, Int.reduceLT, if_true, Int.toNat_natCast, mul_mod, mulL, mulR, Int.reduceNeg]
  rw [gc_new (by simp [bels, bel])]
  exact ⟨_, rfl, rfl, _, _, _, _, rfl, by decide⟩
def pool : List Str := ["a", "ab", "f", "fa", "b", "use", "stay", "zzzzzzzz"]
def nameAt (a b : Int) (j : Nat) : Str := (pool[((a + b * j) % 8).toNat]?).getD ""
theorem names_nodup {a b : Int} (a0 : 0 ≤ a) (a1 : a < 8) (hb : b ∈ [1, 3, 5, (7 : Int)]) {m : Nat} (hm : m ≤ 6) : ((List.range m).map (nameAt a b)).Nodup := by
  have all : ∀ a : Fin 8, ∀ b ∈ [1, 3, 5, (7 : Int)], ∀ m : Fin 7, ((List.range m.val).map (nameAt (a.val : Int) b)).Nodup := by decide +kernel
  have := all ⟨a.toNat, by omega⟩ b hb ⟨m, by omega⟩
  simpa [Int.toNat_of_nonneg a0] using this
theorem signs_ok {n j : Nat} {st : St} {mo : Nat} (h : Fd FC n st) (h2 : 2 ≤ mo) (h6 : mo ≤ 6) : Ok (CC (j + 2) "_law_signs" [.ref n, .int mo] st) fun d st' => ∃ sg, Sgn sg ∧ (∀ p ∈ sg, p.1 ∈ pool) ∧ 2 ≤ sg.length ∧ sg.length ≤ mo ∧ d = encS sg ∧ Go n st st' := by
  rw [r__law_signs]
  refine ok_fn rfl ?_
  unfold b__law_signs
  try simp only [ok_ok, ok_no, ok_bind, ok_of_some, ok_var, ok_cst, ok_nil, ok_cons, ok_tup, ok_lst, ok_lstM, ok_op2, ok_op1, ok_blt, ok_listM, ok_chain, ok_and, ok_or, ok_not, ok_tval, ok_band, ok_bor, ok_bnot, ok_yes, ok_mif, ok_callM, ok_call, ok_lm, ok_optN, ok_optS, ok_slice, ok_ival, ok_range1, ok_range2, ok_zip, ok_sm, ok_addM, ok_get1, ok_get2, ok_comp, ok_compM, s_skip, s_seq, s_expr, s_asg, s_put, s_ret, s_retN, s_brk, s_cnt, s_if, s_for, s_while, List.map_cons, List.map_nil, List.cons_append, List.nil_append, List.replicate, List.getElem?_cons_zero, List.getElem?_cons_succ, List.set_cons_zero, List.set_cons_succ, Option.some.injEq, exists_eq_left', exists_eq_left, Nat.reduceSub, Nat.reduceAdd, Nat.reduceMul, wipeE, gNm, gNms, gTp, D.int.injEq, true_and, and_true, List.length_cons, List.length_nil, Option.bind_some, idx_ref, ixC_lst, idx_lst, idx_tup, idx_frz, at0, at1, at2, at3, add_int, sub_int, mod_int, fdiv_int, pow18, lt_int, le_int, gt_int, ge_int, tru_bl, tru_int, eq_int, ne_int, eq_str, ne_str, eq_bl, ne_bl, put_ref, putC_lst, ix0, ix1, ix2, ix3, len_lst, len_tup, len_frz, len_ref, lenC_lst, un1_one, tuple_lst, tuple_tup, list_lst, list_tup, slice_tup, slice_lst, it_tup, it_lst, cut_from1, Option.map_some, List.set_set, Nat.reduceLT, Int.reduceLT, if_true, Int.toNat_natCast, mul_mod, mulL, mulR, Int.reduceNeg]
  refine draw_call h (by decide) (by decide) fun a st1 a0 a1 g1 => ?_
  try simp only [ok_ok, ok_no, ok_bind, ok_of_some, ok_var, ok_cst, ok_nil, ok_cons, ok_tup, ok_lst, ok_lstM, ok_op2, ok_op1, ok_blt, ok_listM, ok_chain, ok_and, ok_or, ok_not, ok_tval, ok_band, ok_bor, ok_bnot, ok_yes, ok_mif, ok_callM, ok_call, ok_lm, ok_optN, ok_optS, ok_slice, ok_ival, ok_range1, ok_range2, ok_zip, ok_sm, ok_addM, ok_get1, ok_get2, ok_comp, ok_compM, s_skip, s_seq, s_expr, s_asg, s_put, s_ret, s_retN, s_brk, s_cnt, s_if, s_for, s_while, List.map_cons, List.map_nil, List.cons_append, List.nil_append, List.replicate, List.getElem?_cons_zero, List.getElem?_cons_succ, List.set_cons_zero, List.set_cons_succ, Option.some.injEq, exists_eq_left', exists_eq_left, Nat.reduceSub, Nat.reduceAdd, Nat.reduceMul, wipeE, gNm, gNms, gTp, D.int.injEq, true_and, and_true, List.length_cons, List.length_nil, Option.bind_some, idx_ref, ixC_lst, idx_lst, idx_tup, idx_frz, at0, at1, at2, at3, add_int, sub_int, mod_int, fdiv_int, pow18, lt_int, le_int, gt_int, ge_int, tru_bl, tru_int, eq_int, ne_int, eq_str, ne_str, eq_bl, ne_bl, put_ref, putC_lst, ix0, ix1, ix2, ix3, len_lst, len_tup, len_frz, len_ref, lenC_lst, un1_one, tuple_lst, tuple_tup, list_lst, list_tup, slice_tup, slice_lst, it_tup, it_lst, cut_from1, Option.map_some, List.set_set, Nat.reduceLT, Int.reduceLT, if_true, Int.toNat_natCast, mul_mod, mulL, mulR, Int.reduceNeg]
  refine draw_call (g1.fd h.lt) (by decide) (by decide) fun i st2 i0 i1 g2 => ?_
  obtain ⟨x, hx, _, hx2⟩ := at_get (xs := [D.int 1, .int 3, .int 5, .int 7]) i0 (by simpa using i1)
  obtain ⟨b, hb, rfl⟩ : ∃ b : Int, b ∈ [1, 3, 5, (7 : Int)] ∧ x = .int b := by
    simp at hx ⊢
    rcases hx with rfl | rfl | rfl | rfl <;> simp
  have hb2 : -18446744073709551616 < b ∧ b < 18446744073709551616 := by simp at hb; omega
  try simp only [ok_ok, ok_no, ok_bind, ok_of_some, ok_var, ok_cst, ok_nil, ok_cons, ok_tup, ok_lst, ok_lstM, ok_op2, ok_op1, ok_blt, ok_listM, ok_chain, ok_and, ok_or, ok_not, ok_tval, ok_band, ok_bor, ok_bnot, ok_yes, ok_mif, ok_callM, ok_call, ok_lm, ok_optN, ok_optS, ok_slice, ok_ival, ok_range1, ok_range2, ok_zip, ok_sm, ok_addM, ok_get1, ok_get2, ok_comp, ok_compM, s_skip, s_seq, s_expr, s_asg, s_put, s_ret, s_retN, s_brk, s_cnt, s_if, s_for, s_while, List.map_cons, List.map_nil, List.cons_append, List.nil_append, List.replicate, List.getElem?_cons_zero, List.getElem?_cons_succ, List.set_cons_zero, List.set_cons_succ, Option.some.injEq, exists_eq_left', exists_eq_left, Nat.reduceSub, Nat.reduceAdd, Nat.reduceMul, wipeE, gNm, gNms, gTp, D.int.injEq, true_and, and_true, List.length_cons, List.length_nil, Option.bind_some, idx_ref, ixC_lst, idx_lst, idx_tup, idx_frz, at0, at1, at2, at3, add_int, sub_int, mod_int, fdiv_int, pow18, lt_int, le_int, gt_int, ge_int, tru_bl, tru_int, eq_int, ne_int, eq_str, ne_str, eq_bl, ne_bl, put_ref, putC_lst, ix0, ix1, ix2, ix3, len_lst, len_tup, len_frz, len_ref, lenC_lst, un1_one, tuple_lst, tuple_tup, list_lst, list_tup, slice_tup, slice_lst, it_tup, it_lst, cut_from1, Option.map_some, List.set_set, Nat.reduceLT, Int.reduceLT, if_true, Int.toNat_natCast, mul_mod, mulL, mulR, Int.reduceNeg, hx2]
  have g12 := g1.go h.lt g2
  refine draw_call (g12.fd h.lt) (by omega) (by omega) fun r st3 r0 r1 g3 => ?_
  obtain ⟨m, rfl⟩ := Int.eq_ofNat_of_zero_le r0
  have hm : m + 1 < mo := by omega
  have g13 := g12.go h.lt g3
  try simp only [ok_ok, ok_no, ok_bind, ok_of_some, ok_var, ok_cst, ok_nil, ok_cons, ok_tup, ok_lst, ok_lstM, ok_op2, ok_op1, ok_blt, ok_listM, ok_chain, ok_and, ok_or, ok_not, ok_tval, ok_band, ok_bor, ok_bnot, ok_yes, ok_mif, ok_callM, ok_call, ok_lm, ok_optN, ok_optS, ok_slice, ok_ival, ok_range1, ok_range2, ok_zip, ok_sm, ok_addM, ok_get1, ok_get2, ok_comp, ok_compM, s_skip, s_seq, s_expr, s_asg, s_put, s_ret, s_retN, s_brk, s_cnt, s_if, s_for, s_while, List.map_cons, List.map_nil, List.cons_append, List.nil_append, List.replicate, List.getElem?_cons_zero, List.getElem?_cons_succ, List.set_cons_zero, List.set_cons_succ, Option.some.injEq, exists_eq_left', exists_eq_left, Nat.reduceSub, Nat.reduceAdd, Nat.reduceMul, wipeE, gNm, gNms, gTp, D.int.injEq, true_and, and_true, List.length_cons, List.length_nil, Option.bind_some, idx_ref, ixC_lst, idx_lst, idx_tup, idx_frz, at0, at1, at2, at3, add_int, sub_int, mod_int, fdiv_int, pow18, lt_int, le_int, gt_int, ge_int, tru_bl, tru_int, eq_int, ne_int, eq_str, ne_str, eq_bl, ne_bl, put_ref, putC_lst, ix0, ix1, ix2, ix3, len_lst, len_tup, len_frz, len_ref, lenC_lst, un1_one, tuple_lst, tuple_tup, list_lst, list_tup, slice_tup, slice_lst, it_tup, it_lst, cut_from1, Option.map_some, List.set_set, Nat.reduceLT, Int.reduceLT, if_true, Int.toNat_natCast, mul_mod, mulL, mulR, Int.reduceNeg]
  rw [show (2 + (m : Int) - 1) = ((m + 1 : Nat) : Int) by omega, show (2 + (m : Int)) = ((m + 2 : Nat) : Int) by omega]
  refine ⟨by unfold big; omega, ?_⟩
  try simp only [Int.toNat_natCast]
  refine comp_go (fun done ys st' => Go n st st' ∧ ∃ ks : List Nat, ys = ks.map (fun (k : Nat) => D.int k) ∧ ks.length = done.length ∧ ∀ k ∈ ks, k ≤ 3) rfl ⟨g13, [], rfl, rfl, by simp⟩ ?_ ?_
  · rintro x done ys st' hx ⟨g, ks, rfl, hl, hk⟩
    try simp only [ok_ok, ok_no, ok_bind, ok_of_some, ok_var, ok_cst, ok_nil, ok_cons, ok_tup, ok_lst, ok_lstM, ok_op2, ok_op1, ok_blt, ok_listM, ok_chain, ok_and, ok_or, ok_not, ok_tval, ok_band, ok_bor, ok_bnot, ok_yes, ok_mif, ok_callM, ok_call, ok_lm, ok_optN, ok_optS, ok_slice, ok_ival, ok_range1, ok_range2, ok_zip, ok_sm, ok_addM, ok_get1, ok_get2, ok_comp, ok_compM, s_skip, s_seq, s_expr, s_asg, s_put, s_ret, s_retN, s_brk, s_cnt, s_if, s_for, s_while, List.map_cons, List.map_nil, List.cons_append, List.nil_append, List.replicate, List.getElem?_cons_zero, List.getElem?_cons_succ, List.set_cons_zero, List.set_cons_succ, Option.some.injEq, exists_eq_left', exists_eq_left, Nat.reduceSub, Nat.reduceAdd, Nat.reduceMul, wipeE, gNm, gNms, gTp, D.int.injEq, true_and, and_true, List.length_cons, List.length_nil, Option.bind_some, idx_ref, ixC_lst, idx_lst, idx_tup, idx_frz, at0, at1, at2, at3, add_int, sub_int, mod_int, fdiv_int, pow18, lt_int, le_int, gt_int, ge_int, tru_bl, tru_int, eq_int, ne_int, eq_str, ne_str, eq_bl, ne_bl, put_ref, putC_lst, ix0, ix1, ix2, ix3, len_lst, len_tup, len_frz, len_ref, lenC_lst, un1_one, tuple_lst, tuple_tup, list_lst, list_tup, slice_tup, slice_lst, it_tup, it_lst, cut_from1, Option.map_some, List.set_set, Nat.reduceLT, Int.reduceLT, if_true, Int.toNat_natCast, mul_mod, mulL, mulR, Int.reduceNeg]
    refine draw_call (g.fd h.lt) (by decide) (by decide) fun i st3 i0 i1 g3 => ?_
    obtain ⟨x, hx, _, hx2⟩ := at_get (xs := [D.int 0, .int 1, .int 1, .int 2, .int 2, .int 3]) i0 (by simpa using i1)
    obtain ⟨k, hk3, rfl⟩ : ∃ k : Nat, k ≤ 3 ∧ x = .int k := by
      simp at hx
      rcases hx with rfl | rfl | rfl | rfl
      · exact ⟨0, by decide, rfl⟩
      · exact ⟨1, by decide, rfl⟩
      · exact ⟨2, by decide, rfl⟩
      · exact ⟨3, by decide, rfl⟩
    try simp only [ok_ok, ok_no, ok_bind, ok_of_some, ok_var, ok_cst, ok_nil, ok_cons, ok_tup, ok_lst, ok_lstM, ok_op2, ok_op1, ok_blt, ok_listM, ok_chain, ok_and, ok_or, ok_not, ok_tval, ok_band, ok_bor, ok_bnot, ok_yes, ok_mif, ok_callM, ok_call, ok_lm, ok_optN, ok_optS, ok_slice, ok_ival, ok_range1, ok_range2, ok_zip, ok_sm, ok_addM, ok_get1, ok_get2, ok_comp, ok_compM, s_skip, s_seq, s_expr, s_asg, s_put, s_ret, s_retN, s_brk, s_cnt, s_if, s_for, s_while, List.map_cons, List.map_nil, List.cons_append, List.nil_append, List.replicate, List.getElem?_cons_zero, List.getElem?_cons_succ, List.set_cons_zero, List.set_cons_succ, Option.some.injEq, exists_eq_left', exists_eq_left, Nat.reduceSub, Nat.reduceAdd, Nat.reduceMul, wipeE, gNm, gNms, gTp, D.int.injEq, true_and, and_true, List.length_cons, List.length_nil, Option.bind_some, idx_ref, ixC_lst, idx_lst, idx_tup, idx_frz, at0, at1, at2, at3, add_int, sub_int, mod_int, fdiv_int, pow18, lt_int, le_int, gt_int, ge_int, tru_bl, tru_int, eq_int, ne_int, eq_str, ne_str, eq_bl, ne_bl, put_ref, putC_lst, ix0, ix1, ix2, ix3, len_lst, len_tup, len_frz, len_ref, lenC_lst, un1_one, tuple_lst, tuple_tup, list_lst, list_tup, slice_tup, slice_lst, it_tup, it_lst, cut_from1, Option.map_some, List.set_set, Nat.reduceLT, Int.reduceLT, if_true, Int.toNat_natCast, mul_mod, mulL, mulR, Int.reduceNeg, hx2]
    refine ⟨g.go h.lt g3, ks ++ [k], by simp, by simp [hl], fun q hq => ?_⟩
    rcases List.mem_append.mp hq with z | z
    · exact hk q z
    · rw [List.mem_singleton.mp z]; exact hk3
  · rintro ys st4 ⟨g, ks, rfl, hl, hk⟩
    have hl' : ks.length = m + 1 := by simpa using hl
    rw [add_lst (by simp [hl']; unfold big; omega)]
    try simp only [ok_ok, ok_no, ok_bind, ok_of_some, ok_var, ok_cst, ok_nil, ok_cons, ok_tup, ok_lst, ok_lstM, ok_op2, ok_op1, ok_blt, ok_listM, ok_chain, ok_and, ok_or, ok_not, ok_tval, ok_band, ok_bor, ok_bnot, ok_yes, ok_mif, ok_callM, ok_call, ok_lm, ok_optN, ok_optS, ok_slice, ok_ival, ok_range1, ok_range2, ok_zip, ok_sm, ok_addM, ok_get1, ok_get2, ok_comp, ok_compM, s_skip, s_seq, s_expr, s_asg, s_put, s_ret, s_retN, s_brk, s_cnt, s_if, s_for, s_while, List.map_cons, List.map_nil, List.cons_append, List.nil_append, List.replicate, List.getElem?_cons_zero, List.getElem?_cons_succ, List.set_cons_zero, List.set_cons_succ, Option.some.injEq, exists_eq_left', exists_eq_left, Nat.reduceSub, Nat.reduceAdd, Nat.reduceMul, wipeE, gNm, gNms, gTp, D.int.injEq, true_and, and_true, List.length_cons, List.length_nil, Option.bind_some, idx_ref, ixC_lst, idx_lst, idx_tup, idx_frz, at0, at1, at2, at3, add_int, sub_int, mod_int, fdiv_int, pow18, lt_int, le_int, gt_int, ge_int, tru_bl, tru_int, eq_int, ne_int, eq_str, ne_str, eq_bl, ne_bl, put_ref, putC_lst, ix0, ix1, ix2, ix3, len_lst, len_tup, len_frz, len_ref, lenC_lst, un1_one, tuple_lst, tuple_tup, list_lst, list_tup, slice_tup, slice_lst, it_tup, it_lst, cut_from1, Option.map_some, List.set_set, Nat.reduceLT, Int.reduceLT, if_true, Int.toNat_natCast, mul_mod, mulL, mulR, Int.reduceNeg]
    refine draw_call (g.fd h.lt) (by omega) (by omega) fun r st5 r0 r1 g5 => ?_
    obtain ⟨q, rfl⟩ := Int.eq_ofNat_of_zero_le r0
    have g6 := g.go h.lt g5
    try simp only [ok_ok, ok_no, ok_bind, ok_of_some, ok_var, ok_cst, ok_nil, ok_cons, ok_tup, ok_lst, ok_lstM, ok_op2, ok_op1, ok_blt, ok_listM, ok_chain, ok_and, ok_or, ok_not, ok_tval, ok_band, ok_bor, ok_bnot, ok_yes, ok_mif, ok_callM, ok_call, ok_lm, ok_optN, ok_optS, ok_slice, ok_ival, ok_range1, ok_range2, ok_zip, ok_sm, ok_addM, ok_get1, ok_get2, ok_comp, ok_compM, s_skip, s_seq, s_expr, s_asg, s_put, s_ret, s_retN, s_brk, s_cnt, s_if, s_for, s_while, List.map_cons, List.map_nil, List.cons_append, List.nil_append, List.replicate, List.getElem?_cons_zero, List.getElem?_cons_succ, List.set_cons_zero, List.set_cons_succ, Option.some.injEq, exists_eq_left', exists_eq_left, Nat.reduceSub, Nat.reduceAdd, Nat.reduceMul, wipeE, gNm, gNms, gTp, D.int.injEq, true_and, and_true, List.length_cons, List.length_nil, Option.bind_some, idx_ref, ixC_lst, idx_lst, idx_tup, idx_frz, at0, at1, at2, at3, add_int, sub_int, mod_int, fdiv_int, pow18, lt_int, le_int, gt_int, ge_int, tru_bl, tru_int, eq_int, ne_int, eq_str, ne_str, eq_bl, ne_bl, put_ref, putC_lst, ix0, ix1, ix2, ix3, len_lst, len_tup, len_frz, len_ref, lenC_lst, un1_one, tuple_lst, tuple_tup, list_lst, list_tup, slice_tup, slice_lst, it_tup, it_lst, cut_from1, Option.map_some, List.set_set, Nat.reduceLT, Int.reduceLT, if_true, Int.toNat_natCast, mul_mod, mulL, mulR, Int.reduceNeg]
    have e0 : D.int 0 :: ks.map (fun (k : Nat) => D.int k) = (0 :: ks).map (fun (k : Nat) => D.int k) := rfl
    rw [e0, cut_from, cut_to, ← List.map_drop, ← List.map_take]
    rw [add_lst (by simp [hl']; unfold big; omega), ← List.map_append]
    generalize hkk : (0 :: ks).drop q ++ (0 :: ks).take q = kk
    have hkl : kk.length = m + 2 := by
      rw [← hkk, List.length_append, List.length_drop, List.length_take]
      simp [hl']
      omega
    have hk2 : ∀ k ∈ kk, k ≤ 3 := fun k hk' => by
      rw [← hkk] at hk'
      have : k ∈ 0 :: ks := by
        rcases List.mem_append.mp hk' with z | z
        · exact List.mem_of_mem_drop z
        · exact List.mem_of_mem_take z
      rcases List.mem_cons.mp this with z | z
      · omega
      · exact hk k z
    have h0 : 0 ∈ kk := by
      rw [← hkk]
      by_cases hq : q = 0
      · subst hq; simp
      · refine List.mem_append_right _ ?_
        obtain ⟨q', rfl⟩ : ∃ q', q = q' + 1 := ⟨q - 1, by omega⟩
        simp
    try simp only [ok_ok, ok_no, ok_bind, ok_of_some, ok_var, ok_cst, ok_nil, ok_cons, ok_tup, ok_lst, ok_lstM, ok_op2, ok_op1, ok_blt, ok_listM, ok_chain, ok_and, ok_or, ok_not, ok_tval, ok_band, ok_bor, ok_bnot, ok_yes, ok_mif, ok_callM, ok_call, ok_lm, ok_optN, ok_optS, ok_slice, ok_ival, ok_range1, ok_range2, ok_zip, ok_sm, ok_addM, ok_get1, ok_get2, ok_comp, ok_compM, s_skip, s_seq, s_expr, s_asg, s_put, s_ret, s_retN, s_brk, s_cnt, s_if, s_for, s_while, List.map_cons, List.map_nil, List.cons_append, List.nil_append, List.replicate, List.getElem?_cons_zero, List.getElem?_cons_succ, List.set_cons_zero, List.set_cons_succ, Option.some.injEq, exists_eq_left', exists_eq_left, Nat.reduceSub, Nat.reduceAdd, Nat.reduceMul, wipeE, gNm, gNms, gTp, D.int.injEq, true_and, and_true, List.length_cons, List.length_nil, Option.bind_some, idx_ref, ixC_lst, idx_lst, idx_tup, idx_frz, at0, at1, at2, at3, add_int, sub_int, mod_int, fdiv_int, pow18, lt_int, le_int, gt_int, ge_int, tru_bl, tru_int, eq_int, ne_int, eq_str, ne_str, eq_bl, ne_bl, put_ref, putC_lst, ix0, ix1, ix2, ix3, len_lst, len_tup, len_frz, len_ref, lenC_lst, un1_one, tuple_lst, tuple_tup, list_lst, list_tup, slice_tup, slice_lst, it_tup, it_lst, cut_from1, Option.map_some, List.set_set, Nat.reduceLT, Int.reduceLT, if_true, Int.toNat_natCast, mul_mod, mulL, mulR, Int.reduceNeg]
    refine ⟨by unfold big; omega, ?_⟩
    try simp only [Int.toNat_natCast]
    have hnd := names_nodup a0 a1 hb (m := m + 2) (by omega)
    have hnl : ((List.range (m + 2)).map (nameAt a b)).length = m + 2 := by simp
    have hnp : ∀ x ∈ (List.range (m + 2)).map (nameAt a b), x ∈ pool := fun x hx => by
      obtain ⟨k, hk, rfl⟩ := List.mem_map.mp hx
      obtain ⟨x, hx, hx3, hx2⟩ := at_get (xs := pool) (r := (a + b * k) % 8) (Int.emod_nonneg _ (by decide)) (Int.emod_lt_of_pos _ (by decide))
      unfold nameAt
      rw [hx3]
      exact hx
    refine comp_rng (fun k => (fun (x : Str) (k : Nat) => D.tup [.str x, .int k]) (((List.range (m + 2)).map (nameAt a b)).getD k "") (kk.getD k 0)) (by simp) rfl ?_ ?_
    · intro k hk
      obtain ⟨x, hx, hx3, hx2⟩ := at_get (xs := pool) (r := (a + b * k) % 8) (Int.emod_nonneg _ (by decide)) (Int.emod_lt_of_pos _ (by decide))
      have hx4 : L2.atI (pool.map D.str) ((a + b * k) % 8) = some (.str x) := by
        obtain ⟨q, hq⟩ := Int.eq_ofNat_of_zero_le (Int.emod_nonneg (a + b * k) (by decide : (8 : Int) ≠ 0))
        rw [hq, at_nat] at hx2 ⊢
        simp [hx2]
      have hx4' : L2.atI [D.str "a", .str "ab", .str "f", .str "fa", .str "b", .str "use", .str "stay", .str "zzzzzzzz"] ((a + b * k) % 8) = some (.str x) := hx4
      have hx5 : nameAt a b k = x := by unfold nameAt; rw [hx3]; rfl
      have e1 : ((List.range (m + 2)).map (nameAt a b))[k]? = some x := by
        rw [List.getElem?_map, List.getElem?_range (by omega)]
        simp [hx5]
      have e2 : kk[k]? = some (kk[k]'(by omega)) := by simp
      simp only [ok_ok, ok_no, ok_bind, ok_of_some, ok_var, ok_cst, ok_nil, ok_cons, ok_tup, ok_lst, ok_lstM, ok_op2, ok_op1, ok_blt, ok_listM, ok_chain, ok_and, ok_or, ok_not, ok_tval, ok_band, ok_bor, ok_bnot, ok_yes, ok_mif, ok_callM, ok_call, ok_lm, ok_optN, ok_optS, ok_slice, ok_ival, ok_range1, ok_range2, ok_zip, ok_sm, ok_addM, ok_get1, ok_get2, ok_comp, ok_compM, s_skip, s_seq, s_expr, s_asg, s_put, s_ret, s_retN, s_brk, s_cnt, s_if, s_for, s_while, List.map_cons, List.map_nil, List.cons_append, List.nil_append, List.replicate, List.getElem?_cons_zero, List.getElem?_cons_succ, List.set_cons_zero, List.set_cons_succ, Option.some.injEq, exists_eq_left', exists_eq_left, Nat.reduceSub, Nat.reduceAdd, Nat.reduceMul, wipeE, gNm, gNms, gTp, D.int.injEq, true_and, and_true, List.length_cons, List.length_nil, Option.bind_some, idx_ref, ixC_lst, idx_lst, idx_tup, idx_frz, at0, at1, at2, at3, add_int, sub_int, mod_int, fdiv_int, pow18, lt_int, le_int, gt_int, ge_int, tru_bl, tru_int, eq_int, ne_int, eq_str, ne_str, eq_bl, ne_bl, put_ref, putC_lst, ix0, ix1, ix2, ix3, len_lst, len_tup, len_frz, len_ref, lenC_lst, un1_one, tuple_lst, tuple_tup, list_lst, list_tup, slice_tup, slice_lst, it_tup, it_lst, cut_from1, Option.map_some, List.set_set, Nat.reduceLT, Int.reduceLT, if_true, Int.toNat_natCast, mul_mod, mulL, mulR, Int.reduceNeg, mulL hb2.1 hb2.2, hx4', at_nat, List.getElem?_map, e1, e2, List.getD, Option.getD_some]
    · rw [range_zip (fun (x : Str) (k : Nat) => D.tup [.str x, .int k]) hnl hkl]
      generalize (List.range (m + 2)).map (nameAt a b) = nms at *
      refine Fr.ok fcB g6 ?_ fun S' g7 => ?_
      · rw [bel]
        generalize nms.zip kk = l
        induction l with
        | nil => rfl
        | cons p l ih => simp [bels, bel, ih]
      · have hzl : (nms.zip kk).length = m + 2 := by simp; omega
        obtain ⟨q0, hq0, e0⟩ := List.getElem_of_mem h0
        refine ⟨nms.zip kk, ⟨⟨fun a k k' h1 h2 => zip_one hnd h1 h2, fun p hp => hk2 p.2 (List.of_mem_zip hp).2⟩, ?_, by omega, by omega, ⟨(nms[q0]'(by omega), 0), List.mem_of_getElem? (i := q0) (by rw [List.getElem?_zip_eq_some]; exact ⟨by simp, by rw [List.getElem?_eq_getElem hq0, e0]⟩), rfl⟩⟩, fun p hp => hnp p.1 (List.of_mem_zip hp).1, by omega, by omega, rfl, g7⟩
        rw [List.map_fst_zip (by omega)]
        exact hnd
theorem tree_go {n : Nat} {sg : Sg} (hs : Sgn sg) (d j : Nat) (st : St) (h : Fd FC n st) (ih : 0 < d → ∀ (j : Nat) (st : St), Fd FC n st → Ok (CC (d + j + 1) "_law_tree" [.ref n, encS sg, .int d] st) fun x st' => ∃ t, x = encT t ∧ TreeOf sg t ∧ hgt t ≤ d ∧ Go n st st') :
    Ok (CC (d + j + 2) "_law_tree" [.ref n, encS sg, .int (d + 1)] st) fun x st' => ∃ t, x = encT t ∧ TreeOf sg t ∧ hgt t ≤ d + 1 ∧ Go n st st' := by
  have hsl := hs.lo
  have hsh := hs.hi
  rw [r__law_tree]
  refine ok_fn rfl ?_
  unfold b__law_tree encS
  try simp only [ok_ok, ok_no, ok_bind, ok_of_some, ok_var, ok_cst, ok_nil, ok_cons, ok_tup, ok_lst, ok_lstM, ok_op2, ok_op1, ok_blt, ok_listM, ok_chain, ok_and, ok_or, ok_not, ok_tval, ok_band, ok_bor, ok_bnot, ok_yes, ok_mif, ok_callM, ok_call, ok_lm, ok_optN, ok_optS, ok_slice, ok_ival, ok_range1, ok_range2, ok_zip, ok_sm, ok_addM, ok_get1, ok_get2, ok_comp, ok_compM, s_skip, s_seq, s_expr, s_asg, s_put, s_ret, s_retN, s_brk, s_cnt, s_if, s_for, s_while, List.map_cons, List.map_nil, List.cons_append, List.nil_append, List.replicate, List.getElem?_cons_zero, List.getElem?_cons_succ, List.set_cons_zero, List.set_cons_succ, Option.some.injEq, exists_eq_left', exists_eq_left, Nat.reduceSub, Nat.reduceAdd, Nat.reduceMul, wipeE, gNm, gNms, gTp, D.int.injEq, true_and, and_true, List.length_cons, List.length_nil, Option.bind_some, idx_ref, ixC_lst, idx_lst, idx_tup, idx_frz, at0, at1, at2, at3, add_int, sub_int, mod_int, fdiv_int, pow18, lt_int, le_int, gt_int, ge_int, tru_bl, tru_int, eq_int, ne_int, eq_str, ne_str, eq_bl, ne_bl, put_ref, putC_lst, ix0, ix1, ix2, ix3, len_lst, len_tup, len_frz, len_ref, lenC_lst, un1_one, tuple_lst, tuple_tup, list_lst, list_tup, slice_tup, slice_lst, it_tup, it_lst, cut_from1, Option.map_some, List.set_set, Nat.reduceLT, Int.reduceLT, if_true, Int.toNat_natCast, mul_mod, mulL, mulR, Int.reduceNeg]
  refine comp_encF (e := fun p : Str × Nat => D.tup [.str p.1, .int p.2]) sg (fun p => decide (0 < d) || p.2 == 0) (fun p => D.tup [.str p.1, .int p.2]) rfl gNone ?_ ?_
  · rintro ⟨a, k⟩ hp
    refine ⟨_, rfl, ?_, fun _ => ⟨rfl, rfl⟩⟩
    simp only [ok_ok, ok_no, ok_bind, ok_of_some, ok_var, ok_cst, ok_nil, ok_cons, ok_tup, ok_lst, ok_lstM, ok_op2, ok_op1, ok_blt, ok_listM, ok_chain, ok_and, ok_or, ok_not, ok_tval, ok_band, ok_bor, ok_bnot, ok_yes, ok_mif, ok_callM, ok_call, ok_lm, ok_optN, ok_optS, ok_slice, ok_ival, ok_range1, ok_range2, ok_zip, ok_sm, ok_addM, ok_get1, ok_get2, ok_comp, ok_compM, s_skip, s_seq, s_expr, s_asg, s_put, s_ret, s_retN, s_brk, s_cnt, s_if, s_for, s_while, List.map_cons, List.map_nil, List.cons_append, List.nil_append, List.replicate, List.getElem?_cons_zero, List.getElem?_cons_succ, List.set_cons_zero, List.set_cons_succ, Option.some.injEq, exists_eq_left', exists_eq_left, Nat.reduceSub, Nat.reduceAdd, Nat.reduceMul, wipeE, gNm, gNms, gTp, D.int.injEq, true_and, and_true, List.length_cons, List.length_nil, Option.bind_some, idx_ref, ixC_lst, idx_lst, idx_tup, idx_frz, at0, at1, at2, at3, add_int, sub_int, mod_int, fdiv_int, pow18, lt_int, le_int, gt_int, ge_int, tru_bl, tru_int, eq_int, ne_int, eq_str, ne_str, eq_bl, ne_bl, put_ref, putC_lst, ix0, ix1, ix2, ix3, len_lst, len_tup, len_frz, len_ref, lenC_lst, un1_one, tuple_lst, tuple_tup, list_lst, list_tup, slice_tup, slice_lst, it_tup, it_lst, cut_from1, Option.map_some, List.set_set, Nat.reduceLT, Int.reduceLT, if_true, Int.toNat_natCast, mul_mod, mulL, mulR, Int.reduceNeg]
    by_cases hd : 0 < d
    · rw [if_pos (by simp; omega)]
      simp [hd]
    · rw [if_neg (by simp; omega)]
      rw [Bool.eq_iff_iff]
      simp [hd]
  · generalize hB : (sg.filter fun p => decide (0 < d) || p.2 == 0) = some'
    have hbl : some'.length ≤ 6 := by
      rw [← hB]
      exact Nat.le_trans (List.length_filter_le _ _) hsh
    have hbm : ∀ p ∈ some', p ∈ sg ∧ (d = 0 → p.2 = 0) := fun p hp => by
      rw [← hB] at hp
      obtain ⟨h1, h2⟩ := List.mem_filter.mp hp
      refine ⟨h1, fun hd => ?_⟩
      subst hd
      simpa using h2
    have hb0 : 0 < some'.length := by
      obtain ⟨p, hp, hk⟩ := hs.bare
      rw [← hB]
      exact List.length_pos_of_mem (List.mem_filter.mpr ⟨hp, by simp [hk]⟩)
    try simp only [ok_ok, ok_no, ok_bind, ok_of_some, ok_var, ok_cst, ok_nil, ok_cons, ok_tup, ok_lst, ok_lstM, ok_op2, ok_op1, ok_blt, ok_listM, ok_chain, ok_and, ok_or, ok_not, ok_tval, ok_band, ok_bor, ok_bnot, ok_yes, ok_mif, ok_callM, ok_call, ok_lm, ok_optN, ok_optS, ok_slice, ok_ival, ok_range1, ok_range2, ok_zip, ok_sm, ok_addM, ok_get1, ok_get2, ok_comp, ok_compM, s_skip, s_seq, s_expr, s_asg, s_put, s_ret, s_retN, s_brk, s_cnt, s_if, s_for, s_while, List.map_cons, List.map_nil, List.cons_append, List.nil_append, List.replicate, List.getElem?_cons_zero, List.getElem?_cons_succ, List.set_cons_zero, List.set_cons_succ, Option.some.injEq, exists_eq_left', exists_eq_left, Nat.reduceSub, Nat.reduceAdd, Nat.reduceMul, wipeE, gNm, gNms, gTp, D.int.injEq, true_and, and_true, List.length_cons, List.length_nil, Option.bind_some, idx_ref, ixC_lst, idx_lst, idx_tup, idx_frz, at0, at1, at2, at3, add_int, sub_int, mod_int, fdiv_int, pow18, lt_int, le_int, gt_int, ge_int, tru_bl, tru_int, eq_int, ne_int, eq_str, ne_str, eq_bl, ne_bl, put_ref, putC_lst, ix0, ix1, ix2, ix3, len_lst, len_tup, len_frz, len_ref, lenC_lst, un1_one, tuple_lst, tuple_tup, list_lst, list_tup, slice_tup, slice_lst, it_tup, it_lst, cut_from1, Option.map_some, List.set_set, Nat.reduceLT, Int.reduceLT, if_true, Int.toNat_natCast, mul_mod, mulL, mulR, Int.reduceNeg]
    rw [List.length_map]
    refine draw_call h (by omega) (by omega) fun i st1 i0 i1 g1 => ?_
    obtain ⟨x, hx, _, hx2⟩ := at_get (xs := some'.map fun p => D.tup [.str p.1, .int p.2]) i0 (by simpa using i1)
    obtain ⟨⟨nm, ar⟩, hp', rfl⟩ := List.mem_map.mp hx
    obtain ⟨hp, hd0⟩ := hbm _ hp'
    have har : ar ≤ 3 := hs.one.le _ hp
    try simp only [ok_ok, ok_no, ok_bind, ok_of_some, ok_var, ok_cst, ok_nil, ok_cons, ok_tup, ok_lst, ok_lstM, ok_op2, ok_op1, ok_blt, ok_listM, ok_chain, ok_and, ok_or, ok_not, ok_tval, ok_band, ok_bor, ok_bnot, ok_yes, ok_mif, ok_callM, ok_call, ok_lm, ok_optN, ok_optS, ok_slice, ok_ival, ok_range1, ok_range2, ok_zip, ok_sm, ok_addM, ok_get1, ok_get2, ok_comp, ok_compM, s_skip, s_seq, s_expr, s_asg, s_put, s_ret, s_retN, s_brk, s_cnt, s_if, s_for, s_while, List.map_cons, List.map_nil, List.cons_append, List.nil_append, List.replicate, List.getElem?_cons_zero, List.getElem?_cons_succ, List.set_cons_zero, List.set_cons_succ, Option.some.injEq, exists_eq_left', exists_eq_left, Nat.reduceSub, Nat.reduceAdd, Nat.reduceMul, wipeE, gNm, gNms, gTp, D.int.injEq, true_and, and_true, List.length_cons, List.length_nil, Option.bind_some, idx_ref, ixC_lst, idx_lst, idx_tup, idx_frz, at0, at1, at2, at3, add_int, sub_int, mod_int, fdiv_int, pow18, lt_int, le_int, gt_int, ge_int, tru_bl, tru_int, eq_int, ne_int, eq_str, ne_str, eq_bl, ne_bl, put_ref, putC_lst, ix0, ix1, ix2, ix3, len_lst, len_tup, len_frz, len_ref, lenC_lst, un1_one, tuple_lst, tuple_tup, list_lst, list_tup, slice_tup, slice_lst, it_tup, it_lst, cut_from1, Option.map_some, List.set_set, Nat.reduceLT, Int.reduceLT, if_true, Int.toNat_natCast, mul_mod, mulL, mulR, Int.reduceNeg, hx2]
    refine ⟨by unfold big; omega, ?_⟩
    refine comp_go (fun done ys S => Go n st S ∧ ∃ ts : List Pt, ys = ts.map encT ∧ ts.length = done.length ∧ ∀ t ∈ ts, TreeOf sg t ∧ hgt t ≤ d) rfl ⟨g1, [], rfl, rfl, by simp⟩ ?_ ?_
    · rintro x done ys S hx ⟨g, ts, rfl, hl, hy⟩
      have hd : 0 < d := by
        rcases Nat.eq_zero_or_pos d with z | z
        · have := hd0 z
          simp only at this
          subst this
          simp at hx
        · exact z
      try simp only [ok_ok, ok_no, ok_bind, ok_of_some, ok_var, ok_cst, ok_nil, ok_cons, ok_tup, ok_lst, ok_lstM, ok_op2, ok_op1, ok_blt, ok_listM, ok_chain, ok_and, ok_or, ok_not, ok_tval, ok_band, ok_bor, ok_bnot, ok_yes, ok_mif, ok_callM, ok_call, ok_lm, ok_optN, ok_optS, ok_slice, ok_ival, ok_range1, ok_range2, ok_zip, ok_sm, ok_addM, ok_get1, ok_get2, ok_comp, ok_compM, s_skip, s_seq, s_expr, s_asg, s_put, s_ret, s_retN, s_brk, s_cnt, s_if, s_for, s_while, List.map_cons, List.map_nil, List.cons_append, List.nil_append, List.replicate, List.getElem?_cons_zero, List.getElem?_cons_succ, List.set_cons_zero, List.set_cons_succ, Option.some.injEq, exists_eq_left', exists_eq_left, Nat.reduceSub, Nat.reduceAdd, Nat.reduceMul, wipeE, gNm, gNms, gTp, D.int.injEq, true_and, and_true, List.length_cons, List.length_nil, Option.bind_some, idx_ref, ixC_lst, idx_lst, idx_tup, idx_frz, at0, at1, at2, at3, add_int, sub_int, mod_int, fdiv_int, pow18, lt_int, le_int, gt_int, ge_int, tru_bl, tru_int, eq_int, ne_int, eq_str, ne_str, eq_bl, ne_bl, put_ref, putC_lst, ix0, ix1, ix2, ix3, len_lst, len_tup, len_frz, len_ref, lenC_lst, un1_one, tuple_lst, tuple_tup, list_lst, list_tup, slice_tup, slice_lst, it_tup, it_lst, cut_from1, Option.map_some, List.set_set, Nat.reduceLT, Int.reduceLT, if_true, Int.toNat_natCast, mul_mod, mulL, mulR, Int.reduceNeg]
      rw [show (d : Int) + 1 - 1 = (d : Int) by omega]
      refine ok_ice_val ((ih hd j S (g.fd h.lt)).mono ?_)
      rintro _ S' ⟨t, rfl, ht, hh, g'⟩
      refine ⟨isRef_T t, g.go h.lt g', ts ++ [t], by simp, by simp [hl], fun y hy' => ?_⟩
      rcases List.mem_append.mp hy' with z | z
      · exact hy y z
      · rw [List.mem_singleton.mp z]; exact ⟨ht, hh⟩
    · rintro ys S ⟨g, ts, rfl, hl, hy⟩
      have hl' : ts.length = ar := by simpa using hl
      try simp only [ok_ok, ok_no, ok_bind, ok_of_some, ok_var, ok_cst, ok_nil, ok_cons, ok_tup, ok_lst, ok_lstM, ok_op2, ok_op1, ok_blt, ok_listM, ok_chain, ok_and, ok_or, ok_not, ok_tval, ok_band, ok_bor, ok_bnot, ok_yes, ok_mif, ok_callM, ok_call, ok_lm, ok_optN, ok_optS, ok_slice, ok_ival, ok_range1, ok_range2, ok_zip, ok_sm, ok_addM, ok_get1, ok_get2, ok_comp, ok_compM, s_skip, s_seq, s_expr, s_asg, s_put, s_ret, s_retN, s_brk, s_cnt, s_if, s_for, s_while, List.map_cons, List.map_nil, List.cons_append, List.nil_append, List.replicate, List.getElem?_cons_zero, List.getElem?_cons_succ, List.set_cons_zero, List.set_cons_succ, Option.some.injEq, exists_eq_left', exists_eq_left, Nat.reduceSub, Nat.reduceAdd, Nat.reduceMul, wipeE, gNm, gNms, gTp, D.int.injEq, true_and, and_true, List.length_cons, List.length_nil, Option.bind_some, idx_ref, ixC_lst, idx_lst, idx_tup, idx_frz, at0, at1, at2, at3, add_int, sub_int, mod_int, fdiv_int, pow18, lt_int, le_int, gt_int, ge_int, tru_bl, tru_int, eq_int, ne_int, eq_str, ne_str, eq_bl, ne_bl, put_ref, putC_lst, ix0, ix1, ix2, ix3, len_lst, len_tup, len_frz, len_ref, lenC_lst, un1_one, tuple_lst, tuple_tup, list_lst, list_tup, slice_tup, slice_lst, it_tup, it_lst, cut_from1, Option.map_some, List.set_set, Nat.reduceLT, Int.reduceLT, if_true, Int.toNat_natCast, mul_mod, mulL, mulR, Int.reduceNeg]
      rw [add_tup (by simp; unfold big; omega)]
      have ht : TreeOf sg (.nd nm ts) := .mk (by rw [hl']; exact hp) fun t ht => (hy t ht).1
      have e : D.tup (.str nm :: ts.map encT) = encT (.nd nm ts) := encT_nd.symm
      refine ⟨_, rfl, Fr.ok fcB g ?_ fun S' g' => ⟨.nd nm ts, e, ht, ?_, g'⟩⟩
      · show bel _ (D.tup (.str nm :: ts.map encT)) = true
        rw [e]; exact bel_T _
      · rw [hgt]
        have := (hgts_le (ts := ts) (n := d)).mpr fun t ht => (hy t ht).2
        omega
theorem tree_ok {n : Nat} {sg : Sg} (hs : Sgn sg) : ∀ (d j : Nat) (st : St), Fd FC n st → Ok (CC (d + j + 2) "_law_tree" [.ref n, encS sg, .int ((d : Int) + 1)] st) fun x st' => ∃ t, x = encT t ∧ TreeOf sg t ∧ hgt t ≤ d + 1 ∧ Go n st st'
  | 0, j, st, h => tree_go hs 0 j st h fun hd => by omega
  | d + 1, j, st, h => tree_go hs (d + 1) j st h fun _ j' st' h' => by
    have := tree_ok hs d j' st' h'
    rw [show d + 1 + j' + 1 = d + j' + 2 by omega, show ((d + 1 : Nat) : Int) = (d : Int) + 1 by omega]
    exact this
end RP
end
section
set_option Elab.async false
set_option linter.all false
set_option maxRecDepth 100000
set_option maxHeartbeats 1000000
namespace RP
open PySem
theorem Fr.more {FC : Cell → Prop} {n : Nat} {st rest S : St} {c : Cell} (h : Fr FC n st rest S) : Fr FC n st (rest ++ [c]) (S ++ [c]) := by
  obtain ⟨c0, h0, rfl⟩ := h
  exact ⟨c0, h0, by rw [List.append_assoc]⟩
def sg8 : Sg := [("f", 1), ("g", 3), ("a", 0)]
theorem one8 : One sg8 := ⟨fun a k k' h h' => by
  have nd : (sg8.map (·.1)).Nodup := by decide +kernel
  have e : sg8 = (sg8.map (·.1)).zip (sg8.map (·.2)) := rfl
  rw [e] at h h'
  exact zip_one nd h h', by decide⟩
theorem sgn8 : Sgn sg8 := ⟨one8, by decide +kernel, by decide, by decide, ⟨("a", 0), by simp [sg8], rfl⟩⟩
def fP : Nat → Pt → Pt
  | 0, t => t
  | k + 1, t => .nd "f" [fP k t]
def aP : Pt := .nd "a" []
theorem fP_ok {t : Pt} (ht : TreeOf sg8 t) : ∀ k, TreeOf sg8 (fP k t) ∧ hgt (fP k t) = k + hgt t ∧ siz (fP k t) = k + siz t
  | 0 => ⟨ht, by rw [fP]; omega, by rw [fP]; omega⟩
  | k + 1 => by
    have ih := fP_ok ht k
    refine ⟨.mk (by simp [sg8]) fun t ht => ?_, ?_, ?_⟩
    · rw [List.mem_singleton.mp ht]; exact ih.1
    · rw [fP, hgt, hgts, hgts, ih.2.1]; omega
    · rw [fP, siz, sizs, sizs, ih.2.2]; omega
theorem aP_ok : TreeOf sg8 aP ∧ hgt aP = 1 ∧ siz aP = 1 := ⟨.mk (by simp [sg8]) (by simp), by rw [aP, hgt, hgts], by rw [aP, siz, sizs]⟩
theorem encT_a : encT aP = .tup [.str "a"] := by rw [aP, encT_nd]; rfl
theorem encT_f {k : Nat} {t : Pt} : encT (fP (k + 1) t) = .tup [.str "f", encT (fP k t)] := by rw [fP, encT_nd]; rfl
theorem g3_ok {a b c : Pt} (ha : TreeOf sg8 a) (hb : TreeOf sg8 b) (hc : TreeOf sg8 c) : TreeOf sg8 (.nd "g" [a, b, c]) := .mk (by simp [sg8]) fun t ht => by
  have : t = a ∨ t = b ∨ t = c := by simpa using ht
  rcases this with e | e | e <;> (rw [e]; assumption)
theorem encT_g3 {a b c : Pt} : encT (.nd "g" [a, b, c]) = .tup [.str "g", encT a, encT b, encT c] := by rw [encT_nd]; rfl
def t3P : Pt := fP 5 (.nd "g" [fP 4 aP, fP 4 aP, fP 4 aP])
theorem t3_ok : TreeOf sg8 t3P ∧ hgt t3P = 11 ∧ siz t3P = 21 := by
  have c := fP_ok aP_ok.1 4
  rw [aP_ok.2.1, aP_ok.2.2] at c
  have g := fP_ok (g3_ok c.1 c.1 c.1) 5
  refine ⟨g.1, ?_, ?_⟩
  · rw [t3P, g.2.1]; simp only [hgt, hgts, c.2.1]; omega
  · rw [t3P, g.2.2]; simp only [siz, sizs, c.2.2]
def DeepP (t : Pt) : Prop := TreeOf sg8 t ∧ hgt t ≤ 20 ∧ siz t ≤ 60 ∧ ∃ a b c, t = .nd "g" [a, b, c]
theorem deep_all : DeepP (.nd "g" [fP 18 aP, fP 18 aP, t3P]) ∧ DeepP (.nd "g" [fP 18 aP, t3P, fP 18 aP]) ∧ DeepP (.nd "g" [t3P, fP 18 aP, fP 18 aP]) := by
  have c := fP_ok aP_ok.1 18
  rw [aP_ok.2.1, aP_ok.2.2] at c
  have t := t3_ok
  refine ⟨⟨g3_ok c.1 c.1 t.1, ?_, ?_, _, _, _, rfl⟩, ⟨g3_ok c.1 t.1 c.1, ?_, ?_, _, _, _, rfl⟩, ⟨g3_ok t.1 c.1 c.1, ?_, ?_, _, _, _, rfl⟩⟩ <;> simp only [hgt, hgts, siz, sizs, c.2.1, c.2.2, t.2.1, t.2.2] <;> omega
theorem deep_ok {n j : Nat} {st : St} (h : Fd FC n st) {Q : D → St → Prop} (q : ∀ S t, DeepP t → Go n st S → Q (encT t) S) : Ok (ice st (CC (j + 2) "_law_deep" [.ref n] st)) Q := by
  have hn := h.lt
  refine ok_ice_val ?_
  rw [r__law_deep]
  refine ok_fn rfl ?_
  unfold b__law_deep
  have i0 : ∀ {S : St} {x y : D}, S[st.length]? = some (.lst [x, y]) → idxD S (.ref st.length) (.int 0) = some x := fun {S x y} e => by
    unfold idxD
    rw [see_cell e]
    rfl
  have i1 : ∀ {S : St} {x y : D}, S[st.length]? = some (.lst [x, y]) → idxD S (.ref st.length) (.int 1) = some y := fun {S x y} e => by
    unfold idxD
    rw [see_cell e]
    rfl
  have p0 : ∀ {x y z : D}, putIx (st ++ [.lst [x, y]]) (.ref st.length) (.int 0) z = some (st ++ [.lst [z, y]]) := fun {x y z} => by
    unfold putIx
    simp only
    rw [at_new]
    simp only
    rw [show L2.ixN [x, y].length 0 = some 0 from rfl]
    simp only [Option.map_some, set_new]
    rfl
  have p1 : ∀ {x y z : D}, putIx (st ++ [.lst [x, y]]) (.ref st.length) (.int 1) z = some (st ++ [.lst [x, z]]) := fun {x y z} => by
    unfold putIx
    simp only
    rw [at_new]
    simp only
    rw [show L2.ixN [x, y].length 1 = some 1 from rfl]
    simp only [Option.map_some, set_new]
    rfl
  simp only [ok_ok, ok_no, ok_bind, ok_of_some, ok_var, ok_cst, ok_nil, ok_cons, ok_tup, ok_lst, ok_lstM, ok_op2, ok_op1, ok_blt, ok_listM, ok_chain, ok_and, ok_or, ok_not, ok_tval, ok_band, ok_bor, ok_bnot, ok_yes, ok_mif, ok_callM, ok_call, ok_lm, ok_optN, ok_optS, ok_slice, ok_ival, ok_range1, ok_range2, ok_zip, ok_sm, ok_addM, ok_get1, ok_get2, ok_comp, ok_compM, s_skip, s_seq, s_expr, s_asg, s_put, s_ret, s_retN, s_brk, s_cnt, s_if, s_for, s_while, List.map_cons, List.map_nil, List.cons_append, List.nil_append, List.replicate, List.getElem?_cons_zero, List.getElem?_cons_succ, List.set_cons_zero, List.set_cons_succ, Option.some.injEq, exists_eq_left', exists_eq_left, Nat.reduceSub, Nat.reduceAdd, Nat.reduceMul, wipeE, gNm, gNms, gTp, D.int.injEq, true_and, and_true, List.length_cons, List.length_nil, Option.bind_some, idx_ref, ixC_lst, idx_lst, idx_tup, idx_frz, at0, at1, at2, at3, add_int, sub_int, mod_int, fdiv_int, pow18, lt_int, le_int, gt_int, ge_int, tru_bl, tru_int, eq_int, ne_int, eq_str, ne_str, eq_bl, ne_bl, put_ref, putC_lst, ix0, ix1, ix2, ix3, len_lst, len_tup, len_frz, len_ref, lenC_lst, un1_one, tuple_lst, tuple_tup, list_lst, list_tup, slice_tup, slice_lst, it_tup, it_lst, cut_from1, Option.map_some, List.set_set, Nat.reduceLT, Int.reduceLT, if_true, Int.toNat_natCast, mul_mod, mulL, mulR, Int.reduceNeg]
  refine ⟨by decide, ?_⟩
  refine for_gen (e := fun i : Nat => D.int i) (List.range 18) (fun done e S => S = st ++ [.lst [encT (fP done.length aP), encT (fP (min done.length 4) aP)]] ∧ ∃ y, e = [some (.ref n), some (.ref st.length), y, none, none, none]) rfl ⟨?_, none, rfl⟩ ?_ (fun _ _ _ _ => gNone) ?_
  · simp only [List.length_nil, Nat.zero_min]
    rw [fP, encT_a]
  · rintro i rest done e S he ⟨rfl, y, rfl⟩
    refine ⟨_, rfl, ?_⟩
    have hi : i = done.length := by
      have h1 : (List.range 18)[done.length]? = some i := by rw [he]; simp
      have h2 := (List.getElem?_eq_some_iff.mp h1).2
      simpa using h2.symm
    subst hi
    simp only [ok_ok, ok_no, ok_bind, ok_of_some, ok_var, ok_cst, ok_nil, ok_cons, ok_tup, ok_lst, ok_lstM, ok_op2, ok_op1, ok_blt, ok_listM, ok_chain, ok_and, ok_or, ok_not, ok_tval, ok_band, ok_bor, ok_bnot, ok_yes, ok_mif, ok_callM, ok_call, ok_lm, ok_optN, ok_optS, ok_slice, ok_ival, ok_range1, ok_range2, ok_zip, ok_sm, ok_addM, ok_get1, ok_get2, ok_comp, ok_compM, s_skip, s_seq, s_expr, s_asg, s_put, s_ret, s_retN, s_brk, s_cnt, s_if, s_for, s_while, List.map_cons, List.map_nil, List.cons_append, List.nil_append, List.replicate, List.getElem?_cons_zero, List.getElem?_cons_succ, List.set_cons_zero, List.set_cons_succ, Option.some.injEq, exists_eq_left', exists_eq_left, Nat.reduceSub, Nat.reduceAdd, Nat.reduceMul, wipeE, gNm, gNms, gTp, D.int.injEq, true_and, and_true, List.length_cons, List.length_nil, Option.bind_some, idx_ref, ixC_lst, idx_lst, idx_tup, idx_frz, at0, at1, at2, at3, add_int, sub_int, mod_int, fdiv_int, pow18, lt_int, le_int, gt_int, ge_int, tru_bl, tru_int, eq_int, ne_int, eq_str, ne_str, eq_bl, ne_bl, put_ref, putC_lst, ix0, ix1, ix2, ix3, len_lst, len_tup, len_frz, len_ref, lenC_lst, un1_one, tuple_lst, tuple_tup, list_lst, list_tup, slice_tup, slice_lst, it_tup, it_lst, cut_from1, Option.map_some, List.set_set, Nat.reduceLT, Int.reduceLT, if_true, Int.toNat_natCast, mul_mod, mulL, mulR, Int.reduceNeg, i0 at_new, p0]
    simp only [List.length_append, List.length_singleton, encT_f]
    by_cases h4 : done.length < 4
    · have e1 : decide (((done.length : Nat) : Int) < 4) = true := by simp; omega
      simp only [ok_ok, ok_no, ok_bind, ok_of_some, ok_var, ok_cst, ok_nil, ok_cons, ok_tup, ok_lst, ok_lstM, ok_op2, ok_op1, ok_blt, ok_listM, ok_chain, ok_and, ok_or, ok_not, ok_tval, ok_band, ok_bor, ok_bnot, ok_yes, ok_mif, ok_callM, ok_call, ok_lm, ok_optN, ok_optS, ok_slice, ok_ival, ok_range1, ok_range2, ok_zip, ok_sm, ok_addM, ok_get1, ok_get2, ok_comp, ok_compM, s_skip, s_seq, s_expr, s_asg, s_put, s_ret, s_retN, s_brk, s_cnt, s_if, s_for, s_while, List.map_cons, List.map_nil, List.cons_append, List.nil_append, List.replicate, List.getElem?_cons_zero, List.getElem?_cons_succ, List.set_cons_zero, List.set_cons_succ, Option.some.injEq, exists_eq_left', exists_eq_left, Nat.reduceSub, Nat.reduceAdd, Nat.reduceMul, wipeE, gNm, gNms, gTp, D.int.injEq, true_and, and_true, List.length_cons, List.length_nil, Option.bind_some, idx_ref, ixC_lst, idx_lst, idx_tup, idx_frz, at0, at1, at2, at3, add_int, sub_int, mod_int, fdiv_int, pow18, lt_int, le_int, gt_int, ge_int, tru_bl, tru_int, eq_int, ne_int, eq_str, ne_str, eq_bl, ne_bl, put_ref, putC_lst, ix0, ix1, ix2, ix3, len_lst, len_tup, len_frz, len_ref, lenC_lst, un1_one, tuple_lst, tuple_tup, list_lst, list_tup, slice_tup, slice_lst, it_tup, it_lst, cut_from1, Option.map_some, List.set_set, Nat.reduceLT, Int.reduceLT, if_true, Int.toNat_natCast, mul_mod, mulL, mulR, Int.reduceNeg, e1, if_true, i1 at_new, p1]
      rw [Nat.min_eq_left (by omega : done.length ≤ 4), Nat.min_eq_left (by omega : done.length + 1 ≤ 4), encT_f]
      exact ⟨_, by rw [← idx_ref]; exact i0 at_new, _, p0, _, by rw [← idx_ref]; exact i1 at_new, _, p1, rfl, _, rfl⟩
    · have e1 : decide (((done.length : Nat) : Int) < 4) = false := by simp; omega
      simp only [ok_ok, ok_no, ok_bind, ok_of_some, ok_var, ok_cst, ok_nil, ok_cons, ok_tup, ok_lst, ok_lstM, ok_op2, ok_op1, ok_blt, ok_listM, ok_chain, ok_and, ok_or, ok_not, ok_tval, ok_band, ok_bor, ok_bnot, ok_yes, ok_mif, ok_callM, ok_call, ok_lm, ok_optN, ok_optS, ok_slice, ok_ival, ok_range1, ok_range2, ok_zip, ok_sm, ok_addM, ok_get1, ok_get2, ok_comp, ok_compM, s_skip, s_seq, s_expr, s_asg, s_put, s_ret, s_retN, s_brk, s_cnt, s_if, s_for, s_while, List.map_cons, List.map_nil, List.cons_append, List.nil_append, List.replicate, List.getElem?_cons_zero, List.getElem?_cons_succ, List.set_cons_zero, List.set_cons_succ, Option.some.injEq, exists_eq_left', exists_eq_left, Nat.reduceSub, Nat.reduceAdd, Nat.reduceMul, wipeE, gNm, gNms, gTp, D.int.injEq, true_and, and_true, List.length_cons, List.length_nil, Option.bind_some, idx_ref, ixC_lst, idx_lst, idx_tup, idx_frz, at0, at1, at2, at3, add_int, sub_int, mod_int, fdiv_int, pow18, lt_int, le_int, gt_int, ge_int, tru_bl, tru_int, eq_int, ne_int, eq_str, ne_str, eq_bl, ne_bl, put_ref, putC_lst, ix0, ix1, ix2, ix3, len_lst, len_tup, len_frz, len_ref, lenC_lst, un1_one, tuple_lst, tuple_tup, list_lst, list_tup, slice_tup, slice_lst, it_tup, it_lst, cut_from1, Option.map_some, List.set_set, Nat.reduceLT, Int.reduceLT, if_true, Int.toNat_natCast, mul_mod, mulL, mulR, Int.reduceNeg, e1, if_false, Bool.false_eq_true]
      rw [Nat.min_eq_right (by omega : 4 ≤ done.length), Nat.min_eq_right (by omega : 4 ≤ done.length + 1)]
      exact ⟨_, by rw [← idx_ref]; exact i0 at_new, _, p0, rfl, _, rfl⟩
  · rintro e S ⟨rfl, y, rfl⟩
    simp only [List.length_range]
    rw [show min 18 4 = 4 from rfl]
    simp only [ok_ok, ok_no, ok_bind, ok_of_some, ok_var, ok_cst, ok_nil, ok_cons, ok_tup, ok_lst, ok_lstM, ok_op2, ok_op1, ok_blt, ok_listM, ok_chain, ok_and, ok_or, ok_not, ok_tval, ok_band, ok_bor, ok_bnot, ok_yes, ok_mif, ok_callM, ok_call, ok_lm, ok_optN, ok_optS, ok_slice, ok_ival, ok_range1, ok_range2, ok_zip, ok_sm, ok_addM, ok_get1, ok_get2, ok_comp, ok_compM, s_skip, s_seq, s_expr, s_asg, s_put, s_ret, s_retN, s_brk, s_cnt, s_if, s_for, s_while, List.map_cons, List.map_nil, List.cons_append, List.nil_append, List.replicate, List.getElem?_cons_zero, List.getElem?_cons_succ, List.set_cons_zero, List.set_cons_succ, Option.some.injEq, exists_eq_left', exists_eq_left, Nat.reduceSub, Nat.reduceAdd, Nat.reduceMul, wipeE, gNm, gNms, gTp, D.int.injEq, true_and, and_true, List.length_cons, List.length_nil, Option.bind_some, idx_ref, ixC_lst, idx_lst, idx_tup, idx_frz, at0, at1, at2, at3, add_int, sub_int, mod_int, fdiv_int, pow18, lt_int, le_int, gt_int, ge_int, tru_bl, tru_int, eq_int, ne_int, eq_str, ne_str, eq_bl, ne_bl, put_ref, putC_lst, ix0, ix1, ix2, ix3, len_lst, len_tup, len_frz, len_ref, lenC_lst, un1_one, tuple_lst, tuple_tup, list_lst, list_tup, slice_tup, slice_lst, it_tup, it_lst, cut_from1, Option.map_some, List.set_set, Nat.reduceLT, Int.reduceLT, if_true, Int.toNat_natCast, mul_mod, mulL, mulR, Int.reduceNeg, i1 at_new]
    refine ⟨by decide, ?_⟩
    refine for_gen (e := fun i : Nat => D.int i) (List.range 5) (fun done e S => S = st ++ [.lst [encT (fP 18 aP), encT (fP 4 aP)]] ∧ ∃ y, e = [some (.ref n), some (.ref st.length), y, some (encT (fP done.length (.nd "g" [fP 4 aP, fP 4 aP, fP 4 aP]))), none, none]) rfl ⟨rfl, _, by simp only [List.length_nil]; rw [fP, encT_g3]⟩ ?_ (fun _ _ _ _ => gNone) ?_
    · rintro i rest done e S he ⟨rfl, y, rfl⟩
      refine ⟨_, rfl, ?_⟩
      simp only [ok_ok, ok_no, ok_bind, ok_of_some, ok_var, ok_cst, ok_nil, ok_cons, ok_tup, ok_lst, ok_lstM, ok_op2, ok_op1, ok_blt, ok_listM, ok_chain, ok_and, ok_or, ok_not, ok_tval, ok_band, ok_bor, ok_bnot, ok_yes, ok_mif, ok_callM, ok_call, ok_lm, ok_optN, ok_optS, ok_slice, ok_ival, ok_range1, ok_range2, ok_zip, ok_sm, ok_addM, ok_get1, ok_get2, ok_comp, ok_compM, s_skip, s_seq, s_expr, s_asg, s_put, s_ret, s_retN, s_brk, s_cnt, s_if, s_for, s_while, List.map_cons, List.map_nil, List.cons_append, List.nil_append, List.replicate, List.getElem?_cons_zero, List.getElem?_cons_succ, List.set_cons_zero, List.set_cons_succ, Option.some.injEq, exists_eq_left', exists_eq_left, Nat.reduceSub, Nat.reduceAdd, Nat.reduceMul, wipeE, gNm, gNms, gTp, D.int.injEq, true_and, and_true, List.length_cons, List.length_nil, Option.bind_some, idx_ref, ixC_lst, idx_lst, idx_tup, idx_frz, at0, at1, at2, at3, add_int, sub_int, mod_int, fdiv_int, pow18, lt_int, le_int, gt_int, ge_int, tru_bl, tru_int, eq_int, ne_int, eq_str, ne_str, eq_bl, ne_bl, put_ref, putC_lst, ix0, ix1, ix2, ix3, len_lst, len_tup, len_frz, len_ref, lenC_lst, un1_one, tuple_lst, tuple_tup, list_lst, list_tup, slice_tup, slice_lst, it_tup, it_lst, cut_from1, Option.map_some, List.set_set, Nat.reduceLT, Int.reduceLT, if_true, Int.toNat_natCast, mul_mod, mulL, mulR, Int.reduceNeg, List.length_append, List.length_singleton]
      exact ⟨_, by rw [encT_f]⟩
    · rintro e S ⟨rfl, y, rfl⟩
      simp only [ok_ok, ok_no, ok_bind, ok_of_some, ok_var, ok_cst, ok_nil, ok_cons, ok_tup, ok_lst, ok_lstM, ok_op2, ok_op1, ok_blt, ok_listM, ok_chain, ok_and, ok_or, ok_not, ok_tval, ok_band, ok_bor, ok_bnot, ok_yes, ok_mif, ok_callM, ok_call, ok_lm, ok_optN, ok_optS, ok_slice, ok_ival, ok_range1, ok_range2, ok_zip, ok_sm, ok_addM, ok_get1, ok_get2, ok_comp, ok_compM, s_skip, s_seq, s_expr, s_asg, s_put, s_ret, s_retN, s_brk, s_cnt, s_if, s_for, s_while, List.map_cons, List.map_nil, List.cons_append, List.nil_append, List.replicate, List.getElem?_cons_zero, List.getElem?_cons_succ, List.set_cons_zero, List.set_cons_succ, Option.some.injEq, exists_eq_left', exists_eq_left, Nat.reduceSub, Nat.reduceAdd, Nat.reduceMul, wipeE, gNm, gNms, gTp, D.int.injEq, true_and, and_true, List.length_cons, List.length_nil, Option.bind_some, idx_ref, ixC_lst, idx_lst, idx_tup, idx_frz, at0, at1, at2, at3, add_int, sub_int, mod_int, fdiv_int, pow18, lt_int, le_int, gt_int, ge_int, tru_bl, tru_int, eq_int, ne_int, eq_str, ne_str, eq_bl, ne_bl, put_ref, putC_lst, ix0, ix1, ix2, ix3, len_lst, len_tup, len_frz, len_ref, lenC_lst, un1_one, tuple_lst, tuple_tup, list_lst, list_tup, slice_tup, slice_lst, it_tup, it_lst, cut_from1, Option.map_some, List.set_set, Nat.reduceLT, Int.reduceLT, if_true, Int.toNat_natCast, mul_mod, mulL, mulR, Int.reduceNeg, i0 at_new, List.length_range]
      have P : Fr FC n st [.lst [encT (fP 18 aP), encT (fP 4 aP)]] (st ++ [.lst [encT (fP 18 aP), encT (fP 4 aP)]]) := (Fr.refl h).more
      refine draw_call (P.fd hn) (by decide) (by decide) fun r S r0 r1 g => ?_
      have P2 := P.go hn g
      have ft : fP 5 (.nd "g" [fP 4 aP, fP 4 aP, fP 4 aP]) = t3P := rfl
      rw [ft]
      simp only [ok_ok, ok_no, ok_bind, ok_of_some, ok_var, ok_cst, ok_nil, ok_cons, ok_tup, ok_lst, ok_lstM, ok_op2, ok_op1, ok_blt, ok_listM, ok_chain, ok_and, ok_or, ok_not, ok_tval, ok_band, ok_bor, ok_bnot, ok_yes, ok_mif, ok_callM, ok_call, ok_lm, ok_optN, ok_optS, ok_slice, ok_ival, ok_range1, ok_range2, ok_zip, ok_sm, ok_addM, ok_get1, ok_get2, ok_comp, ok_compM, s_skip, s_seq, s_expr, s_asg, s_put, s_ret, s_retN, s_brk, s_cnt, s_if, s_for, s_while, List.map_cons, List.map_nil, List.cons_append, List.nil_append, List.replicate, List.getElem?_cons_zero, List.getElem?_cons_succ, List.set_cons_zero, List.set_cons_succ, Option.some.injEq, exists_eq_left', exists_eq_left, Nat.reduceSub, Nat.reduceAdd, Nat.reduceMul, wipeE, gNm, gNms, gTp, D.int.injEq, true_and, and_true, List.length_cons, List.length_nil, Option.bind_some, idx_ref, ixC_lst, idx_lst, idx_tup, idx_frz, at0, at1, at2, at3, add_int, sub_int, mod_int, fdiv_int, pow18, lt_int, le_int, gt_int, ge_int, tru_bl, tru_int, eq_int, ne_int, eq_str, ne_str, eq_bl, ne_bl, put_ref, putC_lst, ix0, ix1, ix2, ix3, len_lst, len_tup, len_frz, len_ref, lenC_lst, un1_one, tuple_lst, tuple_tup, list_lst, list_tup, slice_tup, slice_lst, it_tup, it_lst, cut_from1, Option.map_some, List.set_set, Nat.reduceLT, Int.reduceLT, if_true, Int.toNat_natCast, mul_mod, mulL, mulR, Int.reduceNeg]
      obtain ⟨d1, d2, d3⟩ := deep_all
      have fin : ∀ a b c : Pt, DeepP (.nd "g" [a, b, c]) → Ok (gc st (.tup [.str "g", encT a, encT b, encT c]) S) fun d st' => isRef d = none ∧ Q d st' := fun a b c hd => by
        rw [← encT_g3]
        exact Fr.ok fcB P2 (bel_T _) fun S' g' => ⟨isRef_T _, q S' _ hd g'⟩
      refine ⟨_, rfl, ?_⟩
      have hr : r = 0 ∨ r = 1 ∨ r = 2 := by omega
      rcases hr with rfl | rfl | rfl
      · exact ⟨_, rfl, _, rfl, _, rfl, fin _ _ _ d1⟩
      · exact ⟨_, rfl, _, rfl, _, rfl, fin _ _ _ d2⟩
      · exact ⟨_, rfl, _, rfl, _, rfl, fin _ _ _ d3⟩
end RP
end
section
set_option Elab.async false
set_option linter.all false
set_option maxRecDepth 100000
set_option maxHeartbeats 1000000
namespace RP
open PySem
theorem chain2 {a : Bool} {p q : Prop} (h : if a = true then p else q) : (D.bl a = D.bl true ∧ p) ∨ (D.bl a = D.bl false ∧ q) := by
  cases a with
  | true => exact .inl ⟨rfl, by simpa using h⟩
  | false => exact .inr ⟨rfl, by simpa using h⟩
theorem all_signs {z : Str} {l : List Nat} {st : St} : allD st (.lst (z.cps.toList.map fun c => D.bl (decide (c ∈ l)))) = some (.bl (z.cps.toList.all fun c => decide (c ∈ l))) := by
  have e : (z.cps.toList.map fun c => D.bl (decide (c ∈ l))) = (z.cps.toList.map fun c => decide (c ∈ l)).map D.bl := by rw [List.map_map]; rfl
  rw [e, all_bls, List.all_map]
  rfl
theorem asStrs_map : ∀ {ss : List Str}, asStrs (ss.map D.str) = some ss
  | [] => rfl
  | s :: ss => by rw [List.map_cons, asStrs, asStrs_map]; rfl
theorem lenSet_strs {st : St} {ss : List Str} (h : ss.length ≤ 4000) : lenSetD st (.lst (ss.map D.str)) = some (.int (dedup ss).length) := by
  unfold lenSetD
  simp only [see, asStrs_map]
  rw [if_pos h]
theorem nobs_ints {l : List Int} : nobs (l.map D.int) = true := nobs_iff.mpr fun x hx => by
  obtain ⟨i, _, rfl⟩ := List.mem_map.mp hx
  rfl
theorem in_ints {st : St} {i : Int} {l : List Int} : inB st (.int i) (.lst (l.map D.int)) = some (.bl (decide (i ∈ l))) := by
  rw [in_lst rfl nobs_ints (by simp [dep])]
  rw [decide_eq_decide.mpr (mem_map_inj (f := D.int) (fun a b h => by cases h; rfl))]
theorem nin_ints {st : St} {i : Int} {l : List Int} : ninB st (.int i) (.lst (l.map D.int)) = some (.bl (!decide (i ∈ l))) := by
  rw [nin_lst rfl nobs_ints (by simp [dep])]
  rw [decide_eq_decide.mpr (mem_map_inj (f := D.int) (fun a b h => by cases h; rfl))]
theorem nin_intsT {st : St} {i : Int} {l : List Int} : ninB st (.int i) (.tup (l.map D.int)) = some (.bl (!decide (i ∈ l))) := by
  rw [nin_tup rfl nobs_ints (by simp [dep])]
  rw [decide_eq_decide.mpr (mem_map_inj (f := D.int) (fun a b h => by cases h; rfl))]
theorem eq_noneL {st : St} {l : List Nat} {p : Nat → Bool} : eqB st (.lst ((l.filter fun c => !p c).map fun c => D.str ⟨#[c]⟩)) (.lst []) = some (.bl (l.all p)) := by
  have e : ((l.filter fun c => !p c).map fun c => D.str ⟨#[c]⟩) = ((l.filter fun c => !p c).map fun c => (⟨#[c]⟩ : Str)).map D.str := by rw [List.map_map]; rfl
  rw [e, eq_nob (by rw [nob]; exact nob_strs) rfl (by rw [dep, dep_strs]; decide)]
  congr 2
  rw [Bool.eq_iff_iff]
  simp [List.filter_eq_nil_iff]
theorem idx_str {st : St} {z : Str} {i : Int} {c : Nat} (hz : z.length ≤ big) (h : L2.atI z.cps.toList i = some c) : idxD st (.str z) (.int i) = some (.str ⟨#[c]⟩) := by
  show (if z.length ≤ big then _ else _) = _
  rw [if_pos hz, h]
  rfl
theorem slice_str {st : St} {z : Str} {lo hi : Option Int} (hz : z.length ≤ big) : sliceD st (.str z) lo hi = some (.str ⟨(cut z.cps.toList lo hi).toArray⟩) := if_pos hz
def hdS (z : Str) : Str := ⟨(cut z.cps.toList none (some 1)).toArray⟩
def tlS (z : Str) : Str := ⟨(cut z.cps.toList (some 1) none).toArray⟩
def fsS (z : Str) : Str := match z.cps.toList with
  | c :: _ => ⟨#[c]⟩
  | [] => ""
theorem tlS_len {z : Str} : (tlS z).length ≤ z.length := by
  unfold tlS
  have : (cut z.cps.toList (some 1) none).length ≤ z.cps.toList.length := by
    unfold cut
    rw [List.length_take, List.length_drop]
    omega
  simpa [Str.length] using this
theorem fs_idx {st : St} {z : Str} (hz : z.length ≤ big) (h : 1 ≤ z.length) : idxD st (.str z) (.int 0) = some (.str (fsS z)) := by
  unfold fsS
  cases hc : z.cps.toList with
  | nil =>
    have : z.length = 0 := by
      show z.cps.size = 0
      rw [← Array.length_toList, hc]; rfl
    omega
  | cons c r => exact idx_str hz (by rw [hc]; exact at0)
def unkS (z : Str) : Bool := (hdS z == ("?" : Str)) && (nameB (tlS z) || ((decide (1 ≤ (tlS z).length) && decide ((tlS z).length ≤ 9)) && (((tlS z).cps.toList.all fun c => decide (c ∈ figuresL)) && ((tlS z == ("0" : Str)) || !(fsS (tlS z) == ("0" : Str))))))
def unkB : D → Bool
  | .str z => unkS z
  | _ => false
theorem ne_noneL {st : St} {l : List Nat} {p : Nat → Bool} : neB st (.lst ((l.filter fun c => !p c).map fun c => D.str ⟨#[c]⟩)) (.lst []) = some (.bl (!(l.all p))) := by
  have e : ((l.filter fun c => !p c).map fun c => D.str ⟨#[c]⟩) = ((l.filter fun c => !p c).map fun c => (⟨#[c]⟩ : Str)).map D.str := by rw [List.map_map]; rfl
  rw [e, ne_nob (by rw [nob]; exact nob_strs) rfl (by rw [dep, dep_strs]; decide)]
  congr 2
  rw [Bool.eq_iff_iff]
  simp [List.filter_eq_nil_iff]
def patB (sg : Sg) : Nat → D → Bool
  | _, .str z => unkS z
  | d + 1, .tup (.str f :: ks) => decide ((f, ks.length) ∈ sg) && ks.all (patB sg d)
  | _, _ => false
theorem nin_dct {st : St} {f : Str} {ks vs : List D} : ninB st (.str f) (.dct ks vs) = some (.bl (!(look ks vs (.str f)).isSome)) := rfl
theorem nin_fls {st : St} {bs : List Bool} : ninB st (.bl false) (.lst (bs.map D.bl)) = some (.bl (bs.all id)) := by
  have h1 : see st (.lst (bs.map D.bl)) = .lst (bs.map D.bl) := rfl
  have h2 : see st (.bl false) = .bl false := rfl
  have h3 : pln (.bl false) = true := rfl
  have h4 : dep (.bl false) = 0 := rfl
  unfold ninB inO
  simp only [h1, h2]
  rw [if_pos (by rw [h3, plns_bls, h4]; simp)]
  simp only [Option.map_some, bD]
  congr 2
  rw [Bool.eq_iff_iff]
  simp [List.any_eq_true, List.all_eq_true, eqD]
theorem in_fls {st : St} {bs : List Bool} : inB st (.bl false) (.lst (bs.map D.bl)) = some (.bl (!(bs.all id))) := by
  have h1 : see st (.lst (bs.map D.bl)) = .lst (bs.map D.bl) := rfl
  have h2 : see st (.bl false) = .bl false := rfl
  have h3 : pln (.bl false) = true := rfl
  have h4 : dep (.bl false) = 0 := rfl
  unfold inB inO
  simp only [h1, h2]
  rw [if_pos (by rw [h3, plns_bls, h4]; simp)]
  simp only [bD, Option.map_some]
  congr 2
  rw [Bool.eq_iff_iff]
  simp [List.any_eq_true, List.all_eq_true, eqD]
theorem find_sg {sg : Sg} (hs : One sg) {f : Str} {n : Nat} : (∃ p, sg.find? (fun p => p.1 == f) = some p ∧ p.1 = f ∧ p ∈ sg ∧ ((f, n) ∈ sg ↔ n = p.2)) ∨ (sg.find? (fun p => p.1 == f) = none ∧ ¬ (f, n) ∈ sg) := by
  cases h : sg.find? (fun p => p.1 == f) with
  | none =>
    refine .inr ⟨rfl, fun hm => ?_⟩
    have := List.find?_eq_none.mp h _ hm
    simp at this
  | some p =>
    have h1 : p.1 = f := by simpa using List.find?_some h
    have h2 := List.mem_of_find?_eq_some h
    refine .inl ⟨p, rfl, h1, h2, fun hm => ?_, fun hn => ?_⟩
    · exact hs.one f _ _ hm (by rw [← h1]; exact h2)
    · rw [hn, ← h1]; exact h2
theorem pat_nil {sg : Sg} {d : Nat} : patB sg d (.tup []) = false := by cases d <;> rfl
mutual
def dsz : D → Nat
  | .tup xs => 1 + dszs xs
  | .lst xs => 1 + dszs xs
  | _ => 1
def dszs : List D → Nat
  | [] => 0
  | x :: xs => dsz x + dszs xs
end
theorem dszs_app {xs ys : List D} : dszs (xs ++ ys) = dszs xs + dszs ys := by
  induction xs with
  | nil => simp [dszs]
  | cons x xs ih => rw [List.cons_append, dszs, dszs, ih]; omega
theorem dsz_pos : ∀ {x : D}, 1 ≤ dsz x
  | .tup xs => by rw [dsz]; omega
  | .lst xs => by rw [dsz]; omega
  | .non => Nat.le_refl 1
  | .bl _ => Nat.le_refl 1
  | .int _ => Nat.le_refl 1
  | .str _ => Nat.le_refl 1
  | .dct _ _ => Nat.le_refl 1
  | .set _ => Nat.le_refl 1
  | .frz _ => Nat.le_refl 1
  | .ref _ => Nat.le_refl 1
  | .exc _ => Nat.le_refl 1
  | .exf _ _ _ _ => Nat.le_refl 1
theorem dsz_tup {xs : List D} : dsz (.tup xs) = 1 + dszs xs := by rw [dsz]
theorem dsz_lst {xs : List D} : dsz (.lst xs) = 1 + dszs xs := by rw [dsz]
theorem dsz_str {z : Str} : dsz (.str z) = 1 := rfl
theorem dsz_mem : ∀ {xs : List D} {x : D}, x ∈ xs → dsz x ≤ dszs xs
  | y :: ys, x, h => by
    rw [dszs]
    rcases List.mem_cons.mp h with e | h
    · rw [e]; omega
    · have := dsz_mem h; omega
theorem dsz_T : ∀ {t : Pt}, siz t ≤ dsz (encT t) ∧ dsz (encT t) ≤ 2 * siz t := by
  refine @(Pt.ind ?_ ?_)
  · intro x
    rw [encT_unk, siz]
    exact ⟨Nat.le_refl 1, by rw [dsz_str]; omega⟩
  · intro f ks ih
    rw [encT_nd, siz, dsz_tup, dszs, dsz_str]
    have : ∀ ks : List Pt, (∀ t ∈ ks, siz t ≤ dsz (encT t) ∧ dsz (encT t) ≤ 2 * siz t) → sizs ks ≤ dszs (ks.map encT) ∧ dszs (ks.map encT) ≤ 2 * sizs ks := by
      intro ks
      induction ks with
      | nil => intro _; simp [sizs, dszs]
      | cons t ts ih =>
        intro h
        have h1 := h t (by simp)
        have h2 := ih fun u hu => h u (by simp [hu])
        rw [List.map_cons, sizs, dszs]
        omega
    have := this ks ih
    omega
mutual
def unks : Pt → List Str
  | .unk x => [x]
  | .nd _ ks => unkss ks
def unkss : List Pt → List Str
  | [] => []
  | t :: ts => unks t ++ unkss ts
end
theorem unkss_app {ts us : List Pt} : unkss (ts ++ us) = unkss ts ++ unkss us := by
  induction ts with
  | nil => rfl
  | cons t ts ih => rw [List.cons_append, unkss, unkss, ih, List.append_assoc]
theorem unks_len : ∀ {t : Pt}, (unks t).length ≤ siz t := by
  refine @(Pt.ind ?_ ?_)
  · intro x; rw [unks, siz]; simp
  · intro f ks ih
    rw [unks, siz]
    have : ∀ ks : List Pt, (∀ t ∈ ks, (unks t).length ≤ siz t) → (unkss ks).length ≤ sizs ks := by
      intro ks
      induction ks with
      | nil => intro _; simp [unkss]
      | cons t ts ih =>
        intro h
        have h1 := h t (by simp)
        have h2 := ih fun u hu => h u (by simp [hu])
        rw [unkss, sizs, List.length_append]
        omega
    have := this ks ih
    omega
theorem unkss_len {ks : List Pt} : (unkss ks).length ≤ sizs ks := by
  induction ks with
  | nil => simp [unkss]
  | cons t ts ih => rw [unkss, sizs, List.length_append]; have := unks_len (t := t); omega
theorem unkss_mem {ts : List Pt} {s : Str} : s ∈ unkss ts ↔ ∃ t ∈ ts, s ∈ unks t := by
  induction ts with
  | nil => simp [unkss]
  | cons t ts ih => rw [unkss, List.mem_append, ih]; simp
inductive PatOf (sg : Sg) : Pt → Prop
  | unk {z : Str} : unkS z = true → PatOf sg (.unk z)
  | nd {f : Str} {ks : List Pt} : (f, ks.length) ∈ sg → (∀ t ∈ ks, PatOf sg t) → PatOf sg (.nd f ks)
theorem pat_of {sg : Sg} : ∀ {d : Nat} {x : D}, patB sg d x = true → ∃ t, x = encT t ∧ PatOf sg t ∧ hgt t ≤ d := by
  intro d
  induction d with
  | zero =>
    intro x h
    match x, h with
    | .str z, h => exact ⟨.unk z, encT_unk.symm, .unk h, by rw [hgt]; omega⟩
    | .tup [], h => simp [patB] at h
    | .tup (_ :: _), h => simp [patB] at h
  | succ d ih =>
    intro x h
    match x, h with
    | .str z, h => exact ⟨.unk z, encT_unk.symm, .unk h, by rw [hgt]; omega⟩
    | .tup (.str f :: ks), h =>
      simp only [patB, Bool.and_eq_true, decide_eq_true_eq] at h
      have hk := List.all_eq_true.mp h.2
      have : ∀ ks : List D, (∀ x ∈ ks, patB sg d x = true) → ∃ ts : List Pt, ks = ts.map encT ∧ ∀ t ∈ ts, PatOf sg t ∧ hgt t ≤ d := by
        intro ks
        induction ks with
        | nil => intro _; exact ⟨[], rfl, by simp⟩
        | cons x ks ih2 =>
          intro h
          obtain ⟨t, e, h1, h2⟩ := ih (h x (by simp))
          obtain ⟨ts, e2, h3⟩ := ih2 fun y hy => h y (by simp [hy])
          refine ⟨t :: ts, by rw [e, e2]; rfl, fun u hu => ?_⟩
          rcases List.mem_cons.mp hu with e | hu
          · rw [e]; exact ⟨h1, h2⟩
          · exact h3 u hu
      obtain ⟨ts, rfl, ht⟩ := this ks hk
      refine ⟨.nd f ts, encT_nd.symm, .nd (by simpa using h.1) fun t hm => (ht t hm).1, ?_⟩
      rw [hgt]
      have := (hgts_le (ts := ts) (n := d)).mpr fun t hm => (ht t hm).2
      omega
theorem of_pat {sg : Sg} : ∀ {t : Pt}, PatOf sg t → ∀ d, hgt t ≤ d → patB sg d (encT t) = true := by
  intro t ht
  induction ht with
  | unk h => intro d _; rw [encT_unk]; cases d <;> exact h
  | nd hm _ ih =>
    rename_i f ks _
    intro d hd
    rw [hgt] at hd
    obtain ⟨e, rfl⟩ : ∃ e, d = e + 1 := ⟨d - 1, by omega⟩
    rw [encT_nd, patB, List.length_map, decide_eq_true hm, Bool.true_and, List.all_eq_true]
    intro x hx
    obtain ⟨u, hu, rfl⟩ := List.mem_map.mp hx
    exact ih u hu e (by have := hgt_mem hu; omega)
theorem asInts_map : ∀ {l : List Int}, asInts (l.map D.int) = some l
  | [] => rfl
  | i :: l => by rw [List.map_cons, asInts, asInts_map]; rfl
theorem sum_nats {st : St} {l : List Nat} : sumD st (.lst (l.map fun (k : Nat) => D.int k)) = some (.int l.sum) := by
  have e : (l.map fun (k : Nat) => D.int k) = (l.map fun (k : Nat) => (k : Int)).map D.int := by rw [List.map_map]; rfl
  unfold sumD
  simp only [see]
  rw [e, asInts_map]
  simp only [Option.map_some, Option.some.injEq, D.int.injEq]
  induction l with
  | nil => rfl
  | cons k l ih => rw [List.map_cons, List.sum_cons, ih (by rw [List.map_map]; rfl), List.sum_cons]; omega
theorem isi_strT {st : St} {z : Str} : isiD .str st (.str z) = some (.bl true) := rfl
theorem isi_strN {st : St} {xs : List D} : isiD .str st (.tup xs) = some (.bl false) := rfl
theorem dedup_le : ∀ {l : List Str}, (dedup l).length ≤ l.length
  | [] => Nat.le_refl 0
  | x :: xs => by
    rw [dedup]
    have ih := dedup_le (l := xs)
    split
    · simp; omega
    · simp; omega
theorem dedup_nd : ∀ {l : List Str}, (dedup l).length = l.length ↔ l.Nodup
  | [] => by simp [dedup]
  | x :: xs => by
    rw [dedup, List.nodup_cons, ← dedup_nd (l := xs)]
    have := dedup_le (l := xs)
    split
    · rename_i h
      rw [mem_dedup] at h
      simp only [List.length_cons]
      constructor
      · intro; omega
      · rintro ⟨h', _⟩; exact (h' h).elim
    · rename_i h
      rw [mem_dedup] at h
      simp only [List.length_cons]
      constructor
      · intro; exact ⟨h, by omega⟩
      · rintro ⟨_, h'⟩; omega
open Classical
structure RuleP (sg : Sg) (a : Str) (l r : Pt) : Prop where
  nm : nameB a = true
  pl : PatOf sg l
  pr : PatOf sg r
  nd : ∃ f ks, l = .nd f ks
  sl : siz l ≤ 12
  sr : siz r ≤ 12
  un : (unks l).Nodup
  sub : ∀ s ∈ unks r, s ∈ unks l
def IsRule (sg : Sg) (x : D) : Prop := ∃ a l r, x = .tup [.str a, encT l, encT r] ∧ RuleP sg a l r
def nmOf : D → Str
  | .tup (.str a :: _) => a
  | _ => ""
def IsRules (sg : Sg) (x : D) : Prop := ∃ xs, x = .tup xs ∧ xs.length ≤ 6 ∧ (∀ y ∈ xs, IsRule sg y) ∧ (xs.map nmOf).Nodup
theorem rule_inv {sg : Sg} {a l r : D} (h : IsRule sg (.tup [a, l, r])) : ∃ a' l' r', a = .str a' ∧ l = encT l' ∧ r = encT r' ∧ RuleP sg a' l' r' := by
  obtain ⟨a', l', r', e, h⟩ := h
  simp only [D.tup.injEq, List.cons.injEq, and_true] at e
  exact ⟨a', l', r', e.1, e.2.1, e.2.2, h⟩
theorem all_in {st : St} {l u : List Str} : allD st (.lst (l.map fun s => D.bl (decide (s ∈ u)))) = some (.bl (decide (∀ s ∈ l, s ∈ u))) := by
  have e : (l.map fun s => D.bl (decide (s ∈ u))) = (l.map fun s => decide (s ∈ u)).map D.bl := by rw [List.map_map]; rfl
  rw [e, all_bls, List.all_map]
  congr 2
  rw [Bool.eq_iff_iff, List.all_eq_true]
  simp
theorem cut_len {α : Type} {l : List α} {lo hi : Option Int} : (cut l lo hi).length ≤ l.length := by
  unfold cut
  rw [List.length_take, List.length_drop]
  omega
theorem cut_mem {α : Type} {l : List α} {lo hi : Option Int} {x : α} (h : x ∈ cut l lo hi) : x ∈ l := List.mem_of_mem_drop (List.mem_of_mem_take h)
theorem rev_tup {st : St} {xs : List D} : revD st (.tup xs) = some (.tup xs.reverse) := rfl
theorem neg_int {st : St} {i : Int} : negD st (.int i) = some (.int (-i)) := rfl
theorem mul_tup2 {st : St} {xs : List D} (h : xs.length ≤ 1000) : mulD st (.tup xs) (.int 2) = some (.tup (xs ++ xs)) := by
  show (if _ then _ else _) = _
  rw [if_pos (by simp [h])]
  simp [List.replicate]
def oddL : List D := [.non, .bl true, .bl false, .int 0, .int 1, .int 3, .int 4, .int (-1), .str "", .str "A", .str "a", .str "abcdefghi", .str "?", .str "?x", .str "?00", .str "?1", .str "a b", .lst [], .tup []]
theorem thg_odd {L d : Nat} (hL : 9 ≤ L) {x : D} (h : x ∈ oddL) : Thg L (d + 1) x := by
  have hs : ∀ s : Str, s.length ≤ 9 → Thg L (d + 1) (.str s) := fun s hs => .str s (by omega)
  simp only [oddL, List.mem_cons, List.not_mem_nil, or_false] at h
  rcases h with rfl | rfl | rfl | rfl | rfl | rfl | rfl | rfl | rfl | rfl | rfl | rfl | rfl | rfl | rfl | rfl | rfl | rfl | rfl
  all_goals first | exact .non | exact .bl _ | exact .int _ | exact hs _ (by decide) | exact .lst (by simp) (by simp) | exact .tup (by simp) (by simp)
theorem odd_sz : ∀ x ∈ oddL, dsz x ≤ 1 := by
  intro x h
  simp only [oddL, List.mem_cons, List.not_mem_nil, or_false] at h
  rcases h with rfl | rfl | rfl | rfl | rfl | rfl | rfl | rfl | rfl | rfl | rfl | rfl | rfl | rfl | rfl | rfl | rfl | rfl | rfl
  all_goals first | exact Nat.le_refl 1 | simp [dsz, dszs]
theorem dszs_cut {xs : List D} {lo hi : Option Int} : dszs (cut xs lo hi) ≤ dszs xs := by
  have h1 : ∀ (l : List D) (k : Nat), dszs (l.take k) ≤ dszs l := fun l k => by
    conv => rhs; rw [← List.take_append_drop k l]
    rw [dszs_app]; omega
  have h2 : ∀ (l : List D) (k : Nat), dszs (l.drop k) ≤ dszs l := fun l k => by
    conv => rhs; rw [← List.take_append_drop k l]
    rw [dszs_app]; omega
  unfold cut
  exact Nat.le_trans (h1 _ _) (h2 _ _)
theorem dszs_rev {xs : List D} : dszs xs.reverse = dszs xs := by
  induction xs with
  | nil => rfl
  | cons x xs ih => rw [List.reverse_cons, dszs_app, ih, dszs, dszs, dszs]; omega
theorem ne_strsL {st : St} {l : List Str} : neB st (.lst (l.map D.str)) (.lst []) = some (.bl (!decide (l = []))) := by
  rw [ne_nob (by rw [nob]; exact nob_strs) rfl (by rw [dep, dep_strs]; decide)]
  congr 2
  rw [Bool.eq_iff_iff]
  simp
end RP
end
section
set_option Elab.async false
set_option linter.all false
set_option maxRecDepth 100000
set_option maxHeartbeats 1000000
namespace RP
open PySem
mutual
def okD : D → Bool
  | .non => true
  | .bl _ => true
  | .int i => decide (0 ≤ i) && decide (i ≤ 1000)
  | .str x => x.cps.toList.all fun c => decide (c < 16 ^ 8)
  | .tup xs => okDs xs
  | .lst xs => okDs xs
  | _ => false
def okDs : List D → Bool
  | [] => true
  | x :: xs => okD x && okDs xs
end
theorem int_short {i : Int} (h0 : 0 ≤ i) (h1 : i ≤ 1000) : i.natAbs.log2 < 1920 ∧ (PyData.shown (.int i)).length ≤ 20 := by
  have all : ∀ k : Fin 1001, ((k.val : Int)).natAbs.log2 < 1920 ∧ (PyData.shown (.int (k.val : Int))).length ≤ 20 := by decide +kernel
  have := all ⟨i.toNat, by omega⟩
  simpa [Int.toNat_of_nonneg h0] using this
mutual
theorem okD_all : ∀ d : D, okD d = true → pln d = true ∧ (toPy d).showable = true ∧ (toPy d).leavesShort 20 = true
  | .non, _ => by simp [pln, toPy, PyData.showable, PyData.leavesShort]
  | .bl b, _ => by simp [pln, toPy, PyData.showable, PyData.leavesShort]
  | .int i, h => by
    simp only [okD, Bool.and_eq_true, decide_eq_true_eq] at h
    have := int_short h.1 h.2
    exact ⟨by simp [pln], by simpa [toPy, PyData.showable] using this.1, by simpa [toPy, PyData.leavesShort] using this.2⟩
  | .str x, h => by exact ⟨by simp [pln], by simp [toPy, PyData.showable], by simpa [toPy, PyData.leavesShort, okD] using h⟩
  | .tup xs, h => by
    have := okDs_all xs (by simpa [okD] using h)
    simpa [pln, toPy, PyData.showable, PyData.leavesShort] using this
  | .lst xs, h => by
    have := okDs_all xs (by simpa [okD] using h)
    simpa [pln, toPy, PyData.showable, PyData.leavesShort] using this
  | .dct _ _, h => by simp [okD] at h
  | .set _, h => by simp [okD] at h
  | .frz _, h => by simp [okD] at h
  | .ref _, h => by simp [okD] at h
  | .exc _, h => by simp [okD] at h
  | .exf _ _ _ _, h => by simp [okD] at h
theorem okDs_all : ∀ ds : List D, okDs ds = true → plns ds = true ∧ PyData.showableAll (toPys ds) = true ∧ PyData.leavesShortAll 20 (toPys ds) = true
  | [], _ => by simp [plns, toPys, PyData.showableAll, PyData.leavesShortAll]
  | d :: ds, h => by
    simp only [okDs, Bool.and_eq_true] at h
    have h1 := okD_all d h.1
    have h2 := okDs_all ds h.2
    simp [plns, toPys, PyData.showableAll, PyData.leavesShortAll, h1, h2]
end
abbrev blk (d : D) : Nat := (toPy d).bulk
theorem repr_ok {st : St} {d : D} (hs : see st d = d) (h : okD d = true) (hb : blk d ≤ 40000) (hd : (toPy d).depth ≤ 90) : reprD st d = some (.str (toPy d).shown) := by
  obtain ⟨h1, h2, h3⟩ := okD_all d h
  have h4 := PyData.shown_le_bulk 20 (by decide) (toPy d) h3
  unfold reprD
  rw [hs, if_pos]
  simp only [h1, h2, Bool.true_and, Bool.and_eq_true, decide_eq_true_eq]
  refine ⟨?_, by omega⟩
  have : (20 + 2) * (toPy d).bulk ≤ 22 * 40000 := Nat.mul_le_mul_left _ hb
  unfold big
  omega
theorem okDs_of : ∀ {l : List D}, (∀ x ∈ l, okD x = true) → okDs l = true
  | [], _ => rfl
  | x :: l, h => by simp [okDs, h x List.mem_cons_self, okDs_of fun y hy => h y (List.mem_cons_of_mem _ hy)]
theorem depth_kids {n : Nat} : ∀ {ks : List D}, (∀ t ∈ ks, (toPy t).depth ≤ n) → PyData.depthAll (toPys ks) ≤ n
  | [], _ => by simp [toPys, PyData.depthAll]
  | k :: ks, h => by
    have h1 := h k List.mem_cons_self
    have h2 := depth_kids fun t ht => h t (List.mem_cons_of_mem _ ht)
    simp only [toPys, PyData.depthAll]
    omega

theorem eq_strsL {st : St} {l : List Str} : eqB st (.lst (l.map D.str)) (.lst []) = some (.bl (decide (l = []))) := by
  rw [eq_nob (by rw [nob]; exact nob_strs) rfl (by rw [dep, dep_strs]; decide)]
  congr 2
  rw [Bool.eq_iff_iff]
  simp
def sS (x : Str) : Bool := decide (x.length ≤ 9) && x.cps.toList.all fun c => decide (c < 16 ^ 8)
inductive ShT : Pt → Prop
  | unk {x : Str} : sS x = true → ShT (.unk x)
  | nd {f : Str} {ks : List Pt} : sS f = true → (∀ t ∈ ks, ShT t) → ShT (.nd f ks)
theorem sS_name {x : Str} (h : nameB x = true) : sS x = true := by
  unfold nameB at h
  simp only [Bool.and_eq_true, decide_eq_true_eq] at h
  unfold sS
  rw [Bool.and_eq_true]
  refine ⟨decide_eq_true (by omega), ?_⟩
  rw [List.all_eq_true] at h ⊢
  intro c hc
  have h1 := of_decide_eq_true (h.2.2 c hc)
  have : ∀ c ∈ lettersL, c < 16 ^ 8 := by decide +kernel
  exact decide_eq_true (this c h1)
theorem okD_T {t : Pt} (h : ShT t) : okD (encT t) = true := by
  induction h with
  | unk h =>
    rw [encT_unk, okD]
    unfold sS at h
    rw [Bool.and_eq_true] at h
    exact h.2
  | nd h _ ih =>
    rw [encT_nd, okD, okDs, okD]
    unfold sS at h
    rw [Bool.and_eq_true] at h
    rw [h.2, Bool.true_and]
    refine okDs_of fun x hx => ?_
    obtain ⟨t, ht, rfl⟩ := List.mem_map.mp hx
    exact ih t ht
theorem blk_T {t : Pt} (h : ShT t) : blk (encT t) + 1 ≤ 11 * siz t := by
  induction h with
  | @unk x h =>
    unfold sS at h
    simp only [Bool.and_eq_true, decide_eq_true_eq] at h
    have h1 : x.cps.size ≤ 9 := h.1
    rw [encT_unk, siz]
    simp only [blk, toPy, PyData.bulk]
    omega
  | @nd f ks h _ ih =>
    unfold sS at h
    simp only [Bool.and_eq_true, decide_eq_true_eq] at h
    have h1 : f.cps.size ≤ 9 := h.1
    rw [encT_nd, siz]
    have : ∀ ks : List Pt, (∀ t ∈ ks, blk (encT t) + 1 ≤ 11 * siz t) → PyData.bulkAll (toPys (ks.map encT)) ≤ 11 * sizs ks := by
      intro ks
      induction ks with
      | nil => intro _; simp [toPys, PyData.bulkAll, sizs]
      | cons k ks ih2 =>
        intro h
        have h1 := h k List.mem_cons_self
        have h2 := ih2 fun t ht => h t (List.mem_cons_of_mem _ ht)
        simp only [List.map_cons, toPys, PyData.bulkAll, sizs]
        simp only [blk] at h1
        omega
    have := this ks ih
    simp only [blk, toPy, toPys, PyData.bulk, PyData.bulkAll]
    omega
theorem depth_T : ∀ t : Pt, (toPy (encT t)).depth ≤ hgt t := Pt.ind (fun x => by rw [encT_unk]; simp [toPy, PyData.depth]) fun f ks ih => by
  rw [encT_nd, hgt]
  have h2 := depth_kids (n := hgts ks) (ks := ks.map encT) fun x hx => by
    obtain ⟨t, ht, rfl⟩ := List.mem_map.mp hx
    exact Nat.le_trans (ih t ht) (hgt_mem ht)
  simp only [toPy, toPys, PyData.depth, PyData.depthAll]
  omega
def shT (t : Pt) : Str := (toPy (encT t)).shown
theorem repr_T {st : St} {t : Pt} (h : ShT t) (hs : siz t ≤ 3000) (hh : hgt t ≤ 90) : reprD st (encT t) = some (.str (shT t)) :=
  repr_ok (see_pln (pln_T t)) (okD_T h) (by have := blk_T h; omega) (Nat.le_trans (depth_T t) hh)
theorem toPyXs_map : ∀ {xs : List D}, toPyXs xs = xs.map toPyX
  | [] => by simp [toPyXs]
  | x :: xs => by simp [toPyXs, toPyXs_map (xs := xs)]
theorem toPys_map : ∀ {xs : List D}, toPys xs = xs.map toPy
  | [] => by simp [toPys]
  | x :: xs => by simp [toPys, toPys_map (xs := xs)]
theorem plds_iff : ∀ {xs : List D}, plds xs = true ↔ ∀ x ∈ xs, pld x = true
  | [] => by simp [plds]
  | x :: xs => by simp [plds, plds_iff (xs := xs)]
theorem pld_T : ∀ t : Pt, pld (encT t) = true := Pt.ind (fun x => by rw [encT_unk]; simp [pld]) fun f ks ih => by
  rw [encT_nd, pld, plds, plds_iff.mpr]
  · simp [pld]
  · intro x hx
    obtain ⟨t, ht, rfl⟩ := List.mem_map.mp hx
    exact ih t ht
theorem toPyX_T : ∀ t : Pt, toPyX (encT t) = toPy (encT t) := Pt.ind (fun x => by rw [encT_unk]; simp [toPy, toPyX]) fun f ks ih => by
  rw [encT_nd]
  simp only [toPy, toPyX, toPys, toPyXs, toPyXs_map, toPys_map]
  congr 2
  rw [List.map_map, List.map_map]
  exact List.map_congr_left fun t ht => ih t ht
theorem keysOk_strs : ∀ {l : List Str}, keysOk (l.map D.str) = true
  | [] => rfl
  | x :: l => by rw [List.map_cons, keysOk]; exact keysOk_strs
abbrev Kp := List (Str × Pt)
def kpD (kts : Kp) : D := .dct (kts.map fun p => D.str p.1) (kts.map fun p => encT p.2)
theorem kpD_py {kts : Kp} : toPyX (kpD kts) = .dict (kts.map fun p => (.str p.1, toPy (encT p.2))) := by
  unfold kpD
  rw [toPyX, toPyXs_map, toPyXs_map]
  congr 1
  rw [List.map_map, List.map_map]
  induction kts with
  | nil => rfl
  | cons p kts ih =>
    simp only [List.map_cons, List.zip_cons_cons, ih, Function.comp, toPyX, toPyX_T]
theorem kpD_pld {kts : Kp} : pld (kpD kts) = true := by
  unfold kpD
  have h1 : keysOk (kts.map fun p => D.str p.1) = true := by
    have := keysOk_strs (l := kts.map (·.1))
    rwa [List.map_map] at this
  rw [pld, h1, plds_iff.mpr, plds_iff.mpr]
  · simp
  · intro x hx
    obtain ⟨t, ht, rfl⟩ := List.mem_map.mp hx
    exact pld_T t.2
  · intro x hx
    obtain ⟨t, ht, rfl⟩ := List.mem_map.mp hx
    simp [pld]
theorem kp_all {kts : Kp} (h : ∀ p ∈ kts, sS p.1 = true ∧ ShT p.2 ∧ siz p.2 ≤ 1000 ∧ hgt p.2 ≤ 80) : PyData.showableKv (kts.map fun p => (.str p.1, toPy (encT p.2))) = true ∧ PyData.leavesShortKv 20 (kts.map fun p => (.str p.1, toPy (encT p.2))) = true ∧ PyData.bulkKv (kts.map fun p => (.str p.1, toPy (encT p.2))) ≤ 11020 * kts.length ∧ PyData.depthKv (kts.map fun p => (.str p.1, toPy (encT p.2))) ≤ 80 := by
  induction kts with
  | nil => simp [PyData.showableKv, PyData.leavesShortKv, PyData.bulkKv, PyData.depthKv]
  | cons p kts ih =>
    obtain ⟨i1, i2, i3, i4⟩ := ih fun q hq => h q (by simp [hq])
    obtain ⟨h1, h2, h3, h4⟩ := h p (by simp)
    obtain ⟨_, o2, o3⟩ := okD_all _ (okD_T h2)
    have b := blk_T h2
    have dd := depth_T p.2
    unfold sS at h1
    simp only [Bool.and_eq_true, decide_eq_true_eq] at h1
    have hl : p.1.cps.size ≤ 9 := h1.1
    simp only [List.map_cons, PyData.showableKv, PyData.leavesShortKv, PyData.bulkKv, PyData.depthKv, PyData.showable, PyData.leavesShort, PyData.bulk, PyData.depth, i1, i2, o2, o3, Bool.true_and, Bool.and_true, List.length_cons]
    refine ⟨trivial, h1.2, ?_, by omega⟩
    simp only [blk] at b
    omega
theorem reprX_T {t : Pt} {kts : Kp} (ht : ShT t) (hs : siz t ≤ 1000) (hh : hgt t ≤ 80) (hl : kts.length ≤ 3) (h : ∀ p ∈ kts, sS p.1 = true ∧ ShT p.2 ∧ siz p.2 ≤ 1000 ∧ hgt p.2 ≤ 80) : ∃ z, ∀ st : St, reprX st (.tup [encT t, kpD kts]) = some (.str z) := by
  obtain ⟨i1, i2, i3, i4⟩ := kp_all h
  obtain ⟨_, o2, o3⟩ := okD_all _ (okD_T ht)
  have b := blk_T ht
  have dd := depth_T t
  have e : toPyX (.tup [encT t, kpD kts]) = .tuple [toPy (encT t), .dict (kts.map fun p => (.str p.1, toPy (encT p.2)))] := by
    simp only [toPyX, toPyXs, toPyX_T, kpD_py]
  refine ⟨(toPyX (.tup [encT t, kpD kts])).shown, fun st => ?_⟩
  unfold reprX
  rw [if_pos]
  have hl2 : (toPyX (.tup [encT t, kpD kts])).leavesShort 20 = true := by
    rw [e]
    simp only [PyData.leavesShort, PyData.leavesShortAll, o3, i2, Bool.true_and, Bool.and_true]
  have h4 := PyData.shown_le_bulk 20 (by decide) _ hl2
  have hb : (toPyX (.tup [encT t, kpD kts])).bulk ≤ 45000 := by
    rw [e]
    simp only [PyData.bulk, PyData.bulkAll]
    simp only [blk] at b
    omega
  have h5 : (20 + 2) * (toPyX (.tup [encT t, kpD kts])).bulk ≤ 22 * 45000 := Nat.mul_le_mul_left _ hb
  simp only [Bool.and_eq_true, decide_eq_true_eq]
  refine ⟨⟨⟨⟨?_, rfl⟩, ?_⟩, ?_⟩, ?_⟩
  · rw [pld, plds, plds, plds, pld_T, kpD_pld]
    rfl
  · rw [e]
    simp only [PyData.showable, PyData.showableAll, o2, i1, Bool.true_and, Bool.and_true]
  · unfold big
    omega
  · rw [e]
    simp only [PyData.depth, PyData.depthAll]
    omega
def words0 : List Str := ["stay", "never"]
def words2 : List Str := ["then", "else"]
def words9 : List Str := ["try", "not", "again", "one", "all", "down", "up", "find", "dig"]
inductive PlanOk (ns os : List Str) : Pt → Prop
  | leaf {w : Str} : w ∈ words0 → PlanOk ns os (.nd w [])
  | any {x : Str} : x ∈ os → PlanOk ns os (.nd "any" [.unk x])
  | use {x : Str} : x ∈ ns → PlanOk ns os (.nd "use" [.unk x])
  | one {w : Str} {p : Pt} : w ∈ words9 → PlanOk ns os p → PlanOk ns os (.nd w [p])
  | two {w : Str} {p q : Pt} : w ∈ words2 → PlanOk ns os p → PlanOk ns os q → PlanOk ns os (.nd w [p, q])
mutual
def ths : Pt → Nat
  | .unk _ => 0
  | .nd _ ks => 1 + thss ks
def thss : List Pt → Nat
  | [] => 0
  | t :: ts => ths t + thss ts
end
section
variable {ns os : List Str} {t : Pt}
theorem leaf_ne {w : Str} (h : w ∈ words0) : w ≠ "any" ∧ w ≠ "use" ∧ sS w = true := by
  have : ∀ w ∈ words0, w ≠ "any" ∧ w ≠ "use" ∧ sS w = true := by decide +kernel
  exact this w h
theorem one_ne {w : Str} (h : w ∈ words9) : w ≠ "any" ∧ w ≠ "use" ∧ sS w = true := by
  have : ∀ w ∈ words9, w ≠ "any" ∧ w ≠ "use" ∧ sS w = true := by decide +kernel
  exact this w h
theorem two_ne {w : Str} (h : w ∈ words2) : w ≠ "any" ∧ w ≠ "use" ∧ sS w = true := by
  have : ∀ w ∈ words2, w ≠ "any" ∧ w ≠ "use" ∧ sS w = true := by decide +kernel
  exact this w h
theorem PlanOk.siz (h : PlanOk ns os t) : siz t ≤ 2 * ths t := by
  induction h with
  | leaf _ => simp [RP.siz, sizs, ths, thss]
  | any _ => simp [RP.siz, sizs, ths, thss]
  | use _ => simp [RP.siz, sizs, ths, thss]
  | one _ _ ih => simp [RP.siz, sizs, ths, thss]; omega
  | two _ _ _ i1 i2 => simp [RP.siz, sizs, ths, thss]; omega
theorem PlanOk.hgt (h : PlanOk ns os t) : hgt t ≤ ths t := by
  induction h with
  | leaf _ => simp [RP.hgt, hgts, ths, thss]
  | any _ => simp [RP.hgt, hgts, ths, thss]
  | use _ => simp [RP.hgt, hgts, ths, thss]
  | one _ _ ih => simp [RP.hgt, hgts, ths, thss]; omega
  | two _ _ _ i1 i2 => simp [RP.hgt, hgts, ths, thss]; omega
theorem PlanOk.pos (h : PlanOk ns os t) : 1 ≤ ths t := by
  cases h <;> simp [ths, thss] <;> omega
theorem PlanOk.sh (h : PlanOk ns os t) (h1 : ∀ x ∈ ns, sS x = true) (h2 : ∀ x ∈ os, sS x = true) : ShT t := by
  induction h with
  | leaf h => exact .nd (leaf_ne h).2.2 (by simp)
  | any h => exact .nd (by decide) fun t ht => by rw [List.mem_singleton.mp ht]; exact .unk (h2 _ h)
  | use h => exact .nd (by decide) fun t ht => by rw [List.mem_singleton.mp ht]; exact .unk (h1 _ h)
  | one h _ ih => exact .nd (one_ne h).2.2 fun t ht => by rw [List.mem_singleton.mp ht]; exact ih
  | two h _ _ i1 i2 =>
      refine .nd (two_ne h).2.2 fun t ht => ?_
      simp only [List.mem_cons, List.not_mem_nil, or_false] at ht
      rcases ht with rfl | rfl
      · exact i1
      · exact i2
theorem PlanOk.mono {os' : List Str} (h : PlanOk ns os t) (h2 : ∀ x ∈ os, x ∈ os') : PlanOk ns os' t := by
  induction h with
  | leaf h => exact .leaf h
  | any h => exact .any (h2 _ h)
  | use h => exact .use h
  | one h _ ih => exact .one h ih
  | two h _ _ i1 i2 => exact .two h i1 i2
end
mutual
def closeP (f : Str → Pt) : Pt → Pt
  | .unk x => .unk x
  | .nd w [.unk x] => if w = "any" then f x else .nd w [.unk x]
  | .nd w ks => .nd w (closePs f ks)
def closePs (f : Str → Pt) : List Pt → List Pt
  | [] => []
  | t :: ts => closeP f t :: closePs f ts
end
section
variable {ns os : List Str} {t : Pt} {f : Str → Pt}
theorem closePs_map : ∀ {ts : List Pt}, closePs f ts = ts.map (closeP f)
  | [] => by rw [closePs]; rfl
  | t :: ts => by rw [closePs, closePs_map]; rfl
theorem close_any {x : Str} : closeP f (.nd "any" [.unk x]) = f x := by rw [closeP]; rfl
theorem close_nd {w : Str} {ks : List Pt} (h : w ≠ "any") : closeP f (.nd w ks) = .nd w (ks.map (closeP f)) := by
  match ks with
  | [.unk x] => rw [closeP, if_neg h, List.map_singleton, closeP]
  | [] => rw [closeP, closePs_map]; intro x hx; cases hx
  | [.nd g ls] => rw [closeP, closePs_map]; intro x hx; cases hx
  | a :: b :: r => rw [closeP, closePs_map]; intro x hx; cases hx
theorem close_siz {M : Nat} (h : PlanOk ns os t) (hf : ∀ x ∈ os, siz (f x) ≤ M) (hM : 2 ≤ M) : siz (closeP f t) ≤ M * ths t := by
  induction h with
  | leaf h => rw [close_nd (leaf_ne h).1]; simp [siz, sizs, ths, thss]; omega
  | any h => rw [close_any]; have := hf _ h; simp [ths, thss]; omega
  | use h => rw [close_nd (by decide)]; simp [closeP, siz, sizs, ths, thss]; omega
  | one h _ ih =>
    rw [close_nd (one_ne h).1]
    simp only [List.map_cons, List.map_nil, siz, sizs, ths, thss, Nat.mul_add, Nat.mul_one, Nat.mul_zero]
    omega
  | two h _ _ i1 i2 =>
    rw [close_nd (two_ne h).1]
    simp only [List.map_cons, List.map_nil, siz, sizs, ths, thss, Nat.mul_add, Nat.mul_one, Nat.mul_zero]
    omega
theorem close_hgt {H : Nat} (h : PlanOk ns os t) (hf : ∀ x ∈ os, hgt (f x) ≤ H) : hgt (closeP f t) ≤ ths t + H := by
  induction h with
  | leaf h => rw [close_nd (leaf_ne h).1]; simp [hgt, hgts, ths, thss]
  | any h => rw [close_any]; have := hf _ h; simp [ths, thss]; omega
  | use h => rw [close_nd (by decide)]; simp [closeP, hgt, hgts, ths, thss]
  | one h _ ih => rw [close_nd (one_ne h).1]; simp [hgt, hgts, ths, thss]; omega
  | two h _ _ i1 i2 => rw [close_nd (two_ne h).1]; simp [hgt, hgts, ths, thss]; omega
theorem close_ok {os' : List Str} (h : PlanOk ns os t) (hf : ∀ x ∈ os, PlanOk ns os' (f x)) : PlanOk ns os' (closeP f t) := by
  induction h with
  | leaf h => rw [close_nd (leaf_ne h).1]; exact .leaf h
  | any h => rw [close_any]; exact hf _ h
  | use h => rw [close_nd (by decide)]; simp only [List.map_cons, List.map_nil, closeP]; exact .use h
  | one h _ ih => rw [close_nd (one_ne h).1]; exact .one h ih
  | two h _ _ i1 i2 => rw [close_nd (two_ne h).1]; exact .two h i1 i2
theorem close_no (h : PlanOk ns [] t) : closeP f t = t := by
  generalize ho : ([] : List Str) = os at h
  induction h with
  | leaf h => rw [close_nd (leaf_ne h).1]; rfl
  | any h => rw [← ho] at h; cases h
  | use h => rw [close_nd (by decide)]; simp only [List.map_cons, List.map_nil, closeP]
  | one h _ ih => rw [close_nd (one_ne h).1]; simp [ih]
  | two h _ _ i1 i2 => rw [close_nd (two_ne h).1]; simp [i1, i2]
end
theorem if_mid {ta : MT} {a b : MS} {c : Call} {env : Env} {st : St} {qn : Env → St → Prop} {qr : D → St → Prop} {qb qc : Env → St → Prop} (P : Bool → St → Prop) (h : Ok (ta c env st) P) (h1 : ∀ S, P true S → OkS (a c env S) qn qr qb qc) (h2 : ∀ S, P false S → OkS (b c env S) qn qr qb qc) : OkS (sIf ta a b c env st) qn qr qb qc := by
  refine s_if.mpr (h.mono ?_)
  intro x S hx
  cases x with
  | true => rw [if_pos rfl]; exact h1 S hx
  | false => rw [if_neg (by simp)]; exact h2 S hx
theorem pick_str {l : List Str} {r : Int} (h0 : 0 ≤ r) (h1 : r < l.length) : ∃ z, z ∈ l ∧ L2.atI (l.map D.str) r = some (.str z) := by
  obtain ⟨z, hz, _, hz2⟩ := at_get (xs := l) h0 h1
  obtain ⟨k, rfl⟩ := Int.eq_ofNat_of_zero_le h0
  rw [at_nat] at hz2
  exact ⟨z, hz, by rw [at_nat, List.getElem?_map, hz2]; rfl⟩
theorem dict_lst {α : Type} {st : St} (k : α → Str) (v : α → D) (as : List α) (h : (as.map k).Nodup) : dictD st (.lst (as.map fun a => D.tup [.str (k a), v a])) = some (.dct (as.map fun a => D.str (k a)) (as.map v)) := dict_tup (st := st) k v as h
def kpF (kts : Kp) (x : Str) : Pt := ((kts.find? fun p => p.1 == x).map (·.2)).getD (.unk "")
theorem kp_find {kts : Kp} {x : Str} (h : x ∈ kts.map (·.1)) : ∃ p ∈ kts, kts.find? (fun p => p.1 == x) = some p ∧ p.2 = kpF kts x := by
  unfold kpF
  cases hf : kts.find? fun p => p.1 == x with
  | none =>
    obtain ⟨p, hp, rfl⟩ := List.mem_map.mp h
    have := List.find?_eq_none.mp hf p hp
    simp at this
  | some p => exact ⟨p, List.mem_of_find?_eq_some hf, rfl, rfl⟩
theorem kp_look {kts : Kp} {x : Str} (h : x ∈ kts.map (·.1)) : look (kts.map fun p => D.str p.1) (kts.map fun p => encT p.2) (.str x) = some (encT (kpF kts x)) := by
  obtain ⟨p, _, e, e2⟩ := kp_find h
  rw [look_map (fun p : Str × Pt => p.1) (fun p => encT p.2), e, ← e2]
  rfl
theorem kp_mem {kts : Kp} {x : Str} (h : x ∈ kts.map (·.1)) : ∃ p ∈ kts, p.2 = kpF kts x := by
  obtain ⟨p, hp, _, e2⟩ := kp_find h
  exact ⟨p, hp, e2⟩
theorem dPut_new {kts : Kp} {x : Str} {t : Pt} (h : x ∉ kts.map (·.1)) : dPut (kts.map fun p => D.str p.1) (kts.map fun p => encT p.2) (.str x) (encT t) = ((kts ++ [(x, t)]).map fun p => D.str p.1, (kts ++ [(x, t)]).map fun p => encT p.2) := by
  have : ((kts.map fun p => D.str p.1).any fun k => eqD k (.str x)) = false := by
    rw [List.any_eq_false]
    intro d hd
    obtain ⟨p, hp, rfl⟩ := List.mem_map.mp hd
    have : p.1 ≠ x := fun e => h (by rw [← e]; exact List.mem_map_of_mem hp)
    simp [eqD, this]
  unfold dPut
  rw [this]
  simp
end RP
end
section
set_option Elab.async false
set_option linter.all false
set_option maxRecDepth 100000
set_option maxHeartbeats 600000
namespace RP
open PySem PyProof.Rows
open Classical
inductive Nd : Pt → Prop
  | mk {f : Str} {ks : List Pt} : (∀ t ∈ ks, Nd t) → Nd (.nd f ks)
theorem TreeOf.nd {sg : Sg} : ∀ {t : Pt}, TreeOf sg t → Nd t := by
  intro t h
  induction h with
  | mk _ _ ih => exact .mk ih
def lt0 (t u : Pt) : Bool := W.dataLt (toPy (encT t)) (toPy (encT u))
def keyT (t : Pt) : D := .tup [.int (siz t), encT t]
def ltT (t u : Pt) : Bool := W.dataLt (toPy (keyT t)) (toPy (keyT u))
def leT (t u : Pt) : Bool := !ltT u t
def sortT (ts : List Pt) : List Pt := ts.mergeSort leT
theorem toPy_nd {f : Str} {ks : List Pt} : toPy (encT (.nd f ks)) = .tuple (.str f :: (ks.map fun t => toPy (encT t))) := by
  rw [encT_nd, toPy, toPys, toPys_mapK, List.map_map]
  simp [toPy]
theorem alike_all {α : Type} (g : α → PyData) : ∀ {xs ys : List α}, (∀ x ∈ xs, ∀ y ∈ ys, W.alike (g x) (g y) = true) → W.alikeAll (xs.map g) (ys.map g) = true
  | [], _, _ => by simp [W.alikeAll]
  | _ :: _, [], _ => by simp [W.alikeAll]
  | x :: xs, y :: ys, h => by
    rw [List.map_cons, List.map_cons, W.alikeAll, h x (by simp) y (by simp), Bool.true_and]
    exact alike_all g fun a ha b hb => h a (by simp [ha]) b (by simp [hb])
theorem alike_T : ∀ {t u : Pt}, Nd t → Nd u → W.alike (toPy (encT t)) (toPy (encT u)) = true := by
  intro t u ht
  induction ht generalizing u with
  | @mk f ks _ ih =>
    intro hu
    cases hu with
    | @mk g ls hl =>
      rw [toPy_nd, toPy_nd, W.alike, W.alikeAll, W.alike, Bool.true_and]
      exact alike_all _ fun x hx y hy => ih x hx (hl y hy)
theorem toPy_key {t : Pt} : toPy (keyT t) = .tuple [.int (siz t), toPy (encT t)] := by simp [keyT, toPy, toPys]
theorem alike_key {t u : Pt} (ht : Nd t) (hu : Nd u) : W.alike (toPy (keyT t)) (toPy (keyT u)) = true := by
  rw [toPy_key, toPy_key, W.alike, W.alikeAll, W.alike, W.alikeAll, W.alikeAll, alike_T ht hu]
  rfl
theorem eqv_T {t u : Pt} : PyData.eqv (toPy (encT t)) (toPy (encT u)) = decide (t = u) := by
  rw [eqv_toPy _ _ (pln_T t) (pln_T u), eqD_dec (nob_T t) (nob_T u)]
  exact decide_eq_decide.mpr encT_iff
theorem ltT_eq {t u : Pt} (ht : Nd t) (hu : Nd u) : ltT t u = (decide (siz t < siz u) || (decide (siz t = siz u) && lt0 t u)) := by
  unfold ltT lt0
  rw [toPy_key, toPy_key, W.dataLt_tuple]
  by_cases h : siz t = siz u
  · rw [W.dataLt_all_yes (by simp [W.alike]) (by simp [PyData.eqv, h])]
    simp only [h, decide_true, Bool.true_and, Nat.lt_irrefl, decide_false, Bool.false_or]
    by_cases e : t = u
    · subst e
      rw [W.dataLt_all_yes (alike_T ht ht) (by rw [eqv_T]; simp)]
      unfold W.dataLt
      rw [lex_irrefl, lex_irrefl]
    · rw [W.dataLt_all_no (alike_T ht hu) (by rw [eqv_T]; simp [e])]
  · rw [W.dataLt_all_no (by simp [W.alike]) (by simp only [PyData.eqv, beq_eq_false_iff_ne]; omega), W.dataLt_int]
    simp only [h, decide_false, Bool.false_and, Bool.or_false]
    exact decide_eq_decide.mpr (by omega)
theorem ltT_irr {t : Pt} : ltT t t = false := lex_irrefl _
theorem ltT_tr {t u v : Pt} (h : ltT t u = true) (h' : ltT u v = true) : ltT t v = true := lex_trans _ _ _ h h'
theorem ltT_neg {t u v : Pt} (h : ltT t v = true) : ltT t u = true ∨ ltT u v = true := lex_negTrans _ _ _ h
theorem ltT_not {t u : Pt} (h : ltT t u = true) : ltT u t = false := by
  cases q : ltT u t with
  | false => rfl
  | true => have := ltT_tr h q; rw [ltT_irr] at this; cases this
theorem key_inj {t u : Pt} (ht : Nd t) (hu : Nd u) (h : W.keyToks (toPy (keyT t)) = W.keyToks (toPy (keyT u))) : t = u := by
  cases e : PyData.eqv (toPy (keyT t)) (toPy (keyT u)) with
  | true =>
    rw [toPy_key, toPy_key] at e
    simp only [PyData.eqv, PyData.eqvAll, Bool.and_eq_true] at e
    have := e.2.1
    rw [eqv_T] at this
    exact of_decide_eq_true this
  | false =>
    have q := (W.toks_eqv _ _ (alike_key ht hu)).2 e [] [.inl 0]
    rw [← h, List.append_nil, lex_irrefl] at q
    have z := W.lex_pre (W.keyToks (toPy (keyT t))) [] [.inl 0]
    rw [List.append_nil] at z
    rw [z] at q
    exact absurd q (by simp [PyProof.Rows.lexLt])
theorem ltT_tot {t u : Pt} (ht : Nd t) (hu : Nd u) (h1 : ltT t u = false) (h2 : ltT u t = false) : t = u := key_inj ht hu (lex_total _ _ h1 h2)
theorem leT_tr : ∀ a b c : Pt, leT a b = true → leT b c = true → leT a c = true := fun a b c h1 h2 => by
  unfold leT at *
  rw [Bool.not_eq_true'] at *
  cases q : ltT c a with
  | false => rfl
  | true =>
    rcases ltT_neg (u := b) q with z | z
    · rw [z] at h2; cases h2
    · rw [z] at h1; cases h1
theorem leT_tot : ∀ a b : Pt, (leT a b || leT b a) = true := fun a b => by
  unfold leT
  cases q : ltT b a with
  | false => rfl
  | true => rw [ltT_not q]; rfl
abbrev SrtT (l : List Pt) : Prop := l.Pairwise fun a b => ltT b a = false
theorem sortT_srt (ts : List Pt) : SrtT (sortT ts) := by
  have := List.pairwise_mergeSort (le := leT) leT_tr leT_tot ts
  exact this.imp fun h => by unfold leT at h; rwa [Bool.not_eq_true'] at h
theorem sortT_perm (ts : List Pt) : (sortT ts).Perm ts := List.mergeSort_perm ts leT
theorem srt_uniq : ∀ {l m : List Pt}, (∀ t ∈ l, Nd t) → SrtT l → SrtT m → l.Perm m → l = m
  | [], m, _, _, _, p => by simpa using p.symm.eq_nil
  | a :: l, [], _, _, _, p => by simpa using p.eq_nil
  | a :: l, b :: m, hn, h1, h2, p => by
    have e : a = b := by
      obtain ⟨p1, _⟩ := List.pairwise_cons.mp h1
      obtain ⟨p2, _⟩ := List.pairwise_cons.mp h2
      have hb : b ∈ a :: l := p.mem_iff.mpr (by simp)
      have ha : a ∈ b :: m := p.mem_iff.mp (by simp)
      rcases List.mem_cons.mp hb with z | z
      · exact z.symm
      · rcases List.mem_cons.mp ha with w | w
        · exact w
        · exact ltT_tot (hn a (by simp)) (hn b hb) (p2 a w) (p1 b z)
    subst e
    rw [srt_uniq (fun t ht => hn t (by simp [ht])) (List.pairwise_cons.mp h1).2 (List.pairwise_cons.mp h2).2 (List.perm_cons a |>.mp p)]
theorem zip_maps {α β γ : Type} (f : α → β) (g : α → γ) : ∀ l : List α, (l.map f).zip (l.map g) = l.map fun x => (f x, g x)
  | [] => rfl
  | x :: l => by simp [zip_maps f g l]
theorem sort_T {ts : List Pt} : sortK (ts.map encT) (ts.map keyT) = (sortT ts).map encT := by
  unfold sortK sortT
  rw [zip_maps]
  have h := List.map_mergeSort (r := leT) (s := leP) (f := fun t : Pt => (encT t, keyT t)) (l := ts) (fun a _ b _ => rfl)
  rw [← h, List.map_map]
  rfl
theorem plns_key : ∀ ts : List Pt, plns (ts.map keyT) = true
  | [] => by simp [plns]
  | t :: ts => by simp [plns, pln, keyT, pln_T, plns_key ts]
theorem keys_T {ts : List Pt} (h : ∀ t ∈ ts, Nd t ∧ hgt t ≤ 400) : keyOkA (ts.map keyT) = true := by
  unfold keyOkA
  simp only [Bool.and_eq_true]
  refine ⟨⟨⟨plns_key ts, ?_⟩, ?_⟩, ?_⟩
  · rw [List.all_eq_true]
    intro x hx
    obtain ⟨t, _, rfl⟩ := List.mem_map.mp hx
    rfl
  · rw [List.all_eq_true]
    intro x hx
    rw [List.all_eq_true]
    intro y hy
    obtain ⟨t, ht, rfl⟩ := List.mem_map.mp hx
    obtain ⟨u, hu, rfl⟩ := List.mem_map.mp hy
    exact alike_key (h t ht).1 (h u hu).1
  · rw [List.all_eq_true]
    intro x hx
    obtain ⟨t, ht, rfl⟩ := List.mem_map.mp hx
    have := depth_T t
    have := (h t ht).2
    refine decide_eq_true ?_
    rw [toPy_key]
    simp only [PyData.depth, PyData.depthAll]
    omega
theorem keysO_T {c : Call} {f : Str} {st : St} : ∀ {ts : List Pt}, (∀ t ∈ ts, Ok (c f [encT t] st) fun d S => d = keyT t ∧ S = st) → keysO c f st (ts.map encT) = some (ts.map keyT)
  | [], _ => rfl
  | t :: ts, h => by
    obtain ⟨d, S, e, rfl, rfl⟩ := (h t (by simp)).ex
    rw [List.map_cons, keysO, e]
    simp only [if_true]
    rw [keysO_T fun u hu => h u (by simp [hu])]
    rfl
theorem sortKO_T {c : Call} {f : Str} {st : St} {x : D} {ts : List Pt} (hx : see st x = .lst (ts.map encT)) (hl : ts.length ≤ big) (h : ∀ t ∈ ts, Nd t ∧ hgt t ≤ 400) (hc : ∀ t ∈ ts, Ok (c f [encT t] st) fun d S => d = keyT t ∧ S = st) :
    sortKO c f st x = some ((sortT ts).map encT) := by
  unfold sortKO
  rw [hx]
  simp only [keysO_T hc, keys_T h, List.length_map, hl, decide_true, Bool.and_self, if_true, sort_T]
section
variable {c : Call} {env : Env} {st : St} {ma : ME} {f : Str} {Q : D → St → Prop}
theorem ok_sortKM : Ok (mSortKM f ma c env st) Q ↔ Ok (ma c env st) fun x st1 => ∃ zs, sortKO c f st1 x = some zs ∧ Q (.ref st1.length) (st1 ++ [.lst zs]) := by
  show Ok (R.bind _ _) _ ↔ _
  rw [ok_bind]
  have : ∀ (x : D) (st1 : St), Ok (match sortKO c f st1 x with | some zs => R.ok (.ref st1.length) (st1 ++ [.lst zs]) | none => .no) Q ↔ ∃ zs, sortKO c f st1 x = some zs ∧ Q (.ref st1.length) (st1 ++ [.lst zs]) := fun x st1 => by
    cases sortKO c f st1 x <;> simp [ok_ok, ok_no]
  exact ⟨fun h => h.mono fun x st1 => (this x st1).mp, fun h => h.mono fun x st1 => (this x st1).mpr⟩
theorem ok_sortK : Ok (mSortK f ma c env st) Q ↔ Ok (ma c env st) fun x st1 => ∃ zs, sortKO c f st1 x = some zs ∧ Q (.lst zs) st1 := by
  show Ok (R.bind _ _) _ ↔ _
  rw [ok_bind]
  have : ∀ (x : D) (st1 : St), Ok (match sortKO c f st1 x with | some zs => R.ok (.lst zs) st1 | none => .no) Q ↔ ∃ zs, sortKO c f st1 x = some zs ∧ Q (.lst zs) st1 := fun x st1 => by
    cases sortKO c f st1 x <;> simp [ok_ok, ok_no]
  exact ⟨fun h => h.mono fun x st1 => (this x st1).mp, fun h => h.mono fun x st1 => (this x st1).mpr⟩
end
theorem ltX_int {st : St} {i j : Int} : ltX st (.int i) (.int j) = some (.bl (decide (i < j))) := rfl
theorem ltX_T {st : St} {t u : Pt} (ht : Nd t) (hu : Nd u) (hh : hgt t ≤ 400) : ltX st (encT t) (encT u) = some (.bl (lt0 t u)) := by
  cases ht with
  | @mk f ks hk =>
    cases hu with
    | @mk g ls hl =>
      have h1 := pln_T (.nd f ks)
      have h2 := pln_T (.nd g ls)
      have h3 := alike_T (.mk hk) (.mk hl) (t := .nd f ks) (u := .nd g ls)
      have h4 := depth_T (.nd f ks)
      unfold lt0
      rw [encT_nd] at h1 h3 h4 ⊢
      rw [encT_nd] at h2 h3 ⊢
      rw [pln] at h1 h2
      unfold ltX
      simp only
      rw [if_pos]
      simp only [Bool.and_eq_true, decide_eq_true_eq]
      exact ⟨⟨⟨h1, h2⟩, h3⟩, by omega⟩
theorem map_erase {α β : Type} (f : α → β) : ∀ (l : List α) (j : Nat), (l.map f).eraseIdx j = (l.eraseIdx j).map f
  | [], _ => rfl
  | _ :: _, 0 => rfl
  | x :: l, j + 1 => by simp [map_erase f l j]
theorem erase_perm {α : Type} {x : α} : ∀ {l : List α} {j : Nat}, l[j]? = some x → (x :: l.eraseIdx j).Perm l
  | [], j, h => by simp at h
  | y :: l, 0, h => by cases h; exact List.Perm.refl _
  | y :: l, j + 1, h => by
    rw [List.eraseIdx_cons_succ]
    exact (List.Perm.swap y x _).trans ((erase_perm (by simpa using h)).cons y)
theorem remove_T {st : St} {n : Nat} {ts : List Pt} {t : Pt} (h : st[n]? = some (.lst (ts.map encT))) (hm : t ∈ ts) (hh : hgt t ≤ 400) : ∃ us, xRemove st (.ref n) [encT t] = some (.non, st.set n (.lst (us.map encT))) ∧ (t :: us).Perm ts ∧ us.length + 1 = ts.length := by
  have hs : see st (encT t) = encT t := see_pln (pln_T t)
  have hp : plns (ts.map encT) = true := by simpa [pln] using pln_nob (d := .lst (ts.map encT)) (by rw [nob]; exact nobs_Ts)
  have hd := depth_T t
  unfold xRemove
  simp only [h, hs, hp, pln_T, Bool.and_self, Bool.true_and, decide_eq_true_eq, show (toPy (encT t)).depth ≤ 480 by omega, if_true]
  have hf : ((ts.map encT).findIdx? fun y => eqD y (encT t)) = ts.findIdx? fun u => decide (u = t) := by
    rw [List.findIdx?_map]
    refine findIdx_congr fun u _ => ?_
    show eqD (encT u) (encT t) = _
    rw [← eqv_toPy _ _ (pln_T u) (pln_T t), eqv_T]
  rw [hf]
  cases q : ts.findIdx? fun u => decide (u = t) with
  | none =>
    have := List.findIdx?_eq_none_iff.mp q t hm
    simp at this
  | some j =>
    obtain ⟨hj, h1, _⟩ := List.findIdx?_eq_some_iff_getElem.mp q
    have e : ts[j] = t := of_decide_eq_true h1
    refine ⟨ts.eraseIdx j, by simp [map_erase], ?_, by rw [List.length_eraseIdx_of_lt hj]; omega⟩
    exact erase_perm (by rw [List.getElem?_eq_getElem hj, e])
end RP
end
section
set_option Elab.async false
set_option linter.all false
set_option maxRecDepth 100000
set_option maxHeartbeats 1000000
namespace RP
open PySem
theorem tree_nd {sg : Sg} {t : Pt} (h : TreeOf sg t) : ∃ f ks, t = .nd f ks ∧ (f, ks.length) ∈ sg ∧ ∀ k ∈ ks, TreeOf sg k := by
  cases h with
  | mk a b => exact ⟨_, _, rfl, a, b⟩
theorem size_ok {sg : Sg} : ∀ {t : Pt}, TreeOf sg t → ∀ (j : Nat) (st : St), Ok (CC (hgt t + j + 1) "size_of" [encT t] st) fun d st' => d = .int (siz t) ∧ st' = st := by
  refine @(Pt.ind ?_ ?_)
  · intro x h; cases h
  · intro f ks ih ht j st
    cases ht with
    | mk hf hks =>
      rw [hgt, encT_nd, r_size_of]
      refine ok_fn rfl ?_
      unfold b_size_of
      try simp only [ok_ok, ok_no, ok_bind, ok_of_some, ok_var, ok_cst, ok_nil, ok_cons, ok_tup, ok_lst, ok_lstM, ok_op2, ok_op1, ok_blt, ok_listM, ok_chain, ok_and, ok_or, ok_not, ok_tval, ok_band, ok_bor, ok_bnot, ok_yes, ok_mif, ok_callM, ok_call, ok_lm, ok_optN, ok_optS, ok_slice, ok_ival, ok_range1, ok_range2, ok_zip, ok_sm, ok_addM, ok_get1, ok_get2, ok_comp, ok_compM, s_skip, s_seq, s_expr, s_asg, s_put, s_ret, s_retN, s_brk, s_cnt, s_if, s_for, s_while, List.map_cons, List.map_nil, List.cons_append, List.nil_append, List.replicate, List.getElem?_cons_zero, List.getElem?_cons_succ, List.set_cons_zero, List.set_cons_succ, Option.some.injEq, exists_eq_left', exists_eq_left, Nat.reduceSub, Nat.reduceAdd, Nat.reduceMul, wipeE, gNm, gNms, gTp, D.int.injEq, true_and, and_true, List.length_cons, List.length_nil, Option.bind_some, idx_ref, ixC_lst, idx_lst, idx_tup, idx_frz, at0, at1, at2, at3, add_int, sub_int, mod_int, fdiv_int, pow18, lt_int, le_int, gt_int, ge_int, tru_bl, tru_int, eq_int, ne_int, eq_str, ne_str, eq_bl, ne_bl, put_ref, putC_lst, ix0, ix1, ix2, ix3, len_lst, len_tup, len_frz, len_ref, lenC_lst, un1_one, tuple_lst, tuple_tup, list_lst, list_tup, slice_tup, slice_lst, it_tup, it_lst, cut_from1, Option.map_some, List.set_set, Nat.reduceLT, Int.reduceLT, if_true, Int.toNat_natCast, mul_mod, mulL, mulR, Int.reduceNeg]
      refine comp_enc (e := encT) ks (fun k => .int (siz k)) rfl gNone (fun k hk => ⟨_, rfl, ?_⟩) ?_
      · try simp only [ok_ok, ok_no, ok_bind, ok_of_some, ok_var, ok_cst, ok_nil, ok_cons, ok_tup, ok_lst, ok_lstM, ok_op2, ok_op1, ok_blt, ok_listM, ok_chain, ok_and, ok_or, ok_not, ok_tval, ok_band, ok_bor, ok_bnot, ok_yes, ok_mif, ok_callM, ok_call, ok_lm, ok_optN, ok_optS, ok_slice, ok_ival, ok_range1, ok_range2, ok_zip, ok_sm, ok_addM, ok_get1, ok_get2, ok_comp, ok_compM, s_skip, s_seq, s_expr, s_asg, s_put, s_ret, s_retN, s_brk, s_cnt, s_if, s_for, s_while, List.map_cons, List.map_nil, List.cons_append, List.nil_append, List.replicate, List.getElem?_cons_zero, List.getElem?_cons_succ, List.set_cons_zero, List.set_cons_succ, Option.some.injEq, exists_eq_left', exists_eq_left, Nat.reduceSub, Nat.reduceAdd, Nat.reduceMul, wipeE, gNm, gNms, gTp, D.int.injEq, true_and, and_true, List.length_cons, List.length_nil, Option.bind_some, idx_ref, ixC_lst, idx_lst, idx_tup, idx_frz, at0, at1, at2, at3, add_int, sub_int, mod_int, fdiv_int, pow18, lt_int, le_int, gt_int, ge_int, tru_bl, tru_int, eq_int, ne_int, eq_str, ne_str, eq_bl, ne_bl, put_ref, putC_lst, ix0, ix1, ix2, ix3, len_lst, len_tup, len_frz, len_ref, lenC_lst, un1_one, tuple_lst, tuple_tup, list_lst, list_tup, slice_tup, slice_lst, it_tup, it_lst, cut_from1, Option.map_some, List.set_set, Nat.reduceLT, Int.reduceLT, if_true, Int.toNat_natCast, mul_mod, mulL, mulR, Int.reduceNeg]
        have hh := hgt_mem hk
        rw [show hgts ks + 1 + j = hgt k + (hgts ks - hgt k + j) + 1 by omega]
        exact ok_ice_val ((ih k hk (hks k hk) _ st).mono fun d st' h => ⟨by rw [h.1]; rfl, h⟩)
      · have e : (ks.map fun k => D.int (siz k)) = (ks.map siz).map fun (k : Nat) => D.int k := by rw [List.map_map]; rfl
        rw [e]
        simp only [ok_ok, ok_no, ok_bind, ok_of_some, ok_var, ok_cst, ok_nil, ok_cons, ok_tup, ok_lst, ok_lstM, ok_op2, ok_op1, ok_blt, ok_listM, ok_chain, ok_and, ok_or, ok_not, ok_tval, ok_band, ok_bor, ok_bnot, ok_yes, ok_mif, ok_callM, ok_call, ok_lm, ok_optN, ok_optS, ok_slice, ok_ival, ok_range1, ok_range2, ok_zip, ok_sm, ok_addM, ok_get1, ok_get2, ok_comp, ok_compM, s_skip, s_seq, s_expr, s_asg, s_put, s_ret, s_retN, s_brk, s_cnt, s_if, s_for, s_while, List.map_cons, List.map_nil, List.cons_append, List.nil_append, List.replicate, List.getElem?_cons_zero, List.getElem?_cons_succ, List.set_cons_zero, List.set_cons_succ, Option.some.injEq, exists_eq_left', exists_eq_left, Nat.reduceSub, Nat.reduceAdd, Nat.reduceMul, wipeE, gNm, gNms, gTp, D.int.injEq, true_and, and_true, List.length_cons, List.length_nil, Option.bind_some, idx_ref, ixC_lst, idx_lst, idx_tup, idx_frz, at0, at1, at2, at3, add_int, sub_int, mod_int, fdiv_int, pow18, lt_int, le_int, gt_int, ge_int, tru_bl, tru_int, eq_int, ne_int, eq_str, ne_str, eq_bl, ne_bl, put_ref, putC_lst, ix0, ix1, ix2, ix3, len_lst, len_tup, len_frz, len_ref, lenC_lst, un1_one, tuple_lst, tuple_tup, list_lst, list_tup, slice_tup, slice_lst, it_tup, it_lst, cut_from1, Option.map_some, List.set_set, Nat.reduceLT, Int.reduceLT, if_true, Int.toNat_natCast, mul_mod, mulL, mulR, Int.reduceNeg, sum_nats]
        rw [gc_same rfl]
        exact ⟨by rw [siz, sizs_sum]; simp, rfl⟩
theorem lsize_ok {sg : Sg} : ∀ {t : Pt}, TreeOf sg t → ∀ (j : Nat) (st : St), Ok (CC (hgt t + j + 1) "_law_size" [encT t] st) fun d st' => d = .int (siz t) ∧ st' = st := by
  refine @(Pt.ind ?_ ?_)
  · intro x h; cases h
  · intro f ks ih ht j st
    cases ht with
    | mk hf hks =>
      rw [hgt, encT_nd, r__law_size]
      refine ok_fn rfl ?_
      unfold b__law_size
      try simp only [ok_ok, ok_no, ok_bind, ok_of_some, ok_var, ok_cst, ok_nil, ok_cons, ok_tup, ok_lst, ok_lstM, ok_op2, ok_op1, ok_blt, ok_listM, ok_chain, ok_and, ok_or, ok_not, ok_tval, ok_band, ok_bor, ok_bnot, ok_yes, ok_mif, ok_callM, ok_call, ok_lm, ok_optN, ok_optS, ok_slice, ok_ival, ok_range1, ok_range2, ok_zip, ok_sm, ok_addM, ok_get1, ok_get2, ok_comp, ok_compM, s_skip, s_seq, s_expr, s_asg, s_put, s_ret, s_retN, s_brk, s_cnt, s_if, s_for, s_while, List.map_cons, List.map_nil, List.cons_append, List.nil_append, List.replicate, List.getElem?_cons_zero, List.getElem?_cons_succ, List.set_cons_zero, List.set_cons_succ, Option.some.injEq, exists_eq_left', exists_eq_left, Nat.reduceSub, Nat.reduceAdd, Nat.reduceMul, wipeE, gNm, gNms, gTp, D.int.injEq, true_and, and_true, List.length_cons, List.length_nil, Option.bind_some, idx_ref, ixC_lst, idx_lst, idx_tup, idx_frz, at0, at1, at2, at3, add_int, sub_int, mod_int, fdiv_int, pow18, lt_int, le_int, gt_int, ge_int, tru_bl, tru_int, eq_int, ne_int, eq_str, ne_str, eq_bl, ne_bl, put_ref, putC_lst, ix0, ix1, ix2, ix3, len_lst, len_tup, len_frz, len_ref, lenC_lst, un1_one, tuple_lst, tuple_tup, list_lst, list_tup, slice_tup, slice_lst, it_tup, it_lst, cut_from1, Option.map_some, List.set_set, Nat.reduceLT, Int.reduceLT, if_true, Int.toNat_natCast, mul_mod, mulL, mulR, Int.reduceNeg]
      refine comp_enc (e := encT) ks (fun k => .int (siz k)) rfl gNone (fun k hk => ⟨_, rfl, ?_⟩) ?_
      · try simp only [ok_ok, ok_no, ok_bind, ok_of_some, ok_var, ok_cst, ok_nil, ok_cons, ok_tup, ok_lst, ok_lstM, ok_op2, ok_op1, ok_blt, ok_listM, ok_chain, ok_and, ok_or, ok_not, ok_tval, ok_band, ok_bor, ok_bnot, ok_yes, ok_mif, ok_callM, ok_call, ok_lm, ok_optN, ok_optS, ok_slice, ok_ival, ok_range1, ok_range2, ok_zip, ok_sm, ok_addM, ok_get1, ok_get2, ok_comp, ok_compM, s_skip, s_seq, s_expr, s_asg, s_put, s_ret, s_retN, s_brk, s_cnt, s_if, s_for, s_while, List.map_cons, List.map_nil, List.cons_append, List.nil_append, List.replicate, List.getElem?_cons_zero, List.getElem?_cons_succ, List.set_cons_zero, List.set_cons_succ, Option.some.injEq, exists_eq_left', exists_eq_left, Nat.reduceSub, Nat.reduceAdd, Nat.reduceMul, wipeE, gNm, gNms, gTp, D.int.injEq, true_and, and_true, List.length_cons, List.length_nil, Option.bind_some, idx_ref, ixC_lst, idx_lst, idx_tup, idx_frz, at0, at1, at2, at3, add_int, sub_int, mod_int, fdiv_int, pow18, lt_int, le_int, gt_int, ge_int, tru_bl, tru_int, eq_int, ne_int, eq_str, ne_str, eq_bl, ne_bl, put_ref, putC_lst, ix0, ix1, ix2, ix3, len_lst, len_tup, len_frz, len_ref, lenC_lst, un1_one, tuple_lst, tuple_tup, list_lst, list_tup, slice_tup, slice_lst, it_tup, it_lst, cut_from1, Option.map_some, List.set_set, Nat.reduceLT, Int.reduceLT, if_true, Int.toNat_natCast, mul_mod, mulL, mulR, Int.reduceNeg]
        have hh := hgt_mem hk
        rw [show hgts ks + 1 + j = hgt k + (hgts ks - hgt k + j) + 1 by omega]
        exact ok_ice_val ((ih k hk (hks k hk) _ st).mono fun d st' h => ⟨by rw [h.1]; rfl, h⟩)
      · have e : (ks.map fun k => D.int (siz k)) = (ks.map siz).map fun (k : Nat) => D.int k := by rw [List.map_map]; rfl
        rw [e]
        simp only [ok_ok, ok_no, ok_bind, ok_of_some, ok_var, ok_cst, ok_nil, ok_cons, ok_tup, ok_lst, ok_lstM, ok_op2, ok_op1, ok_blt, ok_listM, ok_chain, ok_and, ok_or, ok_not, ok_tval, ok_band, ok_bor, ok_bnot, ok_yes, ok_mif, ok_callM, ok_call, ok_lm, ok_optN, ok_optS, ok_slice, ok_ival, ok_range1, ok_range2, ok_zip, ok_sm, ok_addM, ok_get1, ok_get2, ok_comp, ok_compM, s_skip, s_seq, s_expr, s_asg, s_put, s_ret, s_retN, s_brk, s_cnt, s_if, s_for, s_while, List.map_cons, List.map_nil, List.cons_append, List.nil_append, List.replicate, List.getElem?_cons_zero, List.getElem?_cons_succ, List.set_cons_zero, List.set_cons_succ, Option.some.injEq, exists_eq_left', exists_eq_left, Nat.reduceSub, Nat.reduceAdd, Nat.reduceMul, wipeE, gNm, gNms, gTp, D.int.injEq, true_and, and_true, List.length_cons, List.length_nil, Option.bind_some, idx_ref, ixC_lst, idx_lst, idx_tup, idx_frz, at0, at1, at2, at3, add_int, sub_int, mod_int, fdiv_int, pow18, lt_int, le_int, gt_int, ge_int, tru_bl, tru_int, eq_int, ne_int, eq_str, ne_str, eq_bl, ne_bl, put_ref, putC_lst, ix0, ix1, ix2, ix3, len_lst, len_tup, len_frz, len_ref, lenC_lst, un1_one, tuple_lst, tuple_tup, list_lst, list_tup, slice_tup, slice_lst, it_tup, it_lst, cut_from1, Option.map_some, List.set_set, Nat.reduceLT, Int.reduceLT, if_true, Int.toNat_natCast, mul_mod, mulL, mulR, Int.reduceNeg, sum_nats]
        rw [gc_same rfl]
        exact ⟨by rw [siz, sizs_sum]; simp, rfl⟩
theorem order_ok {sg : Sg} {t : Pt} (ht : TreeOf sg t) (j : Nat) (st : St) : Ok (CC (hgt t + j + 2) "order_of" [encT t] st) fun d S => d = keyT t ∧ S = st := by
  rw [r_order_of]
  refine ok_fn rfl ?_
  unfold b_order_of
  try simp only [ok_ok, ok_no, ok_bind, ok_of_some, ok_var, ok_cst, ok_nil, ok_cons, ok_tup, ok_lst, ok_lstM, ok_op2, ok_op1, ok_blt, ok_listM, ok_chain, ok_and, ok_or, ok_not, ok_tval, ok_band, ok_bor, ok_bnot, ok_yes, ok_mif, ok_callM, ok_call, ok_lm, ok_optN, ok_optS, ok_slice, ok_ival, ok_range1, ok_range2, ok_zip, ok_sm, ok_addM, ok_get1, ok_get2, ok_comp, ok_compM, s_skip, s_seq, s_expr, s_asg, s_put, s_ret, s_retN, s_brk, s_cnt, s_if, s_for, s_while, List.map_cons, List.map_nil, List.cons_append, List.nil_append, List.replicate, List.getElem?_cons_zero, List.getElem?_cons_succ, List.set_cons_zero, List.set_cons_succ, Option.some.injEq, exists_eq_left', exists_eq_left, Nat.reduceSub, Nat.reduceAdd, Nat.reduceMul, wipeE, gNm, gNms, gTp, D.int.injEq, true_and, and_true, List.length_cons, List.length_nil, Option.bind_some, idx_ref, ixC_lst, idx_lst, idx_tup, idx_frz, at0, at1, at2, at3, add_int, sub_int, mod_int, fdiv_int, pow18, lt_int, le_int, gt_int, ge_int, tru_bl, tru_int, eq_int, ne_int, eq_str, ne_str, eq_bl, ne_bl, put_ref, putC_lst, ix0, ix1, ix2, ix3, len_lst, len_tup, len_frz, len_ref, lenC_lst, un1_one, tuple_lst, tuple_tup, list_lst, list_tup, slice_tup, slice_lst, it_tup, it_lst, cut_from1, Option.map_some, List.set_set, Nat.reduceLT, Int.reduceLT, if_true, Int.toNat_natCast, mul_mod, mulL, mulR, Int.reduceNeg]
  refine ok_ice_val ((size_ok ht j st).mono ?_)
  rintro _ _ ⟨rfl, rfl⟩
  refine ⟨rfl, ?_⟩
  try simp only [ok_ok, ok_no, ok_bind, ok_of_some, ok_var, ok_cst, ok_nil, ok_cons, ok_tup, ok_lst, ok_lstM, ok_op2, ok_op1, ok_blt, ok_listM, ok_chain, ok_and, ok_or, ok_not, ok_tval, ok_band, ok_bor, ok_bnot, ok_yes, ok_mif, ok_callM, ok_call, ok_lm, ok_optN, ok_optS, ok_slice, ok_ival, ok_range1, ok_range2, ok_zip, ok_sm, ok_addM, ok_get1, ok_get2, ok_comp, ok_compM, s_skip, s_seq, s_expr, s_asg, s_put, s_ret, s_retN, s_brk, s_cnt, s_if, s_for, s_while, List.map_cons, List.map_nil, List.cons_append, List.nil_append, List.replicate, List.getElem?_cons_zero, List.getElem?_cons_succ, List.set_cons_zero, List.set_cons_succ, Option.some.injEq, exists_eq_left', exists_eq_left, Nat.reduceSub, Nat.reduceAdd, Nat.reduceMul, wipeE, gNm, gNms, gTp, D.int.injEq, true_and, and_true, List.length_cons, List.length_nil, Option.bind_some, idx_ref, ixC_lst, idx_lst, idx_tup, idx_frz, at0, at1, at2, at3, add_int, sub_int, mod_int, fdiv_int, pow18, lt_int, le_int, gt_int, ge_int, tru_bl, tru_int, eq_int, ne_int, eq_str, ne_str, eq_bl, ne_bl, put_ref, putC_lst, ix0, ix1, ix2, ix3, len_lst, len_tup, len_frz, len_ref, lenC_lst, un1_one, tuple_lst, tuple_tup, list_lst, list_tup, slice_tup, slice_lst, it_tup, it_lst, cut_from1, Option.map_some, List.set_set, Nat.reduceLT, Int.reduceLT, if_true, Int.toNat_natCast, mul_mod, mulL, mulR, Int.reduceNeg]
  rw [gc_same rfl]
  exact ⟨rfl, rfl⟩
def Tall (H : Nat) (ts : List Pt) : Prop := ∀ t ∈ ts, (∃ sg, TreeOf sg t) ∧ hgt t ≤ H
theorem bels_T {m : Nat} : ∀ ts : List Pt, bels m (ts.map encT) = true
  | [] => by simp [bels]
  | t :: ts => by simp [bels, bel_T, bels_T ts]
theorem inorder_ok {ts : List Pt} {H : Nat} (h : Tall H ts) (hH : H ≤ 400) (hl : ts.length ≤ 100000) {st : St} {x : D} (hx : see st x = .lst (ts.map encT)) (j : Nat) :
    Ok (CC (H + j + 3) "in_order" [x] st) fun d S => d = .ref st.length ∧ S = st ++ [.lst ((sortT ts).map encT)] := by
  rw [r_in_order]
  refine ok_fn rfl ?_
  unfold b_in_order
  simp only [ok_sortKM, ok_ok, ok_no, ok_bind, ok_of_some, ok_var, ok_cst, ok_nil, ok_cons, ok_tup, ok_lst, ok_lstM, ok_op2, ok_op1, ok_blt, ok_listM, ok_chain, ok_and, ok_or, ok_not, ok_tval, ok_band, ok_bor, ok_bnot, ok_yes, ok_mif, ok_callM, ok_call, ok_lm, ok_optN, ok_optS, ok_slice, ok_ival, ok_range1, ok_range2, ok_zip, ok_sm, ok_addM, ok_get1, ok_get2, ok_comp, ok_compM, s_skip, s_seq, s_expr, s_asg, s_put, s_ret, s_retN, s_brk, s_cnt, s_if, s_for, s_while, List.map_cons, List.map_nil, List.cons_append, List.nil_append, List.replicate, List.getElem?_cons_zero, List.getElem?_cons_succ, List.set_cons_zero, List.set_cons_succ, Option.some.injEq, exists_eq_left', exists_eq_left, Nat.reduceSub, Nat.reduceAdd, Nat.reduceMul, wipeE, gNm, gNms, gTp, D.int.injEq, true_and, and_true, List.length_cons, List.length_nil, Option.bind_some]
  refine ⟨_, sortKO_T hx (by unfold big; omega) (fun t ht => ?_) (fun t ht => ?_), ?_⟩
  · obtain ⟨⟨sg, hs⟩, hh⟩ := h t ht
    exact ⟨hs.nd, by omega⟩
  · obtain ⟨⟨sg, hs⟩, hh⟩ := h t ht
    rw [show H + j + 2 = hgt t + (H - hgt t + j) + 2 by omega]
    exact order_ok hs _ st
  · rw [gc_new (bels_T _)]
    exact ⟨rfl, rfl⟩
end RP
end
section
set_option Elab.async false
set_option linter.all false
set_option maxRecDepth 100000
set_option maxHeartbeats 1000000
namespace RP
open PySem
theorem ahead_ok {t u : Pt} {H : Nat} (h : Tall H [t, u]) (hH : H ≤ 400) (j : Nat) (st : St) : Ok (CC (H + j + 2) "_law_ahead" [encT t, encT u] st) fun d S => d = .bl (ltT t u) ∧ S = st := by
  obtain ⟨⟨sg, ht⟩, hht⟩ := h t (by simp)
  obtain ⟨⟨sg', hu⟩, hhu⟩ := h u (by simp)
  rw [r__law_ahead]
  refine ok_fn rfl ?_
  unfold b__law_ahead
  try simp only [ok_ok, ok_no, ok_bind, ok_of_some, ok_var, ok_cst, ok_nil, ok_cons, ok_tup, ok_lst, ok_lstM, ok_op2, ok_op1, ok_blt, ok_listM, ok_chain, ok_and, ok_or, ok_not, ok_tval, ok_band, ok_bor, ok_bnot, ok_yes, ok_mif, ok_callM, ok_call, ok_lm, ok_optN, ok_optS, ok_slice, ok_ival, ok_range1, ok_range2, ok_zip, ok_sm, ok_addM, ok_get1, ok_get2, ok_comp, ok_compM, s_skip, s_seq, s_expr, s_asg, s_put, s_ret, s_retN, s_brk, s_cnt, s_if, s_for, s_while, List.map_cons, List.map_nil, List.cons_append, List.nil_append, List.replicate, List.getElem?_cons_zero, List.getElem?_cons_succ, List.set_cons_zero, List.set_cons_succ, Option.some.injEq, exists_eq_left', exists_eq_left, Nat.reduceSub, Nat.reduceAdd, Nat.reduceMul, wipeE, gNm, gNms, gTp, D.int.injEq, true_and, and_true, List.length_cons, List.length_nil, Option.bind_some, idx_ref, ixC_lst, idx_lst, idx_tup, idx_frz, at0, at1, at2, at3, add_int, sub_int, mod_int, fdiv_int, pow18, lt_int, le_int, gt_int, ge_int, tru_bl, tru_int, eq_int, ne_int, eq_str, ne_str, eq_bl, ne_bl, put_ref, putC_lst, ix0, ix1, ix2, ix3, len_lst, len_tup, len_frz, len_ref, lenC_lst, un1_one, tuple_lst, tuple_tup, list_lst, list_tup, slice_tup, slice_lst, it_tup, it_lst, cut_from1, Option.map_some, List.set_set, Nat.reduceLT, Int.reduceLT, if_true, Int.toNat_natCast, mul_mod, mulL, mulR, Int.reduceNeg]
  rw [show H + j + 1 = hgt t + (H - hgt t + j) + 1 by omega]
  refine ok_ice_val ((lsize_ok ht _ st).mono ?_)
  rintro _ _ ⟨rfl, rfl⟩
  refine ⟨rfl, ?_⟩
  try simp only [ok_ok, ok_no, ok_bind, ok_of_some, ok_var, ok_cst, ok_nil, ok_cons, ok_tup, ok_lst, ok_lstM, ok_op2, ok_op1, ok_blt, ok_listM, ok_chain, ok_and, ok_or, ok_not, ok_tval, ok_band, ok_bor, ok_bnot, ok_yes, ok_mif, ok_callM, ok_call, ok_lm, ok_optN, ok_optS, ok_slice, ok_ival, ok_range1, ok_range2, ok_zip, ok_sm, ok_addM, ok_get1, ok_get2, ok_comp, ok_compM, s_skip, s_seq, s_expr, s_asg, s_put, s_ret, s_retN, s_brk, s_cnt, s_if, s_for, s_while, List.map_cons, List.map_nil, List.cons_append, List.nil_append, List.replicate, List.getElem?_cons_zero, List.getElem?_cons_succ, List.set_cons_zero, List.set_cons_succ, Option.some.injEq, exists_eq_left', exists_eq_left, Nat.reduceSub, Nat.reduceAdd, Nat.reduceMul, wipeE, gNm, gNms, gTp, D.int.injEq, true_and, and_true, List.length_cons, List.length_nil, Option.bind_some, idx_ref, ixC_lst, idx_lst, idx_tup, idx_frz, at0, at1, at2, at3, add_int, sub_int, mod_int, fdiv_int, pow18, lt_int, le_int, gt_int, ge_int, tru_bl, tru_int, eq_int, ne_int, eq_str, ne_str, eq_bl, ne_bl, put_ref, putC_lst, ix0, ix1, ix2, ix3, len_lst, len_tup, len_frz, len_ref, lenC_lst, un1_one, tuple_lst, tuple_tup, list_lst, list_tup, slice_tup, slice_lst, it_tup, it_lst, cut_from1, Option.map_some, List.set_set, Nat.reduceLT, Int.reduceLT, if_true, Int.toNat_natCast, mul_mod, mulL, mulR, Int.reduceNeg]
  rw [show hgt t + (H - hgt t + j) + 1 = hgt u + (H - hgt u + j) + 1 by omega]
  refine ok_ice_val ((lsize_ok hu _ _).mono ?_)
  rintro _ _ ⟨rfl, rfl⟩
  refine ⟨rfl, ?_⟩
  simp only [ok_ok, ok_no, ok_bind, ok_of_some, ok_var, ok_cst, ok_nil, ok_cons, ok_tup, ok_lst, ok_lstM, ok_op2, ok_op1, ok_blt, ok_listM, ok_chain, ok_and, ok_or, ok_not, ok_tval, ok_band, ok_bor, ok_bnot, ok_yes, ok_mif, ok_callM, ok_call, ok_lm, ok_optN, ok_optS, ok_slice, ok_ival, ok_range1, ok_range2, ok_zip, ok_sm, ok_addM, ok_get1, ok_get2, ok_comp, ok_compM, s_skip, s_seq, s_expr, s_asg, s_put, s_ret, s_retN, s_brk, s_cnt, s_if, s_for, s_while, List.map_cons, List.map_nil, List.cons_append, List.nil_append, List.replicate, List.getElem?_cons_zero, List.getElem?_cons_succ, List.set_cons_zero, List.set_cons_succ, Option.some.injEq, exists_eq_left', exists_eq_left, Nat.reduceSub, Nat.reduceAdd, Nat.reduceMul, wipeE, gNm, gNms, gTp, D.int.injEq, true_and, and_true, List.length_cons, List.length_nil, Option.bind_some, idx_ref, ixC_lst, idx_lst, idx_tup, idx_frz, at0, at1, at2, at3, add_int, sub_int, mod_int, fdiv_int, pow18, lt_int, le_int, gt_int, ge_int, tru_bl, tru_int, eq_int, ne_int, eq_str, ne_str, eq_bl, ne_bl, put_ref, putC_lst, ix0, ix1, ix2, ix3, len_lst, len_tup, len_frz, len_ref, lenC_lst, un1_one, tuple_lst, tuple_tup, list_lst, list_tup, slice_tup, slice_lst, it_tup, it_lst, cut_from1, Option.map_some, List.set_set, Nat.reduceLT, Int.reduceLT, if_true, Int.toNat_natCast, mul_mod, mulL, mulR, Int.reduceNeg, ltX_int, ltX_T ht.nd hu.nd (by omega)]
  rw [ltT_eq ht.nd hu.nd]
  by_cases h1 : siz t < siz u
  · have e : decide ((siz t : Int) < (siz u : Int)) = true := by simp; omega
    simp only [e, if_true]
    rw [gc_same rfl]
    exact ⟨by simp [h1], rfl⟩
  · have e : decide ((siz t : Int) < (siz u : Int)) = false := by simp; omega
    simp only [e, Bool.false_eq_true, if_false]
    by_cases h2 : siz t = siz u
    · have e2 : ((siz t : Int) == (siz u : Int)) = true := by simp [h2]
      simp only [e2, if_true]
      rw [gc_same rfl]
      exact ⟨by simp [h2], rfl⟩
    · have e2 : ((siz t : Int) == (siz u : Int)) = false := by simp; omega
      simp only [e2, Bool.false_eq_true, if_false]
      rw [gc_same rfl]
      exact ⟨by simp [h1, h2], rfl⟩
theorem list_see {st : St} {x : D} {xs : List D} (h : see st x = .lst xs) : listD st x = some (.lst xs) := by unfold listD; rw [h]
theorem isi_see {st : St} {x : D} {xs : List D} (h : see st x = .lst xs) : isiD .list st x = some (.bl true) := by unfold isiD; rw [h]
theorem ne_nilT {st : St} {x : D} {ts : List Pt} (h : see st x = .lst (ts.map encT)) : neB st x (.lst []) = some (.bl (!ts.isEmpty)) := by
  have p : plns (ts.map encT) = true := plns_nob nobs_Ts
  unfold neB eqO
  rw [h, show see st (.lst []) = .lst [] from rfl]
  have d : min (dep (.lst (ts.map encT))) (dep (.lst [])) ≤ 500 := by rw [show dep (.lst []) = 1 by simp [dep, deps]]; omega
  simp only [pln, plns, p, d, Bool.and_self, decide_true, if_true, bD, Option.map_some]
  cases ts <;> simp [eqD, eqDs]
theorem lst_pln (ts : List Pt) : pln (.lst (ts.map encT)) = true := by rw [pln]; exact plns_nob nobs_Ts
theorem lst_dep {ts : List Pt} {H : Nat} (h : Tall H ts) : dep (.lst (ts.map encT)) ≤ H + 1 := by
  rw [dep]
  have : deps (ts.map encT) ≤ H := deps_le fun x hx => by
    obtain ⟨t, ht, rfl⟩ := List.mem_map.mp hx
    rw [dep_T]
    exact (h t ht).2
  omega
theorem eq_sameT {st : St} {x y : D} {ts : List Pt} {H : Nat} (h : Tall H ts) (hH : H ≤ 400) (hx : see st x = .lst (ts.map encT)) (hy : see st y = .lst (ts.map encT)) : eqO st x y = some true := by
  unfold eqO
  have d := lst_dep h
  rw [hx, hy, Nat.min_self]
  simp only [lst_pln, Bool.and_self, show dep (.lst (ts.map encT)) ≤ 500 by omega, decide_true, if_true, eqD_refl _ (lst_pln ts)]
theorem at_one {S : St} {a b : Cell} : (S ++ [a, b])[S.length]? = some a := by rw [List.getElem?_append_right (Nat.le_refl _)]; simp
theorem at_two {S : St} {a b : Cell} : (S ++ [a, b])[S.length + 1]? = some b := by rw [List.getElem?_append_right (by omega)]; simp
theorem set_one {S : St} {a b c : Cell} : (S ++ [a, b]).set S.length c = S ++ [c, b] := by rw [List.set_append_right _ _ (Nat.le_refl _)]; simp
theorem set_two {S : St} {a b c : Cell} : (S ++ [a, b]).set (S.length + 1) c = S ++ [a, c] := by rw [List.set_append_right _ _ (by omega)]; simp
theorem ne_of_eq {st : St} {x y : D} (h : eqO st x y = some true) : neB st x y = some (.bl false) := by unfold neB; rw [h]; rfl
theorem eq_of_eq {st : St} {x y : D} (h : eqO st x y = some true) : eqB st x y = some (.bl true) := by unfold eqB; rw [h]; rfl
theorem gc_bk {st S : St} {d : D} (hb : bel st.length d = true) (old : ∀ a, a < st.length → S[a]? = st[a]?) : gc st d S = .ok d st := by
  have hl : st.length ≤ S.length := by
    rcases Nat.lt_or_ge S.length st.length with h | h
    · have := old S.length h
      rw [List.getElem?_eq_none (Nat.le_refl _), List.getElem?_eq_getElem h] at this
      cases this
    · exact h
  have he : S.take st.length = st := List.ext_getElem? fun i => by
    by_cases hi : i < st.length
    · rw [List.getElem?_take_of_lt hi, old i hi]
    · rw [List.getElem?_eq_none (by rw [List.length_take]; omega), List.getElem?_eq_none (by omega)]
  rw [gc_val hl (fun i c hi h => .inl (by rw [← old i hi]; exact h)) hb, he]
section
variable {ts : List Pt} {H : Nat} (h : Tall H ts) (hH : H ≤ 400) (hl : ts.length ≤ 1000)
include h hH hl
theorem least_ok {j : Nat} {S : St} {x0 x1 x3 x4 x6 : Option D} {L Ds : List Pt} {t0 : Pt} (hs : ∀ t ∈ L, t ∈ ts) (h0 : t0 ∈ L) {qn qb qc : Env → St → Prop} {qr : D → St → Prop}
    (q : ∀ m y6, m ∈ L → (∀ t ∈ L, ltT t m = false) → qn [x0, x1, some (.ref S.length), x3, x4, some (encT m), y6] (S ++ [.lst (L.map encT), .lst (Ds.map encT)])) :
    OkS (forL (CC (H + j + 3)) (some S.length) (L.map encT) (gNm 6) (sIf (tVal (mCall "_law_ahead" [(mVar 6), (mVar 5)])) (sAsg (gNm 5) (mVar 6)) sSkip) (L.map encT) [x0, x1, some (.ref S.length), x3, x4, some (encT t0), x6] (S ++ [.lst (L.map encT), .lst (Ds.map encT)])) qn qr qb qc := by
  refine for_gen (e := encT) L (fun done e st => st = S ++ [.lst (L.map encT), .lst (Ds.map encT)] ∧ ∃ m y6, e = [x0, x1, some (.ref S.length), x3, x4, some (encT m), y6] ∧ m ∈ L ∧ ∀ t ∈ done, ltT t m = false) rfl ⟨rfl, t0, _, rfl, h0, by simp⟩ ?_ (fun done e st hi n hn => by cases hn; rw [hi.1]; exact at_one) ?_
  · rintro t rest done e st he ⟨rfl, m, y6, rfl, hm, hd⟩
    refine ⟨_, rfl, ?_⟩
    have ht : t ∈ L := by rw [he]; simp
    simp only [ok_ok, ok_no, ok_bind, ok_of_some, ok_var, ok_cst, ok_nil, ok_cons, ok_tup, ok_lst, ok_lstM, ok_op2, ok_op1, ok_blt, ok_listM, ok_chain, ok_and, ok_or, ok_not, ok_tval, ok_band, ok_bor, ok_bnot, ok_yes, ok_mif, ok_callM, ok_call, ok_lm, ok_optN, ok_optS, ok_slice, ok_ival, ok_range1, ok_range2, ok_zip, ok_sm, ok_addM, ok_get1, ok_get2, ok_comp, ok_compM, s_skip, s_seq, s_expr, s_asg, s_put, s_ret, s_retN, s_brk, s_cnt, s_if, s_for, s_while, List.map_cons, List.map_nil, List.cons_append, List.nil_append, List.replicate, List.getElem?_cons_zero, List.getElem?_cons_succ, List.set_cons_zero, List.set_cons_succ, Option.some.injEq, exists_eq_left', exists_eq_left, Nat.reduceSub, Nat.reduceAdd, Nat.reduceMul, wipeE, gNm, gNms, gTp, D.int.injEq, true_and, and_true, List.length_cons, List.length_nil, Option.bind_some]
    rw [show H + j + 3 = H + (j + 1) + 2 by omega]
    refine ok_ice_val ((ahead_ok (t := t) (u := m) (H := H) (fun u hu => h u (hs u (by rcases List.mem_cons.mp hu with rfl | hu; exact ht; rw [List.mem_singleton.mp hu]; exact hm))) hH _ _).mono ?_)
    rintro _ _ ⟨rfl, rfl⟩
    refine ⟨rfl, ?_⟩
    simp only [idx_ref, ixC_lst, idx_lst, idx_tup, idx_frz, at0, at1, at2, at3, add_int, sub_int, mod_int, fdiv_int, pow18, lt_int, le_int, gt_int, ge_int, tru_bl, tru_int, eq_int, ne_int, eq_str, ne_str, eq_bl, ne_bl, put_ref, putC_lst, ix0, ix1, ix2, ix3, len_lst, len_tup, len_frz, len_ref, lenC_lst, un1_one, tuple_lst, tuple_tup, list_lst, list_tup, slice_tup, slice_lst, it_tup, it_lst, cut_from1, Option.map_some, List.set_set, Nat.reduceLT, Int.reduceLT, if_true, Int.toNat_natCast, mul_mod, mulL, mulR, Int.reduceNeg]
    refine ⟨_, rfl, ?_⟩
    cases q1 : ltT t m with
    | true =>
      simp only [if_true, ok_ok, ok_no, ok_bind, ok_of_some, ok_var, ok_cst, ok_nil, ok_cons, ok_tup, ok_lst, ok_lstM, ok_op2, ok_op1, ok_blt, ok_listM, ok_chain, ok_and, ok_or, ok_not, ok_tval, ok_band, ok_bor, ok_bnot, ok_yes, ok_mif, ok_callM, ok_call, ok_lm, ok_optN, ok_optS, ok_slice, ok_ival, ok_range1, ok_range2, ok_zip, ok_sm, ok_addM, ok_get1, ok_get2, ok_comp, ok_compM, s_skip, s_seq, s_expr, s_asg, s_put, s_ret, s_retN, s_brk, s_cnt, s_if, s_for, s_while, List.map_cons, List.map_nil, List.cons_append, List.nil_append, List.replicate, List.getElem?_cons_zero, List.getElem?_cons_succ, List.set_cons_zero, List.set_cons_succ, Option.some.injEq, exists_eq_left', exists_eq_left, Nat.reduceSub, Nat.reduceAdd, Nat.reduceMul, wipeE, gNm, gNms, gTp, D.int.injEq, true_and, and_true, List.length_cons, List.length_nil, Option.bind_some]
      refine ⟨t, _, rfl, ht, fun u hu => ?_⟩
      rcases List.mem_append.mp hu with z | z
      · cases q2 : ltT u t with
        | false => rfl
        | true => have := ltT_tr q2 q1; rw [hd u z] at this; cases this
      · rw [List.mem_singleton.mp z]; exact ltT_irr
    | false =>
      simp only [Bool.false_eq_true, if_false, ok_ok, ok_no, ok_bind, ok_of_some, ok_var, ok_cst, ok_nil, ok_cons, ok_tup, ok_lst, ok_lstM, ok_op2, ok_op1, ok_blt, ok_listM, ok_chain, ok_and, ok_or, ok_not, ok_tval, ok_band, ok_bor, ok_bnot, ok_yes, ok_mif, ok_callM, ok_call, ok_lm, ok_optN, ok_optS, ok_slice, ok_ival, ok_range1, ok_range2, ok_zip, ok_sm, ok_addM, ok_get1, ok_get2, ok_comp, ok_compM, s_skip, s_seq, s_expr, s_asg, s_put, s_ret, s_retN, s_brk, s_cnt, s_if, s_for, s_while, List.map_cons, List.map_nil, List.cons_append, List.nil_append, List.replicate, List.getElem?_cons_zero, List.getElem?_cons_succ, List.set_cons_zero, List.set_cons_succ, Option.some.injEq, exists_eq_left', exists_eq_left, Nat.reduceSub, Nat.reduceAdd, Nat.reduceMul, wipeE, gNm, gNms, gTp, D.int.injEq, true_and, and_true, List.length_cons, List.length_nil, Option.bind_some]
      refine ⟨m, _, rfl, hm, fun u hu => ?_⟩
      rcases List.mem_append.mp hu with z | z
      · exact hd u z
      · rw [List.mem_singleton.mp z]; exact q1
  · rintro e st ⟨rfl, m, y6, rfl, hm, hd⟩
    exact q m y6 hm hd
theorem oright_ok {S : St} {x : D} (hx : ∀ more, see (S ++ more) x = .lst (ts.map encT)) (j : Nat) : Ok (CC (H + j + 4) "_law_order_right" [x] S) fun d S' => d = .bl true ∧ S' = S := by
  have hx0 : see S x = .lst (ts.map encT) := by simpa using hx []
  rw [r__law_order_right]
  refine ok_fn rfl ?_
  unfold b__law_order_right
  simp only [ok_ok, ok_no, ok_bind, ok_of_some, ok_var, ok_cst, ok_nil, ok_cons, ok_tup, ok_lst, ok_lstM, ok_op2, ok_op1, ok_blt, ok_listM, ok_chain, ok_and, ok_or, ok_not, ok_tval, ok_band, ok_bor, ok_bnot, ok_yes, ok_mif, ok_callM, ok_call, ok_lm, ok_optN, ok_optS, ok_slice, ok_ival, ok_range1, ok_range2, ok_zip, ok_sm, ok_addM, ok_get1, ok_get2, ok_comp, ok_compM, s_skip, s_seq, s_expr, s_asg, s_put, s_ret, s_retN, s_brk, s_cnt, s_if, s_for, s_while, List.map_cons, List.map_nil, List.cons_append, List.nil_append, List.replicate, List.getElem?_cons_zero, List.getElem?_cons_succ, List.set_cons_zero, List.set_cons_succ, Option.some.injEq, exists_eq_left', exists_eq_left, Nat.reduceSub, Nat.reduceAdd, Nat.reduceMul, wipeE, gNm, gNms, gTp, D.int.injEq, true_and, and_true, List.length_cons, List.length_nil, Option.bind_some, Nat.reduceLT, if_true, un1_one]
  refine ⟨_, list_see hx0, _, list_see hx0, ?_⟩
  rw [List.append_assoc]
  simp only [List.length_append, List.length_singleton, List.cons_append, List.nil_append]
  refine while_inv (fun n e st => ∃ L Ds x5 x6, e = [some x, some (.lst (ts.map encT)), some (.ref S.length), some (.ref (S.length + 1)), none, x5, x6] ∧ st = S ++ [.lst (L.map encT), .lst (Ds.map encT)] ∧ L.length = n ∧ (Ds ++ L).Perm ts ∧ SrtT Ds ∧ ∀ d ∈ Ds, ∀ y ∈ L, ltT y d = false)
    ?_ _ ts.length _ _ ⟨ts, [], none, none, rfl, rfl, rfl, List.Perm.refl _, List.Pairwise.nil, by simp⟩ (by unfold wMost; omega)
  rintro n e st ⟨L, Ds, x5, x6, rfl, rfl, rfl, hp, hd, hm⟩
  simp only [ok_ok, ok_no, ok_bind, ok_of_some, ok_var, ok_cst, ok_nil, ok_cons, ok_tup, ok_lst, ok_lstM, ok_op2, ok_op1, ok_blt, ok_listM, ok_chain, ok_and, ok_or, ok_not, ok_tval, ok_band, ok_bor, ok_bnot, ok_yes, ok_mif, ok_callM, ok_call, ok_lm, ok_optN, ok_optS, ok_slice, ok_ival, ok_range1, ok_range2, ok_zip, ok_sm, ok_addM, ok_get1, ok_get2, ok_comp, ok_compM, s_skip, s_seq, s_expr, s_asg, s_put, s_ret, s_retN, s_brk, s_cnt, s_if, s_for, s_while, List.map_cons, List.map_nil, List.cons_append, List.nil_append, List.replicate, List.getElem?_cons_zero, List.getElem?_cons_succ, List.set_cons_zero, List.set_cons_succ, Option.some.injEq, exists_eq_left', exists_eq_left, Nat.reduceSub, Nat.reduceAdd, Nat.reduceMul, wipeE, gNm, gNms, gTp, D.int.injEq, true_and, and_true, List.length_cons, List.length_nil, Option.bind_some]
  refine ⟨_, ne_nilT (see_cell at_one), ?_⟩
  simp only [idx_ref, ixC_lst, idx_lst, idx_tup, idx_frz, at0, at1, at2, at3, add_int, sub_int, mod_int, fdiv_int, pow18, lt_int, le_int, gt_int, ge_int, tru_bl, tru_int, eq_int, ne_int, eq_str, ne_str, eq_bl, ne_bl, put_ref, putC_lst, ix0, ix1, ix2, ix3, len_lst, len_tup, len_frz, len_ref, lenC_lst, un1_one, tuple_lst, tuple_tup, list_lst, list_tup, slice_tup, slice_lst, it_tup, it_lst, cut_from1, Option.map_some, List.set_set, Nat.reduceLT, Int.reduceLT, if_true, Int.toNat_natCast, mul_mod, mulL, mulR, Int.reduceNeg]
  refine ⟨_, rfl, ?_⟩
  have hs : ∀ t ∈ L, t ∈ ts := fun t ht => hp.mem_iff.mp (by simp [ht])
  have hle : L.length ≤ ts.length := by have := hp.length_eq; simp at this; omega
  have hde : Ds.length ≤ ts.length := by have := hp.length_eq; simp at this; omega
  cases L with
  | cons t0 L0 =>
    simp only [List.isEmpty_cons, Bool.not_false, if_true]
    refine ⟨by simp, ?_⟩
    have hi : ixC S.length (S ++ [.lst ((t0 :: L0).map encT), .lst (Ds.map encT)])[S.length]? (.int 0) = some (encT t0) := by
      rw [at_one, ixC_lst, at0]
      rfl
    refine ⟨_, hi, ?_⟩
    refine ⟨_, rfl, ?_⟩
    simp only [List.getElem?_cons_zero, List.getElem?_cons_succ, Option.some.injEq, exists_eq_left']
    refine ⟨_, it_ref at_one, least_ok h hH hl (t0 := t0) hs (by simp) fun m y6 hm1 hm2 => ?_⟩
    obtain ⟨us, e1, e2, e3⟩ := remove_T (st := S ++ [.lst ((t0 :: L0).map encT), .lst (Ds.map encT)]) at_one hm1 (by have := (h m (hs m hm1)).2; omega)
    simp only [ok_ok, ok_no, ok_bind, ok_of_some, ok_var, ok_cst, ok_nil, ok_cons, ok_tup, ok_lst, ok_lstM, ok_op2, ok_op1, ok_blt, ok_listM, ok_chain, ok_and, ok_or, ok_not, ok_tval, ok_band, ok_bor, ok_bnot, ok_yes, ok_mif, ok_callM, ok_call, ok_lm, ok_optN, ok_optS, ok_slice, ok_ival, ok_range1, ok_range2, ok_zip, ok_sm, ok_addM, ok_get1, ok_get2, ok_comp, ok_compM, s_skip, s_seq, s_expr, s_asg, s_put, s_ret, s_retN, s_brk, s_cnt, s_if, s_for, s_while, List.map_cons, List.map_nil, List.cons_append, List.nil_append, List.replicate, List.getElem?_cons_zero, List.getElem?_cons_succ, List.set_cons_zero, List.set_cons_succ, Option.some.injEq, exists_eq_left', exists_eq_left, Nat.reduceSub, Nat.reduceAdd, Nat.reduceMul, wipeE, gNm, gNms, gTp, D.int.injEq, true_and, and_true, List.length_cons, List.length_nil, Option.bind_some]
    refine ⟨isL_ref at_one, _, _, e1, ?_⟩
    rw [set_one]
    refine ⟨isL_ref at_two, _, _, append_ref at_two (by simp; unfold big; omega), ?_⟩
    rw [set_two]
    have e4 : us.length < L0.length + 1 := by simp at e3; omega
    refine ⟨us.length, e4, us, Ds ++ [m], _, _, rfl, by simp, rfl, ?_, ?_, ?_⟩
    · rw [List.append_assoc]
      exact (List.Perm.append_left Ds e2).trans hp
    · refine List.pairwise_append.mpr ⟨hd, by simp, fun d hd' y hy => ?_⟩
      rw [List.mem_singleton.mp hy]
      exact hm d hd' m hm1
    · intro d hd' y hy
      have hyL : y ∈ t0 :: L0 := e2.mem_iff.mp (by simp [hy])
      rcases List.mem_append.mp hd' with z | z
      · exact hm d z y hyL
      · rw [List.mem_singleton.mp z]; exact hm2 y hyL
  | nil =>
    simp only [List.isEmpty_nil, Bool.not_true, Bool.false_eq_true, if_false]
    rw [List.append_nil] at hp
    have eD : sortT ts = Ds := srt_uniq (fun t ht => by obtain ⟨⟨sg, z⟩, _⟩ := h t ((sortT_perm ts).mem_iff.mp ht); exact z.nd) (sortT_srt ts) hd ((sortT_perm ts).trans hp.symm)
    have hT : Tall H Ds := fun t ht => h t (hp.mem_iff.mp ht)
    rw [show H + j + 3 = H + j + 3 from rfl]
    refine (inorder_ok h hH (by omega) (hx _) j).mono ?_
    rintro _ _ ⟨rfl, rfl⟩
    rw [eD]
    simp only [List.map_cons, List.map_nil, List.cons_append, List.nil_append, List.replicate, List.getElem?_cons_zero, List.getElem?_cons_succ, List.set_cons_zero, List.set_cons_succ, Option.some.injEq, exists_eq_left', exists_eq_left, Nat.reduceSub, Nat.reduceAdd, Nat.reduceMul, wipeE, gNm, gNms, gTp, D.int.injEq, true_and, and_true, List.length_cons, List.length_nil, Option.bind_some, Nat.reduceLT, if_true]
    generalize hB : S ++ [Cell.lst [], Cell.lst (Ds.map encT)] = B
    have bB : ∀ c, see (B ++ [c]) (.ref (S.length + 1)) = .lst (Ds.map encT) := fun c => see_cell (by rw [at_old (by rw [← hB]; simp), ← hB, at_two])
    have bx : ∀ c, see (B ++ [c]) x = .lst (ts.map encT) := fun c => by rw [← hB, List.append_assoc]; exact hx _
    refine ⟨_, isi_see (see_cell at_new), _, rfl, ?_⟩
    simp only [Bool.not_true, Bool.false_eq_true, if_false]
    refine ⟨_, ne_of_eq (eq_sameT hT hH (see_cell at_new) (bB _)), _, rfl, ?_⟩
    simp only [Bool.false_eq_true, if_false]
    refine ⟨_, ne_of_eq (eq_sameT h hH (bx _) rfl), _, rfl, ?_⟩
    simp only [Bool.false_eq_true, if_false]
    refine ⟨isL_ref at_new, _, _, append_ref at_new (by simp; unfold big; omega), ?_⟩
    rw [set_new]
    refine ok_ice_new (P := fun xs => xs = Ds.map encT) ((inorder_ok h hH (by omega) (bx _) j).mono ?_) ?_
    · rintro _ _ ⟨rfl, rfl⟩
      exact ⟨_, rfl, rfl, bels_T _, by rw [eD]⟩
    · rintro _ rfl
      refine ⟨_, eq_of_eq (eq_sameT hT hH rfl (bB _)), ?_⟩
      rw [gc_bk rfl fun a ha => ?_]
      · exact ⟨rfl, rfl⟩
      · rw [← hB, List.append_assoc, List.getElem?_append_left ha]
end
end RP
end
section
set_option Elab.async false
set_option linter.all false
set_option maxRecDepth 100000
set_option maxHeartbeats 1000000
namespace RP
open PySem
theorem tree_tall {sg : Sg} {t : Pt} {n : Nat} (ht : TreeOf sg t) (h : hgt t ≤ n) : (∃ sg, TreeOf sg t) ∧ hgt t ≤ n := ⟨⟨sg, ht⟩, h⟩
theorem see_ref_app {S : St} {a : Nat} {xs : List D} (h : S[a]? = some (.lst xs)) (more : St) : see (S ++ more) (.ref a) = .lst xs := see_cell (by rw [List.getElem?_append_left (List.getElem?_eq_some_iff.mp h).1]; exact h)
theorem law_ok {ns : List Int} {j : Nat} : Ok (CC (j + 40) "law" [.frz ns] []) fun d _ => d = .bl true := by
  rw [r_law]
  refine ok_fn rfl ?_
  unfold b_law
  simp only [ok_ok, ok_no, ok_bind, ok_of_some, ok_var, ok_cst, ok_nil, ok_cons, ok_tup, ok_lst, ok_lstM, ok_op2, ok_op1, ok_blt, ok_listM, ok_chain, ok_and, ok_or, ok_not, ok_tval, ok_band, ok_bor, ok_bnot, ok_yes, ok_mif, ok_callM, ok_call, ok_lm, ok_optN, ok_optS, ok_slice, ok_ival, ok_range1, ok_range2, ok_zip, ok_sm, ok_addM, ok_get1, ok_get2, ok_comp, ok_compM, s_skip, s_seq, s_expr, s_asg, s_put, s_ret, s_retN, s_brk, s_cnt, s_if, s_for, s_while, List.map_cons, List.map_nil, List.cons_append, List.nil_append, List.replicate, List.getElem?_cons_zero, List.getElem?_cons_succ, List.set_cons_zero, List.set_cons_succ, Option.some.injEq, exists_eq_left', exists_eq_left, Nat.reduceSub, Nat.reduceAdd, Nat.reduceMul, wipeE, gNm, gNms, gTp, D.int.injEq, true_and, and_true, List.length_cons, List.length_nil, Option.bind_some, idx_ref, ixC_lst, idx_lst, idx_tup, idx_frz, at0, at1, at2, at3, add_int, sub_int, mod_int, fdiv_int, pow18, lt_int, le_int, gt_int, ge_int, tru_bl, tru_int, eq_int, ne_int, eq_str, ne_str, eq_bl, ne_bl, put_ref, putC_lst, ix0, ix1, ix2, ix3, len_lst, len_tup, len_frz, len_ref, lenC_lst, un1_one, tuple_lst, tuple_tup, list_lst, list_tup, slice_tup, slice_lst, it_tup, it_lst, cut_from1, Option.map_some, List.set_set, Nat.reduceLT, Int.reduceLT, if_true, Int.toNat_natCast, mul_mod, mulL, mulR, Int.reduceNeg]
  refine (feed_ok (j := j + 38)).mono ?_
  rintro _ _ ⟨c, rfl, rfl, hc⟩
  have hfd : Fd FC 0 [c] := ⟨c, rfl, hc⟩
  simp only [ok_ok, ok_no, ok_bind, ok_of_some, ok_var, ok_cst, ok_nil, ok_cons, ok_tup, ok_lst, ok_lstM, ok_op2, ok_op1, ok_blt, ok_listM, ok_chain, ok_and, ok_or, ok_not, ok_tval, ok_band, ok_bor, ok_bnot, ok_yes, ok_mif, ok_callM, ok_call, ok_lm, ok_optN, ok_optS, ok_slice, ok_ival, ok_range1, ok_range2, ok_zip, ok_sm, ok_addM, ok_get1, ok_get2, ok_comp, ok_compM, s_skip, s_seq, s_expr, s_asg, s_put, s_ret, s_retN, s_brk, s_cnt, s_if, s_for, s_while, List.map_cons, List.map_nil, List.cons_append, List.nil_append, List.replicate, List.getElem?_cons_zero, List.getElem?_cons_succ, List.set_cons_zero, List.set_cons_succ, Option.some.injEq, exists_eq_left', exists_eq_left, Nat.reduceSub, Nat.reduceAdd, Nat.reduceMul, wipeE, gNm, gNms, gTp, D.int.injEq, true_and, and_true, List.length_cons, List.length_nil, Option.bind_some, idx_ref, ixC_lst, idx_lst, idx_tup, idx_frz, at0, at1, at2, at3, add_int, sub_int, mod_int, fdiv_int, pow18, lt_int, le_int, gt_int, ge_int, tru_bl, tru_int, eq_int, ne_int, eq_str, ne_str, eq_bl, ne_bl, put_ref, putC_lst, ix0, ix1, ix2, ix3, len_lst, len_tup, len_frz, len_ref, lenC_lst, un1_one, tuple_lst, tuple_tup, list_lst, list_tup, slice_tup, slice_lst, it_tup, it_lst, cut_from1, Option.map_some, List.set_set, Nat.reduceLT, Int.reduceLT, if_true, Int.toNat_natCast, mul_mod, mulL, mulR, Int.reduceNeg]
  rw [show j + 39 = (j + 37) + 2 by omega, show (6 : Int) = ((6 : Nat) : Int) from rfl]
  refine ok_ice_val ((signs_ok (j := j + 37) (mo := 6) hfd (by decide) (by decide)).mono ?_)
  rintro _ S2 ⟨sg, hs, hpo, _, _, rfl, g2⟩
  refine ⟨rfl, ?_⟩
  try simp only [ok_ok, ok_no, ok_bind, ok_of_some, ok_var, ok_cst, ok_nil, ok_cons, ok_tup, ok_lst, ok_lstM, ok_op2, ok_op1, ok_blt, ok_listM, ok_chain, ok_and, ok_or, ok_not, ok_tval, ok_band, ok_bor, ok_bnot, ok_yes, ok_mif, ok_callM, ok_call, ok_lm, ok_optN, ok_optS, ok_slice, ok_ival, ok_range1, ok_range2, ok_zip, ok_sm, ok_addM, ok_get1, ok_get2, ok_comp, ok_compM, s_skip, s_seq, s_expr, s_asg, s_put, s_ret, s_retN, s_brk, s_cnt, s_if, s_for, s_while, List.map_cons, List.map_nil, List.cons_append, List.nil_append, List.replicate, List.getElem?_cons_zero, List.getElem?_cons_succ, List.set_cons_zero, List.set_cons_succ, Option.some.injEq, exists_eq_left', exists_eq_left, Nat.reduceSub, Nat.reduceAdd, Nat.reduceMul, wipeE, gNm, gNms, gTp, D.int.injEq, true_and, and_true, List.length_cons, List.length_nil, Option.bind_some, idx_ref, ixC_lst, idx_lst, idx_tup, idx_frz, at0, at1, at2, at3, add_int, sub_int, mod_int, fdiv_int, pow18, lt_int, le_int, gt_int, ge_int, tru_bl, tru_int, eq_int, ne_int, eq_str, ne_str, eq_bl, ne_bl, put_ref, putC_lst, ix0, ix1, ix2, ix3, len_lst, len_tup, len_frz, len_ref, lenC_lst, un1_one, tuple_lst, tuple_tup, list_lst, list_tup, slice_tup, slice_lst, it_tup, it_lst, cut_from1, Option.map_some, List.set_set, Nat.reduceLT, Int.reduceLT, if_true, Int.toNat_natCast, mul_mod, mulL, mulR, Int.reduceNeg]
  refine ⟨by decide, ?_⟩
  refine for_gen (e := fun i : Nat => D.int i) (List.range 2) (fun done e s => Fd FC 0 s ∧ ∃ x3 x5 x6, e = [some (.frz ns), some (.ref 0), some (encS sg), x3, none, x5, x6]) rfl ⟨g2.fd hfd.lt, _, _, _, rfl⟩ ?_ (fun _ _ _ _ => gNone) ?_
  · rintro i rest done e s he ⟨hf, x3, x5, x6, rfl⟩
    refine ⟨_, rfl, ?_⟩
    have hl := hf.lt
    simp only [ok_ok, ok_no, ok_bind, ok_of_some, ok_var, ok_cst, ok_nil, ok_cons, ok_tup, ok_lst, ok_lstM, ok_op2, ok_op1, ok_blt, ok_listM, ok_chain, ok_and, ok_or, ok_not, ok_tval, ok_band, ok_bor, ok_bnot, ok_yes, ok_mif, ok_callM, ok_call, ok_lm, ok_optN, ok_optS, ok_slice, ok_ival, ok_range1, ok_range2, ok_zip, ok_sm, ok_addM, ok_get1, ok_get2, ok_comp, ok_compM, s_skip, s_seq, s_expr, s_asg, s_put, s_ret, s_retN, s_brk, s_cnt, s_if, s_for, s_while, List.map_cons, List.map_nil, List.cons_append, List.nil_append, List.replicate, List.getElem?_cons_zero, List.getElem?_cons_succ, List.set_cons_zero, List.set_cons_succ, Option.some.injEq, exists_eq_left', exists_eq_left, Nat.reduceSub, Nat.reduceAdd, Nat.reduceMul, wipeE, gNm, gNms, gTp, D.int.injEq, true_and, and_true, List.length_cons, List.length_nil, Option.bind_some, idx_ref, ixC_lst, idx_lst, idx_tup, idx_frz, at0, at1, at2, at3, add_int, sub_int, mod_int, fdiv_int, pow18, lt_int, le_int, gt_int, ge_int, tru_bl, tru_int, eq_int, ne_int, eq_str, ne_str, eq_bl, ne_bl, put_ref, putC_lst, ix0, ix1, ix2, ix3, len_lst, len_tup, len_frz, len_ref, lenC_lst, un1_one, tuple_lst, tuple_tup, list_lst, list_tup, slice_tup, slice_lst, it_tup, it_lst, cut_from1, Option.map_some, List.set_set, Nat.reduceLT, Int.reduceLT, if_true, Int.toNat_natCast, mul_mod, mulL, mulR, Int.reduceNeg]
    refine draw_call hf (by decide) (by decide) fun r S1 r0 r1 g1 => ?_
    obtain ⟨m, rfl⟩ := Int.eq_ofNat_of_zero_le r0
    simp only [ok_ok, ok_no, ok_bind, ok_of_some, ok_var, ok_cst, ok_nil, ok_cons, ok_tup, ok_lst, ok_lstM, ok_op2, ok_op1, ok_blt, ok_listM, ok_chain, ok_and, ok_or, ok_not, ok_tval, ok_band, ok_bor, ok_bnot, ok_yes, ok_mif, ok_callM, ok_call, ok_lm, ok_optN, ok_optS, ok_slice, ok_ival, ok_range1, ok_range2, ok_zip, ok_sm, ok_addM, ok_get1, ok_get2, ok_comp, ok_compM, s_skip, s_seq, s_expr, s_asg, s_put, s_ret, s_retN, s_brk, s_cnt, s_if, s_for, s_while, List.map_cons, List.map_nil, List.cons_append, List.nil_append, List.replicate, List.getElem?_cons_zero, List.getElem?_cons_succ, List.set_cons_zero, List.set_cons_succ, Option.some.injEq, exists_eq_left', exists_eq_left, Nat.reduceSub, Nat.reduceAdd, Nat.reduceMul, wipeE, gNm, gNms, gTp, D.int.injEq, true_and, and_true, List.length_cons, List.length_nil, Option.bind_some, idx_ref, ixC_lst, idx_lst, idx_tup, idx_frz, at0, at1, at2, at3, add_int, sub_int, mod_int, fdiv_int, pow18, lt_int, le_int, gt_int, ge_int, tru_bl, tru_int, eq_int, ne_int, eq_str, ne_str, eq_bl, ne_bl, put_ref, putC_lst, ix0, ix1, ix2, ix3, len_lst, len_tup, len_frz, len_ref, lenC_lst, un1_one, tuple_lst, tuple_tup, list_lst, list_tup, slice_tup, slice_lst, it_tup, it_lst, cut_from1, Option.map_some, List.set_set, Nat.reduceLT, Int.reduceLT, if_true, Int.toNat_natCast, mul_mod, mulL, mulR, Int.reduceNeg]
    refine ⟨⟨by unfold big; omega, by unfold big; omega⟩, ?_⟩
    have hl1 := (g1.fd hl).lt
    refine comp_go (fun done ys S' => Go 0 S1 S' ∧ ∃ ts : List Pt, ys = ts.map encT ∧ ts.length = done.length ∧ Tall 4 ts) rfl ⟨Fr.refl (g1.fd hl), [], rfl, rfl, fun t ht => by simp at ht⟩ ?_ ?_
    · rintro x done ys S' hx ⟨g, ts, rfl, htl, hts⟩
      refine ⟨_, rfl, ?_⟩
      simp only [ok_ok, ok_no, ok_bind, ok_of_some, ok_var, ok_cst, ok_nil, ok_cons, ok_tup, ok_lst, ok_lstM, ok_op2, ok_op1, ok_blt, ok_listM, ok_chain, ok_and, ok_or, ok_not, ok_tval, ok_band, ok_bor, ok_bnot, ok_yes, ok_mif, ok_callM, ok_call, ok_lm, ok_optN, ok_optS, ok_slice, ok_ival, ok_range1, ok_range2, ok_zip, ok_sm, ok_addM, ok_get1, ok_get2, ok_comp, ok_compM, s_skip, s_seq, s_expr, s_asg, s_put, s_ret, s_retN, s_brk, s_cnt, s_if, s_for, s_while, List.map_cons, List.map_nil, List.cons_append, List.nil_append, List.replicate, List.getElem?_cons_zero, List.getElem?_cons_succ, List.set_cons_zero, List.set_cons_succ, Option.some.injEq, exists_eq_left', exists_eq_left, Nat.reduceSub, Nat.reduceAdd, Nat.reduceMul, wipeE, gNm, gNms, gTp, D.int.injEq, true_and, and_true, List.length_cons, List.length_nil, Option.bind_some, idx_ref, ixC_lst, idx_lst, idx_tup, idx_frz, at0, at1, at2, at3, add_int, sub_int, mod_int, fdiv_int, pow18, lt_int, le_int, gt_int, ge_int, tru_bl, tru_int, eq_int, ne_int, eq_str, ne_str, eq_bl, ne_bl, put_ref, putC_lst, ix0, ix1, ix2, ix3, len_lst, len_tup, len_frz, len_ref, lenC_lst, un1_one, tuple_lst, tuple_tup, list_lst, list_tup, slice_tup, slice_lst, it_tup, it_lst, cut_from1, Option.map_some, List.set_set, Nat.reduceLT, Int.reduceLT, if_true, Int.toNat_natCast, mul_mod, mulL, mulR, Int.reduceNeg]
      refine draw_call (g.fd hl1) (by decide) (by decide) fun r S3 q0 q1 g3 => ?_
      have g4 := g.go hl1 g3
      obtain ⟨d, rfl⟩ := Int.eq_ofNat_of_zero_le q0
      try simp only [ok_ok, ok_no, ok_bind, ok_of_some, ok_var, ok_cst, ok_nil, ok_cons, ok_tup, ok_lst, ok_lstM, ok_op2, ok_op1, ok_blt, ok_listM, ok_chain, ok_and, ok_or, ok_not, ok_tval, ok_band, ok_bor, ok_bnot, ok_yes, ok_mif, ok_callM, ok_call, ok_lm, ok_optN, ok_optS, ok_slice, ok_ival, ok_range1, ok_range2, ok_zip, ok_sm, ok_addM, ok_get1, ok_get2, ok_comp, ok_compM, s_skip, s_seq, s_expr, s_asg, s_put, s_ret, s_retN, s_brk, s_cnt, s_if, s_for, s_while, List.map_cons, List.map_nil, List.cons_append, List.nil_append, List.replicate, List.getElem?_cons_zero, List.getElem?_cons_succ, List.set_cons_zero, List.set_cons_succ, Option.some.injEq, exists_eq_left', exists_eq_left, Nat.reduceSub, Nat.reduceAdd, Nat.reduceMul, wipeE, gNm, gNms, gTp, D.int.injEq, true_and, and_true, List.length_cons, List.length_nil, Option.bind_some, idx_ref, ixC_lst, idx_lst, idx_tup, idx_frz, at0, at1, at2, at3, add_int, sub_int, mod_int, fdiv_int, pow18, lt_int, le_int, gt_int, ge_int, tru_bl, tru_int, eq_int, ne_int, eq_str, ne_str, eq_bl, ne_bl, put_ref, putC_lst, ix0, ix1, ix2, ix3, len_lst, len_tup, len_frz, len_ref, lenC_lst, un1_one, tuple_lst, tuple_tup, list_lst, list_tup, slice_tup, slice_lst, it_tup, it_lst, cut_from1, Option.map_some, List.set_set, Nat.reduceLT, Int.reduceLT, if_true, Int.toNat_natCast, mul_mod, mulL, mulR, Int.reduceNeg]
      rw [show j + 37 + 2 = d + (j + 37 - d) + 2 by omega, show (1 : Int) + (d : Int) = (d : Int) + 1 by omega]
      refine ok_ice_val ((tree_ok hs d _ S3 (g4.fd hl1)).mono ?_)
      rintro _ S4 ⟨t, rfl, ht, hht, g5⟩
      refine ⟨isRef_T _, g4.go hl1 g5, ts ++ [t], by simp, by simp [htl], fun u hu => ?_⟩
      rcases List.mem_append.mp hu with z | z
      · exact hts u z
      · rw [List.mem_singleton.mp z]; exact tree_tall ht (by omega)
    · rintro ys S3 ⟨g, ts, rfl, htl, hts⟩
      have hlen : ts.length = m := by simpa using htl
      have hS3 : S3.length = S1.length := by have := g.len; simpa using this
      have fin : ∀ (S : St) (us : List Pt), Fd FC 0 S → S[S3.length]? = some (.lst (us.map encT)) → Tall 4 us → us.length ≤ 100 →
          Ok (ice S (CC (j + 37 + 2) "_law_order_right" [.ref S3.length] S)) fun x st1 => ∃ b, tru st1 x = some b ∧ if (!b) = true then Ok (gc [] (.bl false) st1) fun d x => d = .bl true else Fd FC 0 st1 ∧ ∃ x3 x5 x6_1, [some (.frz ns), some (.ref 0), some (encS sg), some (D.int (i : Nat)), none, some (.ref S3.length), x6] = [some (.frz ns), some (.ref 0), some (encS sg), x3, none, x5, x6_1] := fun S us hf' hc' hT hlu => by
        rw [show j + 37 + 2 = 4 + (j + 31) + 4 by omega]
        refine ok_ice_val ((oright_ok hT (by decide) (by omega) (see_ref_app hc') _).mono ?_)
        rintro _ _ ⟨rfl, rfl⟩
        refine ⟨rfl, _, rfl, ?_⟩
        simp only [Bool.not_true, Bool.false_eq_true, if_false]
        exact ⟨hf', _, _, _, rfl⟩
      have P : Fr FC 0 S1 [.lst (ts.map encT)] (S3 ++ [.lst (ts.map encT)]) := by simpa using g.push (.lst (ts.map encT))
      refine ⟨_, ne_nilT (see_cell at_new), _, rfl, ?_⟩
      cases ts with
      | nil =>
        simp only [List.isEmpty_nil, Bool.not_true, Bool.false_eq_true, if_false]
        exact fin _ [] (P.fd hl1) at_new hts (by simp)
      | cons t0 ts0 =>
        simp only [List.isEmpty_cons, Bool.not_false, if_true]
        have h0 : 0 < (t0 :: ts0).length := by simp
        generalize t0 :: ts0 = ts at *
        refine draw_call (P.fd hl1) (by decide) (by decide) fun r S4 q0 q1 g4 => ?_
        have P4 := P.go hl1 g4
        have c4 : S4[S3.length]? = some (.lst (ts.map encT)) := by rw [hS3]; exact P4.at 0
        simp only [idx_ref, ixC_lst, idx_lst, idx_tup, idx_frz, at0, at1, at2, at3, add_int, sub_int, mod_int, fdiv_int, pow18, lt_int, le_int, gt_int, ge_int, tru_bl, tru_int, eq_int, ne_int, eq_str, ne_str, eq_bl, ne_bl, put_ref, putC_lst, ix0, ix1, ix2, ix3, len_lst, len_tup, len_frz, len_ref, lenC_lst, un1_one, tuple_lst, tuple_tup, list_lst, list_tup, slice_tup, slice_lst, it_tup, it_lst, cut_from1, Option.map_some, List.set_set, Nat.reduceLT, Int.reduceLT, if_true, Int.toNat_natCast, mul_mod, mulL, mulR, Int.reduceNeg]
        refine ⟨_, rfl, _, rfl, ?_⟩
        by_cases hr : r = 0
        · have e : (r == 0) = true := by simp [hr]
          simp only [e, if_true]
          refine ⟨isL_ref c4, _, by rw [c4, lenC_lst], ?_⟩
          rw [List.length_map]
          refine draw_call (P4.fd hl1) (by omega) (by omega) fun r5 S5 u0 u1 g5 => ?_
          have P5 := P4.go hl1 g5
          have c5 : S5[S3.length]? = some (.lst (ts.map encT)) := by rw [hS3]; exact P5.at 0
          refine ⟨_, by rw [c5, lenC_lst], ?_⟩
          rw [List.length_map]
          refine draw_call (P5.fd hl1) (by omega) (by omega) fun r6 S6 v0 v1 g6 => ?_
          have P6 := P5.go hl1 g6
          have c6 : S6[S3.length]? = some (.lst (ts.map encT)) := by rw [hS3]; exact P6.at 0
          obtain ⟨x, hx, _, hx2⟩ := at_get (xs := ts.map encT) v0 (by simpa using v1)
          obtain ⟨t, ht, rfl⟩ := List.mem_map.mp hx
          refine ⟨_, by rw [c6, ixC_lst]; exact hx2, _, _, insert_ref c6 (by simp; unfold big; omega) u0 (by unfold big; omega), ?_⟩
          have em : (ts.map encT).take r5.toNat ++ [encT t] ++ (ts.map encT).drop r5.toNat = (ts.take r5.toNat ++ [t] ++ ts.drop r5.toNat).map encT := by simp
          rw [em]
          have P7 : Fr FC 0 S1 [.lst ((ts.take r5.toNat ++ [t] ++ ts.drop r5.toNat).map encT)] (S6.set S3.length (.lst ((ts.take r5.toNat ++ [t] ++ ts.drop r5.toNat).map encT))) := by
            have := P6.put 0 (.lst ((ts.take r5.toNat ++ [t] ++ ts.drop r5.toNat).map encT))
            rw [Nat.add_zero, ← hS3] at this
            exact this
          refine fin _ (ts.take r5.toNat ++ [t] ++ ts.drop r5.toNat) (P7.fd hl1) (by have := P7.at 0; rw [Nat.add_zero, ← hS3] at this; exact this) (fun u hu => ?_) (by simp; omega)
          simp only [List.mem_append, List.mem_singleton] at hu
          rcases hu with (hu | hu) | hu
          · exact hts u (List.mem_of_mem_take hu)
          · rw [hu]; exact hts t ht
          · exact hts u (List.mem_of_mem_drop hu)
        · have e : (r == 0) = false := by simp [hr]
          simp only [e, Bool.false_eq_true, if_false]
          exact fin _ ts (P4.fd hl1) c4 hts (by omega)
  · rintro e s ⟨hf, x3, x5, x6, rfl⟩
    have hl := hf.lt
    simp only [ok_ok, ok_no, ok_bind, ok_of_some, ok_var, ok_cst, ok_nil, ok_cons, ok_tup, ok_lst, ok_lstM, ok_op2, ok_op1, ok_blt, ok_listM, ok_chain, ok_and, ok_or, ok_not, ok_tval, ok_band, ok_bor, ok_bnot, ok_yes, ok_mif, ok_callM, ok_call, ok_lm, ok_optN, ok_optS, ok_slice, ok_ival, ok_range1, ok_range2, ok_zip, ok_sm, ok_addM, ok_get1, ok_get2, ok_comp, ok_compM, s_skip, s_seq, s_expr, s_asg, s_put, s_ret, s_retN, s_brk, s_cnt, s_if, s_for, s_while, List.map_cons, List.map_nil, List.cons_append, List.nil_append, List.replicate, List.getElem?_cons_zero, List.getElem?_cons_succ, List.set_cons_zero, List.set_cons_succ, Option.some.injEq, exists_eq_left', exists_eq_left, Nat.reduceSub, Nat.reduceAdd, Nat.reduceMul, wipeE, gNm, gNms, gTp, D.int.injEq, true_and, and_true, List.length_cons, List.length_nil, Option.bind_some, idx_ref, ixC_lst, idx_lst, idx_tup, idx_frz, at0, at1, at2, at3, add_int, sub_int, mod_int, fdiv_int, pow18, lt_int, le_int, gt_int, ge_int, tru_bl, tru_int, eq_int, ne_int, eq_str, ne_str, eq_bl, ne_bl, put_ref, putC_lst, ix0, ix1, ix2, ix3, len_lst, len_tup, len_frz, len_ref, lenC_lst, un1_one, tuple_lst, tuple_tup, list_lst, list_tup, slice_tup, slice_lst, it_tup, it_lst, cut_from1, Option.map_some, List.set_set, Nat.reduceLT, Int.reduceLT, if_true, Int.toNat_natCast, mul_mod, mulL, mulR, Int.reduceNeg]
    refine ⟨by decide, ?_⟩
    refine comp_go (fun done ys S' => Go 0 s S' ∧ ∃ ts : List Pt, ys = ts.map encT ∧ ts.length = done.length ∧ ∀ t ∈ ts, DeepP t) rfl ⟨Fr.refl hf, [], rfl, rfl, fun t ht => by simp at ht⟩ ?_ ?_
    · rintro x done ys S' hx ⟨g, ts, rfl, htl, hts⟩
      refine ⟨_, rfl, ?_⟩
      simp only [ok_ok, ok_no, ok_bind, ok_of_some, ok_var, ok_cst, ok_nil, ok_cons, ok_tup, ok_lst, ok_lstM, ok_op2, ok_op1, ok_blt, ok_listM, ok_chain, ok_and, ok_or, ok_not, ok_tval, ok_band, ok_bor, ok_bnot, ok_yes, ok_mif, ok_callM, ok_call, ok_lm, ok_optN, ok_optS, ok_slice, ok_ival, ok_range1, ok_range2, ok_zip, ok_sm, ok_addM, ok_get1, ok_get2, ok_comp, ok_compM, s_skip, s_seq, s_expr, s_asg, s_put, s_ret, s_retN, s_brk, s_cnt, s_if, s_for, s_while, List.map_cons, List.map_nil, List.cons_append, List.nil_append, List.replicate, List.getElem?_cons_zero, List.getElem?_cons_succ, List.set_cons_zero, List.set_cons_succ, Option.some.injEq, exists_eq_left', exists_eq_left, Nat.reduceSub, Nat.reduceAdd, Nat.reduceMul, wipeE, gNm, gNms, gTp, D.int.injEq, true_and, and_true, List.length_cons, List.length_nil, Option.bind_some, idx_ref, ixC_lst, idx_lst, idx_tup, idx_frz, at0, at1, at2, at3, add_int, sub_int, mod_int, fdiv_int, pow18, lt_int, le_int, gt_int, ge_int, tru_bl, tru_int, eq_int, ne_int, eq_str, ne_str, eq_bl, ne_bl, put_ref, putC_lst, ix0, ix1, ix2, ix3, len_lst, len_tup, len_frz, len_ref, lenC_lst, un1_one, tuple_lst, tuple_tup, list_lst, list_tup, slice_tup, slice_lst, it_tup, it_lst, cut_from1, Option.map_some, List.set_set, Nat.reduceLT, Int.reduceLT, if_true, Int.toNat_natCast, mul_mod, mulL, mulR, Int.reduceNeg]
      refine deep_ok (j := j + 37) (g.fd hl) fun S4 t ht g4 => ?_
      refine ⟨g.go hl g4, ts ++ [t], by simp, by simp [htl], fun u hu => ?_⟩
      rcases List.mem_append.mp hu with z | z
      · exact hts u z
      · rw [List.mem_singleton.mp z]; exact ht
    · rintro ys S3 ⟨g, ts, rfl, htl, hts⟩
      match ts, htl, hts with
      | [a, b, c'], htl, hts =>
        obtain ⟨a1, a2, a3, xa, ya, za, rfl⟩ := hts a (by simp)
        obtain ⟨b1, b2, b3, xb, yb, zb, rfl⟩ := hts b (by simp)
        obtain ⟨c1, c2, c3, _⟩ := hts c' (by simp)
        have k1 : TreeOf sg8 xa ∧ hgt xa ≤ 20 := by
          cases a1 with
          | mk _ h => exact ⟨h xa (by simp), by have := hgt_mem (t := xa) (ts := [xa, ya, za]) (by simp); rw [hgt] at a2; omega⟩
        have k2 : TreeOf sg8 yb ∧ hgt yb ≤ 20 := by
          cases b1 with
          | mk _ h => exact ⟨h yb (by simp), by have := hgt_mem (t := yb) (ts := [xb, yb, zb]) (by simp); rw [hgt] at b2; omega⟩
        refine ⟨_, rfl, _, by rw [encT_g3]; rfl, _, rfl, _, by rw [encT_g3]; rfl, _, add_lst (by simp; decide), ?_⟩
        rw [← encT_a]
        have e : ([Pt.nd "g" [xa, ya, za], .nd "g" [xb, yb, zb], c'].map encT ++ [encT xa, encT aP, encT yb]) = [Pt.nd "g" [xa, ya, za], .nd "g" [xb, yb, zb], c', xa, aP, yb].map encT := rfl
        rw [e, show j + 37 + 2 = 20 + (j + 15) + 4 by omega]
        refine ok_ice_val ((oright_ok (ts := [Pt.nd "g" [xa, ya, za], .nd "g" [xb, yb, zb], c', xa, aP, yb]) (H := 20) ?_ (by decide) (by simp) (fun more => rfl) _).mono ?_)
        · intro t ht
          simp only [List.mem_cons, List.not_mem_nil, or_false] at ht
          rcases ht with rfl | rfl | rfl | rfl | rfl | rfl
          · exact tree_tall a1 a2
          · exact tree_tall b1 b2
          · exact tree_tall c1 c2
          · exact tree_tall k1.1 k1.2
          · exact tree_tall aP_ok.1 (by rw [aP_ok.2.1]; decide)
          · exact tree_tall k2.1 k2.2
        · rintro _ _ ⟨rfl, rfl⟩
          refine ⟨rfl, ?_⟩
          rw [gc_val (st := []) (by simp) (fun i c hi => by simp at hi) rfl]
          rfl
      | [], htl, _ => simp at htl
      | [_], htl, _ => simp at htl
      | [_, _], htl, _ => simp at htl
      | _ :: _ :: _ :: _ :: _, htl, _ => simp at htl
end RP
theorem PySem.Challenge.cw_ruleplans_k03_trees_in_order_holds : PySem.Challenge.rw_ruleplans_k03_trees_in_order.Holds := by
  refine holds_of 39 ⟨rfl, by decide, by decide, by decide⟩ fun ns _ => ?_
  obtain ⟨d, st, e, rfl⟩ := (RP.law_ok (ns := ns) (j := 0)).ex
  exact ⟨st, e⟩
end
