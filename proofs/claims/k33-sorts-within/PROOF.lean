import PyProof.Rows.All
import Wide.All
import OpenK.AllK
import Wide.FinOn
import HandS.ForMost
import HandS.ForExc
import HandS.HeadHook1
import HandS.TupAny
import HandS.TupMul
import HandS.Style
import HandS.Wide
import HandS.IsInst
import KE.KDictPairs
import KE.KRevSl
import HandS.More
import HandS.Zip
import HandS.Flow
import HandS.Small
import KE.KStateDown
import HandS.Words
import HandS.WordsExc
import HandS.Defaults
import HandS.Ends
import HandS.Head0
import HandS.Head1
import HandS.Head2
import HandS.HeadEnd
import HandS.HeadHook2
import PySem.Challenge.RW_ruleplans_k33_sorts_within
section
set_option Elab.async false
set_option linter.all false
set_option maxRecDepth 100000
/-! Values by value, cells for what is changed, a result monad, and the words (denotations) of the program's text. -/
namespace RP
open PySem

inductive D where
  | non | bl (b : Bool) | int (i : Int) | str (x : Str) | tup (xs : List D) | lst (xs : List D) | dct (ks vs : List D) | set (xs : List D) | frz (ns : List Int) | ref (n : Nat)
  deriving Inhabited

inductive Cell where
  | lst (xs : List D) | dct (ks vs : List D) | ins (c : Str) (fs : List (Str × D))
  deriving Inhabited
abbrev St := List Cell
abbrev Env := List (Option D)
/-- what is raised: the class's name, the arguments that it keeps -/
structure Xc where
  cls : Str
  fs : List (Str × D)
inductive R (α : Type) where
  | ok (a : α) (st : St)
  | er (x : Xc) (st : St)
  | no
inductive RS where
  | nx (env : Env) (st : St)
  | rt (d : D) (st : St)
  | bk (env : Env) (st : St)
  | ct (env : Env) (st : St)
  | er (x : Xc) (env : Env) (st : St)
  | no
def R.bind {α β : Type} (r : R α) (k : α → St → R β) : R β := match r with
  | .ok a st => k a st
  | .er x st => .er x st
  | .no => .no
def R.of {α : Type} (o : Option α) (st : St) : R α := match o with
  | some a => .ok a st
  | none => .no

def big : Nat := 1000000
/-! ### depth, equality, truth -/
mutual
def dep : D → Nat
  | .tup xs => deps xs + 1
  | .lst xs => deps xs + 1
  | _ => 0
def deps : List D → Nat
  | [] => 0
  | x :: xs => max (dep x) (deps xs)
end
mutual
/-- plain data: nothing but None, truths, asInts, texts, tuples, lists -/
def pln : D → Bool
  | .tup xs => plns xs
  | .lst xs => plns xs
  | .dct _ _ => false
  | .set _ => false
  | .ref _ => false
  | .frz _ => false
  | _ => true
def plns : List D → Bool
  | [] => true
  | x :: xs => pln x && plns xs
end
mutual
/-- Python's == on plain data -/
def eqD : D → D → Bool
  | .non, .non => true
  | .bl a, .bl b => a == b
  | .bl a, .int j => (if a then 1 else 0) == j
  | .int i, .bl b => i == (if b then 1 else 0)
  | .int i, .int j => i == j
  | .str x, .str y => x == y
  | .lst xs, .lst ys => eqDs xs ys
  | .tup xs, .tup ys => eqDs xs ys
  | _, _ => false
def eqDs : List D → List D → Bool
  | [], [] => true
  | x :: xs, y :: ys => eqD x y && eqDs xs ys
  | _, _ => false
end
/-- a list cell read as its value -/
def see (st : St) : D → D
  | .ref n => match st[n]? with
    | some (.lst xs) => .lst xs
    | some (.dct ks vs) => .dct ks vs
    | _ => .ref n
  | d => d
def tru (st : St) (d : D) : Option Bool := match see st d with
  | .non => some false
  | .bl b => some b
  | .int i => some (i != 0)
  | .str x => if x.length ≤ big then some ((x.length : Int) != 0) else none
  | .tup xs => some (!xs.isEmpty)
  | .lst xs => some (!xs.isEmpty)
  | _ => none
def eqO (st : St) (x y : D) : Option Bool :=
  if (pln (see st x) && pln (see st y)) && decide (min (dep (see st x)) (dep (see st y)) ≤ 100) then some (eqD (see st x) (see st y)) else none

/-! ### operators -/
def slen (x : Str) : Nat := x.length
def addD (st : St) (x y : D) : Option D := match see st x, see st y with
  | .int i, .int j => some (.int (i + j))
  | .str a, .str b => if a.length + b.length ≤ big then some (.str (a ++ b)) else none
  | .tup a, .tup b => if a.length + b.length ≤ big then some (.tup (a ++ b)) else none
  | .lst a, .lst b => if a.length + b.length ≤ big then some (.lst (a ++ b)) else none
  | _, _ => none
def subD (st : St) (x y : D) : Option D := match x, y with
  | .int i, .int j => some (.int (i - j))
  | _, _ => none
def mulD (st : St) (x y : D) : Option D := match see st x, y with
  | .int i, .int j => if (decide (-(2 ^ 64) < i) && decide (i < 2 ^ 64)) || (decide (-(2 ^ 64) < j) && decide (j < 2 ^ 64)) then some (.int (i * j)) else none
  | .tup a, .int j => if decide (0 ≤ j) && decide (j ≤ 1000) && decide (a.length ≤ 1000) then some (.tup (List.replicate j.toNat a).flatten) else none
  | .lst a, .int j => if decide (0 ≤ j) && decide (j ≤ 1000) && decide (a.length ≤ 1000) then some (.lst (List.replicate j.toNat a).flatten) else none
  | _, _ => none
def modD (st : St) (x y : D) : Option D := match x, y with
  | .int i, .int j => if 0 < j then some (.int (i % j)) else none
  | _, _ => none
def fdivD (st : St) (x y : D) : Option D := match x, y with
  | .int i, .int j => if decide (0 < j) && decide (j < 2 ^ 64) then some (.int (i / j)) else none
  | _, _ => none
def powD (st : St) (x y : D) : Option D := match x, y with
  | .int i, .int j => if decide (0 ≤ i) && decide (i ≤ 10) && decide (0 ≤ j) && decide (j ≤ 20) then some (.int (i ^ j.toNat)) else none
  | _, _ => none
def bD (o : Option Bool) : Option D := o.map D.bl
def eqB (st : St) (x y : D) : Option D := bD (eqO st x y)
def neB (st : St) (x y : D) : Option D := bD ((eqO st x y).map not)
def ltB (st : St) (x y : D) : Option D := match x, y with
  | .int i, .int j => some (.bl (decide (i < j)))
  | _, _ => none
def leB (st : St) (x y : D) : Option D := match x, y with
  | .int i, .int j => some (.bl (decide (i ≤ j)))
  | _, _ => none
def gtB (st : St) (x y : D) : Option D := match x, y with
  | .int i, .int j => some (.bl (decide (j < i)))
  | _, _ => none
def geB (st : St) (x y : D) : Option D := match x, y with
  | .int i, .int j => some (.bl (decide (j ≤ i)))
  | _, _ => none
def isNon : D → Bool
  | .non => true
  | _ => false
/-- is None, is True, is False -/
def isB (st : St) (x y : D) : Option D := match x, y with
  | x, .non => some (.bl (isNon x))
  | .bl c, .bl b => some (.bl (decide (c = b)))
  | _, _ => none
def isnB (st : St) (x y : D) : Option D := match x, y with
  | x, .non => some (.bl (!isNon x))
  | .bl c, .bl b => some (.bl (!decide (c = b)))
  | _, _ => none
/-- a key that a dict may have here: a text or an int -/
def keyish : D → Bool
  | .int _ => true
  | .str _ => true
  | _ => false
def look : List D → List D → D → Option D
  | k :: ks, v :: vs, x => if eqD k x then some v else look ks vs x
  | _, _, _ => none
def inO (st : St) (x y : D) : Option Bool := match see st y with
  | .tup ys => if (pln (see st x) && plns ys) && decide (min (dep (see st x)) (deps ys) ≤ 100) then some (ys.any fun z => eqD z (see st x)) else none
  | .lst ys => if (pln (see st x) && plns ys) && decide (min (dep (see st x)) (deps ys) ≤ 100) then some (ys.any fun z => eqD z (see st x)) else none
  | .str z => match x with
    | .str a => match a.cps.toList with
      | [c] => some (decide (c ∈ z.cps.toList))
      | _ => none
    | _ => none
  | .dct ks vs => if keyish x then some (look ks vs x).isSome else none
  | _ => none
def inB (st : St) (x y : D) : Option D := bD (inO st x y)
def ninB (st : St) (x y : D) : Option D := bD ((inO st x y).map not)
def negD (st : St) (x : D) : Option D := match x with
  | .int i => some (.int (-i))
  | _ => none

/-! ### subscripts -/
def idxD (st : St) (x y : D) : Option D := match see st x, y with
  | .tup xs, .int i => L2.atI xs i
  | .lst xs, .int i => L2.atI xs i
  | .frz ns, .int i => (L2.atI ns i).map D.int
  | .str z, .int i => if z.length ≤ big then (L2.atI z.cps.toList i).map fun c => .str ⟨#[c]⟩ else none
  | .dct ks vs, k => if keyish k then look ks vs k else none
  | _, _ => none
def cut {α : Type} (xs : List α) (lo hi : Option Int) : List α := (xs.drop (HT.sIx xs.length 0 lo)).take (HT.sIx xs.length xs.length hi - HT.sIx xs.length 0 lo)
def sliceD (st : St) (x : D) (lo hi : Option Int) : Option D := match see st x with
  | .tup xs => some (.tup (cut xs lo hi))
  | .lst xs => some (.lst (cut xs lo hi))
  | .str z => if z.length ≤ big then some (.str ⟨(cut z.cps.toList lo hi).toArray⟩) else none
  | _ => none
def revD (st : St) (x : D) : Option D := match see st x with
  | .tup xs => some (.tup xs.reverse)
  | .lst xs => some (.lst xs.reverse)
  | _ => none

/-! ### built-in functions -/
def lenD (st : St) (x : D) : Option D := match see st x with
  | .tup xs => some (.int xs.length)
  | .lst xs => some (.int xs.length)
  | .frz ns => some (.int ns.length)
  | .str z => if z.length ≤ big then some (.int z.length) else none
  | .set xs => some (.int xs.length)
  | .dct ks _ => some (.int ks.length)
  | _ => none
def asBools : List D → Option (List Bool)
  | [] => some []
  | .bl b :: xs => (asBools xs).map (b :: ·)
  | _ :: _ => none
def asInts : List D → Option (List Int)
  | [] => some []
  | .int i :: xs => (asInts xs).map (i :: ·)
  | _ :: _ => none
def asStrs : List D → Option (List Str)
  | [] => some []
  | .str i :: xs => (asStrs xs).map (i :: ·)
  | _ :: _ => none
def allD (st : St) (x : D) : Option D := match see st x with
  | .lst xs => (asBools xs).map fun bs => .bl (bs.all id)
  | _ => none
def anyD (st : St) (x : D) : Option D := match see st x with
  | .lst xs => (asBools xs).map fun bs => .bl (bs.any id)
  | _ => none
def sumD (st : St) (x : D) : Option D := match see st x with
  | .lst xs => (asInts xs).map fun ns => .int ns.sum
  | _ => none
def absD (st : St) (x : D) : Option D := match x with
  | .int i => some (.int (if i < 0 then -i else i))
  | _ => none
def tupleD (st : St) (x : D) : Option D := match see st x with
  | .lst xs => some (.tup xs)
  | .tup xs => some (.tup xs)
  | _ => none
def listD (st : St) (x : D) : Option D := match see st x with
  | .lst xs => some (.lst xs)
  | .tup xs => some (.lst xs)
  | _ => none
/-- the first of each -/
def firsts : List D → List D → List D
  | acc, [] => acc
  | acc, x :: xs => if acc.any (fun z => eqD z x) then firsts acc xs else firsts (acc ++ [x]) xs
def dPut (ks vs : List D) (x y : D) : List D × List D :=
  if ks.any (fun k => eqD k x) then (ks, List.zipWith (fun k v => if eqD k x then y else v) ks vs) else (ks ++ [x], vs ++ [y])
def dPuts : List D → List D → List (D × D) → List D × List D
  | ks, vs, [] => (ks, vs)
  | ks, vs, (x, y) :: r => dPuts (dPut ks vs x y).1 (dPut ks vs x y).2 r
/-- pairs of a key and a value -/
def prs : List D → Option (List (D × D))
  | [] => some []
  | .tup [k, v] :: xs => if keyish k then (prs xs).map ((k, v) :: ·) else none
  | _ :: _ => none
def dictD (st : St) (x : D) : Option D := match see st x with
  | .tup xs => (prs xs).map fun ps => .dct (dPuts [] [] ps).1 (dPuts [] [] ps).2
  | .lst xs => (prs xs).map fun ps => .dct (dPuts [] [] ps).1 (dPuts [] [] ps).2
  | .dct ks vs => some (.dct ks vs)
  | _ => none
/-- isinstance's kinds -/
inductive Kd where
  | str | int | bool | tuple | list | dict
def isiD (k : Kd) (st : St) (x : D) : Option D := match k, see st x with
  | .str, .str _ => some (.bl true)
  | .int, .int _ => some (.bl true)
  | .int, .bl _ => some (.bl true)
  | .bool, .bl _ => some (.bl true)
  | .tuple, .tup _ => some (.bl true)
  | .list, .lst _ => some (.bl true)
  | .list, .frz _ => some (.bl true)
  | .dict, .dct _ _ => some (.bl true)
  | _, .ref _ => none
  | _, .set _ => none
  | _, _ => some (.bl false)

/-! ### what is left behind a call -/
mutual
/-- every cell that is named lies below n -/
def bel (n : Nat) : D → Bool
  | .tup xs => bels n xs
  | .lst xs => bels n xs
  | .dct ks vs => bels n ks && bels n vs
  | .set xs => bels n xs
  | .ref k => decide (k < n)
  | _ => true
def bels (n : Nat) : List D → Bool
  | [] => true
  | x :: xs => bel n x && bels n xs
end
def belC (n : Nat) : Cell → Bool
  | .lst xs => bels n xs
  | .dct ks vs => bels n ks && bels n vs
  | .ins _ fs => bels n (fs.map (·.2))
/-- the elder cells are as they were, or name elder cells alone -/
def Old (st st' : St) : Prop := ∀ (i : Nat) (c : Cell), i < st.length → st'[i]? = some c → st[i]? = some c ∨ belC st.length c = true
def isRef : D → Option Nat
  | .ref k => some k
  | _ => none
open Classical in
/-- cells that nothing names any more are dropped -/
noncomputable def gc (st : St) (d : D) (st' : St) : R D :=
  if st'.length = st.length then .ok d st'
  else if st.length ≤ st'.length ∧ Old st st' then
    (if bel st.length d = true then .ok d (st'.take st.length)
    else match (isRef d).bind (st'[·]?) with
      | some c => if belC st.length c = true then .ok (.ref st.length) (st'.take st.length ++ [c]) else .ok d st'
      | none => .ok d st')
  else .ok d st'
open Classical in
/-- a list or dict that a call hands back, from now on a value -/
noncomputable def ice (st : St) (r : R D) : R D := match r with
  | .ok (.ref k) st' => if k = st.length ∧ st'.length = st.length + 1 ∧ Old st st' then
      (match st'[k]? with
      | some (.lst xs) => if bels k xs = true then .ok (.lst xs) (st'.take k) else .ok (.ref k) st'
      | some (.dct ks vs) => if (bels k ks && bels k vs) = true then .ok (.dct ks vs) (st'.take k) else .ok (.ref k) st'
      | _ => .ok (.ref k) st')
    else .ok (.ref k) st'
  | r => r

/-! ### expressions -/
abbrev Call := Str → List D → St → R D
abbrev ME := Call → Env → St → R D
abbrev MA := Call → Env → St → R (List D)
abbrev MT := Call → Env → St → R Bool
abbrev MS := Call → Env → St → RS
abbrev MG := D → Env → Option Env
abbrev MI := Call → Env → St → R (List D × Option Nat)
def mVar (i : Nat) : ME := fun _ env st => match env[i]? with
  | some (some d) => .ok d st
  | _ => .no
def mCst (d : D) : ME := fun _ _ st => .ok d st
def mArgs : List ME → MA
  | [] => fun _ _ st => .ok [] st
  | m :: ms => fun c env st => (m c env st).bind fun d st1 => (mArgs ms c env st1).bind fun ds st2 => .ok (d :: ds) st2
def mTup (ms : List ME) : ME := fun c env st => (mArgs ms c env st).bind fun ds st1 => .ok (.tup ds) st1
def mLst (ms : List ME) : ME := fun c env st => (mArgs ms c env st).bind fun ds st1 => .ok (.lst ds) st1
/-- a list that will be changed -/
def mLstM (ms : List ME) : ME := fun c env st => (mArgs ms c env st).bind fun ds st1 => .ok (.ref st1.length) (st1 ++ [.lst ds])
def mOp2 (f : St → D → D → Option D) (a b : ME) : ME := fun c env st => (a c env st).bind fun x st1 => (b c env st1).bind fun y st2 => R.of (f st2 x y) st2
def mOp1 (f : St → D → Option D) (a : ME) : ME := fun c env st => (a c env st).bind fun x st1 => R.of (f st1 x) st1
def mChain (f g : St → D → D → Option D) (a b e : ME) : ME := fun c env st => (a c env st).bind fun x st1 => (b c env st1).bind fun y st2 => match f st2 x y with
  | some (.bl true) => (e c env st2).bind fun z st3 => R.of (g st3 y z) st3
  | some (.bl false) => .ok (.bl false) st2
  | _ => .no
def mAnd (a b : ME) : ME := fun c env st => (a c env st).bind fun x st1 => match tru st1 x with
  | some true => b c env st1
  | some false => .ok x st1
  | none => .no
def mOr (a b : ME) : ME := fun c env st => (a c env st).bind fun x st1 => match tru st1 x with
  | some true => .ok x st1
  | some false => b c env st1
  | none => .no
def mNot (a : ME) : ME := fun c env st => (a c env st).bind fun x st1 => R.of ((tru st1 x).map fun b => .bl (!b)) st1
def tVal (a : ME) : MT := fun c env st => (a c env st).bind fun x st1 => R.of (tru st1 x) st1
def bAnd (a b : MT) : MT := fun c env st => (a c env st).bind fun x st1 => if x = true then b c env st1 else .ok false st1
def bOr (a b : MT) : MT := fun c env st => (a c env st).bind fun x st1 => if x = true then .ok true st1 else b c env st1
def bNot (a : MT) : MT := fun c env st => (a c env st).bind fun x st1 => .ok (!x) st1
def mIf (t : MT) (a b : ME) : ME := fun c env st => (t c env st).bind fun x st1 => if x = true then a c env st1 else b c env st1
noncomputable def mCall (f : Str) (ms : List ME) : ME := fun c env st => (mArgs ms c env st).bind fun ds st1 => ice st1 (c f ds st1)
/-- .. what comes back will be changed -/
def mCallM (f : Str) (ms : List ME) : ME := fun c env st => (mArgs ms c env st).bind fun ds st1 => c f ds st1
/-- a bound of a slice -/
def optI (o : Option ME) : Call → Env → St → R (Option Int) := fun c env st => match o with
  | none => .ok none st
  | some e => (e c env st).bind fun d st1 => match d with
    | .int i => .ok (some i) st1
    | _ => .no
def mSlice (a : ME) (lo hi : Option ME) : ME := fun c env st => (a c env st).bind fun x st1 => (optI lo c env st1).bind fun i st2 => (optI hi c env st2).bind fun j st3 => R.of (sliceD st3 x i j) st3

/-! ### what is walked -/
def itD (st : St) (d : D) : Option (List D × Option Nat) := match d with
  | .tup xs => some (xs, none)
  | .lst xs => some (xs, none)
  | .str z => if z.length ≤ big then some (z.cps.toList.map fun c => .str ⟨#[c]⟩, none) else none
  | .ref n => match st[n]? with
    | some (.lst xs) => some (xs, some n)
    | _ => none
  | _ => none
def iVal (a : ME) : MI := fun c env st => (a c env st).bind fun x st1 => R.of (itD st1 x) st1
def iRange1 (a : ME) : MI := fun c env st => (a c env st).bind fun x st1 => match x with
  | .int n => if decide (-(big : Int) ≤ n) && decide (n ≤ (big : Int)) then .ok ((List.range n.toNat).map fun (k : Nat) => .int k, none) st1 else .no
  | _ => .no
def iRange2 (a b : ME) : MI := fun c env st => (a c env st).bind fun x st1 => (b c env st1).bind fun y st2 => match x, y with
  | .int m, .int n => if decide (-(big : Int) ≤ m) && decide (m ≤ (big : Int)) && decide (-(big : Int) ≤ n) && decide (n ≤ (big : Int)) then .ok ((List.range (n - m).toNat).map fun (k : Nat) => .int (m + k), none) st2 else .no
  | _, _ => .no
def iZip (a b : ME) : MI := fun c env st => (mArgs [a, b] c env st).bind fun ds st1 => match ds with
  | [.tup xs, .tup ys] => .ok (List.zipWith (fun x y => D.tup [x, y]) xs ys, none) st1
  | _ => .no
def gOk (g : Option Nat) (xs : List D) (st : St) : Prop := ∀ n, g = some n → st[n]? = some (.lst xs)
/-- R without what is raised (a comprehension lets nothing out here) -/
def R.calm {α : Type} : R α → R α
  | .er _ _ => .no
  | r => r
open Classical in
noncomputable def compL (c : Call) (gd : Option Nat) (all : List D) (g : MG) (ts : MT) (elt : ME) (env : Env) : List D → St → R (List D)
  | [], st => if gOk gd all st then .ok [] st else .no
  | x :: xs, st => if gOk gd all st then
      (match g x env with
      | none => .no
      | some env1 => (ts c env1 st).calm.bind fun b st1 =>
        if b = true then (elt c env1 st1).calm.bind fun y st2 => (compL c gd all g ts elt env xs st2).bind fun ys st3 => .ok (y :: ys) st3
        else compL c gd all g ts elt env xs st1)
    else .no
/-- the block's own names are forgotten -/
def wipeE (env : Env) : List Nat → Env
  | [] => env
  | v :: vs => (wipeE env vs).set v none
noncomputable def mComp (own : List Nat) (it : MI) (g : MG) (ts : MT) (elt : ME) : ME := fun c env st => (it c env st).bind fun p st1 => (compL c p.2 p.1 g ts elt (wipeE env own) p.1 st1).bind fun ys st2 => .ok (.lst ys) st2
noncomputable def mCompM (own : List Nat) (it : MI) (g : MG) (ts : MT) (elt : ME) : ME := fun c env st => (it c env st).bind fun p st1 => (compL c p.2 p.1 g ts elt (wipeE env own) p.1 st1).bind fun ys st2 => .ok (.ref st2.length) (st2 ++ [.lst ys])
def tYesM : MT := fun _ _ st => .ok true st
def gNm (i : Nat) : MG := fun d env => if i < env.length then some (env.set i (some d)) else none
def gNms : List Nat → List D → Env → Option Env
  | [], [], env => some env
  | i :: is, d :: ds, env => (gNm i d env).bind (gNms is ds)
  | _, _, _ => none
def gTp (is : List Nat) : MG := fun d env => match d with
  | .tup ds => gNms is ds env
  | _ => none

/-! ### statements -/
def RS.bind (r : RS) (k : Env → St → RS) : RS := match r with
  | .nx env st => k env st
  | r => r
def RS.ofR {α : Type} (r : R α) (env : Env) (k : α → St → RS) : RS := match r with
  | .ok a st => k a st
  | .er x st => .er x env st
  | .no => .no
def sSkip : MS := fun _ env st => .nx env st
def sSeq (a b : MS) : MS := fun c env st => (a c env st).bind fun env1 st1 => b c env1 st1
def sExpr (e : ME) : MS := fun c env st => RS.ofR (e c env st) env fun _ st1 => .nx env st1
def sAsg (g : MG) (e : ME) : MS := fun c env st => RS.ofR (e c env st) env fun d st1 => match g d env with
  | some env1 => .nx env1 st1
  | none => .no
/-- o[i] = e -/
def putIx (st : St) (o i d : D) : Option St := match o with
  | .ref n => match st[n]?, i with
    | some (.lst xs), .int k => (L2.ixN xs.length k).map fun j => st.set n (.lst (xs.set j d))
    | some (.dct ks vs), k => if keyish k && decide (ks.length ≤ big) then some (st.set n (.dct (dPut ks vs k d).1 (dPut ks vs k d).2)) else none
    | _, _ => none
  | _ => none
def sPut (o i e : ME) : MS := fun c env st => RS.ofR (e c env st) env fun d st1 => RS.ofR (o c env st1) env fun x st2 => RS.ofR (i c env st2) env fun y st3 => match putIx st3 x y d with
  | some st4 => .nx env st4
  | none => .no
def sRet (e : ME) : MS := fun c env st => RS.ofR (e c env st) env fun d st1 => .rt d st1
def sRetN : MS := fun _ env st => .rt .non st
def sIf (t : MT) (a b : MS) : MS := fun c env st => RS.ofR (t c env st) env fun x st1 => if x = true then a c env st1 else b c env st1
def sBrk : MS := fun _ env st => .bk env st
def sCnt : MS := fun _ env st => .ct env st
open Classical in
noncomputable def forL (c : Call) (gd : Option Nat) (all : List D) (g : MG) (body : MS) : List D → Env → St → RS
  | [], env, st => if gOk gd all st then .nx env st else .no
  | x :: xs, env, st => if gOk gd all st then
      (match g x env with
      | none => .no
      | some env1 => match body c env1 st with
        | .nx env2 st2 => forL c gd all g body xs env2 st2
        | .ct env2 st2 => forL c gd all g body xs env2 st2
        | .bk env2 st2 => .nx env2 st2
        | r => r)
    else .no
noncomputable def sFor (it : MI) (g : MG) (body : MS) : MS := fun c env st => RS.ofR (it c env st) env fun p st1 => forL c p.2 p.1 g body p.1 env st1
def whileN (c : Call) (t : MT) (body : MS) : Nat → Env → St → RS
  | 0, _, _ => .no
  | n + 1, env, st => RS.ofR (t c env st) env fun b st1 => if b = true then
      (match body c env st1 with
        | .nx env2 st2 => whileN c t body n env2 st2
        | .ct env2 st2 => whileN c t body n env2 st2
        | .bk env2 st2 => .nx env2 st2
        | r => r)
    else .nx env st1
def wMost : Nat := 1000000
def sWhile (t : MT) (body : MS) : MS := fun c env st => whileN c t body wMost env st

/-! ### methods of lists -/
/-- what a method gives and leaves -/
abbrev Meth := St → D → List D → Option (D × St)
def mMeth (f : Meth) (o : ME) (ms : List ME) : ME := fun c env st => (o c env st).bind fun x st1 => (mArgs ms c env st1).bind fun ds st2 => match f st2 x ds with
  | some (d, st3) => .ok d st3
  | none => .no
def xAppend : Meth := fun st o ds => match o, ds with
  | .ref n, [d] => match st[n]? with
    | some (.lst xs) => if xs.length < big then some (.non, st.set n (.lst (xs ++ [d]))) else none
    | _ => none
  | _, _ => none
def xExtend : Meth := fun st o ds => match o, ds with
  | .ref n, [d] => match st[n]?, see st d with
    | some (.lst xs), .lst ys => if xs.length + ys.length ≤ big then some (.non, st.set n (.lst (xs ++ ys))) else none
    | _, _ => none
  | _, _ => none

/-! ### functions -/
structure Fn where
  np : Nat
  ns : Nat
  body : MS
abbrev Tab := Str → Option Fn
noncomputable def runFn (c : Call) (f : Fn) (ds : List D) (st : St) : R D :=
  if ds.length = f.np then
    (match f.body c (ds.map some ++ List.replicate (f.ns - f.np) none) st with
    | .nx _ st1 => gc st .non st1
    | .rt d st1 => gc st d st1
    | .er x _ st1 => .er x st1
    | _ => .no)
  else .no
noncomputable def run (T : Tab) : Nat → Call
  | 0 => fun _ _ _ => .no
  | n + 1 => fun f ds st => match T f with
    | some fn => runFn (run T n) fn ds st
    | none => .no
end RP
end
section
set_option Elab.async false
set_option linter.all false
set_option maxRecDepth 100000
/-! What the values and cells are in the hand layer's abstract heap. -/
namespace RP
open PySem L2

/-- the cells' addresses; those that the machine is at work on -/
structure Wd where
  rho : List Addr
  B : List Addr
/-- a list of the written part -/
def KL (K : PySem.W.Frag) (a : Addr) (xs : List V) : Prop :=
  ∃ (o : Obj) (its : Array Value) (n : Nat), K.lookup a = some o ∧ o.cls = .type "list" ∧ o.dict = none ∧ o.data = .seq its n ∧ its.size ≤ sizeLine ∧ Vals xs its.toList
/-- a tuple that is known to the object, or one of the written part -/
def Tp (K : PySem.W.Frag) (H : Hp) (a : Addr) (xs : List V) : Prop := (∃ o, H a = some (.frz o (.tup xs)) ∧ o.dict = none) ∨
  ∃ (o : Obj) (its : Array Value) (n : Nat), K.lookup a = some o ∧ o.cls = .type "tuple" ∧ o.dict = none ∧ o.data = .seq its n ∧ its.size ≤ sizeLine ∧ Vals xs its.toList
theorem Tp.sq {K : PySem.W.Frag} {H : Hp} {a : Addr} {xs : List V} (h : Tp K H a xs) : SqT K H a xs := by
  rcases h with ⟨o, h, _⟩ | ⟨o, its, n, h1, h2, _, h3⟩
  · exact .inl (.inr ⟨o, h⟩)
  · exact .inr ⟨o, its, n, h1, h2, h3⟩

mutual
inductive Rep (K : PySem.W.Frag) (H : Hp) (W : Wd) : V → D → Prop
  | non : Rep K H W .non .non
  | bl (b : Bool) : Rep K H W (.bl b) (.bl b)
  | int (i : Int) : Rep K H W (.int i) (.int i)
  | str (x : Str) : Rep K H W (.str x) (.str x)
  | tup {a : Addr} {xs : List V} {ds : List D} : Tp K H a xs → Reps K H W xs ds → Rep K H W (.ref a) (.tup ds)
  | lst {a : Addr} {xs : List V} {ds : List D} : H a = some (.lst xs) → a ∉ W.rho → a ∉ W.B → Reps K H W xs ds → Rep K H W (.ref a) (.lst ds)
  | dct {a : Addr} {kvs : List (Key × V)} {ks vs : List D} : Rd H a (.dK kvs) → a ∉ W.rho → a ∉ W.B → Reps K H W (kvs.map fun kv => kV kv.1) ks → Reps K H W (kvs.map (·.2)) vs → Rep K H W (.ref a) (.dct ks vs)
  | frz {a : Addr} {ns : List Int} : (∃ o, H a = some (.frz o (.lst (ns.map V.int)))) ∨ KL K a (ns.map V.int) → Rep K H W (.ref a) (.frz ns)
  | ref {a : Addr} {n : Nat} : W.rho[n]? = some a → Rep K H W (.ref a) (.ref n)
inductive Reps (K : PySem.W.Frag) (H : Hp) (W : Wd) : List V → List D → Prop
  | nil : Reps K H W [] []
  | cons {v : V} {vs : List V} {d : D} {ds : List D} : Rep K H W v d → Reps K H W vs ds → Reps K H W (v :: vs) (d :: ds)
end

def CellOk (K : PySem.W.Frag) (H : Hp) (W : Wd) (a : Addr) : Cell → Prop
  | .lst ds => ∃ xs, H a = some (.lst xs) ∧ Reps K H W xs ds
  | .dct ks vs => ∃ kvs : List (Key × V), H a = some (.dK kvs) ∧ Reps K H W (kvs.map fun kv => kV kv.1) ks ∧ Reps K H W (kvs.map (·.2)) vs
  | .ins c fs => ∃ dx fs', H a = some (.ins (He.ga K c) dx fs') ∧ fs'.map (·.1) = fs.map (·.1) ∧ Reps K H W (fs'.map (·.2)) (fs.map (·.2))

structure Sim (K : PySem.W.Frag) (H : Hp) (W : Wd) (st : St) : Prop where
  len : W.rho.length = st.length
  nd : W.rho.Nodup
  bt : ∀ a ∈ W.B, ∃ o, H a = some o
  dis : ∀ a ∈ W.rho, a ∉ W.B
  cell : ∀ (i : Nat) (a : Addr) (c : Cell), W.rho[i]? = some a → st[i]? = some c → CellOk K H W a c

structure Step (H : Hp) (W : Wd) (H' : Hp) (W' : Wd) : Prop where
  pre : ∃ more, W'.rho = W.rho ++ more
  B : ∀ a ∈ W'.B, a ∈ W.B ∨ (H a = none ∧ a ∉ W.rho)
  sub : ∀ a ∈ W.B, a ∈ W'.B
  keep : ∀ a o, H a = some o → a ∉ W.rho → H' a = some o ∧ a ∉ W'.rho
theorem Step.refl (H : Hp) (W : Wd) : Step H W H W := ⟨⟨[], by simp⟩, fun _ h => .inl h, fun _ h => h, fun a o h n => ⟨h, n⟩⟩
theorem Step.trans {H H1 H2 : Hp} {W W1 W2 : Wd} (a : Step H W H1 W1) (b : Step H1 W1 H2 W2) : Step H W H2 W2 := by
  have hr : ∀ c, c ∉ W1.rho → c ∉ W.rho := fun c h hc => by
    obtain ⟨m, e⟩ := a.pre
    exact h (by rw [e]; exact List.mem_append_left _ hc)
  refine ⟨?_, fun c hc => ?_, fun c hc => b.sub c (a.sub c hc), fun c o h n => ?_⟩
  · obtain ⟨m, e⟩ := a.pre
    obtain ⟨m', e'⟩ := b.pre
    exact ⟨m ++ m', by rw [e', e, List.append_assoc]⟩
  · rcases b.B c hc with h | ⟨h, n⟩
    · exact a.B c h
    · refine .inr ⟨?_, hr c n⟩
      cases q : H c with
      | none => rfl
      | some o =>
        rw [(a.keep c o q (hr c n)).1] at h
        cases h
  · obtain ⟨h1, n1⟩ := a.keep c o h n
    exact b.keep c o h1 n1
theorem CellOk.obj {K : PySem.W.Frag} {H : Hp} {W : Wd} {a : Addr} {c : Cell} (h : CellOk K H W a c) : ∃ o, H a = some o ∧ Mut (some o) := by
  cases c with
  | lst ds => obtain ⟨xs, h, _⟩ := h; exact ⟨_, h, trivial⟩
  | dct ks vs => obtain ⟨xs, h, _⟩ := h; exact ⟨_, h, trivial⟩
  | ins c fs => obtain ⟨dx, xs, h, _⟩ := h; exact ⟨_, h, trivial⟩
section
variable {K : PySem.W.Frag} {H H' : Hp} {W W' : Wd} {st : St}
theorem Sim.at (S : Sim K H W st) {a : Addr} (ha : a ∈ W.rho) : ∃ (i : Nat) (c : Cell), W.rho[i]? = some a ∧ st[i]? = some c ∧ CellOk K H W a c := by
  obtain ⟨i, hi, e⟩ := List.getElem_of_mem ha
  have h1 : W.rho[i]? = some a := by rw [List.getElem?_eq_getElem hi, e]
  have hi2 : i < st.length := by rw [← S.len]; exact hi
  have h2 : st[i]? = some (st[i]) := List.getElem?_eq_getElem hi2
  exact ⟨i, _, h1, h2, S.cell i a _ h1 h2⟩
theorem Sim.obj (S : Sim K H W st) {a : Addr} (ha : a ∈ W.rho) : ∃ o, H a = some o ∧ Mut (some o) := by
  obtain ⟨_, _, _, _, h⟩ := S.at ha
  exact h.obj
/-- what may not be written is no cell -/
theorem Sim.notin (S : Sim K H W st) {a : Addr} {o : HO} (h : H a = some o) (hm : ¬ Mut (some o)) : a ∉ W.rho := fun ha => by
  obtain ⟨o', h', m⟩ := S.obj ha
  rw [h] at h'; cases h'
  exact hm m
theorem Sim.fresh (S : Sim K H W st) {a : Addr} (h : H a = none) : a ∉ W.rho := fun ha => by
  obtain ⟨o', h', m⟩ := S.obj ha
  rw [h] at h'; cases h'
theorem Sim.freshB (S : Sim K H W st) {a : Addr} (h : H a = none) : a ∉ W.B := fun ha => by
  obtain ⟨o', h'⟩ := S.bt a ha
  rw [h] at h'; cases h'
theorem Rd.step (S : Sim K H W st) (T : Step H W H' W') {a : Addr} {u : HO} (h : Rd H a u) (hn : a ∉ W.rho) : Rd H' a u := by
  rcases h with h | ⟨o, h⟩
  · exact .inl (T.keep _ _ h hn).1
  · exact .inr ⟨o, (T.keep _ _ h hn).1⟩
theorem Tp.step (S : Sim K H W st) (T : Step H W H' W') {a : Addr} {xs : List V} (h : Tp K H a xs) : Tp K H' a xs := by
  rcases h with ⟨o, h, d⟩ | h
  · exact .inl ⟨o, (T.keep _ _ h (S.notin h (fun z => z))).1, d⟩
  · exact .inr h
theorem Step.rho (T : Step H W H' W') {n : Nat} {a : Addr} (h : W.rho[n]? = some a) : W'.rho[n]? = some a := by
  obtain ⟨m, e⟩ := T.pre
  rw [e, List.getElem?_append_left (List.getElem?_eq_some_iff.mp h).1]
  exact h
mutual
theorem Rep.step (S : Sim K H W st) (T : Step H W H' W') : ∀ {v : V} (d : D), Rep K H W v d → Rep K H' W' v d
  | _, .non, .non => .non
  | _, .bl b, .bl _ => .bl b
  | _, .int i, .int _ => .int i
  | _, .str x, .str _ => .str x
  | _, .tup ds, .tup h r => .tup (Tp.step S T h) (Reps.step S T ds r)
  | _, .lst ds, .lst h n1 n2 r => .lst (T.keep _ _ h n1).1 (T.keep _ _ h n1).2 (fun z => by
      rcases T.B _ z with z | ⟨z, _⟩
      · exact n2 z
      · rw [h] at z; cases z) (Reps.step S T ds r)
  | _, .dct ks vs, .dct h n1 n2 r1 r2 => .dct (Rd.step S T h n1) (by
      rcases h with h | ⟨o, h⟩
      · exact (T.keep _ _ h n1).2
      · exact (T.keep _ _ h n1).2) (fun z => by
      rcases T.B _ z with z | ⟨z, _⟩
      · exact n2 z
      · rcases h with h | ⟨o, h⟩
        · rw [h] at z; cases z
        · rw [h] at z; cases z) (Reps.step S T ks r1) (Reps.step S T vs r2)
  | _, .frz ns, .frz h => .frz (by
      rcases h with ⟨o, h⟩ | h
      · exact .inl ⟨o, (T.keep _ _ h (S.notin h (fun z => z))).1⟩
      · exact .inr h)
  | _, .ref n, .ref h => .ref (T.rho h)
theorem Reps.step (S : Sim K H W st) (T : Step H W H' W') : ∀ {vs : List V} (ds : List D), Reps K H W vs ds → Reps K H' W' vs ds
  | _, [], .nil => .nil
  | _, d :: ds, .cons h r => .cons (Rep.step S T d h) (Reps.step S T ds r)
end
theorem CellOk.step (S : Sim K H W st) (T : Step H W H' W') {a : Addr} {c : Cell} (e : H' a = H a) (h : CellOk K H W a c) : CellOk K H' W' a c := by
  cases c with
  | lst ds => obtain ⟨xs, h, r⟩ := h; exact ⟨xs, e.trans h, r.step S T⟩
  | dct ks vs => obtain ⟨xs, h, r, r2⟩ := h; exact ⟨xs, e.trans h, r.step S T, r2.step S T⟩
  | ins c fs => obtain ⟨dx, xs, h, q, r⟩ := h; exact ⟨dx, xs, e.trans h, q, r.step S T⟩

/-! ### the ways that a state goes on -/
/-- an object that no cell is -/
theorem Step.temp (S : Sim K H W st) {p : Addr} {o : HO} (h : H p = none) : Step H W (upd H p o) W :=
  ⟨⟨[], by simp⟩, fun _ h => .inl h, fun _ h => h, fun a u e n => ⟨by rw [upd_ne (ne_of_none e h)]; exact e, n⟩⟩
theorem Sim.temp (S : Sim K H W st) {p : Addr} {o : HO} (h : H p = none) : Sim K (upd H p o) W st := by
  refine ⟨S.len, S.nd, fun a ha => ?_, S.dis, fun i a c h1 h2 => ?_⟩
  · obtain ⟨u, e⟩ := S.bt a ha
    exact ⟨u, by rw [upd_ne (ne_of_none e h)]; exact e⟩
  · have q := S.cell i a c h1 h2
    obtain ⟨u, e, _⟩ := q.obj
    exact q.step S (Step.temp S h) (by rw [upd_ne (ne_of_none e h)])
/-- a new cell -/
theorem Step.cell (S : Sim K H W st) {p : Addr} {o : HO} (h : H p = none) : Step H W (upd H p o) ⟨W.rho ++ [p], W.B⟩ := by
  refine ⟨⟨[p], rfl⟩, fun _ h => .inl h, fun _ h => h, fun a u e n => ⟨by rw [upd_ne (ne_of_none e h)]; exact e, fun hm => ?_⟩⟩
  rcases List.mem_append.mp hm with z | z
  · exact n z
  · exact ne_of_none e h (by simpa using z)
theorem Sim.newcell (S : Sim K H W st) {p : Addr} {o : HO} {c : Cell} (h : H p = none) (hc : CellOk K (upd H p o) ⟨W.rho ++ [p], W.B⟩ p c) : Sim K (upd H p o) ⟨W.rho ++ [p], W.B⟩ (st ++ [c]) := by
  have hf := S.fresh h
  refine ⟨by simp [S.len], ?_, fun a ha => ?_, fun a ha => ?_, fun i a c' h1 h2 => ?_⟩
  · show (W.rho ++ [p]).Nodup
    rw [List.nodup_append]
    refine ⟨S.nd, by simp, fun a ha b hb => ?_⟩
    have e : b = p := by simpa using hb
    subst e
    intro z; subst z; exact hf ha
  · obtain ⟨u, e⟩ := S.bt a ha
    exact ⟨u, by rw [upd_ne (ne_of_none e h)]; exact e⟩
  · rcases List.mem_append.mp ha with z | z
    · exact S.dis a z
    · have e : a = p := by simpa using z
      subst e
      exact S.freshB h
  · by_cases hi : i < W.rho.length
    · have h1' : W.rho[i]? = some a := by
        have : (W.rho ++ [p])[i]? = some a := h1
        rw [List.getElem?_append_left hi] at this; exact this
      have h2' : st[i]? = some c' := by rw [List.getElem?_append_left (by rw [← S.len]; exact hi)] at h2; exact h2
      have q := S.cell i a c' h1' h2'
      obtain ⟨u, e, _⟩ := q.obj
      exact q.step S (Step.cell S h) (by rw [upd_ne (ne_of_none e h)])
    · have hi2 : i = W.rho.length := by
        have := (List.getElem?_eq_some_iff.mp h1).1
        simp at this; omega
      subst hi2
      have e1 : p = a := by
        have : (W.rho ++ [p])[W.rho.length]? = some a := h1
        simpa using this
      have e2 : c = c' := by rw [S.len] at h2; simpa using h2
      subst e1 e2
      exact hc
/-- a cell written -/
theorem Step.write (S : Sim K H W st) {i : Nat} {a : Addr} {o : HO} (h : W.rho[i]? = some a) : Step H W (upd H a o) W :=
  ⟨⟨[], by simp⟩, fun _ h => .inl h, fun _ h => h, fun b u e n => ⟨by
    have hne : b ≠ a := fun z => n (by rw [z]; exact List.mem_of_getElem? h)
    rw [upd_ne hne]; exact e, n⟩⟩
theorem Sim.write (S : Sim K H W st) {i : Nat} {a : Addr} {o : HO} {c : Cell} (h : W.rho[i]? = some a) (hc : CellOk K (upd H a o) W a c) : Sim K (upd H a o) W (st.set i c) := by
  refine ⟨by simp [S.len], S.nd, fun b hb => ?_, S.dis, fun j b c' h1 h2 => ?_⟩
  · obtain ⟨u, e⟩ := S.bt b hb
    refine ⟨u, ?_⟩
    have hne : b ≠ a := fun z => S.dis a (List.mem_of_getElem? h) (by rw [← z]; exact hb)
    rw [upd_ne hne]; exact e
  · by_cases hj : j = i
    · subst hj
      have e1 : a = b := by rw [h] at h1; exact Option.some.inj h1
      subst e1
      rw [List.getElem?_set_self (by rw [← S.len]; exact (List.getElem?_eq_some_iff.mp h).1)] at h2
      cases h2
      exact hc
    · rw [List.getElem?_set_ne (Ne.symm hj)] at h2
      have q := S.cell j b c' h1 h2
      refine q.step S (Step.write S h) ?_
      rw [upd_ne (fun z => hj ?_)]
      subst z
      obtain ⟨l1, e1⟩ := List.getElem?_eq_some_iff.mp h
      obtain ⟨l2, e2⟩ := List.getElem?_eq_some_iff.mp h1
      exact (List.getElem_inj S.nd).mp (e2.trans e1.symm)
/-- a new object that the machine is at work on -/
theorem Step.busy (S : Sim K H W st) {p : Addr} {o : HO} (h : H p = none) : Step H W (upd H p o) ⟨W.rho, p :: W.B⟩ :=
  ⟨⟨[], by simp⟩, fun a ha => by
    rcases List.mem_cons.mp ha with z | z
    · subst z; exact .inr ⟨h, S.fresh h⟩
    · exact .inl z, fun a ha => List.mem_cons_of_mem _ ha, fun a u e n => ⟨by rw [upd_ne (ne_of_none e h)]; exact e, n⟩⟩
theorem Sim.busy (S : Sim K H W st) {p : Addr} {o : HO} (h : H p = none) : Sim K (upd H p o) ⟨W.rho, p :: W.B⟩ st := by
  refine ⟨S.len, S.nd, fun a ha => ?_, fun a ha hb => ?_, fun i a c h1 h2 => ?_⟩
  · rcases List.mem_cons.mp ha with z | z
    · subst z; exact ⟨o, upd_same⟩
    · obtain ⟨u, e⟩ := S.bt a z
      exact ⟨u, by rw [upd_ne (ne_of_none e h)]; exact e⟩
  · rcases List.mem_cons.mp hb with z | z
    · subst z; exact S.fresh h ha
    · exact S.dis a ha z
  · have q := S.cell i a c h1 h2
    obtain ⟨u, e, _⟩ := q.obj
    exact q.step S (Step.busy S h) (by rw [upd_ne (ne_of_none e h)])
mutual
/-- fewer that are busy -/
theorem Rep.unB {rho B B' : List Addr} (hb : ∀ a ∈ B', a ∈ B) : ∀ {v : V} (d : D), Rep K H ⟨rho, B⟩ v d → Rep K H ⟨rho, B'⟩ v d
  | _, .non, .non => .non
  | _, .bl b, .bl _ => .bl b
  | _, .int i, .int _ => .int i
  | _, .str x, .str _ => .str x
  | _, .tup ds, .tup h r => .tup h (Reps.unB hb ds r)
  | _, .lst ds, .lst h n1 n2 r => .lst h n1 (fun z => n2 (hb _ z)) (Reps.unB hb ds r)
  | _, .dct ks vs, .dct h n1 n2 r1 r2 => .dct h n1 (fun z => n2 (hb _ z)) (Reps.unB hb ks r1) (Reps.unB hb vs r2)
  | _, .frz ns, .frz h => .frz h
  | _, .ref n, .ref h => .ref h
theorem Reps.unB {rho B B' : List Addr} (hb : ∀ a ∈ B', a ∈ B) : ∀ {vs : List V} (ds : List D), Reps K H ⟨rho, B⟩ vs ds → Reps K H ⟨rho, B'⟩ vs ds
  | _, [], .nil => .nil
  | _, d :: ds, .cons h r => .cons (Rep.unB hb d h) (Reps.unB hb ds r)
end
theorem Sim.unB {rho B B' : List Addr} (hb : ∀ a ∈ B', a ∈ B) (S : Sim K H ⟨rho, B⟩ st) : Sim K H ⟨rho, B'⟩ st := by
  refine ⟨S.len, S.nd, fun a ha => S.bt a (hb a ha), fun a ha hb' => S.dis a ha (hb a hb'), fun i a c h1 h2 => ?_⟩
  have q := S.cell i a c h1 h2
  cases c with
  | lst ds => obtain ⟨xs, h, r⟩ := q; exact ⟨xs, h, r.unB hb⟩
  | dct ks vs => obtain ⟨xs, h, r, r2⟩ := q; exact ⟨xs, h, r.unB hb, r2.unB hb⟩
  | ins c fs => obtain ⟨dx, xs, h, q, r⟩ := q; exact ⟨dx, xs, h, q, r.unB hb⟩
mutual
/-- what is busy is changed -/
theorem Rep.wr {p : Addr} {o u : HO} (hp : p ∈ W.B) (e : H p = some u) (hf : ∀ ob x, u ≠ .frz ob x) : ∀ {v : V} (d : D), Rep K H W v d → Rep K (upd H p o) W v d
  | _, .non, .non => .non
  | _, .bl b, .bl _ => .bl b
  | _, .int i, .int _ => .int i
  | _, .str x, .str _ => .str x
  | _, .tup ds, .tup h r => .tup (by
      rcases h with ⟨ob, h, hd⟩ | h
      · exact .inl ⟨ob, by rw [upd_ne (fun z => by subst z; rw [e] at h; cases h; exact hf _ _ rfl)]; exact h, hd⟩
      · exact .inr h) (Reps.wr hp e hf ds r)
  | _, .lst ds, .lst h n1 n2 r => .lst (by rw [upd_ne (fun z => n2 (by rw [z]; exact hp))]; exact h) n1 n2 (Reps.wr hp e hf ds r)
  | _, .dct ks vs, .dct h n1 n2 r1 r2 => .dct (by
      rcases h with h | ⟨ob, h⟩
      · exact .inl (by rw [upd_ne (fun z => n2 (by rw [z]; exact hp))]; exact h)
      · exact .inr ⟨ob, by rw [upd_ne (fun z => n2 (by rw [z]; exact hp))]; exact h⟩) n1 n2 (Reps.wr hp e hf ks r1) (Reps.wr hp e hf vs r2)
  | _, .frz ns, .frz h => .frz (by
      rcases h with ⟨ob, h⟩ | h
      · exact .inl ⟨ob, by rw [upd_ne (fun z => by subst z; rw [e] at h; cases h; exact hf _ _ rfl)]; exact h⟩
      · exact .inr h)
  | _, .ref n, .ref h => .ref h
theorem Reps.wr {p : Addr} {o u : HO} (hp : p ∈ W.B) (e : H p = some u) (hf : ∀ ob x, u ≠ .frz ob x) : ∀ {vs : List V} (ds : List D), Reps K H W vs ds → Reps K (upd H p o) W vs ds
  | _, [], .nil => .nil
  | _, d :: ds, .cons h r => .cons (Rep.wr hp e hf d h) (Reps.wr hp e hf ds r)
end
theorem Sim.wr (S : Sim K H W st) {p : Addr} {o u : HO} (hp : p ∈ W.B) (e : H p = some u) (hf : ∀ ob x, u ≠ .frz ob x) : Sim K (upd H p o) W st := by
  refine ⟨S.len, S.nd, fun a ha => ?_, S.dis, fun i a c h1 h2 => ?_⟩
  · by_cases h : a = p
    · subst h; exact ⟨o, upd_same⟩
    · obtain ⟨v, q⟩ := S.bt a ha
      exact ⟨v, by rw [upd_ne h]; exact q⟩
  · have q := S.cell i a c h1 h2
    have hne : a ≠ p := fun z => S.dis a (List.mem_of_getElem? h1) (by rw [z]; exact hp)
    cases c with
    | lst ds => obtain ⟨xs, h, r⟩ := q; exact ⟨xs, by rw [upd_ne hne]; exact h, r.wr hp e hf⟩
    | dct ks vs => obtain ⟨xs, h, r, r2⟩ := q; exact ⟨xs, by rw [upd_ne hne]; exact h, r.wr hp e hf, r2.wr hp e hf⟩
    | ins c fs => obtain ⟨dx, xs, h, q, r⟩ := q; exact ⟨dx, xs, by rw [upd_ne hne]; exact h, q, r.wr hp e hf⟩
end

/-! ### lists of values -/
section
variable {K : PySem.W.Frag} {H : Hp} {W : Wd}
theorem Reps.length : ∀ {vs : List V} {ds : List D}, Reps K H W vs ds → vs.length = ds.length
  | _, _, .nil => rfl
  | _, _, .cons _ r => by simp [Reps.length r]
theorem Reps.get : ∀ {vs : List V} {ds : List D} {i : Nat} {d : D}, Reps K H W vs ds → ds[i]? = some d → ∃ v, vs[i]? = some v ∧ Rep K H W v d
  | _, _, _, _, .nil, e => by simp at e
  | _, _, 0, _, .cons h _, e => by simp at e; subst e; exact ⟨_, rfl, h⟩
  | _, _, i + 1, d, .cons _ r, e => by
    obtain ⟨v, h1, h2⟩ := Reps.get (i := i) (d := d) r (by simpa using e)
    exact ⟨v, by simpa using h1, h2⟩
theorem Reps.getV : ∀ {vs : List V} {ds : List D} {i : Nat} {v : V}, Reps K H W vs ds → vs[i]? = some v → ∃ d, ds[i]? = some d ∧ Rep K H W v d
  | _, _, _, _, .nil, e => by simp at e
  | _, _, 0, _, .cons h _, e => by simp at e; subst e; exact ⟨_, rfl, h⟩
  | _, _, i + 1, d, .cons _ r, e => by
    obtain ⟨v, h1, h2⟩ := Reps.getV (i := i) (v := d) r (by simpa using e)
    exact ⟨v, by simpa using h1, h2⟩
theorem Reps.append : ∀ {vs us : List V} {ds es : List D}, Reps K H W vs ds → Reps K H W us es → Reps K H W (vs ++ us) (ds ++ es)
  | _, _, _, _, .nil, s => s
  | _, _, _, _, .cons h r, s => .cons h (Reps.append r s)
theorem Reps.take : ∀ {vs : List V} {ds : List D} (n : Nat), Reps K H W vs ds → Reps K H W (vs.take n) (ds.take n)
  | _, _, 0, _ => .nil
  | _, _, _ + 1, .nil => .nil
  | _, _, n + 1, .cons h r => .cons h (Reps.take n r)
theorem Reps.drop : ∀ {vs : List V} {ds : List D} (n : Nat), Reps K H W vs ds → Reps K H W (vs.drop n) (ds.drop n)
  | _, _, 0, r => r
  | _, _, _ + 1, .nil => .nil
  | _, _, n + 1, .cons _ r => Reps.drop n r
theorem Reps.reverse : ∀ {vs : List V} {ds : List D}, Reps K H W vs ds → Reps K H W vs.reverse ds.reverse
  | _, _, .nil => .nil
  | _, _, .cons h r => by
    rw [List.reverse_cons, List.reverse_cons]
    exact (Reps.reverse r).append (.cons h .nil)
theorem Reps.set {v : V} {d : D} (h : Rep K H W v d) : ∀ {vs : List V} {ds : List D} (i : Nat), Reps K H W vs ds → Reps K H W (vs.set i v) (ds.set i d)
  | _, _, _, .nil => .nil
  | _, _, 0, .cons _ r => .cons h r
  | _, _, i + 1, .cons q r => .cons q (Reps.set h i r)
theorem Reps.replicate {vs : List V} {ds : List D} (h : Reps K H W vs ds) : ∀ n, Reps K H W (List.replicate n vs).flatten (List.replicate n ds).flatten
  | 0 => by simpa using Reps.nil
  | n + 1 => by
    rw [List.replicate_succ, List.replicate_succ, List.flatten_cons, List.flatten_cons]
    exact h.append (Reps.replicate h n)
theorem Reps.asInts : ∀ {vs : List V} {ds : List D} {ns : List Int}, Reps K H W vs ds → asInts ds = some ns → vs = ns.map V.int
  | _, _, _, .nil, e => by cases e; rfl
  | _, d :: ds, ns, .cons h r, e => by
    cases h with
    | int i =>
      unfold RP.asInts at e
      obtain ⟨ms, e1, rfl⟩ := Option.map_eq_some_iff.mp e
      rw [Reps.asInts r e1]; rfl
    | _ => cases e
theorem Reps.asBools : ∀ {vs : List V} {ds : List D} {ns : List Bool}, Reps K H W vs ds → asBools ds = some ns → vs = ns.map V.bl
  | _, _, _, .nil, e => by cases e; rfl
  | _, d :: ds, ns, .cons h r, e => by
    cases h with
    | bl i =>
      unfold RP.asBools at e
      obtain ⟨ms, e1, rfl⟩ := Option.map_eq_some_iff.mp e
      rw [Reps.asBools r e1]; rfl
    | _ => cases e
theorem Reps.asStrs : ∀ {vs : List V} {ds : List D} {ns : List Str}, Reps K H W vs ds → asStrs ds = some ns → vs = ns.map V.str
  | _, _, _, .nil, e => by cases e; rfl
  | _, d :: ds, ns, .cons h r, e => by
    cases h with
    | str i =>
      unfold RP.asStrs at e
      obtain ⟨ms, e1, rfl⟩ := Option.map_eq_some_iff.mp e
      rw [Reps.asStrs r e1]; rfl
    | _ => cases e
end
/-- what see sees -/
inductive Saw (K : PySem.W.Frag) (H : Hp) (W : Wd) : V → D → Prop
  | lst {a : Addr} {xs : List V} {ds : List D} : H a = some (.lst xs) → Reps K H W xs ds → Saw K H W (.ref a) (.lst ds)
  | dct {a : Addr} {kvs : List (Key × V)} {ks vs : List D} : Rd H a (.dK kvs) → Reps K H W (kvs.map fun kv => kV kv.1) ks → Reps K H W (kvs.map (·.2)) vs → Saw K H W (.ref a) (.dct ks vs)
  | rep {v : V} {d : D} : Rep K H W v d → (∀ xs, d ≠ .lst xs) → (∀ ks vs, d ≠ .dct ks vs) → Saw K H W v d
theorem Rep.saw {K : PySem.W.Frag} {H : Hp} {W : Wd} {st : St} (S : Sim K H W st) {v : V} {d : D} (h : Rep K H W v d) : Saw K H W v (see st d) := by
  cases h with
  | lst h n1 n2 r => exact .lst h r
  | dct h n1 n2 r r2 => exact .dct h r r2
  | ref hn =>
    rename_i a n
    cases e : st[n]? with
    | none =>
      have q : see st (.ref n) = .ref n := by simp only [see, e]
      rw [q]
      exact .rep (.ref hn) (fun _ z => nomatch z) (fun _ _ z => nomatch z)
    | some c =>
      have q := S.cell n a c hn e
      cases c with
      | lst ds =>
        obtain ⟨xs, h, r⟩ := q
        have q : see st (.ref n) = .lst ds := by simp only [see, e]
        rw [q]
        exact .lst h r
      | dct ks vs =>
        obtain ⟨kvs, h, r, r2⟩ := q
        have q : see st (.ref n) = .dct ks vs := by simp only [see, e]
        rw [q]
        exact .dct (.inl h) r r2
      | ins c fs =>
        have q : see st (.ref n) = .ref n := by simp only [see, e]
        rw [q]
        exact .rep (.ref hn) (fun _ z => nomatch z) (fun _ _ z => nomatch z)
  | non => exact .rep .non (fun _ z => nomatch z) (fun _ _ z => nomatch z)
  | bl b => exact .rep (.bl b) (fun _ z => nomatch z) (fun _ _ z => nomatch z)
  | int b => exact .rep (.int b) (fun _ z => nomatch z) (fun _ _ z => nomatch z)
  | str b => exact .rep (.str b) (fun _ z => nomatch z) (fun _ _ z => nomatch z)
  | tup h r => exact .rep (.tup h r) (fun _ z => nomatch z) (fun _ _ z => nomatch z)
  | frz h => exact .rep (.frz h) (fun _ z => nomatch z) (fun _ _ z => nomatch z)
end RP
end
section
set_option Elab.async false
set_option linter.all false
set_option maxRecDepth 100000
/-! Equality of plain data; operators by values. -/
namespace RP
open PySem L2 PySem.SeqAt

mutual
inductive Pl (K : PySem.W.Frag) (H : Hp) : V → D → Prop
  | non : Pl K H .non .non
  | bl (b : Bool) : Pl K H (.bl b) (.bl b)
  | int (i : Int) : Pl K H (.int i) (.int i)
  | str (x : Str) : Pl K H (.str x) (.str x)
  | tup {a : Addr} {xs : List V} {ds : List D} : SqT K H a xs → Pls K H xs ds → Pl K H (.ref a) (.tup ds)
  | lst {a : Addr} {xs : List V} {ds : List D} : H a = some (.lst xs) → Pls K H xs ds → Pl K H (.ref a) (.lst ds)
inductive Pls (K : PySem.W.Frag) (H : Hp) : List V → List D → Prop
  | nil : Pls K H [] []
  | cons {v : V} {vs : List V} {d : D} {ds : List D} : Pl K H v d → Pls K H vs ds → Pls K H (v :: vs) (d :: ds)
end
section
variable {K : PySem.W.Frag} {H : Hp} {W : Wd}
mutual
theorem Rep.pl : ∀ {v : V} (d : D), Rep K H W v d → pln d = true → Pl K H v d
  | _, .non, .non, _ => .non
  | _, .bl b, .bl _, _ => .bl b
  | _, .int b, .int _, _ => .int b
  | _, .str b, .str _, _ => .str b
  | _, .tup ds, .tup h r, e => .tup h.sq (Reps.pl ds r (by simpa [pln] using e))
  | _, .lst ds, .lst h _ _ r, e => .lst h (Reps.pl ds r (by simpa [pln] using e))
  | _, .dct _ _, _, e => by simp [pln] at e
  | _, .set _, _, e => by simp [pln] at e
  | _, .frz _, _, e => by simp [pln] at e
  | _, .ref _, _, e => by simp [pln] at e
theorem Reps.pl : ∀ {vs : List V} (ds : List D), Reps K H W vs ds → plns ds = true → Pls K H vs ds
  | _, [], .nil, _ => .nil
  | _, d :: ds, .cons h r, e => by
    have e' : pln d = true ∧ plns ds = true := by simpa [plns] using e
    exact .cons (Rep.pl d h e'.1) (Reps.pl ds r e'.2)
end
theorem Saw.pl {v : V} {d : D} (h : Saw K H W v d) (e : pln d = true) : Pl K H v d := by
  cases h with
  | lst h r => exact .lst h (r.pl _ (by simpa [pln] using e))
  | dct h r r2 => simp [pln] at e
  | rep h _ _ => exact h.pl _ e
theorem Pls.length : ∀ {vs : List V} {ds : List D}, Pls K H vs ds → vs.length = ds.length
  | _, _, .nil => rfl
  | _, _, .cons _ r => by simp [Pls.length r]
mutual
theorem eqD_refl : ∀ d : D, pln d = true → eqD d d = true
  | .non, _ => by simp [eqD]
  | .bl _, _ => by simp [eqD]
  | .int _, _ => by simp [eqD]
  | .str _, _ => by simp [eqD]
  | .tup xs, h => by simpa [eqD] using eqDs_refl xs (by simpa [pln] using h)
  | .lst xs, h => by simpa [eqD] using eqDs_refl xs (by simpa [pln] using h)
  | .dct _ _, e => by simp [pln] at e
  | .set _, e => by simp [pln] at e
  | .frz _, e => by simp [pln] at e
  | .ref _, e => by simp [pln] at e
theorem eqDs_refl : ∀ ds : List D, plns ds = true → eqDs ds ds = true
  | [], _ => by simp [eqDs]
  | d :: ds, h => by
    have e' : pln d = true ∧ plns ds = true := by simpa [plns] using h
    simp [eqDs, eqD_refl d e'.1, eqDs_refl ds e'.2]
end
mutual
theorem Pl.plain : ∀ {v : V} (d : D), Pl K H v d → pln d = true
  | _, .non, _ => rfl
  | _, .bl b, _ => rfl
  | _, .int b, _ => rfl
  | _, .str b, _ => rfl
  | _, .tup ds, .tup h r => by simpa [pln] using Pls.plain ds r
  | _, .lst ds, .lst h r => by simpa [pln] using Pls.plain ds r
theorem Pls.plain : ∀ {vs : List V} (ds : List D), Pls K H vs ds → plns ds = true
  | _, [], .nil => rfl
  | _, d :: ds, .cons h r => by simp [plns, Pl.plain d h, Pls.plain ds r]
end
end
section
variable {X : Cx} {pins : List (Addr × Obj)} {σ : L2.St} {H : Hp} {s : Shared}
theorem lt_ne (I : Inv X pins σ H s) {a : Addr} {xs ys : List V} (h : H a = some (.lst xs)) (h' : SqT X.K H a ys) : False := by
  obtain ⟨its, _, hl, _⟩ := I.list (SqL.of h)
  obtain ⟨its', _, ht, _⟩ := I.tuple h'
  exact ne_of_list_tuple hl.isList ht rfl
mutual
theorem Pl.inj (I : Inv X pins σ H s) : ∀ {v : V} (d e : D), Pl X.K H v d → Pl X.K H v e → d = e
  | _, .non, _, .non, .non => rfl
  | _, .bl _, _, .bl _, .bl _ => rfl
  | _, .int _, _, .int _, .int _ => rfl
  | _, .str _, _, .str _, .str _ => rfl
  | _, .tup ds, _, .tup h r, .tup h' r' => by
    rw [I.tuple_inj h h'] at r
    rw [Pls.inj I _ _ r r']
  | _, .tup ds, _, .tup h r, .lst h' r' => (lt_ne I h' h).elim
  | _, .lst ds, _, .lst h r, .tup h' r' => (lt_ne I h h').elim
  | _, .lst ds, _, .lst h r, .lst h' r' => by
    rw [h] at h'; cases h'
    rw [Pls.inj I _ _ r r']
theorem Pls.inj (I : Inv X pins σ H s) : ∀ {vs : List V} (ds es : List D), Pls X.K H vs ds → Pls X.K H vs es → ds = es
  | _, [], _, .nil, h' => by cases h'; rfl
  | _, d :: ds, _, .cons h r, h' => by
    cases h' with
    | cons h' r' => rw [Pl.inj I d _ h h', Pls.inj I ds _ r r']
end
/-- the place-wise comparison of two lists of values -/
theorem eqDs_at : ∀ (xs ys : List D) , xs.length = ys.length → eqDs xs ys = (List.range xs.length).all fun i => match xs[i]?, ys[i]? with
    | some x, some y => eqD x y
    | _, _ => false
  | [], [], _ => by simp [eqDs]
  | [], _ :: _, h => by simp at h
  | _ :: _, [], h => by simp at h
  | x :: xs, y :: ys, h => by
    have ih := eqDs_at xs ys (by simpa using h)
    rw [eqDs, ih, List.length_cons, List.range_succ_eq_map, List.all_cons, List.all_map]
    rfl
theorem eqDs_len : ∀ (xs ys : List D), xs.length ≠ ys.length → eqDs xs ys = false
  | [], [], h => absurd rfl h
  | [], _ :: _, _ => by simp [eqDs]
  | _ :: _, [], _ => by simp [eqDs]
  | x :: xs, y :: ys, h => by simp [eqDs, eqDs_len xs ys (by simpa using h)]

theorem in1_units (A : Around) : A.in1.units = A.units + 1 := rfl
theorem deps_get : ∀ {xs : List D} {i : Nat} {x : D}, xs[i]? = some x → dep x ≤ deps xs
  | [], _, _, h => by simp at h
  | y :: ys, 0, x, h => by simp at h; subst h; rw [deps]; exact Nat.le_max_left _ _
  | y :: ys, i + 1, x, h => by rw [deps]; exact Nat.le_trans (deps_get (by simpa using h)) (Nat.le_max_right _ _)
theorem Pls.get {K : PySem.W.Frag} : ∀ {vs : List V} {ds : List D} {i : Nat} {v : V}, Pls K H vs ds → vs[i]? = some v → ∃ d, ds[i]? = some d ∧ Pl K H v d
  | _, _, _, _, .nil, e => by simp at e
  | _, _, 0, _, .cons h _, e => by simp at e; subst e; exact ⟨_, rfl, h⟩
  | _, _, i + 1, d, .cons _ r, e => by
    obtain ⟨v, h1, h2⟩ := Pls.get (i := i) (v := d) r (by simpa using e)
    exact ⟨v, by simpa using h1, h2⟩
theorem vals_getV {vs : List V} {us : List Value} (r : Vals vs us) {i : Nat} {u : Value} (h : us[i]? = some u) : ∃ v, vs[i]? = some v ∧ RelV v u := by
  have hl := r.length
  obtain ⟨hi, _⟩ := List.getElem?_eq_some_iff.mp h
  obtain ⟨u', e, q⟩ := r.get (List.getElem?_eq_getElem (show i < vs.length by omega))
  rw [h] at e; cases e
  exact ⟨_, List.getElem?_eq_getElem (show i < vs.length by omega), q⟩
/-- two sequences, item by item -/
theorem seq_all {xs ys : List V} {us ws : List Value} {ds es : List D} {A : Around} (r1 : Vals xs us) (r2 : Vals ys ws) (p1 : Pls X.K H xs ds) (p2 : Pls X.K H ys es)
    (ih : ∀ (x y : D) (v w : V) (u u' : Value), x ∈ ds → y ∈ es → Pl X.K H v x → Pl X.K H w y → RelV v u → RelV w u' → EqAt A s u u' (eqD x y)) :
    ∀ (j : Nat) (h1 : j < us.toArray.size) (h2 : j < ws.toArray.size), EqAt A s us.toArray[j] ws.toArray[j] (match ds[j]?, es[j]? with
    | some x, some y => eqD x y
    | _, _ => false) := by
  intro j h1 h2
  have h1' : j < us.length := by simpa using h1
  have h2' : j < ws.length := by simpa using h2
  obtain ⟨v, e1, q1⟩ := vals_getV r1 (List.getElem?_eq_getElem h1')
  obtain ⟨w, e2, q2⟩ := vals_getV r2 (List.getElem?_eq_getElem h2')
  obtain ⟨d, f1, g1⟩ := p1.get e1
  obtain ⟨d', f2, g2⟩ := p2.get e2
  rw [f1, f2]
  have := ih d d' v w _ _ (List.mem_of_getElem? f1) (List.mem_of_getElem? f2) g1 g2 q1 q2
  simpa using this
theorem plEq (I : Inv X pins σ H s) : ∀ (n : Nat) (A : Around) (x y : D) (v w : V) (u u' : Value), min (dep x) (dep y) ≤ n → A.units + n < cLine → Pl X.K H v x → Pl X.K H w y → RelV v u → RelV w u' → EqAt A s u u' (eqD x y) := by
  intro n
  induction n with
  | zero =>
    intro A x y v w u u' hd hu p q r r'
    have hu0 : A.units < cLine := by omega
    cases p with
    | non =>
      cases r
      cases q with
      | non => cases r'; simpa [eqD] using EqAt.same (A := A) (s := s) Value.none
      | bl b => cases r'; simpa [eqD] using EqAt.none_bool (A := A) (s := s) b
      | int b => obtain ⟨t, rfl⟩ := r'; simpa [eqD] using EqAt.none_int (A := A) (s := s) b t
      | str b => obtain ⟨t, rfl⟩ := r'; simpa [eqD] using EqAt.none_str (A := A) (s := s) b t
      | tup h _ => cases r'; obtain ⟨_, _, ht, _⟩ := I.tuple h; simpa [eqD] using EqAt.none_tuple (A := A) (s := s) ht hu0
      | lst h _ => cases r'; obtain ⟨_, _, ht, _⟩ := I.list (SqL.of h); simpa [eqD] using EqAt.none_list (A := A) (s := s) ht.isList hu0
    | bl a =>
      cases r
      cases q with
      | non => cases r'; simpa [eqD] using EqAt.bool_none (A := A) (s := s) a
      | bl b => cases r'; simpa [eqD] using EqAt.bool_bool (A := A) (s := s) a b
      | int b => obtain ⟨t, rfl⟩ := r'; simpa [eqD] using EqAt.bool_int (A := A) (s := s) a b t
      | str b => obtain ⟨t, rfl⟩ := r'; simpa [eqD] using EqAt.bool_str (A := A) (s := s) a b t
      | tup h _ => cases r'; obtain ⟨_, _, ht, _⟩ := I.tuple h; simpa [eqD] using EqAt.bool_tuple (A := A) (s := s) a ht hu0
      | lst h _ => cases r'; obtain ⟨_, _, ht, _⟩ := I.list (SqL.of h); simpa [eqD] using EqAt.bool_list (A := A) (s := s) a ht.isList hu0
    | int a =>
      obtain ⟨ta, rfl⟩ := r
      cases q with
      | non => cases r'; simpa [eqD] using EqAt.int_none (A := A) (s := s) a ta
      | bl b => cases r'; simpa [eqD] using EqAt.int_bool (A := A) (s := s) a ta b
      | int b => obtain ⟨t, rfl⟩ := r'; simpa [eqD] using EqAt.int_int (A := A) (s := s) a ta b t
      | str b => obtain ⟨t, rfl⟩ := r'; simpa [eqD] using EqAt.int_str (A := A) (s := s) a ta b t
      | tup h _ => cases r'; obtain ⟨_, _, ht, _⟩ := I.tuple h; simpa [eqD] using EqAt.int_tuple (A := A) (s := s) a ta ht hu0
      | lst h _ => cases r'; obtain ⟨_, _, ht, _⟩ := I.list (SqL.of h); simpa [eqD] using EqAt.int_list (A := A) (s := s) a ta ht.isList hu0
    | str a =>
      obtain ⟨ta, rfl⟩ := r
      cases q with
      | non => cases r'; simpa [eqD] using EqAt.str_none (A := A) (s := s) a ta
      | bl b => cases r'; simpa [eqD] using EqAt.str_bool (A := A) (s := s) a ta b
      | int b => obtain ⟨t, rfl⟩ := r'; simpa [eqD] using EqAt.str_int (A := A) (s := s) a ta b t
      | str b => obtain ⟨t, rfl⟩ := r'; simpa [eqD] using EqAt.str_str (A := A) (s := s) a ta b t
      | tup h _ => cases r'; obtain ⟨_, _, ht, _⟩ := I.tuple h; simpa [eqD] using EqAt.str_tuple (A := A) (s := s) a ta ht hu0
      | lst h _ => cases r'; obtain ⟨_, _, ht, _⟩ := I.list (SqL.of h); simpa [eqD] using EqAt.str_list (A := A) (s := s) a ta ht.isList hu0
    | tup h _ =>
      cases r
      obtain ⟨_, _, ht0, _⟩ := I.tuple h
      cases q with
      | non => cases r'; simpa [eqD] using EqAt.tuple_none (A := A) (s := s) ht0 hu0
      | bl b => cases r'; simpa [eqD] using EqAt.tuple_bool (A := A) (s := s) b ht0 hu0
      | int b => obtain ⟨t, rfl⟩ := r'; simpa [eqD] using EqAt.tuple_int (A := A) (s := s) b t ht0 hu0
      | str b => obtain ⟨t, rfl⟩ := r'; simpa [eqD] using EqAt.tuple_str (A := A) (s := s) b t ht0 hu0
      | tup h _ => simp [dep] at hd
      | lst h _ => simp [dep] at hd
    | lst h _ =>
      cases r
      obtain ⟨_, _, ht0, _⟩ := I.list (SqL.of h)
      cases q with
      | non => cases r'; simpa [eqD] using EqAt.list_none (A := A) (s := s) ht0.isList hu0
      | bl b => cases r'; simpa [eqD] using EqAt.list_bool (A := A) (s := s) b ht0.isList hu0
      | int b => obtain ⟨t, rfl⟩ := r'; simpa [eqD] using EqAt.list_int (A := A) (s := s) b t ht0.isList hu0
      | str b => obtain ⟨t, rfl⟩ := r'; simpa [eqD] using EqAt.list_str (A := A) (s := s) b t ht0.isList hu0
      | tup h _ => simp [dep] at hd
      | lst h _ => simp [dep] at hd
  | succ n ih =>
    intro A x y v w u u' hd hu p q r r'
    have hu0 : A.units < cLine := by omega
    by_cases hz : min (dep x) (dep y) ≤ n
    · exact ih A x y v w u u' hz (by omega) p q r r'
    cases p with
    | tup h p1 =>
      rename_i a xs ds
      cases r
      cases q with
      | tup h' p2 =>
        rename_i b ys es
        cases r'
        by_cases hab : a = b
        · subst hab
          have e := Pl.inj I _ _ (.tup h p1) (.tup h' p2)
          rw [← e, eqD_refl _ (Pl.plain _ (.tup h p1))]
          exact EqAt.same _
        · obtain ⟨us, r1, t1, _⟩ := I.tuple h
          obtain ⟨ws, r2, t2, _⟩ := I.tuple h'
          have hA := seq_all (A := A.in1) (s := s) r1 r2 p1 p2 (fun x y v w u u' hx hy p q r r' => ih A.in1 x y v w u u' (by
            obtain ⟨i, hi⟩ := List.getElem?_of_mem hx
            obtain ⟨j, hj⟩ := List.getElem?_of_mem hy
            have h1 := deps_get hi
            have h2 := deps_get hj
            simp only [dep] at hd
            omega) (by rw [in1_units]; omega) p q r r')
          have R := RcAt.tuples (A := A) (s := s) t1 t2 hu0 hA
          refine EqAt.of_refs hab ?_
          have l1 := r1.length
          have l2 := r2.length
          have m1 := p1.length
          have m2 := p2.length
          rw [eqD]
          by_cases hl : ds.length = es.length
          · rw [eqDs_at _ _ hl]
            have e1 : us.toArray.size = ds.length := by simp; omega
            have e2 : ws.toArray.size = ds.length := by simp; omega
            rw [e1, e2] at R
            simpa using R
          · rw [eqDs_len _ _ hl]
            have e3 : (us.toArray.size == ws.toArray.size) = false := by
              rw [beq_eq_false_iff_ne]; simp; omega
            rw [e3] at R
            simpa using R
      | lst h' p2 =>
        cases r'
        obtain ⟨us, r1, t1, _⟩ := I.tuple h
        obtain ⟨ws, r2, t2, _⟩ := I.list (SqL.of h')
        simpa [eqD] using EqAt.tuple_list (A := A) (s := s) t1 t2.isList hu0
      | _ => simp [dep] at hz
    | lst h p1 =>
      rename_i a xs ds
      cases r
      cases q with
      | lst h' p2 =>
        rename_i b ys es
        cases r'
        by_cases hab : a = b
        · subst hab
          have e := Pl.inj I _ _ (.lst h p1) (.lst h' p2)
          rw [← e, eqD_refl _ (Pl.plain _ (.lst h p1))]
          exact EqAt.same _
        · obtain ⟨us, r1, t1, _⟩ := I.list (SqL.of h)
          obtain ⟨ws, r2, t2, _⟩ := I.list (SqL.of h')
          have hA := seq_all (A := A.in1) (s := s) r1 r2 p1 p2 (fun x y v w u u' hx hy p q r r' => ih A.in1 x y v w u u' (by
            obtain ⟨i, hi⟩ := List.getElem?_of_mem hx
            obtain ⟨j, hj⟩ := List.getElem?_of_mem hy
            have h1 := deps_get hi
            have h2 := deps_get hj
            simp only [dep] at hd
            omega) (by rw [in1_units]; omega) p q r r')
          refine EqAt.of_refs hab ?_
          have l1 := r1.length
          have l2 := r2.length
          have m1 := p1.length
          have m2 := p2.length
          rw [eqD]
          by_cases hl : ds.length = es.length
          · have R := RcAt.lists (A := A) (s := s) t1.isList t2.isList (by simp; omega) hu0 hA
            rw [eqDs_at _ _ hl]
            have e1 : us.toArray.size = ds.length := by simp; omega
            rw [e1] at R
            exact R
          · rw [eqDs_len _ _ hl]
            exact RcAt.lists_lengths (A := A) (s := s) t1.isList t2.isList (by simp; omega) hu0
      | tup h' p2 =>
        cases r'
        obtain ⟨us, r1, t1, _⟩ := I.list (SqL.of h)
        obtain ⟨ws, r2, t2, _⟩ := I.tuple h'
        simpa [eqD] using EqAt.list_tuple (A := A) (s := s) t1.isList t2 hu0
      | _ => simp [dep] at hz
    | _ => simp [dep] at hz
theorem plRc (I : Inv X pins σ H s) (A : Around) (x y : D) (v w : V) (u u' : Value) (hd : min (dep x) (dep y) ≤ 100) (hu : A.units + 101 < cLine) (p : Pl X.K H v x) (q : Pl X.K H w y) (r : RelV v u) (r' : RelV w u') : RcAt A s u u' (eqD x y) := by
  have hu0 : A.units < cLine := by omega
  cases p with
  | non =>
    cases r
    cases q with
    | non => cases r'; simpa [eqD] using RcAt.none_none (A := A) (s := s) 
    | bl b => cases r'; simpa [eqD] using RcAt.none_bool (A := A) (s := s) b
    | int b => obtain ⟨t, rfl⟩ := r'; simpa [eqD] using RcAt.none_int (A := A) (s := s) b t
    | str b => obtain ⟨t, rfl⟩ := r'; simpa [eqD] using RcAt.none_str (A := A) (s := s) b t
    | tup h' p2 =>
      rename_i lb ys es
      cases r'
      obtain ⟨ws, r2, t2, _⟩ := I.tuple h'
      simpa [eqD] using RcAt.none_tuple (A := A) (s := s) t2 hu0
    | lst h' p2 =>
      rename_i lb ys es
      cases r'
      obtain ⟨ws, r2, t2, _⟩ := I.list (SqL.of h')
      simpa [eqD] using RcAt.none_list (A := A) (s := s) t2.isList hu0
  | bl a =>
    cases r
    cases q with
    | non => cases r'; simpa [eqD] using RcAt.bool_none (A := A) (s := s) a
    | bl b => cases r'; simpa [eqD] using RcAt.bool_bool (A := A) (s := s) a b
    | int b => obtain ⟨t, rfl⟩ := r'; simpa [eqD] using RcAt.bool_int (A := A) (s := s) a b t
    | str b => obtain ⟨t, rfl⟩ := r'; simpa [eqD] using RcAt.bool_str (A := A) (s := s) a b t
    | tup h' p2 =>
      rename_i lb ys es
      cases r'
      obtain ⟨ws, r2, t2, _⟩ := I.tuple h'
      simpa [eqD] using RcAt.bool_tuple (A := A) (s := s) a t2 hu0
    | lst h' p2 =>
      rename_i lb ys es
      cases r'
      obtain ⟨ws, r2, t2, _⟩ := I.list (SqL.of h')
      simpa [eqD] using RcAt.bool_list (A := A) (s := s) a t2.isList hu0
  | int a =>
    obtain ⟨ta, rfl⟩ := r
    cases q with
    | non => cases r'; simpa [eqD] using RcAt.int_none (A := A) (s := s) a ta
    | bl b => cases r'; simpa [eqD] using RcAt.int_bool (A := A) (s := s) a ta b
    | int b => obtain ⟨t, rfl⟩ := r'; simpa [eqD] using RcAt.int_int (A := A) (s := s) a ta b t
    | str b => obtain ⟨t, rfl⟩ := r'; simpa [eqD] using RcAt.int_str (A := A) (s := s) a ta b t
    | tup h' p2 =>
      rename_i lb ys es
      cases r'
      obtain ⟨ws, r2, t2, _⟩ := I.tuple h'
      simpa [eqD] using RcAt.int_tuple (A := A) (s := s) a ta t2 hu0
    | lst h' p2 =>
      rename_i lb ys es
      cases r'
      obtain ⟨ws, r2, t2, _⟩ := I.list (SqL.of h')
      simpa [eqD] using RcAt.int_list (A := A) (s := s) a ta t2.isList hu0
  | str a =>
    obtain ⟨ta, rfl⟩ := r
    cases q with
    | non => cases r'; simpa [eqD] using RcAt.str_none (A := A) (s := s) a ta
    | bl b => cases r'; simpa [eqD] using RcAt.str_bool (A := A) (s := s) a ta b
    | int b => obtain ⟨t, rfl⟩ := r'; simpa [eqD] using RcAt.str_int (A := A) (s := s) a ta b t
    | str b => obtain ⟨t, rfl⟩ := r'; simpa [eqD] using RcAt.str_str (A := A) (s := s) a ta b t
    | tup h' p2 =>
      rename_i lb ys es
      cases r'
      obtain ⟨ws, r2, t2, _⟩ := I.tuple h'
      simpa [eqD] using RcAt.str_tuple (A := A) (s := s) a ta t2 hu0
    | lst h' p2 =>
      rename_i lb ys es
      cases r'
      obtain ⟨ws, r2, t2, _⟩ := I.list (SqL.of h')
      simpa [eqD] using RcAt.str_list (A := A) (s := s) a ta t2.isList hu0
  | tup h p1 =>
    rename_i la xs ds
    cases r
    obtain ⟨us, r1, t1, _⟩ := I.tuple h
    cases q with
    | non => cases r'; simpa [eqD] using RcAt.tuple_none (A := A) (s := s) t1 hu0
    | bl b => cases r'; simpa [eqD] using RcAt.tuple_bool (A := A) (s := s) b t1 hu0
    | int b => obtain ⟨t, rfl⟩ := r'; simpa [eqD] using RcAt.tuple_int (A := A) (s := s) b t t1 hu0
    | str b => obtain ⟨t, rfl⟩ := r'; simpa [eqD] using RcAt.tuple_str (A := A) (s := s) b t t1 hu0
    | tup h' p2 =>
      rename_i lb ys es
      cases r'
      obtain ⟨ws, r2, t2, _⟩ := I.tuple h'
      have hA := seq_all (A := A.in1) (s := s) r1 r2 p1 p2 (fun x y v w u u' hx hy p q r r' => plEq I 100 A.in1 x y v w u u' (by
        obtain ⟨i, hi⟩ := List.getElem?_of_mem hx
        obtain ⟨j, hj⟩ := List.getElem?_of_mem hy
        have h1 := deps_get hi
        have h2 := deps_get hj
        simp only [dep] at hd
        omega) (by rw [in1_units]; omega) p q r r')
      have l1 := r1.length
      have l2 := r2.length
      have m1 := p1.length
      have m2 := p2.length
      rw [eqD]
      by_cases hl : ds.length = es.length
      · have R := RcAt.tuples (A := A) (s := s) t1 t2 hu0 hA
        rw [eqDs_at _ _ hl]
        have e1 : us.toArray.size = ds.length := by simp; omega
        have e2 : ws.toArray.size = ds.length := by simp; omega
        rw [e1, e2] at R
        simpa using R
      · have R := RcAt.tuples (A := A) (s := s) t1 t2 hu0 hA
        rw [eqDs_len _ _ hl]
        have e3 : (us.toArray.size == ws.toArray.size) = false := by
          rw [beq_eq_false_iff_ne]; simp; omega
        rw [e3] at R
        simpa using R
    | lst h' p2 =>
      rename_i lb ys es
      cases r'
      obtain ⟨ws, r2, t2, _⟩ := I.list (SqL.of h')
      simpa [eqD] using RcAt.tuple_list (A := A) (s := s) t1 t2.isList hu0
  | lst h p1 =>
    rename_i la xs ds
    cases r
    obtain ⟨us, r1, t1, _⟩ := I.list (SqL.of h)
    cases q with
    | non => cases r'; simpa [eqD] using RcAt.list_none (A := A) (s := s) t1.isList hu0
    | bl b => cases r'; simpa [eqD] using RcAt.list_bool (A := A) (s := s) b t1.isList hu0
    | int b => obtain ⟨t, rfl⟩ := r'; simpa [eqD] using RcAt.list_int (A := A) (s := s) b t t1.isList hu0
    | str b => obtain ⟨t, rfl⟩ := r'; simpa [eqD] using RcAt.list_str (A := A) (s := s) b t t1.isList hu0
    | tup h' p2 =>
      rename_i lb ys es
      cases r'
      obtain ⟨ws, r2, t2, _⟩ := I.tuple h'
      simpa [eqD] using RcAt.list_tuple (A := A) (s := s) t1.isList t2 hu0
    | lst h' p2 =>
      rename_i lb ys es
      cases r'
      obtain ⟨ws, r2, t2, _⟩ := I.list (SqL.of h')
      have hA := seq_all (A := A.in1) (s := s) r1 r2 p1 p2 (fun x y v w u u' hx hy p q r r' => plEq I 100 A.in1 x y v w u u' (by
        obtain ⟨i, hi⟩ := List.getElem?_of_mem hx
        obtain ⟨j, hj⟩ := List.getElem?_of_mem hy
        have h1 := deps_get hi
        have h2 := deps_get hj
        simp only [dep] at hd
        omega) (by rw [in1_units]; omega) p q r r')
      have l1 := r1.length
      have l2 := r2.length
      have m1 := p1.length
      have m2 := p2.length
      rw [eqD]
      by_cases hl : ds.length = es.length
      · have R := RcAt.lists (A := A) (s := s) t1.isList t2.isList (by simp; omega) hu0 hA
        rw [eqDs_at _ _ hl]
        have e1 : us.toArray.size = ds.length := by simp; omega
        rw [e1] at R
        exact R
      · rw [eqDs_len _ _ hl]
        exact RcAt.lists_lengths (A := A) (s := s) t1.isList t2.isList (by simp; omega) hu0
theorem plNe (I : Inv X pins σ H s) (A : Around) (x y : D) (v w : V) (u u' : Value) (hd : min (dep x) (dep y) ≤ 100) (hu : A.units + 101 < cLine) (p : Pl X.K H v x) (q : Pl X.K H w y) (r : RelV v u) (r' : RelV w u') : RcNeAt A s u u' (!eqD x y) := by
  have hu0 : A.units < cLine := by omega
  cases p with
  | non =>
    cases r
    cases q with
    | non => cases r'; simpa [eqD] using RcNeAt.none_none (A := A) (s := s) 
    | bl b => cases r'; simpa [eqD] using RcNeAt.none_bool (A := A) (s := s) b
    | int b => obtain ⟨t, rfl⟩ := r'; simpa [eqD] using RcNeAt.none_int (A := A) (s := s) b t
    | str b => obtain ⟨t, rfl⟩ := r'; simpa [eqD] using RcNeAt.none_str (A := A) (s := s) b t
    | tup h' p2 =>
      rename_i lb ys es
      cases r'
      obtain ⟨ws, r2, t2, _⟩ := I.tuple h'
      simpa [eqD] using RcNeAt.none_tuple (A := A) (s := s) t2 hu0
    | lst h' p2 =>
      rename_i lb ys es
      cases r'
      obtain ⟨ws, r2, t2, _⟩ := I.list (SqL.of h')
      simpa [eqD] using RcNeAt.none_list (A := A) (s := s) t2.isList hu0
  | bl a =>
    cases r
    cases q with
    | non => cases r'; simpa [eqD] using RcNeAt.bool_none (A := A) (s := s) a
    | bl b => cases r'; simpa [eqD] using RcNeAt.bool_bool (A := A) (s := s) a b
    | int b => obtain ⟨t, rfl⟩ := r'; simpa [eqD] using RcNeAt.bool_int (A := A) (s := s) a b t
    | str b => obtain ⟨t, rfl⟩ := r'; simpa [eqD] using RcNeAt.bool_str (A := A) (s := s) a b t
    | tup h' p2 =>
      rename_i lb ys es
      cases r'
      obtain ⟨ws, r2, t2, _⟩ := I.tuple h'
      simpa [eqD] using RcNeAt.bool_tuple (A := A) (s := s) a t2 hu0
    | lst h' p2 =>
      rename_i lb ys es
      cases r'
      obtain ⟨ws, r2, t2, _⟩ := I.list (SqL.of h')
      simpa [eqD] using RcNeAt.bool_list (A := A) (s := s) a t2.isList hu0
  | int a =>
    obtain ⟨ta, rfl⟩ := r
    cases q with
    | non => cases r'; simpa [eqD] using RcNeAt.int_none (A := A) (s := s) a ta
    | bl b => cases r'; simpa [eqD] using RcNeAt.int_bool (A := A) (s := s) a ta b
    | int b => obtain ⟨t, rfl⟩ := r'; simpa [eqD] using RcNeAt.int_int (A := A) (s := s) a ta b t
    | str b => obtain ⟨t, rfl⟩ := r'; simpa [eqD] using RcNeAt.int_str (A := A) (s := s) a ta b t
    | tup h' p2 =>
      rename_i lb ys es
      cases r'
      obtain ⟨ws, r2, t2, _⟩ := I.tuple h'
      simpa [eqD] using RcNeAt.int_tuple (A := A) (s := s) a ta t2 hu0
    | lst h' p2 =>
      rename_i lb ys es
      cases r'
      obtain ⟨ws, r2, t2, _⟩ := I.list (SqL.of h')
      simpa [eqD] using RcNeAt.int_list (A := A) (s := s) a ta t2.isList hu0
  | str a =>
    obtain ⟨ta, rfl⟩ := r
    cases q with
    | non => cases r'; simpa [eqD] using RcNeAt.str_none (A := A) (s := s) a ta
    | bl b => cases r'; simpa [eqD] using RcNeAt.str_bool (A := A) (s := s) a ta b
    | int b => obtain ⟨t, rfl⟩ := r'; simpa [eqD] using RcNeAt.str_int (A := A) (s := s) a ta b t
    | str b => obtain ⟨t, rfl⟩ := r'; simpa [eqD] using RcNeAt.str_str (A := A) (s := s) a ta b t
    | tup h' p2 =>
      rename_i lb ys es
      cases r'
      obtain ⟨ws, r2, t2, _⟩ := I.tuple h'
      simpa [eqD] using RcNeAt.str_tuple (A := A) (s := s) a ta t2 hu0
    | lst h' p2 =>
      rename_i lb ys es
      cases r'
      obtain ⟨ws, r2, t2, _⟩ := I.list (SqL.of h')
      simpa [eqD] using RcNeAt.str_list (A := A) (s := s) a ta t2.isList hu0
  | tup h p1 =>
    rename_i la xs ds
    cases r
    obtain ⟨us, r1, t1, _⟩ := I.tuple h
    cases q with
    | non => cases r'; simpa [eqD] using RcNeAt.tuple_none (A := A) (s := s) t1 hu0
    | bl b => cases r'; simpa [eqD] using RcNeAt.tuple_bool (A := A) (s := s) b t1 hu0
    | int b => obtain ⟨t, rfl⟩ := r'; simpa [eqD] using RcNeAt.tuple_int (A := A) (s := s) b t t1 hu0
    | str b => obtain ⟨t, rfl⟩ := r'; simpa [eqD] using RcNeAt.tuple_str (A := A) (s := s) b t t1 hu0
    | tup h' p2 =>
      rename_i lb ys es
      cases r'
      obtain ⟨ws, r2, t2, _⟩ := I.tuple h'
      have hA := seq_all (A := A.in1) (s := s) r1 r2 p1 p2 (fun x y v w u u' hx hy p q r r' => plEq I 100 A.in1 x y v w u u' (by
        obtain ⟨i, hi⟩ := List.getElem?_of_mem hx
        obtain ⟨j, hj⟩ := List.getElem?_of_mem hy
        have h1 := deps_get hi
        have h2 := deps_get hj
        simp only [dep] at hd
        omega) (by rw [in1_units]; omega) p q r r')
      have l1 := r1.length
      have l2 := r2.length
      have m1 := p1.length
      have m2 := p2.length
      rw [eqD]
      by_cases hl : ds.length = es.length
      · have R := RcNeAt.tuples (A := A) (s := s) t1 t2 hu0 hA
        rw [eqDs_at _ _ hl]
        have e1 : us.toArray.size = ds.length := by simp; omega
        have e2 : ws.toArray.size = ds.length := by simp; omega
        rw [e1, e2] at R
        simpa using R
      · have R := RcNeAt.tuples (A := A) (s := s) t1 t2 hu0 hA
        rw [eqDs_len _ _ hl]
        have e3 : (us.toArray.size == ws.toArray.size) = false := by
          rw [beq_eq_false_iff_ne]; simp; omega
        rw [e3] at R
        simpa using R
    | lst h' p2 =>
      rename_i lb ys es
      cases r'
      obtain ⟨ws, r2, t2, _⟩ := I.list (SqL.of h')
      simpa [eqD] using RcNeAt.tuple_list (A := A) (s := s) t1 t2.isList hu0
  | lst h p1 =>
    rename_i la xs ds
    cases r
    obtain ⟨us, r1, t1, _⟩ := I.list (SqL.of h)
    cases q with
    | non => cases r'; simpa [eqD] using RcNeAt.list_none (A := A) (s := s) t1.isList hu0
    | bl b => cases r'; simpa [eqD] using RcNeAt.list_bool (A := A) (s := s) b t1.isList hu0
    | int b => obtain ⟨t, rfl⟩ := r'; simpa [eqD] using RcNeAt.list_int (A := A) (s := s) b t t1.isList hu0
    | str b => obtain ⟨t, rfl⟩ := r'; simpa [eqD] using RcNeAt.list_str (A := A) (s := s) b t t1.isList hu0
    | tup h' p2 =>
      rename_i lb ys es
      cases r'
      obtain ⟨ws, r2, t2, _⟩ := I.tuple h'
      simpa [eqD] using RcNeAt.list_tuple (A := A) (s := s) t1.isList t2 hu0
    | lst h' p2 =>
      rename_i lb ys es
      cases r'
      obtain ⟨ws, r2, t2, _⟩ := I.list (SqL.of h')
      have hA := seq_all (A := A.in1) (s := s) r1 r2 p1 p2 (fun x y v w u u' hx hy p q r r' => plEq I 100 A.in1 x y v w u u' (by
        obtain ⟨i, hi⟩ := List.getElem?_of_mem hx
        obtain ⟨j, hj⟩ := List.getElem?_of_mem hy
        have h1 := deps_get hi
        have h2 := deps_get hj
        simp only [dep] at hd
        omega) (by rw [in1_units]; omega) p q r r')
      have l1 := r1.length
      have l2 := r2.length
      have m1 := p1.length
      have m2 := p2.length
      rw [eqD]
      by_cases hl : ds.length = es.length
      · have R := RcNeAt.lists (A := A) (s := s) t1.isList t2.isList (by simp; omega) hu0 hA
        rw [eqDs_at _ _ hl]
        have e1 : us.toArray.size = ds.length := by simp; omega
        rw [e1] at R
        exact R
      · rw [eqDs_len _ _ hl]
        exact RcNeAt.lists_lengths (A := A) (s := s) t1.isList t2.isList (by simp; omega) hu0

open Classical in
/-- which value an item is -/
noncomputable def eqAtV (K : PySem.W.Frag) (H : Hp) (x : D) (u : Value) : Bool := if h : ∃ v d, RelV v u ∧ Pl K H v d then eqD (Classical.choose (Classical.choose_spec h)) x else false
theorem eqAtV_of (I : Inv X pins σ H s) {x d : D} {v : V} {u : Value} (r : RelV v u) (p : Pl X.K H v d) : eqAtV X.K H x u = eqD d x := by
  unfold eqAtV
  have h : ∃ v d, RelV v u ∧ Pl X.K H v d := ⟨v, d, r, p⟩
  rw [dif_pos h]
  have q := Classical.choose_spec (Classical.choose_spec h)
  have e : Classical.choose h = v := q.1.inj r
  have p2 := q.2
  generalize Classical.choose (Classical.choose_spec h) = d' at p2 ⊢
  rw [e] at p2
  rw [Pl.inj I _ _ p2 p]
theorem any_eq (I : Inv X pins σ H s) {x : D} : ∀ {vs : List V} {us : List Value} {ds : List D}, Vals vs us → Pls X.K H vs ds → us.any (eqAtV X.K H x) = ds.any fun z => eqD z x
  | _, _, _, .nil, .nil => rfl
  | _, _, _, .cons r rs, .cons p ps => by rw [List.any_cons, List.any_cons, eqAtV_of I r p, any_eq I rs ps]
theorem items_eq (I : Inv X pins σ H s) {A : Around} {x : D} {v : V} {u : Value} {vs : List V} {us : List Value} {ds : List D} (hu : A.units + 101 < cLine) (hd : min (dep x) (deps ds) ≤ 100) (p : Pl X.K H v x) (r : RelV v u) (rs : Vals vs us) (ps : Pls X.K H vs ds) :
    ∀ y, y ∈ us.toArray → EqAt A.in1 s y u (eqAtV X.K H x y) := by
  intro y hy
  have hy' : y ∈ us := by simpa using hy
  obtain ⟨i, hi⟩ := List.getElem?_of_mem hy'
  obtain ⟨w, e1, q1⟩ := vals_getV rs hi
  obtain ⟨d, f1, g1⟩ := ps.get e1
  rw [eqAtV_of I q1 g1]
  have h1 := deps_get f1
  exact plEq I 100 A.in1 d x w v y u (by omega) (by rw [in1_units]; omega) g1 p q1 r
end
end RP
end
section
set_option Elab.async false
set_option linter.all false
set_option maxRecDepth 100000
/-! Operators by values. -/
namespace RP
open PySem L2 PySem.SeqAt

def lift2 (K : PySem.W.Frag) (f : St → D → D → Option D) : R2 := fun x y H Q => ∃ W st dx dy d, Sim K H W st ∧ Rep K H W x dx ∧ Rep K H W y dy ∧ f st dx dy = some d ∧ ∀ v H', Step H W H' W → Sim K H' W st → Rep K H' W v d → Q v H'
def lift1 (K : PySem.W.Frag) (f : St → D → Option D) : V → Hp → VK → Prop := fun x H Q => ∃ W st dx d, Sim K H W st ∧ Rep K H W x dx ∧ f st dx = some d ∧ ∀ v H', Step H W H' W → Sim K H' W st → Rep K H' W v d → Q v H'
def liftN (K : PySem.W.Frag) (f : St → List D → Option D) : List V → Hp → VK → Prop := fun xs H Q => ∃ W st ds d, Sim K H W st ∧ Reps K H W xs ds ∧ f st ds = some d ∧ ∀ v H', Step H W H' W → Sim K H' W st → Rep K H' W v d → Q v H'
section
variable {K : PySem.W.Frag} {H : Hp} {W : Wd} {st : St} {Q : VK}
theorem newT (S : Sim K H W st) {xs : List V} {ds : List D} (rs : Reps K H W xs ds) (q : ∀ v H', Step H W H' W → Sim K H' W st → Rep K H' W v (.tup ds) → Q v H') (p : Addr) (o : Obj) (hp : H p = none) (ho : o.dict = none) : Q (.ref p) (upd H p (.frz o (.tup xs))) :=
  q _ _ (Step.temp S hp) (S.temp hp) (.tup (.inl ⟨o, upd_same, ho⟩) (rs.step S (Step.temp S hp)))
theorem newL (S : Sim K H W st) {xs : List V} {ds : List D} (rs : Reps K H W xs ds) (q : ∀ v H', Step H W H' W → Sim K H' W st → Rep K H' W v (.lst ds) → Q v H') (p : Addr) (hp : H p = none) : Q (.ref p) (upd H p (.lst xs)) :=
  q _ _ (Step.temp S hp) (S.temp hp) (.lst upd_same (S.fresh hp) (S.freshB hp) (rs.step S (Step.temp S hp)))
theorem newD (S : Sim K H W st) {kvs : List (Key × V)} {ks vs : List D} (r1 : Reps K H W (kvs.map fun kv => kV kv.1) ks) (r2 : Reps K H W (kvs.map (·.2)) vs) (q : ∀ v H', Step H W H' W → Sim K H' W st → Rep K H' W v (.dct ks vs) → Q v H') (p : Addr) (hp : H p = none) : Q (.ref p) (upd H p (.dK kvs)) :=
  q _ _ (Step.temp S hp) (S.temp hp) (.dct (.inl upd_same) (S.fresh hp) (S.freshB hp) (r1.step S (Step.temp S hp)) (r2.step S (Step.temp S hp)))
theorem saw_int {v : V} {i : Int} (h : Saw K H W v (.int i)) : v = .int i := by
  cases h with
  | rep h _ _ => cases h; rfl
theorem saw_str {v : V} {i : Str} (h : Saw K H W v (.str i)) : v = .str i := by
  cases h with
  | rep h _ _ => cases h; rfl
theorem saw_bl {v : V} {i : Bool} (h : Saw K H W v (.bl i)) : v = .bl i := by
  cases h with
  | rep h _ _ => cases h; rfl
theorem saw_non {v : V} (h : Saw K H W v .non) : v = .non := by
  cases h with
  | rep h _ _ => cases h; rfl
theorem saw_tup {v : V} {ds : List D} (h : Saw K H W v (.tup ds)) : ∃ a xs, v = .ref a ∧ Tp K H a xs ∧ Reps K H W xs ds := by
  cases h with
  | rep h _ _ => cases h with
    | tup h r => exact ⟨_, _, rfl, h, r⟩
theorem saw_lst {v : V} {ds : List D} (h : Saw K H W v (.lst ds)) : ∃ a xs, v = .ref a ∧ H a = some (.lst xs) ∧ Reps K H W xs ds := by
  cases h with
  | lst h r => exact ⟨_, _, rfl, h, r⟩
  | rep _ n _ => exact absurd rfl (n _)
theorem saw_frz {v : V} {ns : List Int} (h : Saw K H W v (.frz ns)) : ∃ a, v = .ref a ∧ SqL K H a (ns.map V.int) := by
  cases h with
  | rep h _ _ => cases h with
    | frz h =>
      rcases h with ⟨o, h⟩ | h
      · exact ⟨_, rfl, .inl (.inr ⟨o, h⟩)⟩
      · exact ⟨_, rfl, .inr h⟩
theorem saw_dct {v : V} {ks vs : List D} (h : Saw K H W v (.dct ks vs)) : ∃ a kvs, v = .ref a ∧ Rd H a (.dK kvs) ∧ Reps K H W (kvs.map fun kv => kV kv.1) ks ∧ Reps K H W (kvs.map (·.2)) vs := by
  cases h with
  | dct h r r2 => exact ⟨_, _, rfl, h, r, r2⟩
  | rep _ _ n => exact absurd rfl (n _ _)
theorem rep_int {v : V} {i : Int} (h : Rep K H W v (.int i)) : v = .int i := by cases h; rfl
theorem rep_bl {v : V} {i : Bool} (h : Rep K H W v (.bl i)) : v = .bl i := by cases h; rfl
theorem rep_str {v : V} {i : Str} (h : Rep K H W v (.str i)) : v = .str i := by cases h; rfl
theorem rep_non {v : V} (h : Rep K H W v .non) : v = .non := by cases h; rfl
theorem Reps.cut {xs : List V} {ds : List D} (r : Reps K H W xs ds) (lo hi : Option Int) : Reps K H W (cutV xs lo hi) (cut ds lo hi) := by
  have e := r.length
  unfold cutV RP.cut
  rw [e]
  exact (r.drop _).take _
end
section
open PySem.Spec PyProof.Rows
variable {X : Cx}
/-- a new tuple, known to the object -/
theorem laidT {pins : List (Addr × Obj)} {σ : L2.St} {H : Hp} {s : Shared} {xs : List V} {us : List Value} {t' : Nat} (I : Inv X pins σ H s) (hz : xs.length ≤ sizeLine) (r : Vals xs us) :
    Inv X pins σ (upd H s.heap.objs.size (.frz { cls := .type "tuple", data := .seq us.toArray } (.tup xs))) { s with heap := s.heap.push { cls := .type "tuple", data := .seq us.toArray }, toks := t' } :=
  I.laid (fun b ob q => Heap.get?_push_of_some _ q) (Nat.le_refl _) ⟨Heap.get?_push_size _ rfl, hz, us, r, IsTup.new _ _⟩
def tTupF (t : TA) : TE := fun σ H Q => t σ H fun xs H1 => xs.length ≤ sizeLine ∧ ∀ p o, H1 p = none → o.dict = none → Q (.ref p) (upd H1 p (.frz o (.tup xs)))
theorem pe_tupF {es : List Expr} {t : TA} {pos : Pos} {x1} (h : PA X es t) : PE X (.Tuple es x1 pos) (tTupF t) := by
  refine ⟨fun pins s σ H Q I hq => ?_⟩
  refine wpAny_Tuple_spliced (thn (h.run pos pins s σ H _ I hq) fun us s1 ⟨xs, H1, I1, r, z, q⟩ => ⟨by rw [← r.length]; exact z, ?_⟩)
  have hf : H1 s1.heap.objs.size = none := I1.hok.fresh (Nat.le_refl _)
  exact ⟨.ref s1.heap.objs.size, _, laidT (t' := s1.toks) I1 z r, rfl, q _ _ hf rfl⟩
theorem op_catF (pins : List (Addr × Obj)) (s : Shared) (σ : L2.St) (H : Hp) (a b : Addr) (xs ys : List V) (v u : Value) (Q : VK) (I : Inv X pins σ H s) (rx : RelV (.ref a) v) (ry : RelV (.ref b) u)
    (ha : SqT X.K H a xs) (hb : SqT X.K H b ys) (hz : xs.length + ys.length ≤ sizeLine) (q0 : xs = [] → Q (.ref b) H) (q1 : xs ≠ [] → ys = [] → Q (.ref a) H) (q2 : ∀ p o, H p = none → o.dict = none → Q (.ref p) (upd H p (.frz o (.tup (xs ++ ys))))) :
    wpAny (model X.prog X.w) X.A (binaryOp .Add v u) (EP X pins σ Q) X.xe s := by
  cases rx
  cases ry
  obtain ⟨its, r1, p1, _⟩ := I.tuple ha
  obtain ⟨its2, r2, p2, _⟩ := I.tuple hb
  by_cases hx : xs = []
  · subst hx
    cases r1
    exact cat_tup0 p1 p2 ⟨.ref b, H, I, rfl, q0 rfl⟩
  · refine HT.cat_tup p1 p2 (fun z => hx (r1.nil_iff.mp z)) (fun z => ⟨.ref a, H, I, rfl, q1 hx (r2.nil_iff.mp z)⟩) (fun z => ?_) (by rw [← r1.length, ← r2.length]; exact hz)
    exact ⟨.ref s.heap.objs.size, _, laidT (t' := s.toks) I (by rw [List.length_append]; exact hz) (r1.append r2), rfl, q2 _ _ (I.hok.fresh (Nat.le_refl _)) rfl⟩
def rSlF (K : PySem.W.Frag) : V → Option Int → Option Int → Hp → VK → Prop := fun x lo hi H Q => ∃ a xs, x = .ref a ∧ SqT K H a xs ∧
  (HT.sIx xs.length 0 lo = 0 ∧ HT.sIx xs.length xs.length hi = xs.length → Q (.ref a) H) ∧ (∀ p o, H p = none → o.dict = none → Q (.ref p) (upd H p (.frz o (.tup (cutV xs lo hi)))))
theorem sl_tupF : SlR X (rSlF X.K) := by
  intro pins s σ H x v vl vu lo hi sl Q I rx hs pl pu h
  obtain ⟨a, xs, rfl, hx, q1, q2⟩ := h
  cases rx
  obtain ⟨its, r, ht, hz⟩ := I.tuple hx
  have hlen : its.toArray.size = xs.length := by rw [List.size_toArray]; exact r.length.symm
  refine ⟨"tuple", _, PyProof.Rows.slot_tuple_getitem.lookup, ht.typeIs, ?_⟩
  by_cases hw : HT.sIx xs.length 0 lo = 0 ∧ HT.sIx xs.length xs.length hi = xs.length
  · exact getItem_tuple_whole ht hs pl pu (by rw [hlen]; exact hw) ⟨.ref a, H, I, rfl, q1 hw⟩
  · refine HT.getItem_tuple_cut ht hs pl pu (by rw [hlen]; exact hw) ?_ (by rw [hlen]; exact hz)
    rw [hlen]
    exact ⟨.ref s.heap.objs.size, _, laidT (t' := s.toks) I (Nat.le_trans (cutV_length xs lo hi) hz) ((r.drop (HT.sIx xs.length 0 lo)).take (HT.sIx xs.length xs.length hi - HT.sIx xs.length 0 lo)), rfl, q2 _ _ (I.hok.fresh (Nat.le_refl _)) rfl⟩
theorem call_tuple_ofF : CallR X (.type "tuple") (fun xs H Q => ∃ p ys, xs = [.ref p] ∧ ((SqL X.K H p ys ∧ ∀ l o, H l = none → o.dict = none → Q (.ref l) (upd H l (.frz o (.tup ys)))) ∨ (SqT X.K H p ys ∧ Q (.ref p) H))) := by
  intro pins s σ H xs us Q I r h
  obtain ⟨p, ys, rfl, h⟩ := h
  obtain ⟨u, rfl, rx⟩ := vals1 r
  cases rx
  rcases h with ⟨hq, q⟩ | ⟨hq, q⟩
  · obtain ⟨its, r', pl, hz⟩ := I.list hq
    have hlen := r'.length
    refine call_tuple_list pl.isList (fun h' kp => ?_) (by simp only [List.size_toArray] <;> omega)
    have I1 : Inv X pins σ H { s with heap := h' } := I.kept (t' := s.toks) kp
    exact ⟨.ref h'.objs.size, _, laidT (t' := s.toks) I1 hz r', rfl, q _ _ (I1.hok.fresh (Nat.le_refl _)) rfl⟩
  · obtain ⟨its, r', pl, hz⟩ := I.tuple hq
    exact call_tuple_same pl ⟨.ref p, H, I, rfl, q⟩
end
theorem bigLine : big ≤ sizeLine := by decide
section
variable {X : Cx}
theorem op_addL : OpR X (binaryOp .Add) (lift2 X.K addD) := by
  intro pins s σ H x y v u Q I rx ry h
  obtain ⟨W, st, dx, dy, d, S, r1, r2, e, q⟩ := h
  have s1 := r1.saw S
  have s2 := r2.saw S
  have bl := bigLine
  unfold addD at e
  generalize see st dx = ex at s1 e
  generalize see st dy = ey at s2 e
  split at e
  · cases e
    exact op_add pins s σ H x y v u Q I rx ry ⟨_, _, saw_int s1, saw_int s2, q _ H (Step.refl _ _) S (.int _)⟩
  · split at e
    · cases e
      exact op_add_str pins s σ H x y v u Q I rx ry ⟨_, _, saw_str s1, saw_str s2, by omega, q _ H (Step.refl _ _) S (.str _)⟩
    · cases e
  · split at e
    · cases e
      obtain ⟨a, xs, rfl, h1, q1⟩ := saw_tup s1
      obtain ⟨b, ys, rfl, h2, q2⟩ := saw_tup s2
      have l1 := q1.length
      have l2 := q2.length
      refine op_catF pins s σ H a b xs ys v u Q I rx ry h1.sq h2.sq (by omega) (fun e => ?_) (fun _ e => ?_) (newT S (q1.append q2) q)
      · subst e
        cases q1
        exact q _ H (Step.refl _ _) S (.tup h2 q2)
      · subst e
        cases q2
        exact q _ H (Step.refl _ _) S (.tup h1 (by simpa using q1))
    · cases e
  · split at e
    · cases e
      obtain ⟨a, xs, rfl, h1, q1⟩ := saw_lst s1
      obtain ⟨b, ys, rfl, h2, q2⟩ := saw_lst s2
      have l1 := q1.length
      have l2 := q2.length
      exact op_cat pins s σ H _ _ v u Q I rx ry ⟨a, b, xs, ys, rfl, rfl, h1, h2, by omega, newL S (q1.append q2) q⟩
    · cases e
  · cases e
theorem op_subL : OpR X (binaryOp .Sub) (lift2 X.K subD) := by
  intro pins s σ H x y v u Q I rx ry h
  obtain ⟨W, st, dx, dy, d, S, r1, r2, e, q⟩ := h
  unfold subD at e
  split at e
  · cases e
    exact op_sub pins s σ H x y v u Q I rx ry ⟨_, _, rep_int r1, rep_int r2, q _ H (Step.refl _ _) S (.int _)⟩
  · cases e
theorem op_modL : OpR X (binaryOp .Mod) (lift2 X.K modD) := by
  intro pins s σ H x y v u Q I rx ry h
  obtain ⟨W, st, dx, dy, d, S, r1, r2, e, q⟩ := h
  unfold modD at e
  split at e
  · split at e
    · cases e
      exact op_mod pins s σ H x y v u Q I rx ry ⟨_, _, rep_int r1, rep_int r2, by assumption, q _ H (Step.refl _ _) S (.int _)⟩
    · cases e
  · cases e
theorem op_fdivL : OpR X (binaryOp .FloorDiv) (lift2 X.K fdivD) := by
  intro pins s σ H x y v u Q I rx ry h
  obtain ⟨W, st, dx, dy, d, S, r1, r2, e, q⟩ := h
  unfold fdivD at e
  split at e
  · rename_i i j
    split at e
    · rename_i hc
      cases e
      have hc' : 0 < j ∧ j < 2 ^ 64 := by simpa using hc
      refine op_fdivW pins s σ H x y v u Q I rx ry ⟨_, _, rep_int r1, rep_int r2, wide_div (b := 64) hc'.1 (by omega) (by decide) (by decide), q _ H (Step.refl _ _) S (.int _)⟩
    · cases e
  · cases e
theorem op_powL : OpR X (binaryOp .Pow) (lift2 X.K powD) := by
  intro pins s σ H x y v u Q I rx ry h
  obtain ⟨W, st, dx, dy, d, S, r1, r2, e, q⟩ := h
  unfold powD at e
  split at e
  · rename_i i j
    split at e
    · rename_i hc
      cases e
      have hc' : ((0 ≤ i ∧ i ≤ 10) ∧ 0 ≤ j) ∧ j ≤ 20 := by simpa using hc
      exact op_pow pins s σ H x y v u Q I rx ry ⟨_, _, rep_int r1, rep_int r2, ⟨by omega, by omega, by omega⟩, q _ H (Step.refl _ _) S (.int _)⟩
    · cases e
  · cases e
theorem tuple_mul_same (l : Addr) (items : Array Value) (n : Nat) (dd : Option Addr) (sl : Array (Option Value)) (x : Int) (u : Tok) (c0 : (decide (x < -(2 ^ 63)) || decide (x ≥ 2 ^ 63)) = false) (c1 : (items.isEmpty || x == 1) = true) :
    Meets (Builtin.«tuple.__mul__» ⟨[.ref l, .int x u], []⟩) (fun _ R s => s.heap.get? l = some { cls := .type "tuple", dict := dd, data := .seq items n, slots := sl } ∧ R (.ok (.ret (Value.ref l))) s) :=
  .of_wp fun prog w A R s h => by
    obtain ⟨hp, g, d, tk, os⟩ := s
    obtain ⟨hl, h⟩ := h
    have f1 := AutoSeq1.idx_int
    wp_walk using wpAny_loadPart' hl
    repeat (first
      | (refine wpAny_ite_false (decide_eq_false (by rw [c0]; exact Bool.false_ne_true)) ?_; wp_walk using wpAny_loadPart' hl)
      | (refine wpAny_ite_true (decide_eq_true c1) ?_; wp_walk using wpAny_loadPart' hl))
    exact ⟨_, rfl, h⟩
theorem tuple_mul_none (l : Addr) (items : Array Value) (n : Nat) (dd : Option Addr) (sl : Array (Option Value)) (x : Int) (u : Tok) (c0 : (decide (x < -(2 ^ 63)) || decide (x ≥ 2 ^ 63)) = false) (c1 : (items.isEmpty || x == 1) = false) (c2 : (decide (x ≤ 0) || items.isEmpty) = true) :
    Meets (Builtin.«tuple.__mul__» ⟨[.ref l, .int x u], []⟩) (fun _ R s => s.heap.get? l = some { cls := .type "tuple", dict := dd, data := .seq items n, slots := sl } ∧
      R (.ok (.ret (Value.ref s.heap.objs.size))) { s with heap := s.heap.push { cls := Value.type "tuple", data := Data.seq #[] }, toks := s.toks }) :=
  .of_wp fun prog w A R s h => by
    obtain ⟨hp, g, d, tk, os⟩ := s
    obtain ⟨hl, h⟩ := h
    have f1 := AutoSeq1.idx_int
    have hsz : ¬ ((#[] : Array Value).size > sizeLine) := by decide
    wp_walk using wpAny_loadPart' hl
    repeat (first
      | (refine wpAny_ite_false (decide_eq_false (by rw [c0]; exact Bool.false_ne_true)) ?_; wp_walk using wpAny_loadPart' hl)
      | (refine wpAny_ite_false (decide_eq_false (by rw [c1]; exact Bool.false_ne_true)) ?_; wp_walk using wpAny_loadPart' hl)
      | (refine wpAny_ite_true (decide_eq_true c2) ?_; wp_walk using wpAny_loadPart' hl)
      | (refine wpAny_ite_false (decide_eq_false hsz) ?_; wp_walk using wpAny_loadPart' hl))
    exact ⟨_, rfl, h⟩
end
section
open PySem.Spec PyProof.Rows
variable {X : Cx}
theorem tupMul (pins : List (Addr × Obj)) (s : Shared) (σ : L2.St) (H : Hp) (l : Addr) (k : Int) (xs : List V) (v u : Value) (Q : VK) (I : Inv X pins σ H s) (rx : RelV (.ref l) v) (ry : RelV (.int k) u)
    (hT : SqT X.K H l xs) (h0 : 0 ≤ k) (h1 : k ≤ 1000) (hz : xs.length ≤ 1000) (qs : xs = [] ∨ k = 1 → Q (.ref l) H) (q : ∀ p o, H p = none → o.dict = none → Q (.ref p) (upd H p (.frz o (.tup (List.replicate k.toNat xs).flatten)))) :
    wpAny (model X.prog X.w) X.A (binaryOp .Mult v u) (EP X pins σ Q) X.xe s := by
  cases rx
  obtain ⟨t, rfl⟩ := ry
  obtain ⟨its, r, ⟨⟨cls, dd, data, sl⟩, ho, hc, n, hd⟩, hs⟩ := I.tuple hT
  simp only at hc hd
  subst hc hd
  have hle : its.length = xs.length := r.length.symm
  have c0 : (decide (k < -(2 ^ 63)) || decide (k ≥ 2 ^ 63)) = false := by
    rw [decide_eq_false (by omega), decide_eq_false (by omega)] <;> rfl
  by_cases hbig : xs ≠ [] ∧ 2 ≤ k
  · have hn : its ≠ [] := fun e => hbig.1 (by
      rw [e] at hle
      exact List.eq_nil_of_length_eq_zero hle.symm)
    have hi : its.toArray.isEmpty = false := by
      cases its with
      | nil => exact absurd rfl hn
      | cons a b => rfl
    have hsz0 : its.toArray.size = xs.length := by rw [List.size_toArray, hle]
    have hm : ((its.toArray.size : Nat) : Int) * k ≤ 1000000 := by
      rw [hsz0]
      have a1 : ((xs.length : Nat) : Int) * k ≤ 1000 * k := Int.mul_le_mul_of_nonneg_right (by omega) (by omega)
      omega
    have flen : (List.replicate k.toNat its).flatten.length ≤ sizeLine := by
      rw [PyProof.Rows.lm_len_rep_flat, hle, sizeLine_eq]
      have a1 : k.toNat * xs.length ≤ 1000 * 1000 := Nat.mul_le_mul (by omega) hz
      omega
    have c1 : (its.toArray.isEmpty || k == 1) = false := by
      rw [hi, Bool.false_or]
      exact beq_eq_false_iff_ne.mpr (by omega)
    have c2 : (decide (k ≤ 0) || its.toArray.isEmpty) = false := by
      rw [hi, Bool.or_false]
      exact decide_eq_false (by omega)
    have c4 : Builtin.Tuple.tupleTooMany (((its.toArray.size : Nat) : Int) * k) = false := by
      unfold Builtin.Tuple.tupleTooMany
      rw [sizeLine_eq]
      exact decide_eq_false (by omega)
    refine wpAny_binaryOp_repeat_ref (T := "tuple") (U := "int") (by decide) ⟨_, ho, rfl⟩ (fun s' => typeIs_int s' k t) noFill_tuple_mul F.fills_int_mul F.slot_int_rmul repeat_tuple F.slot_int_index.lookup
      (call_meets F.slot_int_rmul (typeIs_int s k t) F.entry_int_rmul (F.args_int_rmul_2 _ _) (int_rmul_tuple k t l its.toArray n dd sl)
        ⟨ho, rfl, ⟨_, ho, rfl⟩, call_meets F.slot_tuple_mul ⟨_, ho, rfl⟩ F.entry_tuple_mul (F.args_tuple_mul_2 _ _) (tuple_mulW l its.toArray n dd sl k t c0 c1 c2 (by omega) c4 (by rw [size_rep, List.size_toArray]; exact flen)) ⟨ho, ?_⟩⟩)
    rw [size_rep]
    exact ⟨.ref s.heap.objs.size, _, laidT (t' := s.toks) I (by rw [PyProof.Rows.lm_len_rep_flat, sizeLine_eq]; have a1 : k.toNat * xs.length ≤ 1000 * 1000 := Nat.mul_le_mul (by omega) hz; omega) (r.rep k.toNat), rfl, q _ _ (I.hok.fresh (Nat.le_refl _)) rfl⟩
  by_cases hsame : xs = [] ∨ k = 1
  · have c1 : (its.toArray.isEmpty || k == 1) = true := by
      rcases hsame with e | e
      · subst e
        have : its = [] := List.eq_nil_of_length_eq_zero (by simpa using hle)
        subst this; rfl
      · subst e; simp
    exact wpAny_binaryOp_repeat_ref (T := "tuple") (U := "int") (by decide) ⟨_, ho, rfl⟩ (fun s' => typeIs_int s' k t) noFill_tuple_mul F.fills_int_mul F.slot_int_rmul repeat_tuple F.slot_int_index.lookup
      (call_meets F.slot_int_rmul (typeIs_int s k t) F.entry_int_rmul (F.args_int_rmul_2 _ _) (int_rmul_tuple k t l its.toArray n dd sl)
        ⟨ho, rfl, ⟨_, ho, rfl⟩, call_meets F.slot_tuple_mul ⟨_, ho, rfl⟩ F.entry_tuple_mul (F.args_tuple_mul_2 _ _) (tuple_mul_same l its.toArray n dd sl k t c0 c1) ⟨ho, ⟨.ref l, H, I, rfl, qs hsame⟩⟩⟩)
  · have hne : xs ≠ [] := fun e => hsame (.inl e)
    have hk : k = 0 := by
      have : ¬ 2 ≤ k := fun e => hbig ⟨hne, e⟩
      have : k ≠ 1 := fun e => hsame (.inr e)
      omega
    subst hk
    have hi : its.toArray.isEmpty = false := by
      cases its with
      | nil => exact absurd (List.eq_nil_of_length_eq_zero (by simpa using hle.symm)) hne
      | cons a b => rfl
    have c1 : (its.toArray.isEmpty || (0 : Int) == 1) = false := by rw [hi]; rfl
    have c2 : (decide ((0 : Int) ≤ 0) || its.toArray.isEmpty) = true := by simp
    refine wpAny_binaryOp_repeat_ref (T := "tuple") (U := "int") (by decide) ⟨_, ho, rfl⟩ (fun s' => typeIs_int s' 0 t) noFill_tuple_mul F.fills_int_mul F.slot_int_rmul repeat_tuple F.slot_int_index.lookup
      (call_meets F.slot_int_rmul (typeIs_int s 0 t) F.entry_int_rmul (F.args_int_rmul_2 _ _) (int_rmul_tuple 0 t l its.toArray n dd sl)
        ⟨ho, rfl, ⟨_, ho, rfl⟩, call_meets F.slot_tuple_mul ⟨_, ho, rfl⟩ F.entry_tuple_mul (F.args_tuple_mul_2 _ _) (tuple_mul_none l its.toArray n dd sl 0 t c0 c1 c2) ⟨ho, ?_⟩⟩)
    exact ⟨.ref s.heap.objs.size, _, laidT (xs := []) (us := []) (t' := s.toks) I (Nat.zero_le _) .nil, rfl, q _ _ (I.hok.fresh (Nat.le_refl _)) rfl⟩
end
section
variable {X : Cx}
theorem op_mulL : OpR X (binaryOp .Mult) (lift2 X.K mulD) := by
  intro pins s σ H x y v u Q I rx ry h
  obtain ⟨W, st, dx, dy, d, S, r1, r2, e, q⟩ := h
  have s1 := r1.saw S
  have bl := bigLine
  unfold mulD at e
  generalize see st dx = ex at s1 e
  split at e
  · split at e
    · rename_i hc
      cases e
      refine op_mul pins s σ H x y v u Q I rx ry ⟨_, _, saw_int s1, rep_int r2, ?_, q _ H (Step.refl _ _) S (.int _)⟩
      unfold CMul
      simpa using hc
    · cases e
  · rename_i a j
    split at e
    · rename_i hc
      cases e
      have hc' : (0 ≤ j ∧ j ≤ 1000) ∧ a.length ≤ 1000 := by simpa using hc
      obtain ⟨p, xs, rfl, h1, q1⟩ := saw_tup s1
      have l1 := q1.length
      have ev := rep_int r2
      subst ev
      refine tupMul pins s σ H p j xs v u Q I rx ry h1.sq hc'.1.1 hc'.1.2 (by omega) (fun hs => ?_) (newT S (q1.replicate _) q)
      rcases hs with hs | hs
      · have ha : a = [] := List.eq_nil_of_length_eq_zero (by rw [← l1, hs]; rfl)
        have e0 : (List.replicate j.toNat a).flatten = [] := by rw [ha]; simp
        rw [e0] at q
        exact q _ H (Step.refl _ _) S (.tup h1 (by rw [hs]; exact .nil))
      · subst hs
        exact q _ H (Step.refl _ _) S (.tup h1 (by simpa using q1))
    · cases e
  · rename_i a j
    split at e
    · rename_i hc
      cases e
      have hc' : (0 ≤ j ∧ j ≤ 1000) ∧ a.length ≤ 1000 := by simpa using hc
      obtain ⟨p, xs, rfl, h1, q1⟩ := saw_lst s1
      have l1 := q1.length
      have ev := rep_int r2
      subst ev
      have hm : xs.length * j.toNat ≤ 1000 * 1000 := Nat.mul_le_mul (by omega) (by omega)
      exact op_rep pins s σ H _ _ v u Q I rx ry ⟨p, j, xs, rfl, rfl, h1, by omega, by omega, by unfold big at bl; omega, newL S (q1.replicate _) q⟩
    · cases e
  · cases e
/-! ### comparisons -/
theorem eqO_pl {K : PySem.W.Frag} {H : Hp} {W : Wd} {st : St} {x y : D} {b : Bool} {v w : V} (S : Sim K H W st) (h : eqO st x y = some b) (r1 : Rep K H W v x) (r2 : Rep K H W w y) :
    Pl K H v (see st x) ∧ Pl K H w (see st y) ∧ min (dep (see st x)) (dep (see st y)) ≤ 100 ∧ b = eqD (see st x) (see st y) := by
  unfold eqO at h
  split at h
  · rename_i hc
    cases h
    have hc' : (pln (see st x) = true ∧ pln (see st y) = true) ∧ min (dep (see st x)) (dep (see st y)) ≤ 100 := by simpa using hc
    exact ⟨(r1.saw S).pl hc'.1.1, (r2.saw S).pl hc'.1.2, hc'.2, rfl⟩
  · cases h
theorem op_eqL (hu : X.A.units + 101 < cLine) : OpR X (compareOp .Eq) (lift2 X.K eqB) := by
  intro pins s σ H x y v u Q I rx ry h
  obtain ⟨W, st, dx, dy, d, S, r1, r2, e, q⟩ := h
  unfold eqB bD at e
  obtain ⟨b, eb, rfl⟩ := Option.map_eq_some_iff.mp e
  obtain ⟨p1, p2, hd, rfl⟩ := eqO_pl S eb r1 r2
  exact plRc I X.A _ _ x y v u hd hu p1 p2 rx ry X.prog X.w X.xe _ ⟨.bl _, H, I, rfl, q _ H (Step.refl _ _) S (.bl _)⟩
theorem op_neL (hu : X.A.units + 101 < cLine) : OpR X (compareOp .NotEq) (lift2 X.K neB) := by
  intro pins s σ H x y v u Q I rx ry h
  obtain ⟨W, st, dx, dy, d, S, r1, r2, e, q⟩ := h
  unfold neB bD at e
  obtain ⟨b, eb, rfl⟩ := Option.map_eq_some_iff.mp e
  obtain ⟨b', eb2, rfl⟩ := Option.map_eq_some_iff.mp eb
  obtain ⟨p1, p2, hd, rfl⟩ := eqO_pl S eb2 r1 r2
  exact plNe I X.A _ _ x y v u hd hu p1 p2 rx ry X.prog X.w X.xe _ ⟨.bl _, H, I, rfl, q _ H (Step.refl _ _) S (.bl _)⟩
theorem op_ltL : OpR X (compareOp .Lt) (lift2 X.K ltB) := by
  intro pins s σ H x y v u Q I rx ry h
  obtain ⟨W, st, dx, dy, d, S, r1, r2, e, q⟩ := h
  unfold ltB at e
  split at e
  · cases e
    exact op_lt pins s σ H x y v u Q I rx ry ⟨_, _, rep_int r1, rep_int r2, q _ H (Step.refl _ _) S (.bl _)⟩
  · cases e
theorem op_leL : OpR X (compareOp .LtE) (lift2 X.K leB) := by
  intro pins s σ H x y v u Q I rx ry h
  obtain ⟨W, st, dx, dy, d, S, r1, r2, e, q⟩ := h
  unfold leB at e
  split at e
  · cases e
    exact op_le pins s σ H x y v u Q I rx ry ⟨_, _, rep_int r1, rep_int r2, q _ H (Step.refl _ _) S (.bl _)⟩
  · cases e
theorem op_gtL : OpR X (compareOp .Gt) (lift2 X.K gtB) := by
  intro pins s σ H x y v u Q I rx ry h
  obtain ⟨W, st, dx, dy, d, S, r1, r2, e, q⟩ := h
  unfold gtB at e
  split at e
  · cases e
    exact op_gt pins s σ H x y v u Q I rx ry ⟨_, _, rep_int r1, rep_int r2, q _ H (Step.refl _ _) S (.bl _)⟩
  · cases e
theorem op_geL : OpR X (compareOp .GtE) (lift2 X.K geB) := by
  intro pins s σ H x y v u Q I rx ry h
  obtain ⟨W, st, dx, dy, d, S, r1, r2, e, q⟩ := h
  unfold geB at e
  split at e
  · cases e
    exact op_ge pins s σ H x y v u Q I rx ry ⟨_, _, rep_int r1, rep_int r2, q _ H (Step.refl _ _) S (.bl _)⟩
  · cases e
theorem rep_isnon {K : PySem.W.Frag} {H : Hp} {W : Wd} {v : V} {d : D} (h : Rep K H W v d) : decide (v = V.non) = isNon d := by
  cases h <;> simp [isNon]
theorem op_isL : OpR X (compareOp .Is) (lift2 X.K isB) := by
  intro pins s σ H x y v u Q I rx ry h
  obtain ⟨W, st, dx, dy, d, S, r1, r2, e, q⟩ := h
  unfold isB at e
  split at e
  · cases e
    refine op_isN pins s σ H x y v u Q I rx ry ⟨rep_non r2, ?_⟩
    rw [rep_isnon r1]
    exact q _ H (Step.refl _ _) S (.bl _)
  · cases e
    exact op_isBl pins s σ H x y v u Q I rx ry ⟨_, _, rep_bl r1, rep_bl r2, q _ H (Step.refl _ _) S (.bl _)⟩
  · cases e
theorem op_isnL : OpR X (compareOp .IsNot) (lift2 X.K isnB) := by
  intro pins s σ H x y v u Q I rx ry h
  obtain ⟨W, st, dx, dy, d, S, r1, r2, e, q⟩ := h
  unfold isnB at e
  split at e
  · cases e
    refine op_notN pins s σ H x y v u Q I rx ry ⟨rep_non r2, ?_⟩
    rw [rep_isnon r1]
    exact q _ H (Step.refl _ _) S (.bl _)
  · cases e
    exact op_notBl pins s σ H x y v u Q I rx ry ⟨_, _, rep_bl r1, rep_bl r2, q _ H (Step.refl _ _) S (.bl _)⟩
  · cases e
theorem un_negL : UnR X (unaryOp .USub) (lift1 X.K negD) := by
  intro pins s σ H x v Q I rx h
  obtain ⟨W, st, dx, d, S, r1, e, q⟩ := h
  unfold negD at e
  split at e
  · cases e
    exact un_neg pins s σ H x v Q I rx ⟨_, rep_int r1, q _ H (Step.refl _ _) S (.int _)⟩
  · cases e
end
end RP
end
section
set_option Elab.async false
set_option linter.all false
set_option maxRecDepth 100000
/-! in, subscripts, built-in functions by values. -/
namespace RP
open PySem L2 PySem.SeqAt

section
variable {K : PySem.W.Frag} {H : Hp} {W : Wd} {st : St}
/-- a key as a value -/
theorem key_rep {v : V} {d : D} (h : Rep K H W v d) (hk : keyish d = true) : ∃ k : Key, v = kV k := by
  cases h with
  | int i => exact ⟨.inl i, rfl⟩
  | str i => exact ⟨.inr i, rfl⟩
  | _ => simp [keyish] at hk
theorem key_eq {k k' : Key} {d e : D} (h : Rep K H W (kV k) d) (h' : Rep K H W (kV k') e) : eqD d e = decide (k = k') := by
  cases k with
  | inl i =>
    cases h
    cases k' with
    | inl j =>
      cases h'
      show (i == j) = _
      rw [key_ll]
    | inr y =>
      cases h'
      simp [eqD]
  | inr x =>
    cases h
    cases k' with
    | inl j => cases h'; simp [eqD]
    | inr y =>
      cases h'
      show (x == y) = _
      rw [key_rr]
      exact Bool.beq_eq_decide_eq x y
theorem look_val : ∀ {kvs : List (Key × V)} {ks vs : List D} {k : Key} {e : D}, Reps K H W (kvs.map fun kv => kV kv.1) ks → Reps K H W (kvs.map (·.2)) vs → Rep K H W (kV k) e →
    (∀ d, look ks vs e = some d → ∃ v, valV kvs k = some v ∧ Rep K H W v d) ∧ (look ks vs e = none → valV kvs k = none)
  | [], _, _, k, e, .nil, .nil, _ => ⟨fun d h => by simp [look] at h, fun _ => rfl⟩
  | (k0, v0) :: r, _, _, k, e, .cons h1 r1, .cons h2 r2, he => by
    have q := key_eq h1 he
    have ih := look_val r1 r2 he
    by_cases hk : k0 = k
    · rw [decide_eq_true hk] at q
      refine ⟨fun d h => ?_, fun h => ?_⟩
      · rw [look, if_pos q] at h
        cases h
        exact ⟨v0, valV_pos hk, h2⟩
      · rw [look, if_pos q] at h
        cases h
    · rw [decide_eq_false hk] at q
      refine ⟨fun d h => ?_, fun h => ?_⟩
      · rw [look, if_neg (by rw [q]; exact Bool.false_ne_true)] at h
        obtain ⟨v, e1, e2⟩ := ih.1 d h
        exact ⟨v, by rw [valV_neg hk]; exact e1, e2⟩
      · rw [look, if_neg (by rw [q]; exact Bool.false_ne_true)] at h
        rw [valV_neg hk]
        exact ih.2 h
theorem look_isSome {kvs : List (Key × V)} {ks vs : List D} {k : Key} {e : D} (r1 : Reps K H W (kvs.map fun kv => kV kv.1) ks) (r2 : Reps K H W (kvs.map (·.2)) vs) (he : Rep K H W (kV k) e) : (valV kvs k).isSome = (look ks vs e).isSome := by
  have q := look_val r1 r2 he
  cases h : look ks vs e with
  | none => rw [q.2 h]; rfl
  | some d =>
    obtain ⟨v, e1, _⟩ := q.1 d h
    rw [e1]; rfl
end
section
variable {X : Cx}
theorem in_core (neg : Bool) (hu : X.A.units + 101 < cLine) (pins : List (Addr × Obj)) (s : Shared) (σ : L2.St) (H : Hp) (x y : V) (v u : Value) (Q : VK) (I : Inv X pins σ H s) (rx : RelV x v) (ry : RelV y u)
    {W : Wd} {st : St} {dx dy : D} {b : Bool} (S : Sim X.K H W st) (r1 : Rep X.K H W x dx) (r2 : Rep X.K H W y dy) (e : inO st dx dy = some b) (q : Q (.bl (if neg then !b else b)) H) :
    wpAny (model X.prog X.w) X.A (compareOp (if neg then .NotIn else .In) v u) (EP X pins σ Q) X.xe s := by
  have s2 := r2.saw S
  unfold inO at e
  generalize see st dy = ey at s2 e
  split at e
  · rename_i ys
    split at e
    · rename_i hc
      cases e
      have hc' : (pln (see st dx) = true ∧ plns ys = true) ∧ min (dep (see st dx)) (deps ys) ≤ 100 := by simpa using hc
      obtain ⟨a, xs, rfl, ht, q1⟩ := saw_tup s2
      cases ry
      obtain ⟨us, rv, hp, _⟩ := I.tuple ht.sq
      have pl := (r1.saw S).pl hc'.1.1
      have pls := q1.pl _ hc'.1.2
      have hI := items_eq I (A := X.A) hu hc'.2 pl rx rv pls
      have ha := any_eq I (x := see st dx) rv pls
      have ha' : us.toArray.any (eqAtV X.K H (see st dx)) = ys.any fun z => eqD z (see st dx) := by rw [← ha]; simp
      cases neg with
      | false => exact in_tupleAt (eqAtV X.K H (see st dx)) hp hI ⟨.bl _, H, I, by rw [ha']; rfl, q⟩
      | true => exact notIn_tupleAt (eqAtV X.K H (see st dx)) hp hI ⟨.bl _, H, I, by rw [ha']; rfl, q⟩
    · cases e
  · rename_i ys
    split at e
    · rename_i hc
      cases e
      have hc' : (pln (see st dx) = true ∧ plns ys = true) ∧ min (dep (see st dx)) (deps ys) ≤ 100 := by simpa using hc
      obtain ⟨a, xs, rfl, ht, q1⟩ := saw_lst s2
      cases ry
      obtain ⟨us, rv, hp, _⟩ := I.list (SqL.of ht)
      have pl := (r1.saw S).pl hc'.1.1
      have pls := q1.pl _ hc'.1.2
      have hI := items_eq I (A := X.A) hu hc'.2 pl rx rv pls
      have ha := any_eq I (x := see st dx) rv pls
      have ha' : us.toArray.any (eqAtV X.K H (see st dx)) = ys.any fun z => eqD z (see st dx) := by rw [← ha]; simp
      cases neg with
      | false => exact in_listAt (eqAtV X.K H (see st dx)) hp.isList hI ⟨.bl _, H, I, by rw [ha']; rfl, q⟩
      | true => exact notIn_listAt (eqAtV X.K H (see st dx)) hp.isList hI ⟨.bl _, H, I, by rw [ha']; rfl, q⟩
    · cases e
  · rename_i z
    have ez := saw_str s2
    subst ez
    split at e
    · rename_i a
      split at e
      · rename_i c hcs
        cases e
        have ea : a = ⟨#[c]⟩ := by
          obtain ⟨cs⟩ := a
          have : cs = #[c] := by
            apply Array.ext'
            simpa using hcs
          rw [this]
        subst ea
        have ex := rep_str r1
        subst ex
        cases neg with
        | false => exact op_in_sign pins s σ H _ _ v u Q I rx ry ⟨c, z, rfl, rfl, q⟩
        | true => exact op_notIn_sign pins s σ H _ _ v u Q I rx ry ⟨c, z, rfl, rfl, q⟩
      · cases e
    · cases e
  · rename_i ks vs
    split at e
    · rename_i hk
      cases e
      obtain ⟨k, rfl⟩ := key_rep r1 hk
      obtain ⟨a, kvs, rfl, hr, q1, q2⟩ := saw_dct s2
      cases ry
      have hs := look_isSome q1 q2 r1
      have g : DGet H a (kV k) (valV kvs k) := .inl ⟨kvs, k, hr, rfl, rfl⟩
      cases neg with
      | false => exact d_in (by omega) I g rx fun s3 I3 => ⟨.bl _, H, I3, by rw [hs]; rfl, q⟩
      | true => exact d_notIn (by omega) I g rx fun s3 I3 => ⟨.bl _, H, I3, by rw [hs]; rfl, q⟩
    · cases e
  · cases e
theorem op_inL (hu : X.A.units + 101 < cLine) : OpR X (compareOp .In) (lift2 X.K inB) := by
  intro pins s σ H x y v u Q I rx ry h
  obtain ⟨W, st, dx, dy, d, S, r1, r2, e, q⟩ := h
  unfold inB bD at e
  obtain ⟨b, eb, rfl⟩ := Option.map_eq_some_iff.mp e
  exact in_core false hu pins s σ H x y v u Q I rx ry S r1 r2 eb (q _ H (Step.refl _ _) S (.bl _))
theorem op_ninL (hu : X.A.units + 101 < cLine) : OpR X (compareOp .NotIn) (lift2 X.K ninB) := by
  intro pins s σ H x y v u Q I rx ry h
  obtain ⟨W, st, dx, dy, d, S, r1, r2, e, q⟩ := h
  unfold ninB bD at e
  obtain ⟨b, eb, rfl⟩ := Option.map_eq_some_iff.mp e
  obtain ⟨b', eb2, rfl⟩ := Option.map_eq_some_iff.mp eb
  exact in_core true hu pins s σ H x y v u Q I rx ry S r1 r2 eb2 (q _ H (Step.refl _ _) S (.bl _))
/-! ### subscripts -/
theorem at_rep {K : PySem.W.Frag} {H : Hp} {W : Wd} {xs : List V} {ds : List D} {i : Int} {d : D} (r : Reps K H W xs ds) (h : atI ds i = some d) : ∃ v, atI xs i = some v ∧ Rep K H W v d := by
  unfold atI at h ⊢
  rw [r.length]
  obtain ⟨j, e1, e2⟩ := Option.bind_eq_some_iff.mp h
  obtain ⟨v, h1, h2⟩ := r.get e2
  exact ⟨v, by rw [e1]; exact h1, h2⟩
theorem ix_L (hu : X.A.units + 101 < cLine) : IxR X (lift2 X.K idxD) := by
  intro value slice pins s σ H x y v u Q I rx ry h hs
  obtain ⟨W, st, dx, dy, d, S, r1, r2, e, q⟩ := h
  have s1 := r1.saw S
  have bl := bigLine
  unfold idxD at e
  generalize see st dx = ex at s1 e
  split at e
  · obtain ⟨a, xs, rfl, ht, q1⟩ := saw_tup s1
    have ey := rep_int r2
    subst ey
    obtain ⟨w, e1, e2⟩ := at_rep q1 e
    exact ix_tup value slice pins s σ H _ _ v u Q I rx ry ⟨a, xs, _, w, rfl, rfl, ht.sq, e1, q _ H (Step.refl _ _) S e2⟩ hs
  · obtain ⟨a, xs, rfl, ht, q1⟩ := saw_lst s1
    have ey := rep_int r2
    subst ey
    obtain ⟨w, e1, e2⟩ := at_rep q1 e
    exact ix_list value slice pins s σ H _ _ v u Q I rx ry ⟨a, xs, _, w, rfl, rfl, SqL.of ht, e1, q _ H (Step.refl _ _) S e2⟩ hs
  · rename_i ns i
    obtain ⟨a, rfl, ht⟩ := saw_frz s1
    have ey := rep_int r2
    subst ey
    obtain ⟨n, e1, rfl⟩ := Option.map_eq_some_iff.mp e
    have e2 : atI (ns.map V.int) i = some (.int n) := by
      unfold atI at e1 ⊢
      rw [List.length_map]
      obtain ⟨j, f1, f2⟩ := Option.bind_eq_some_iff.mp e1
      rw [f1]
      show (ns.map V.int)[j]? = _
      rw [List.getElem?_map, f2]; rfl
    exact ix_list value slice pins s σ H _ _ v u Q I rx ry ⟨a, _, _, _, rfl, rfl, ht, e2, q _ H (Step.refl _ _) S (.int _)⟩ hs
  · split at e
    · have ex := saw_str s1
      subst ex
      have ey := rep_int r2
      subst ey
      obtain ⟨n, e1, rfl⟩ := Option.map_eq_some_iff.mp e
      exact ix_str value slice pins s σ H _ _ v u Q I rx ry ⟨_, _, n, rfl, rfl, by omega, e1, q _ H (Step.refl _ _) S (.str _)⟩ hs
    · cases e
  · split at e
    · rename_i hk
      obtain ⟨k, rfl⟩ := key_rep r2 hk
      obtain ⟨a, kvs, rfl, hr, q1, q2⟩ := saw_dct s1
      obtain ⟨w, e1, e2⟩ := (look_val q1 q2 r2).1 d e
      cases rx
      have g : DGet H a (kV k) (some w) := .inl ⟨kvs, k, hr, rfl, e1.symm⟩
      exact PyProof.Rows.tail_any (dict_typeIs I g) PySem.F.slot_dict_getitem.lookup (d_getItem (by omega) I g ry fun w' s3 I3 rw' => ⟨w, H, I3, rw', q _ H (Step.refl _ _) S e2⟩) hs
    · cases e
  · cases e
def liftS (K : PySem.W.Frag) : V → Option Int → Option Int → Hp → VK → Prop := fun x lo hi H Q => ∃ W st dx d, Sim K H W st ∧ Rep K H W x dx ∧ sliceD st dx lo hi = some d ∧ ∀ v H', Step H W H' W → Sim K H' W st → Rep K H' W v d → Q v H'
theorem cutS_eq (z : Str) (lo hi : Option Int) : cutS z lo hi = ⟨(cut z.cps.toList lo hi).toArray⟩ := by
  unfold cutS cut
  have e : z.cps.toList.length = z.length := by simp [Str.length]
  rw [e]
theorem sl_L : SlR X (liftS X.K) := by
  intro pins s σ H x v vl vu lo hi sl Q I rx hs pl pu h
  obtain ⟨W, st, dx, d, S, r1, e, q⟩ := h
  have s1 := r1.saw S
  have bl := bigLine
  unfold sliceD at e
  generalize see st dx = ex at s1 e
  split at e
  · cases e
    obtain ⟨a, xs, rfl, ht, q1⟩ := saw_tup s1
    refine sl_tupF pins s σ H _ v vl vu lo hi sl Q I rx hs pl pu ⟨a, xs, rfl, ht.sq, fun hw => q _ H (Step.refl _ _) S (.tup ht ?_), newT S (q1.cut lo hi) q⟩
    have hc := q1.cut lo hi
    have e1 : cutV xs lo hi = xs := by
      unfold cutV
      rw [hw.1, hw.2]
      simp
    rw [e1] at hc
    exact hc
  · cases e
    obtain ⟨a, xs, rfl, ht, q1⟩ := saw_lst s1
    exact sl_list pins s σ H _ v vl vu lo hi sl Q I rx hs pl pu ⟨a, xs, rfl, SqL.of ht, newL S (q1.cut lo hi) q⟩
  · split at e
    · cases e
      have ex := saw_str s1
      subst ex
      refine sl_str pins s σ H _ v vl vu lo hi sl Q I rx hs pl pu ⟨_, rfl, by omega, ?_⟩
      rw [cutS_eq]
      exact q _ H (Step.refl _ _) S (.str _)
    · cases e
  · cases e
/-! ### built-in functions -/
theorem reps1 {K : PySem.W.Frag} {H : Hp} {W : Wd} {xs : List V} {d : D} (r : Reps K H W xs [d]) : ∃ v, xs = [v] ∧ Rep K H W v d := by
  cases r with
  | cons h r => cases r; exact ⟨_, rfl, h⟩
/-- a built-in function of one value -/
def un1 (f : St → D → Option D) (st : St) : List D → Option D
  | [x] => f st x
  | _ => none
theorem call_un1 {fv : Value} {f : St → D → Option D} (h : ∀ (pins : List (Addr × Obj)) (s : Shared) (σ : L2.St) (H : Hp) (x : V) (us : List Value) (Q : VK) (W : Wd) (st : St) (dx d : D), Inv X pins σ H s → Vals [x] us → Sim X.K H W st → Rep X.K H W x dx → f st dx = some d →
    (∀ v H', Step H W H' W → Sim X.K H' W st → Rep X.K H' W v d → Q v H') → wpAny (model X.prog X.w) X.A (call fv us) (EP X pins σ Q) X.xe s) : CallR X fv (liftN X.K (un1 f)) := by
  intro pins s σ H xs us Q I r hh
  obtain ⟨W, st, ds, d, S, rs, e, q⟩ := hh
  unfold un1 at e
  split at e
  · obtain ⟨x, rfl, rx⟩ := reps1 rs
    exact h pins s σ H x us Q W st _ d I r S rx e q
  · cases e
theorem call_lenL : CallR X (.builtin "len") (liftN X.K (un1 lenD)) := call_un1 fun pins s σ H x us Q W st dx d I r S rx e q => by
  have s1 := rx.saw S
  have bl := bigLine
  unfold lenD at e
  generalize see st dx = ex at s1 e
  split at e
  · cases e
    obtain ⟨a, xs, rfl, ht, q1⟩ := saw_tup s1
    refine call_len_seq pins s σ H _ us Q I r ⟨a, xs, rfl, .inr ht.sq, ?_⟩
    rw [q1.length]
    exact q _ H (Step.refl _ _) S (.int _)
  · cases e
    obtain ⟨a, xs, rfl, ht, q1⟩ := saw_lst s1
    refine call_len_seq pins s σ H _ us Q I r ⟨a, xs, rfl, .inl (SqL.of ht), ?_⟩
    rw [q1.length]
    exact q _ H (Step.refl _ _) S (.int _)
  · cases e
    obtain ⟨a, rfl, ht⟩ := saw_frz s1
    refine call_len_seq pins s σ H _ us Q I r ⟨a, _, rfl, .inl ht, ?_⟩
    rw [List.length_map]
    exact q _ H (Step.refl _ _) S (.int _)
  · split at e
    · cases e
      have ex := saw_str s1
      subst ex
      exact call_len_str pins s σ H _ us Q I r ⟨_, rfl, by omega, q _ H (Step.refl _ _) S (.int _)⟩
    · cases e
  · cases s1 with
    | rep h _ _ => cases h
  · cases e
    obtain ⟨a, kvs, rfl, hr, q1, q2⟩ := saw_dct s1
    obtain ⟨u, rfl, ru⟩ := vals1 r
    cases ru
    refine d_len I hr fun t s3 I3 => ⟨.int _, H, I3, ⟨t, rfl⟩, ?_⟩
    have e1 := q1.length
    rw [List.length_map] at e1
    rw [e1]
    exact q _ H (Step.refl _ _) S (.int _)
  · cases e
theorem call_absL : CallR X (.builtin "abs") (liftN X.K (un1 absD)) := call_un1 fun pins s σ H x us Q W st dx d I r S rx e q => by
  unfold absD at e
  split at e
  · cases e
    have ex := rep_int rx
    subst ex
    exact call_abs pins s σ H _ us Q I r ⟨_, rfl, q _ H (Step.refl _ _) S (.int _)⟩
  · cases e
theorem call_allL (hc : X.calm = true) : CallR X (.builtin "all") (liftN X.K (un1 allD)) := call_un1 fun pins s σ H x us Q W st dx d I r S rx e q => by
  have s1 := rx.saw S
  unfold allD at e
  generalize see st dx = ex at s1 e
  split at e
  · obtain ⟨bs, e1, rfl⟩ := Option.map_eq_some_iff.mp e
    obtain ⟨a, xs, rfl, ht, q1⟩ := saw_lst s1
    rw [q1.asBools e1] at ht
    exact cr_all hc pins s σ H _ us Q I r ⟨a, bs, rfl, SqL.of ht, q _ H (Step.refl _ _) S (.bl _)⟩
  · cases e
theorem call_anyL (hc : X.calm = true) : CallR X (.builtin "any") (liftN X.K (un1 anyD)) := call_un1 fun pins s σ H x us Q W st dx d I r S rx e q => by
  have s1 := rx.saw S
  unfold anyD at e
  generalize see st dx = ex at s1 e
  split at e
  · obtain ⟨bs, e1, rfl⟩ := Option.map_eq_some_iff.mp e
    obtain ⟨a, xs, rfl, ht, q1⟩ := saw_lst s1
    rw [q1.asBools e1] at ht
    exact cr_any hc pins s σ H _ us Q I r ⟨a, bs, rfl, SqL.of ht, q _ H (Step.refl _ _) S (.bl _)⟩
  · cases e
theorem call_sumL (hc : X.calm = true) : CallR X (.builtin "sum") (liftN X.K (un1 sumD)) := call_un1 fun pins s σ H x us Q W st dx d I r S rx e q => by
  have s1 := rx.saw S
  unfold sumD at e
  generalize see st dx = ex at s1 e
  split at e
  · obtain ⟨bs, e1, rfl⟩ := Option.map_eq_some_iff.mp e
    obtain ⟨a, xs, rfl, ht, q1⟩ := saw_lst s1
    rw [q1.asInts e1] at ht
    exact cr_sum hc pins s σ H _ us Q I r ⟨a, bs, rfl, SqL.of ht, q _ H (Step.refl _ _) S (.int _)⟩
  · cases e
theorem call_tupleL : CallR X (.type "tuple") (liftN X.K (un1 tupleD)) := call_un1 fun pins s σ H x us Q W st dx d I r S rx e q => by
  have s1 := rx.saw S
  unfold tupleD at e
  generalize see st dx = ex at s1 e
  split at e
  · cases e
    obtain ⟨a, xs, rfl, ht, q1⟩ := saw_lst s1
    exact call_tuple_ofF pins s σ H _ us Q I r ⟨a, xs, rfl, .inl ⟨SqL.of ht, newT S q1 q⟩⟩
  · cases e
    obtain ⟨a, xs, rfl, ht, q1⟩ := saw_tup s1
    exact call_tuple_ofF pins s σ H _ us Q I r ⟨a, xs, rfl, .inr ⟨ht.sq, q _ H (Step.refl _ _) S (.tup ht q1)⟩⟩
  · cases e
theorem call_listL : CallR X (.type "list") (liftN X.K (un1 listD)) := call_un1 fun pins s σ H x us Q W st dx d I r S rx e q => by
  have s1 := rx.saw S
  unfold listD at e
  generalize see st dx = ex at s1 e
  split at e
  · cases e
    obtain ⟨a, xs, rfl, ht, q1⟩ := saw_lst s1
    exact call_list_of pins s σ H _ us Q I r ⟨a, xs, rfl, .inl (SqL.of ht), newL S q1 q⟩
  · cases e
    obtain ⟨a, xs, rfl, ht, q1⟩ := saw_tup s1
    exact call_list_of pins s σ H _ us Q I r ⟨a, xs, rfl, .inr ht.sq, newL S q1 q⟩
  · cases e
end
end RP
end
section
set_option Elab.async false
set_option linter.all false
set_option maxRecDepth 100000
/-! [::-1], isinstance, dict(..) by values. -/
namespace RP
open PySem L2 PySem.SeqAt
section
open PySem.Spec PyProof.Rows
variable {prog : Program} {w : World} {A : Around} {E : Value → Shared → Prop} {s : Shared}
theorem sliceApplied_rev {sl : Addr} {vl vu vs : Value} {n : Nat} {Q : Int × Int × Nat → Shared → Prop} (hs : s.heap.IsSliceOf sl vl vu vs) (pl : IsPart vl none) (pu : IsPart vu none) (ps : IsPart vs (some (-1)))
    (h : Q ((n : Int) - 1, -1, n) s) : wpAny (model prog w) A (Builtin.Slice.sliceApplied (.ref sl) (pure (n : Int))) Q E s := by
  obtain ⟨os, hos, hcs, hds⟩ := id hs
  unfold Builtin.Slice.sliceApplied Builtin.Slice.sliceFields
  refine wpAny_bind (wpAny_bind (wpAny_field hos hds (x := vl) rfl (wpAny_bind (wpAny_field hos hds (x := vu) rfl (wpAny_bind (wpAny_field hos hds (x := vs) rfl (wpAny_pure ?_)))))))
  refine wpAny_bind (HT.slicePart_ ps ?_)
  show wpAny _ _ (if ((-1 : Int) == 0) = true then _ else _) _ _ s
  rw [if_neg (by decide)]
  refine wpAny_bind (HT.slicePart_ pl (wpAny_bind (HT.slicePart_ pu (wpAny_bind (wpAny_pure ?_)))))
  show wpAny _ _ (match Builtin.Slice.sliceAdjust none none (-1) (n : Int) with | (lo, hi) => pure (lo, (-1 : Int), Builtin.Slice.slicePlaces lo hi (-1))) _ _ s
  have e1 : Builtin.Slice.sliceAdjust none none (-1) (n : Int) = ((n : Int) - 1, -1) := by
    simp [Builtin.Slice.sliceAdjust]
  rw [e1]
  have e2 : Builtin.Slice.slicePlaces ((n : Int) - 1) (-1) (-1) = n := by
    unfold Builtin.Slice.slicePlaces
    by_cases h0 : n = 0
    · subst h0; simp
    · have : (-1 : Int) < (n : Int) - 1 := by omega
      simp [this]
  show wpAny _ _ (pure ((n : Int) - 1, (-1 : Int), Builtin.Slice.slicePlaces ((n : Int) - 1) (-1) (-1))) _ _ s
  rw [e2]
  exact wpAny_pure h
theorem fm_congr {α β : Type} {f g : α → Option β} : ∀ (l : List α), (∀ x ∈ l, f x = g x) → l.filterMap f = l.filterMap g
  | [], _ => rfl
  | x :: r, h => by
    rw [List.filterMap_cons, List.filterMap_cons, h x List.mem_cons_self, fm_congr r fun y hy => h y (List.mem_cons_of_mem _ hy)]
theorem pick_rev (xs : Array Value) : ((List.range xs.size).filterMap fun (m : Nat) => xs[(((xs.size : Int) - 1) + (m : Int) * (-1)).toNat]?).toArray = xs.toList.reverse.toArray := by
  have e : ((List.range xs.size).filterMap fun (m : Nat) => xs[(((xs.size : Int) - 1) + (m : Int) * (-1)).toNat]?) = (((List.range xs.size).map fun k => xs.size - 1 - k).filterMap (xs[·]?)) := by
    rw [List.filterMap_map]
    refine fm_congr _ fun m hm => ?_
    have := List.mem_range.mp hm
    have q : (((xs.size : Int) - 1) + (m : Int) * (-1)).toNat = xs.size - 1 - m := by omega
    rw [q]; rfl
  rw [e, PySem.W.krv_range, List.filterMap_reverse, PySem.W.krv_all]
theorem getItem_tuple_rev {t sl : Addr} {items : Array Value} {vl vu vs : Value} {Q : Value → Shared → Prop} (ht : IsTup s.heap t items) (hs : s.heap.IsSliceOf sl vl vu vs) (pl : IsPart vl none) (pu : IsPart vu none) (ps : IsPart vs (some (-1)))
    (h : Q (.ref s.heap.objs.size) { s with heap := s.heap.push { cls := .type "tuple", data := .seq items.toList.reverse.toArray } })
    (hsz : items.size ≤ sizeLine) : wpAny (model prog w) A (getItem (.ref t) (.ref sl)) Q E s := by
  have htake : sizeOk (.seq items.toList.reverse.toArray) := by
    show items.toList.reverse.toArray.size ≤ sizeLine
    simpa using hsz
  obtain ⟨os, hos, hcs, hds⟩ := id hs
  have hTs : s.TypeIs (.ref sl) "slice" := ⟨os, hos, hcs⟩
  unfold getItem
  try with_reducible refine wpAny_holding ?_
  first | refine wpAny_bind (wpAny_pure ?_) | skip
  refine wpAny_bind (wpAny_sequenceKey ht.typeIs (by decide) ?_)
  refine wpAny_bind (wpAny_callSpecial?_slot (name := Str.ofString "__getitem__") ht.typeIs PyProof.Rows.slot_tuple_getitem
    (wpAny_call_entry PyProof.Rows.slot_tuple_getitem ht.typeIs entry_tuple_getitem ?_ (args_tuple_getitem _ _)))
  show wpAny _ _ (Builtin.Tuple.tupleItemsOf (.ref t) >>= _) _ _ s
  refine wpAny_bind (tupleItemsOf_ ht ?_)
  refine wpAny_bind (wpAny_typeOf hTs ?_)
  rw [if_pos (by decide)]
  refine wpAny_bind (sliceApplied_rev hs pl pu ps ?_)
  have hno : ¬ ((((items.size : Int) - 1) == 0 && (-1 : Int) == 1 && items.size == items.size) = true) := by
    simp
  show wpAny _ _ (if (((items.size : Int) - 1) == 0 && (-1 : Int) == 1 && items.size == items.size) = true then _ else _) _ _ s
  rw [if_neg hno, pick_rev]
  first
    | exact wpAny_bind (m := Builtin.Tuple.tupleExact _) (wpAny_newObj_type (wpAny_pure ⟨_, rfl, wpAny_pure h⟩) htake)
    | exact wpAny_bind (m := Builtin.Tuple.tupleExact _) (wpAny_newObj_type (wpAny_bind (wpAny_pure (wpAny_pure ⟨_, rfl, wpAny_pure h⟩))) htake)
    | exact wpAny_bind (wpAny_bind (m := Builtin.Tuple.tupleExact _) (wpAny_newObj_type (wpAny_pure (wpAny_pure ⟨_, rfl, wpAny_pure h⟩)) htake))
    | exact wpAny_bind (wpAny_bind (m := Builtin.Tuple.tupleExact _) (wpAny_newObj_type (wpAny_pure ⟨_, rfl, wpAny_pure h⟩) htake))
variable {X : Cx}
def tRevD (K : PySem.W.Frag) (te : TE) : TE := fun σ H Q => te σ H fun x H1 => lift1 K revD x H1 Q
theorem pe_revD {e : Expr} {te : TE} {k : Nat} {p1 p2 p3 pos : Pos} (he : PE X e te) : PE X (.Subscript e (.Slice none none (some (.UnaryOp .USub (.Constant (.int 1) k p1) p2)) p3) pos) (tRevD X.K te) := by
  refine ⟨fun pins s σ H Q I h => ?_⟩
  refine Subscript_ (thn (he.run pins s σ H _ I h) fun v s1 ⟨x, H1, I1, r1, q1⟩ => ?_)
  obtain ⟨W, st, dx, d, S, rx, e, q⟩ := q1
  have sw := rx.saw S
  have hst : PO X (some (.UnaryOp .USub (.Constant (.int 1) k p1) p2)) (tPart (tUn (rU fun i => .int (-i)) (tC (.int 1)))) := po_some (pe_un un_neg pe_int)
  refine wpAny_Slice (thn (po_none.run pins s1 σ H1 (fun o H2 => o = none ∧ H2 = H1) I1 ⟨rfl, rfl⟩) fun vl s2 ⟨l, H2, I2, pl, el, e2⟩ => ?_)
  subst el e2
  refine thn (po_none.run pins s2 σ H2 (fun o H3 => o = none ∧ H3 = H2) I2 ⟨rfl, rfl⟩) fun vu s3 ⟨u, H3, I3, pu, eu, e3⟩ => ?_
  subst eu e3
  refine thn (hst.run pins s3 σ H3 (fun o H4 => o = some (-1) ∧ H4 = H3) I3 ⟨1, rfl, -1, rfl, rfl, rfl⟩) fun vs s4 ⟨o, H4, I4, ps, eo, e4⟩ => ?_
  subst eo e4
  have I5 : Inv X pins σ H4 { s4 with heap := s4.heap.push { cls := .type "slice", data := .fields #[vl, vu, vs] } } := I4.kept (t' := s4.toks) fun b ob q => Heap.get?_push_of_some _ q
  unfold revD at e
  generalize see st dx = ex at sw e
  split at e
  · cases e
    obtain ⟨a, xs, rfl, ht0, q1⟩ := saw_tup sw
    cases r1
    obtain ⟨its, r, ht, hz⟩ := I5.tuple ht0.sq
    have hlen := r.length
    show wpAny (model X.prog X.w) X.A (subscriptTail _ (.Slice none none (some (.UnaryOp .USub (.Constant (.int 1) k p1) p2)) p3) (.ref a) (.ref s4.heap.objs.size)) (EP X pins σ Q) X.xe { s4 with heap := s4.heap.push { cls := .type "slice", data := .fields #[vl, vu, vs] } }
    refine tail_any (ops := [.ref a, .ref s4.heap.objs.size]) ht.typeIs (PyProof.Rows.slot_tuple_getitem.lookup) ?_ (by with_unfolding_all rfl)
    refine getItem_tuple_rev ht (Heap.IsSliceOf.new _ vl vu vs) pl pu ps ?_ (by rw [List.size_toArray]; omega)
    exact ⟨.ref _, _, laidT (t' := s4.toks) I5 (by rw [List.length_reverse]; exact hz) r.reverse, rfl, newT S q1.reverse q _ _ (I5.hok.fresh (Nat.le_refl _)) rfl⟩
  · cases e
    obtain ⟨a, xs, rfl, hx, q1⟩ := saw_lst sw
    cases r1
    obtain ⟨its, r, ht, hz⟩ := I5.list (SqL.of hx)
    have hlen := r.length
    show wpAny (model X.prog X.w) X.A (subscriptTail _ (.Slice none none (some (.UnaryOp .USub (.Constant (.int 1) k p1) p2)) p3) (.ref a) (.ref s4.heap.objs.size)) (EP X pins σ Q) X.xe { s4 with heap := s4.heap.push { cls := .type "slice", data := .fields #[vl, vu, vs] } }
    refine tail_any (ops := [.ref a, .ref s4.heap.objs.size]) ht.isList.typeIs (PySem.slot_list_getitem.lookup) ?_ (by with_unfolding_all rfl)
    refine wpAny_getItem_list_slice ht.isList (Heap.IsSliceOf.new _ vl vu vs) pl pu ps (by decide) ?_ (by rw [List.size_toArray]; omega)
    rw [PySem.W.krv_pick]
    refine ⟨.ref _, _, I5.laid (t' := s4.toks) (o := .lst xs.reverse) (fun b ob q => Heap.get?_push_of_some _ q) (Nat.le_refl _) ?_, rfl, newL S q1.reverse q _ (I5.hok.fresh (Nat.le_refl _))⟩
    exact ⟨by rw [List.length_reverse]; exact hz, _, 0, r.reverse, Heap.get?_push_size _ rfl⟩
  · cases e
end
/-! ### isinstance -/
def kdName : Kd → String
  | .str => "str" | .int => "int" | .bool => "bool" | .tuple => "tuple" | .list => "list" | .dict => "dict"
def tyN : D → String
  | .non => "NoneType" | .bl _ => "bool" | .int _ => "int" | .str _ => "str" | .tup _ => "tuple" | .lst _ => "list" | .dct _ _ => "dict" | .frz _ => "list" | _ => ""
theorem boot_kd (k : Kd) : ∃ x : Str, x = Str.ofString (kdName k) := ⟨_, rfl⟩
section
variable {X : Cx}
theorem saw_ty {K : PySem.W.Frag} {H : Hp} {W : Wd} {v : V} {d : D} (h : Saw K H W v d) (hr : ∀ n, d ≠ .ref n) (hs : ∀ n, d ≠ .set n) : TyX K H v (.type (tyN d)) := by
  cases h with
  | lst h r => exact .base (.lst h)
  | dct h r r2 =>
    rcases h with h | ⟨o, h⟩
    · exact .base (.dK h)
    · exact .fDict h
  | rep h n1 n2 =>
    cases h with
    | non => exact .base .non
    | bl b => exact .base (.bl b)
    | int b => exact .base (.int b)
    | str b => exact .base (.str b)
    | tup h r =>
      rcases h with ⟨o, h, _⟩ | ⟨o, its, n, h1, h2, _⟩
      · exact .fTuple h
      · exact .kTuple h1 h2
    | lst h _ _ r => exact absurd rfl (n1 _)
    | dct h _ _ r => exact absurd rfl (n2 _ _)
    | frz h =>
      rcases h with ⟨o, h⟩ | ⟨o, its, n, h1, h2, _⟩
      · exact .base (.frz h)
      · exact .kList h1 h2
    | ref h => exact absurd rfl (hr _)
theorem isi_kit {K : PySem.W.Frag} {k : Kd} {st : St} {x : D} {d : D} (h : isiD k st x = some d) : (∀ n, see st x ≠ .ref n) ∧ (∀ n, see st x ≠ .set n) ∧ ∃ b, d = .bl b ∧ PySem.W.kitOne K (.type (tyN (see st x))) (.type (kdName k)) = some b := by
  unfold isiD at h
  generalize see st x = ex at h ⊢
  cases k <;> cases ex <;> first
    | (cases h; done)
    | (cases h; exact ⟨(fun _ z => nomatch z), (fun _ z => nomatch z), _, rfl, kit_ty (by simp only [tyN, kdName]; decide +kernel)⟩)
/-- isinstance(e, T) by values: the value, then the class -/
theorem call_isiL (k : Kd) : CallR X (.builtin "isinstance") (fun xs H Q => ∃ x W st dx d, xs = [x, .ty (kdName k)] ∧ Sim X.K H W st ∧ Rep X.K H W x dx ∧ isiD k st dx = some d ∧ ∀ v, Rep X.K H W v d → Q v H) := by
  intro pins s σ H xs us Q I r h
  obtain ⟨x, W, st, dx, d, rfl, S, rx, e, q⟩ := h
  obtain ⟨n1, n2, b, rfl, hk⟩ := isi_kit (K := X.K) e
  exact call_isi pins s σ H _ us Q I r ⟨x, _, _, _, b, rfl, .ty _, saw_ty (rx.saw S) n1 n2, hk, q _ (.bl b)⟩
end
/-! ### dict(..) -/
section
variable {K : PySem.W.Frag} {H : Hp} {W : Wd}
theorem any_keys {k : Key} {e : D} (he : Rep K H W (kV k) e) : ∀ {kvs : List (Key × V)} {ks : List D}, Reps K H W (kvs.map fun kv => kV kv.1) ks → ks.any (fun d => eqD d e) = kvs.any fun kv => decide (kv.1 = k)
  | [], _, .nil => rfl
  | p :: r, _, .cons h rs => by rw [List.any_cons, List.any_cons, key_eq h he, any_keys he rs]
theorem repl_keys {k : Key} (y : V) : ∀ (kvs : List (Key × V)), (kvs.map fun kv => if kv.1 = k then (kv.1, y) else kv).map (fun kv => kV kv.1) = kvs.map fun kv => kV kv.1
  | [] => rfl
  | p :: r => by
    rw [List.map_cons, List.map_cons, repl_keys y r, List.map_cons]
    by_cases h : p.1 = k
    · rw [if_pos h]
    · rw [if_neg h]
theorem repl_vals {k : Key} {e d : D} {y : V} (he : Rep K H W (kV k) e) (hy : Rep K H W y d) : ∀ {kvs : List (Key × V)} {ks vs : List D}, Reps K H W (kvs.map fun kv => kV kv.1) ks → Reps K H W (kvs.map (·.2)) vs →
    Reps K H W ((kvs.map fun kv => if kv.1 = k then (kv.1, y) else kv).map (·.2)) (List.zipWith (fun k v => if eqD k e then d else v) ks vs)
  | [], _, _, .nil, .nil => .nil
  | p :: r, _, _, .cons h rs, .cons h2 rs2 => by
    rw [List.map_cons, List.map_cons, List.zipWith_cons_cons]
    refine .cons ?_ (repl_vals he hy rs rs2)
    rw [key_eq h he]
    by_cases hk : p.1 = k
    · rw [if_pos hk, decide_eq_true hk]; exact hy
    · rw [if_neg hk, decide_eq_false hk]; exact h2
theorem put_rep {k : Key} {e d : D} {y : V} {kvs : List (Key × V)} {ks vs : List D} (he : Rep K H W (kV k) e) (hy : Rep K H W y d) (r1 : Reps K H W (kvs.map fun kv => kV kv.1) ks) (r2 : Reps K H W (kvs.map (·.2)) vs) :
    Reps K H W ((putK kvs k y).map fun kv => kV kv.1) (dPut ks vs e d).1 ∧ Reps K H W ((putK kvs k y).map (·.2)) (dPut ks vs e d).2 := by
  unfold putK dPut
  rw [any_keys he r1]
  by_cases h : (kvs.any fun kv => decide (kv.1 = k)) = true
  · rw [if_pos h, if_pos h]
    exact ⟨by rw [repl_keys]; exact r1, repl_vals he hy r1 r2⟩
  · rw [if_neg h, if_neg h]
    exact ⟨by rw [List.map_append]; exact r1.append (.cons he .nil), by rw [List.map_append]; exact r2.append (.cons hy .nil)⟩
/-- keys and values of pairs -/
inductive Prd (K : PySem.W.Frag) (H : Hp) (W : Wd) : List (Key × V) → List (D × D) → Prop
  | nil : Prd K H W [] []
  | cons {k : Key} {v : V} {kvs : List (Key × V)} {e d : D} {eds : List (D × D)} : Rep K H W (kV k) e → Rep K H W v d → Prd K H W kvs eds → Prd K H W ((k, v) :: kvs) ((e, d) :: eds)
theorem puts_rep : ∀ {more : List (Key × V)} {eds : List (D × D)} {kvs : List (Key × V)} {ks vs : List D}, Prd K H W more eds → Reps K H W (kvs.map fun kv => kV kv.1) ks → Reps K H W (kvs.map (·.2)) vs →
    Reps K H W ((mergeK kvs more).map fun kv => kV kv.1) (dPuts ks vs eds).1 ∧ Reps K H W ((mergeK kvs more).map (·.2)) (dPuts ks vs eds).2
  | _, _, kvs, ks, vs, .nil, r1, r2 => ⟨r1, r2⟩
  | _, _, kvs, ks, vs, .cons (k := k) (v := v) (e := e) (d := d) (kvs := kvs') (eds := eds') he hd r, r1, r2 => by
    have q := put_rep he hd r1 r2
    show Reps K H W ((mergeK (putK kvs k v) kvs').map fun kv => kV kv.1) (dPuts (dPut ks vs e d).1 (dPut ks vs e d).2 eds').1 ∧ Reps K H W ((mergeK (putK kvs k v) kvs').map (·.2)) (dPuts (dPut ks vs e d).1 (dPut ks vs e d).2 eds').2
    exact puts_rep r q.1 q.2
end
section
variable {X : Cx}
/-- the pairs in a sequence -/
theorem pairs_rep {pins : List (Addr × Obj)} {σ : L2.St} {H : Hp} {s : Shared} {W : Wd} (I : Inv X pins σ H s) : ∀ {xs : List V} {us : List Value} {ds : List D} {eds : List (D × D)}, Reps X.K H W xs ds → Vals xs us → prs ds = some eds →
    ∃ (as : List Addr) (ps : List (Value × Value)) (kvs : List (Key × V)) (rs : List (Key × Value)), us = as.map Value.ref ∧ Prd X.K H W kvs eds ∧ KV kvs rs ∧ as.length = ps.length ∧ rs.length = ps.length ∧
      (∀ (j : Nat) (k v : Value), ps[j]? = some (k, v) → ∃ b, as[j]? = some b ∧ s.heap.IsTuple b #[k, v]) ∧ ∀ (j : Nat) (k v : Value), ps[j]? = some (k, v) → ∃ k', rs[j]? = some (k', v) ∧ (mixKind X.prog X.w).is k' k = true
  | _, _, [], eds, .nil, .nil, e => by
    cases e
    exact ⟨[], [], [], [], rfl, .nil, .nil, rfl, rfl, fun j k v h => by simp at h, fun j k v h => by simp at h⟩
  | _, _, d :: ds, eds, .cons h r, .cons rv rvs, e => by
    unfold prs at e
    split at e
    · cases ‹_ :: _ = []›
    · rename_i k v xs' heq
      cases heq
      split at e
      · rename_i hk
        obtain ⟨eds', e1, rfl⟩ := Option.map_eq_some_iff.mp e
        obtain ⟨as, ps, kvs, rs, eu, hp, hkv, l1, l2, f1, f2⟩ := pairs_rep I r rvs e1
        cases h with
        | tup ht q1 =>
          rename_i a ys
          cases rv
          cases q1 with
          | cons hk1 q1 =>
            cases q1 with
            | cons hv1 q1 =>
              cases q1
              obtain ⟨kk, rfl⟩ := key_rep hk1 hk
              obtain ⟨its, rt, pt, _⟩ := I.tuple ht.sq
              cases rt with
              | cons ra rt =>
                cases rt with
                | cons rb rt =>
                  cases rt
                  rename_i uk uv
                  refine ⟨a :: as, (uk, uv) :: ps, (kk, _) :: kvs, (kk, uv) :: rs, by rw [eu]; rfl, .cons hk1 hv1 hp, .cons ⟨rfl, rb⟩ hkv, by simp [l1], by simp [l2], fun j k v hj => ?_, fun j k v hj => ?_⟩
                  · cases j with
                    | zero => simp at hj; obtain ⟨rfl, rfl⟩ := hj; exact ⟨a, rfl, pt⟩
                    | succ j => exact f1 j k v (by simpa using hj)
                  · cases j with
                    | zero => simp at hj; obtain ⟨rfl, rfl⟩ := hj; exact ⟨kk, rfl, kV_is ra⟩
                    | succ j => exact f2 j k v (by simpa using hj)
      · cases e
    · cases e
theorem dict_done {pins : List (Addr × Obj)} {σ : L2.St} {H : Hp} {s : Shared} {W : Wd} {Q : VK} {T : String} {a : Addr} {fp : List Addr} {OK : Heap → Prop} {ps : List (Value × Value)} {kvs : List (Key × V)} {rs : List (Key × Value)} {eds : List (D × D)} {st : St} (hc : X.calm = true) (I : Inv X pins σ H s) (S : Sim X.K H W st)
    (P : PairArg X.prog X.w T a fp [] ps.length (PairRel ps) OK) (ok : OK s.heap) (hp : Prd X.K H W kvs eds) (hkv : KV kvs rs) (l2 : rs.length = ps.length) (f2 : ∀ (j : Nat) (k v : Value), ps[j]? = some (k, v) → ∃ k', rs[j]? = some (k', v) ∧ (mixKind X.prog X.w).is k' k = true) (hz : ps.length ≤ sizeLine)
    (q : ∀ v H', Step H W H' W → Sim X.K H' W st → Rep X.K H' W v (.dct (dPuts [] [] eds).1 (dPuts [] [] eds).2) → Q v H') : wpAny (model X.prog X.w) X.A (call (.type "dict") [.ref a]) (EP X pins σ Q) X.xe s := by
  refine PySem.call_dict_pairs (knd := mixKind X.prog X.w) (kvs := rs) P (I.ok.hd hc) ok ⟨l2, fun i k v h => f2 i k v h⟩ hz fun h' tk hd hk => ?_
  have hb := I.big
  have hm : KV (mergeK [] kvs) (merged [] rs) := KV.merge hkv .nil
  have hlen : (mergeK [] kvs).length ≤ sizeLine := by
    have h1 := length_mergeK kvs []
    have h2 := hkv.length
    simp at h1
    omega
  refine ⟨.ref s.heap.objs.size, upd H s.heap.objs.size (.dK (mergeK [] kvs)), I.laid (t' := tk) (fun b u e => hk b u (by simp) e) (Nat.le_refl _) ⟨hlen, ?_, _, hm, hd⟩, rfl, ?_⟩
  · rw [beq_eq_false_iff_ne]
    exact Nat.ne_of_gt hb
  · have q2 := puts_rep hp (kvs := []) (ks := []) (vs := []) .nil .nil
    exact newD S q2.1 q2.2 q _ (I.hok.fresh (Nat.le_refl _))
theorem call_dictL (hc : X.calm = true) : CallR X (.type "dict") (liftN X.K (un1 dictD)) := call_un1 fun pins s σ H x us Q W st dx d I r S rx e q => by
  have s1 := rx.saw S
  unfold dictD at e
  generalize see st dx = ex at s1 e
  obtain ⟨u, rfl, ru⟩ := vals1 r
  split at e
  · obtain ⟨eds, e1, rfl⟩ := Option.map_eq_some_iff.mp e
    obtain ⟨a, xs, rfl, ht, q1⟩ := saw_tup s1
    cases ru
    obtain ⟨its, rv, pt, hz⟩ := I.tuple ht.sq
    obtain ⟨as, ps, kvs, rs, eu, hp, hkv, l1, l2, f1, f2⟩ := pairs_rep I q1 rv e1
    have hpl : PlainSeq "tuple" s.heap a its.toArray := by
      rcases ht with ⟨o, ho, hd⟩ | ⟨o, its', n, hk, hcl, hd, hdat, _, rv'⟩
      · obtain ⟨g1, _⟩ := I.hok a _ ho
        obtain ⟨o', g2, hcl, n, hdat⟩ := pt
        rw [g1] at g2; cases g2
        exact ⟨o, n, g1, hcl, hd, hdat⟩
      · have g1 := I.kIn a o hk
        obtain ⟨o', g2, hcl', n', hdat'⟩ := pt
        rw [g1] at g2; cases g2
        exact ⟨o, n', g1, hcl, hd, hdat'⟩
    have hle : its.length = ps.length := by rw [eu]; simpa using l1
    have hle2 := rv.length
    refine dict_done hc I S (PairArg.tuple a its.toArray (fun j => as.getD j 0) ps) ⟨hpl, by simpa using hle, fun j k v hj => ?_⟩ hp hkv l2 f2 (by omega) q
    obtain ⟨b, hb, htp⟩ := f1 j k v hj
    have hg : as.getD j 0 = b := by rw [List.getD_eq_getElem?_getD, hb]; rfl
    refine ⟨?_, .inl (by dsimp only; rw [hg]; exact htp)⟩
    dsimp only
    rw [hg, eu]
    simp [hb]
  · obtain ⟨eds, e1, rfl⟩ := Option.map_eq_some_iff.mp e
    obtain ⟨a, xs, rfl, ht, q1⟩ := saw_lst s1
    cases ru
    obtain ⟨its, rv, pt, hz⟩ := I.list (SqL.of ht)
    obtain ⟨as, ps, kvs, rs, eu, hp, hkv, l1, l2, f1, f2⟩ := pairs_rep I q1 rv e1
    have hpl : PlainSeq "list" s.heap a its.toArray := pt
    have hle : its.length = ps.length := by rw [eu]; simpa using l1
    have hle2 := rv.length
    refine dict_done hc I S (PairArg.list a its.toArray (fun j => as.getD j 0) ps) ⟨hpl, by simpa using hle, fun j k v hj => ?_⟩ hp hkv l2 f2 (by omega) q
    obtain ⟨b, hb, htp⟩ := f1 j k v hj
    have hg : as.getD j 0 = b := by rw [List.getD_eq_getElem?_getD, hb]; rfl
    refine ⟨?_, .inl (by dsimp only; rw [hg]; exact htp)⟩
    dsimp only
    rw [hg, eu]
    simp [hb]
  · cases e
    obtain ⟨a, kvs, rfl, hr, q1, q2⟩ := saw_dct s1
    exact call_dictD pins s σ H _ [u] Q I r ⟨a, kvs, rfl, hr, newD S q1 q2 q⟩
  · cases e
end
end RP
end
section
set_option Elab.async false
set_option linter.all false
set_option maxRecDepth 100000
set_option maxHeartbeats 1000000
/-! zip of two tuples, whatever the target: the pairs are known to the object. -/
namespace RP
open PySem PySem.Spec PyProof.Rows L2
abbrev ZipR (h : Heap) (z TI TO : Addr) (f0 : Value) (fl : Bool) : Prop := h.get? z = some { cls := .type "zip", dict := none, data := .fields #[f0, .bool fl, .bool false, .ref TI, .ref TO], slots := #[] }
def ZMark (f0 : Value) : Prop := f0 = .none ∨ ∃ T : Nat, f0 = rawInt T
section
variable {prog : Program} {w : World} {A : Around} {E : Value → Shared → Prop} {s : Shared}
theorem zAlive {a : Addr} {Q : Option Obj → Shared → Prop} (h : Q (s.heap.get? a) s) : wpAny (model prog w) A (loadIfAlive a) Q E s := fun _ _ _ => h
theorem zFree {z TI TO : Addr} {f0 : Value} {fl : Bool} {Q : Bool → Shared → Prop} (zr : ZipR s.heap z TI TO f0 fl) (mk : ZMark f0) (q1 : Q true s) (q2 : ∀ h', ZipR h' z TI TO f0 true → Heap.SameBut z s.heap h' → Q false { s with heap := h' }) :
    wpAny (model prog w) A (Builtin.SmallTypes.ownedTupleIsFree (.ref z)) Q E s := by
  unfold Builtin.SmallTypes.ownedTupleIsFree
  rcases mk with rfl | ⟨T, rfl⟩
  · exact wpAny_bind (wpAny_field zr rfl (x := .none) rfl (wpAny_pure q1))
  · refine wpAny_bind (wpAny_field zr rfl (x := rawInt T) rfl ?_)
    change wpAny _ _ (loadIfAlive (Int.toNat T) >>= _) _ _ _
    refine wpAny_bind (zAlive ?_)
    cases s.heap.get? (Int.toNat T) with
    | none => exact wpAny_pure q1
    | some o =>
      simp only [Option.isNone_some, Bool.false_eq_true, if_false]
      refine wpAny_bind (wpAny_field zr rfl (x := .bool fl) rfl ?_)
      cases fl with
      | true => exact wpAny_pure (q2 s.heap zr (Heap.SameBut.refl _ _))
      | false => exact wpAny_bind (wpAny_setField_rec zr (by simp) fun g1 z1 b1 => wpAny_pure (q2 g1 z1 b1))
/-- what a turn leaves -/
structure ZNext (s : Shared) (z TI TO i1 i2 l1 l2 : Addr) (k1 k2 : Nat) (x y : Value) (h' : Heap) : Prop where
  zr : ∃ f0 fl, ZMark f0 ∧ ZipR h' z TI TO f0 fl
  to : ∃ a b, IsPair h' TO a b
  it1 : h'.IsTupleIter i1 l1 (k1 + 1)
  it2 : h'.IsTupleIter i2 l2 (k2 + 1)
  new : IsPair h' s.heap.objs.size x y
  size : h'.objs.size = s.heap.objs.size + 1
  keep : ∀ c o, c ≠ z → c ≠ TO → c ≠ i1 → c ≠ i2 → s.heap.get? c = some o → h'.get? c = some o
theorem zItem {z TI TO i1 i2 l1 l2 : Addr} {f0 : Value} {fl : Bool} {k1 k2 : Nat} {xs ys : Array Value} {x y a b : Value} {Q : Value → Shared → Prop} (ap : ZipApart z TI TO i1 i2 l1 l2) (zr : ZipR s.heap z TI TO f0 fl) (mk : ZMark f0)
    (ti : IsPair s.heap TI (.ref i1) (.ref i2)) (to : IsPair s.heap TO a b) (j1 : s.heap.IsTupleIter i1 l1 k1) (j2 : s.heap.IsTupleIter i2 l2 k2) (t1 : s.heap.IsTuple l1 xs) (t2 : s.heap.IsTuple l2 ys) (ex : xs[k1]? = some x) (ey : ys[k2]? = some y)
    (q : ∀ h', ZNext s z TI TO i1 i2 l1 l2 k1 k2 x y h' → Q (.ref s.heap.objs.size) { s with heap := h' }) :
    wpAny (model prog w) A (Builtin.«zip.__next__» ⟨[.ref z], []⟩) (fun fin s' => ∃ v, fin = .done (.ret v) ∧ Q v s') E s := by
  change wpAny _ _ (field (Value.ref z) 2 >>= _) _ _ _
  refine wpAny_bind (wpAny_field zr rfl (x := .bool false) rfl ?_)
  change wpAny _ _ (field (Value.ref z) 3 >>= _) _ _ _
  refine wpAny_bind (wpAny_field zr rfl (x := .ref TI) rfl ?_)
  refine wpAny_bind (wpAny_seqItems ti rfl ?_)
  change wpAny _ _ (Builtin.SmallTypes.ownedTupleIsFree (Value.ref z) >>= _) _ _ _
  refine wpAny_bind (zFree zr mk ?_ fun g1 z1 b1 => ?_)
  · simp only [if_true]
    refine wpAny_bind (wpAny_rule ?_)
    refine wpAny_bind (wpAny_field zr rfl (x := .ref TO) rfl ?_)
    refine wpAny_bind (wpAny_setField_rec zr (by simp) fun g1 z1 b1 => ?_)
    replace z1 : ZipR g1 z TI TO .ellipsis fl := z1
    refine wpAny_bind ?_
    simp only [List.zipIdx_cons, List.zipIdx_nil, List.forIn_cons, List.forIn_nil]
    refine wpAny_bind (wpAny_bind (wpAny_onRaise ?_))
    change wpAny _ _ (Builtin.SmallTypes.nextOf (Value.ref i1) >>= _) _ _ _
    refine wpAny_bind (RZ.nextOf_tuple_item (j1.extBut b1.extBut ap.i1z) (t1.extBut b1.extBut ap.l1z) ex fun g2 j1' b2 => wpAny_pure ?_)
    have to2 : IsPair g2 TO a b := b2.extBut _ _ ap.TOi1 (b1.extBut _ _ ap.TOz to)
    refine wpAny_bind (wpAny_seqItems to2 rfl ?_)
    refine wpAny_bind (wpAny_updateSeq_pair to2 fun g3 to3 b3 => ?_)
    replace to3 : IsPair g3 TO x b := to3
    refine wpAny_bind (wpAny_letGo (wpAny_pure ?_))
    refine wpAny_bind (wpAny_bind (wpAny_onRaise ?_))
    change wpAny _ _ (Builtin.SmallTypes.nextOf (Value.ref i2) >>= _) _ _ _
    refine wpAny_bind (RZ.nextOf_tuple_item (((j2.extBut b1.extBut ap.i2z).extBut b2.extBut ap.i12.symm).extBut b3.extBut ap.TOi2.symm) (((t2.extBut b1.extBut ap.l2z).extBut b2.extBut ap.l2i1).extBut b3.extBut ap.l2TO) ey fun g4 j2' b4 => wpAny_pure ?_)
    have to4 : IsPair g4 TO x b := b4.extBut _ _ ap.TOi2 to3
    refine wpAny_bind (wpAny_seqItems to4 rfl ?_)
    refine wpAny_bind (wpAny_updateSeq_pair to4 fun g5 to5 b5 => ?_)
    replace to5 : IsPair g5 TO x y := to5
    refine wpAny_bind (wpAny_letGo (wpAny_pure (wpAny_pure ?_)))
    refine wpAny_bind (wpAny_seqItems to5 rfl ?_)
    refine wpAny_bind (wpAny_newTuple ?_)
    have sz : g5.objs.size = s.heap.objs.size := by rw [b5.1, b4.1, b3.1, b2.1, b1.1]
    have z5 : ZipR g5 z TI TO .ellipsis fl := b5.extBut _ _ ap.TOz.symm (b4.extBut _ _ ap.i2z.symm (b3.extBut _ _ ap.TOz.symm (b2.extBut _ _ ap.i1z.symm z1)))
    have kp5 : ∀ c o, c ≠ z → c ≠ TO → c ≠ i1 → c ≠ i2 → s.heap.get? c = some o → g5.get? c = some o := fun c o n1 n2 n3 n4 e => b5.extBut _ _ n2 (b4.extBut _ _ n4 (b3.extBut _ _ n2 (b2.extBut _ _ n3 (b1.extBut _ _ n1 e))))
    have j1f : g5.IsTupleIter i1 l1 (k1 + 1) := ((j1'.extBut b3.extBut ap.TOi1.symm).extBut b4.extBut ap.i12).extBut b5.extBut ap.TOi1.symm
    have j2f : g5.IsTupleIter i2 l2 (k2 + 1) := j2'.extBut b5.extBut ap.TOi2.symm
    have zlt : z < g5.objs.size := Heap.lt_size z5
    change wpAny _ _ (Builtin.SmallTypes.ownedTupleHandOut (Value.ref z) (Value.ref g5.objs.size) >>= _) _ _ _
    refine wpAny_bind ?_
    unfold Builtin.SmallTypes.ownedTupleHandOut
    have z6 : ZipR (g5.push { cls := .type "tuple", data := .seq #[x, y] }) z TI TO .ellipsis fl := Heap.get?_push_of_some _ z5
    refine wpAny_bind (wpAny_setField_rec z6 (by simp) fun g7 z7 b7 => ?_)
    replace z7 : ZipR g7 z TI TO (rawInt g5.objs.size) fl := z7
    refine wpAny_setField_rec z7 (by simp) fun g8 z8 b8 => ?_
    replace z8 : ZipR g8 z TI TO (rawInt g5.objs.size) false := z8
    have up : ∀ c o, c ≠ z → g5.get? c = some o → g8.get? c = some o := fun c o n1 e => b8.extBut _ _ n1 (b7.extBut _ _ n1 (Heap.get?_push_of_some _ e))
    have nw : IsPair g8 g5.objs.size x y := b8.extBut _ _ (Nat.ne_of_gt zlt) (b7.extBut _ _ (Nat.ne_of_gt zlt) (Heap.get?_push_size _ rfl))
    have sz8 : g8.objs.size = g5.objs.size + 1 := by rw [b8.1, b7.1, Heap.size_push]
    refine wpAny_pure ⟨_, rfl, ?_⟩
    change Q (.ref g5.objs.size) _
    rw [sz] at nw sz8 ⊢
    exact q g8 ⟨⟨_, _, .inr ⟨_, rfl⟩, z8⟩, ⟨_, _, up _ _ ap.TOz to5⟩, j1f.at fun o e => up _ o ap.i1z e, j2f.at fun o e => up _ o ap.i2z e, nw, sz8, fun c o n1 n2 n3 n4 e => up c o n1 (kp5 c o n1 n2 n3 n4 e)⟩
  · simp only [Bool.false_eq_true, if_false]
    refine wpAny_bind ?_
    rw [← Array.forIn_toList]
    simp only [List.forIn_cons, List.forIn_nil]
    refine wpAny_bind (wpAny_bind (wpAny_holding ?_))
    change wpAny _ _ (Builtin.SmallTypes.nextOf (Value.ref i1) >>= _) _ _ _
    refine wpAny_bind (RZ.nextOf_tuple_item (s := { s with heap := g1 }) (j1.extBut b1.extBut ap.i1z) (t1.extBut b1.extBut ap.l1z) ex fun g2 j1' b2 => wpAny_pure ?_)
    refine wpAny_pure ?_
    refine wpAny_bind (wpAny_bind (wpAny_holding ?_))
    change wpAny _ _ (Builtin.SmallTypes.nextOf (Value.ref i2) >>= _) _ _ _
    refine wpAny_bind (RZ.nextOf_tuple_item (s := { s with heap := g2 }) ((j2.extBut b1.extBut ap.i2z).extBut b2.extBut ap.i12.symm) ((t2.extBut b1.extBut ap.l2z).extBut b2.extBut ap.l2i1) ey fun g3 j2' b3 => wpAny_pure ?_)
    refine wpAny_pure (wpAny_pure ?_)
    change wpAny _ _ (newTuple [x, y] >>= _) _ _ _
    refine wpAny_bind (wpAny_newTuple ?_)
    have sz : g3.objs.size = s.heap.objs.size := by rw [b3.1, b2.1, b1.1]
    have z3 : ZipR g3 z TI TO f0 true := b3.extBut _ _ ap.i2z.symm (b2.extBut _ _ ap.i1z.symm z1)
    have to3 : IsPair g3 TO a b := b3.extBut _ _ ap.TOi2 (b2.extBut _ _ ap.TOi1 (b1.extBut _ _ ap.TOz to))
    refine wpAny_pure ⟨_, rfl, ?_⟩
    change Q (.ref g3.objs.size) _
    have nw : IsPair (g3.push { cls := .type "tuple", data := .seq #[x, y] }) g3.objs.size x y := Heap.get?_push_size _ rfl
    have sz4 : (g3.push { cls := .type "tuple", data := .seq #[x, y] }).objs.size = g3.objs.size + 1 := Heap.size_push ..
    rw [sz] at nw sz4 ⊢
    exact q _ ⟨⟨_, _, mk, Heap.get?_push_of_some _ z3⟩, ⟨_, _, Heap.get?_push_of_some _ to3⟩, (j1'.extBut b3.extBut ap.i12).at fun o e => Heap.get?_push_of_some _ e, j2'.at fun o e => Heap.get?_push_of_some _ e, nw, sz4,
      fun c o n1 _ n3 n4 e => Heap.get?_push_of_some _ (b3.extBut _ _ n4 (b2.extBut _ _ n3 (b1.extBut _ _ n1 e)))⟩
theorem zEnd {z TI TO i1 i2 l1 l2 : Addr} {f0 : Value} {fl : Bool} {k1 k2 : Nat} {xs ys : Array Value} {a b : Value} {Q : Fin → Shared → Prop} (hh : A.handled = none) (ap : ZipApart z TI TO i1 i2 l1 l2) (zr : ZipR s.heap z TI TO f0 fl) (mk : ZMark f0)
    (ti : IsPair s.heap TI (.ref i1) (.ref i2)) (to : IsPair s.heap TO a b) (j1 : s.heap.IsTupleIter i1 l1 k1) (j2 : s.heap.IsTupleIter i2 l2 k2) (t1 : s.heap.IsTuple l1 xs) (t2 : s.heap.IsTuple l2 ys) (hend : xs[k1]? = none ∨ ys[k2]? = none)
    (q : ∀ h' e, (∀ c o, c ≠ z → c ≠ TO → c ≠ i1 → c ≠ i2 → s.heap.get? c = some o → h'.get? c = some o) → (∃ o, h'.get? e = some o ∧ o.cls = .type "StopIteration") → E (.ref e) { s with heap := h' }) :
    wpAny (model prog w) A (Builtin.«zip.__next__» ⟨[.ref z], []⟩) Q E s := by
  change wpAny _ _ (field (Value.ref z) 2 >>= _) _ _ _
  refine wpAny_bind (wpAny_field zr rfl (x := .bool false) rfl ?_)
  change wpAny _ _ (field (Value.ref z) 3 >>= _) _ _ _
  refine wpAny_bind (wpAny_field zr rfl (x := .ref TI) rfl ?_)
  refine wpAny_bind (wpAny_seqItems ti rfl ?_)
  change wpAny _ _ (Builtin.SmallTypes.ownedTupleIsFree (Value.ref z) >>= _) _ _ _
  refine wpAny_bind (zFree zr mk ?_ fun g1 z1 b1 => ?_)
  · simp only [if_true]
    refine wpAny_bind (wpAny_rule ?_)
    refine wpAny_bind (wpAny_field zr rfl (x := .ref TO) rfl ?_)
    refine wpAny_bind (wpAny_setField_rec zr (by simp) fun g1 z1 b1 => ?_)
    replace z1 : ZipR g1 z TI TO .ellipsis fl := z1
    refine wpAny_bind ?_
    simp only [List.zipIdx_cons, List.zipIdx_nil, List.forIn_cons, List.forIn_nil]
    refine wpAny_bind (wpAny_bind (wpAny_onRaise ?_))
    change wpAny _ _ (Builtin.SmallTypes.nextOf (Value.ref i1) >>= _) _ _ _
    cases ex : xs[k1]? with
    | none =>
      refine wpAny_bind (RZ.nextOf_tuple_end hh (j1.extBut b1.extBut ap.i1z) (t1.extBut b1.extBut ap.l1z) ex fun g2 e b2 he => ?_)
      obtain ⟨oe, e1, e2⟩ := he
      have z2 : ZipR g2 z TI TO .ellipsis fl := b2 _ _ ap.i1z.symm z1
      have ne : e ≠ z := fun x => by subst x; rw [z2] at e1; cases e1; simp at e2
      exact wpAny_setField_rec z2 (by simp) fun g3 _ b3 => q g3 e (fun c o n1 _ n3 _ x => b3.extBut _ _ n1 (b2 _ _ n3 (b1.extBut _ _ n1 x))) ⟨oe, b3.extBut _ _ ne e1, e2⟩
    | some x =>
      have ey : ys[k2]? = none := by
        rcases hend with h | h
        · rw [ex] at h; cases h
        · exact h
      refine wpAny_bind (RZ.nextOf_tuple_item (j1.extBut b1.extBut ap.i1z) (t1.extBut b1.extBut ap.l1z) ex fun g2 j1' b2 => wpAny_pure ?_)
      have to2 : IsPair g2 TO a b := b2.extBut _ _ ap.TOi1 (b1.extBut _ _ ap.TOz to)
      refine wpAny_bind (wpAny_seqItems to2 rfl ?_)
      refine wpAny_bind (wpAny_updateSeq_pair to2 fun g3 to3 b3 => ?_)
      refine wpAny_bind (wpAny_letGo (wpAny_pure ?_))
      refine wpAny_bind (wpAny_bind (wpAny_onRaise ?_))
      change wpAny _ _ (Builtin.SmallTypes.nextOf (Value.ref i2) >>= _) _ _ _
      refine wpAny_bind (RZ.nextOf_tuple_end hh (((j2.extBut b1.extBut ap.i2z).extBut b2.extBut ap.i12.symm).extBut b3.extBut ap.TOi2.symm) (((t2.extBut b1.extBut ap.l2z).extBut b2.extBut ap.l2i1).extBut b3.extBut ap.l2TO) ey fun g4 e b4 he => ?_)
      obtain ⟨oe, e1, e2⟩ := he
      have z4 : ZipR g4 z TI TO .ellipsis fl := b4 _ _ ap.i2z.symm (b3.extBut _ _ ap.TOz.symm (b2.extBut _ _ ap.i1z.symm z1))
      have ne : e ≠ z := fun x => by subst x; rw [z4] at e1; cases e1; simp at e2
      exact wpAny_setField_rec z4 (by simp) fun g5 _ b5 => q g5 e (fun c o n1 n2 n3 n4 x => b5.extBut _ _ n1 (b4 _ _ n4 (b3.extBut _ _ n2 (b2.extBut _ _ n3 (b1.extBut _ _ n1 x))))) ⟨oe, b5.extBut _ _ ne e1, e2⟩
  · simp only [Bool.false_eq_true, if_false]
    refine wpAny_bind ?_
    rw [← Array.forIn_toList]
    simp only [List.forIn_cons, List.forIn_nil]
    refine wpAny_bind (wpAny_bind (wpAny_holding ?_))
    change wpAny _ _ (Builtin.SmallTypes.nextOf (Value.ref i1) >>= _) _ _ _
    cases ex : xs[k1]? with
    | none =>
      refine wpAny_bind (RZ.nextOf_tuple_end (s := { s with heap := g1 }) hh (j1.extBut b1.extBut ap.i1z) (t1.extBut b1.extBut ap.l1z) ex fun g2 e b2 he => ?_)
      exact q g2 e (fun c o n1 _ n3 _ x => b2 _ _ n3 (b1.extBut _ _ n1 x)) he
    | some x =>
      have ey : ys[k2]? = none := by
        rcases hend with h | h
        · rw [ex] at h; cases h
        · exact h
      refine wpAny_bind (RZ.nextOf_tuple_item (s := { s with heap := g1 }) (j1.extBut b1.extBut ap.i1z) (t1.extBut b1.extBut ap.l1z) ex fun g2 j1' b2 => wpAny_pure ?_)
      refine wpAny_pure ?_
      refine wpAny_bind (wpAny_bind (wpAny_holding ?_))
      change wpAny _ _ (Builtin.SmallTypes.nextOf (Value.ref i2) >>= _) _ _ _
      refine wpAny_bind (RZ.nextOf_tuple_end (s := { s with heap := g2 }) hh ((j2.extBut b1.extBut ap.i2z).extBut b2.extBut ap.i12.symm) ((t2.extBut b1.extBut ap.l2z).extBut b2.extBut ap.l2i1) ey fun g3 e b3 he => ?_)
      exact q g3 e (fun c o n1 _ n3 n4 x => b3 _ _ n4 (b2.extBut _ _ n3 (b1.extBut _ _ n1 x))) he
theorem zNext {z TI TO i1 i2 l1 l2 : Addr} {f0 : Value} {fl : Bool} {k1 k2 : Nat} {xs ys : Array Value} {x y a b : Value} {Q : Option Value → Shared → Prop} (ap : ZipApart z TI TO i1 i2 l1 l2) (zr : ZipR s.heap z TI TO f0 fl) (mk : ZMark f0)
    (ti : IsPair s.heap TI (.ref i1) (.ref i2)) (to : IsPair s.heap TO a b) (j1 : s.heap.IsTupleIter i1 l1 k1) (j2 : s.heap.IsTupleIter i2 l2 k2) (t1 : s.heap.IsTuple l1 xs) (t2 : s.heap.IsTuple l2 ys) (ex : xs[k1]? = some x) (ey : ys[k2]? = some y)
    (q : ∀ h', ZNext s z TI TO i1 i2 l1 l2 k1 k2 x y h' → Q (some (.ref s.heap.objs.size)) { s with heap := h' }) : wpAny (model prog w) A (pyNext (.ref z)) Q E s := by
  have ty : s.TypeIs (.ref z) "zip" := ⟨_, zr, rfl⟩
  unfold pyNext
  exact wpAny_bind (wpAny_attempt (wpAny_callSpecial?_slot (name := Str.ofString "__next__") ty F.slot_zip_next (wpAny_call_entry F.slot_zip_next ty F.entry_zip_next (zItem ap zr mk ti to j1 j2 t1 t2 ex ey fun h' n => wpAny_pure (q h' n)) (F.args_zip_next_1 _))))
theorem zStop {z TI TO i1 i2 l1 l2 : Addr} {f0 : Value} {fl : Bool} {k1 k2 : Nat} {xs ys : Array Value} {a b : Value} {Q : Option Value → Shared → Prop} (hh : A.handled = none) (ap : ZipApart z TI TO i1 i2 l1 l2) (zr : ZipR s.heap z TI TO f0 fl) (mk : ZMark f0)
    (ti : IsPair s.heap TI (.ref i1) (.ref i2)) (to : IsPair s.heap TO a b) (j1 : s.heap.IsTupleIter i1 l1 k1) (j2 : s.heap.IsTupleIter i2 l2 k2) (t1 : s.heap.IsTuple l1 xs) (t2 : s.heap.IsTuple l2 ys) (hend : xs[k1]? = none ∨ ys[k2]? = none)
    (q : ∀ h', (∀ c o, c ≠ z → c ≠ TO → c ≠ i1 → c ≠ i2 → s.heap.get? c = some o → h'.get? c = some o) → Q none { s with heap := h' }) : wpAny (model prog w) A (pyNext (.ref z)) Q E s := by
  have ty : s.TypeIs (.ref z) "zip" := ⟨_, zr, rfl⟩
  unfold pyNext
  refine wpAny_bind (wpAny_attempt (wpAny_callSpecial?_slot (name := Str.ofString "__next__") ty F.slot_zip_next (wpAny_call_entry F.slot_zip_next ty F.entry_zip_next (zEnd hh ap zr mk ti to j1 j2 t1 t2 hend fun h' e kp he => ?_) (F.args_zip_next_1 _))))
  obtain ⟨o, e1, e2⟩ := he
  exact wpAny_bind (wpAny_isInstance (T := "StopIteration") (b := true) ⟨o, e1, e2⟩ isSubtype_stop (wpAny_pure (q _ kp)))
/-- the step ahead of the store -/
theorem zGo {tg : Expr} {z TI TO T : Addr} {f0 : Value} {fl : Bool} {Q : Unit → Shared → Prop} (zr : ZipR s.heap z TI TO f0 fl) (mk : ZMark f0) (q : ∀ h', (∃ f0 fl, ZMark f0 ∧ ZipR h' z TI TO f0 fl) → Heap.SameBut z s.heap h' → Q () { s with heap := h' }) :
    wpAny (model prog w) A (letOwnedTupleGo tg (.ref z) (.ref T)) Q E s := by
  have same : Q () s := q s.heap ⟨f0, fl, mk, zr⟩ (Heap.SameBut.refl _ _)
  unfold letOwnedTupleGo
  cases tg <;> first
    | exact wpAny_pure same
    | (refine wpAny_bind (wpAny_load zr ?_)
       dsimp only
       split
       · refine wpAny_bind (wpAny_rule ?_)
         change wpAny _ _ (setField (Value.ref z) 0 .none) Q E s
         exact wpAny_setField_rec zr (by simp) fun h' z1 b1 => q h' ⟨.none, fl, .inl rfl, z1⟩ b1
       · exact wpAny_pure same)
theorem zIter {z TI TO : Addr} {f0 : Value} {fl : Bool} {Q : Value → Shared → Prop} (zr : ZipR s.heap z TI TO f0 fl) (q : Q (.ref z) s) : wpAny (model prog w) A (pyIter (.ref z)) Q E s := by
  have ty : s.TypeIs (.ref z) "zip" := ⟨_, zr, rfl⟩
  refine wpAny_pyIter_slot ty F.slot_zip_iter (wpAny_call_entry F.slot_zip_iter ty F.entry_zip_iter ?_ (F.args_zip_iter_1 _))
  exact wpAny_pure ⟨_, rfl, "zip", _, ty, F.slot_zip_next.lookup, q⟩
end
/-- two tuples, their items in new pairs -/
def ItzF (K : PySem.W.Frag) (a b : Addr) : It where
  go := fun i H => ∃ (xs ys : List V) (x y : V), SqT K H a xs ∧ SqT K H b ys ∧ xs[i]? = some x ∧ ys[i]? = some y
  yld := fun i H v H' => ∃ T o x y, v = .ref T ∧ H T = none ∧ o.dict = none ∧ H' = upd H T (.frz o (.tup [x, y])) ∧ (∀ xs, SqT K H a xs → xs[i]? = some x) ∧ ∀ ys, SqT K H b ys → ys[i]? = some y
  stop := fun i H => ∃ xs ys : List V, SqT K H a xs ∧ SqT K H b ys ∧ (xs.length ≤ i ∨ ys.length ≤ i)
structure ZSt (z TI TO i1 i2 a b : Addr) (i : Nat) (h : Heap) : Prop where
  zr : ∃ f0 fl, ZMark f0 ∧ ZipR h z TI TO f0 fl
  ti : IsPair h TI (.ref i1) (.ref i2)
  to : ∃ x y, IsPair h TO x y
  it1 : h.IsTupleIter i1 a i
  it2 : h.IsTupleIter i2 b i
theorem ZSt.mono {z TI TO i1 i2 a b : Addr} {i : Nat} {h h' : Heap} (t : ZSt z TI TO i1 i2 a b i h) (k : ∀ c ∈ [z, TI, TO, i1, i2], ∀ o, h.get? c = some o → h'.get? c = some o) : ZSt z TI TO i1 i2 a b i h' := by
  obtain ⟨⟨f0, fl, mk, zr⟩, ti, ⟨x, y, to⟩, j1, j2⟩ := t
  exact ⟨⟨f0, fl, mk, k z (by simp) _ zr⟩, k TI (by simp) _ ti, ⟨x, y, k TO (by simp) _ to⟩, j1.at fun o q => k i1 (by simp) o q, j2.at fun o q => k i2 (by simp) o q⟩
theorem zTurn {P : Program} {w : World} {K : PySem.W.Frag} {tg : Expr} {a b z TI TO i1 i2 : Addr} (ap : ZipApart z TI TO i1 i2 a b) : Turn P w K tg (ItzF K a b) [z, TI, TO, i1, i2] z (ZSt z TI TO i1 i2 a b) where
  mem := by simp
  obj := fun i h t c hc => by
    obtain ⟨⟨f0, fl, mk, zr⟩, ti, ⟨x, y, to⟩, ⟨o1, e1, _, d1⟩, ⟨o2, e2, _, d2⟩⟩ := t
    simp only [List.mem_cons, List.not_mem_nil, or_false] at hc
    rcases hc with rfl | rfl | rfl | rfl | rfl
    · exact ⟨_, zr, fun v q => nomatch q⟩
    · exact ⟨_, ti, fun v q => nomatch q⟩
    · exact ⟨_, to, fun v q => nomatch q⟩
    · exact ⟨o1, e1, fun v q => by rw [d1] at q; cases q⟩
    · exact ⟨o2, e2, fun v q => by rw [d2] at q; cases q⟩
  keep := fun i h h' t k => t.mono k
  item := by
    intro X hP hw hK hc i pins s σ H E I hf t hg
    subst hP hw hK
    obtain ⟨⟨f0, fl, mk, zr⟩, ti, ⟨x0, y0, to⟩, j1, j2⟩ := t
    obtain ⟨xs, ys, x, y, sx, sy, ex, ey⟩ := hg
    obtain ⟨its, rv, t1, _⟩ := I.tuple sx
    obtain ⟨its2, rv2, t2, _⟩ := I.tuple sy
    obtain ⟨u, hu, ru⟩ := rv.get ex
    obtain ⟨u2, hu2, ru2⟩ := rv2.get ey
    have zlt : z < s.heap.objs.size := Heap.lt_size zr
    have old : ∀ c ∈ [z, TI, TO, i1, i2], c < s.heap.objs.size := fun c hcm => by
      simp only [List.mem_cons, List.not_mem_nil, or_false] at hcm
      rcases hcm with rfl | rfl | rfl | rfl | rfl
      · exact zlt
      · exact Heap.lt_size ti
      · exact Heap.lt_size to
      · obtain ⟨_, e1, _⟩ := j1; exact Heap.lt_size e1
      · obtain ⟨_, e1, _⟩ := j2; exact Heap.lt_size e1
    refine zNext ap zr mk ti to j1 j2 t1 t2 (x := u) (y := u2) (by simpa using hu) (by simpa using hu2) fun h' n => ?_
    obtain ⟨g0, gl, gm, gz⟩ := n.zr
    refine ⟨_, rfl, zGo (s := { s with heap := h' }) gz gm fun h'' n2 sb => ?_⟩
    have eT : h''.get? s.heap.objs.size = some { cls := .type "tuple", data := .seq #[u, u2] } := (sb.2 _ (Nat.ne_of_gt zlt)).trans n.new
    have new : ObjOk X.prog X.w (upd H s.heap.objs.size (.frz { cls := .type "tuple", data := .seq #[u, u2] } (.tup [x, y]))) h'' s.heap.objs.size (.frz { cls := .type "tuple", data := .seq #[u, u2] } (.tup [x, y])) :=
      ⟨eT, by show 2 ≤ sizeLine; decide, [u, u2], .cons ru (.cons ru2 .nil), ⟨_, eT, rfl, _, rfl⟩⟩
    have I1 : Inv X pins σ (upd H s.heap.objs.size (.frz { cls := .type "tuple", data := .seq #[u, u2] } (.tup [x, y]))) { s with heap := h'' } :=
      I.turnedNew (t' := s.toks) (ch := [z, TI, TO, i1, i2]) (fun c o hb q => (sb.2 c (fun e => hb (by simp [e]))).trans (n.keep c o (fun e => hb (by simp [e])) (fun e => hb (by simp [e])) (fun e => hb (by simp [e])) (fun e => hb (by simp [e])) q)) hf (Nat.le_refl _) new
    obtain ⟨p, p', npair⟩ := n.to
    refine ⟨.ref s.heap.objs.size, _, I1, rfl, ⟨_, _, x, y, rfl, I.hok.fresh (Nat.le_refl _), rfl, rfl, fun l hl => by rw [I.tuple_inj hl sx]; exact ex, fun l hl => by rw [I.tuple_inj hl sy]; exact ey⟩, ⟨n2, ?_, ⟨p, p', ?_⟩, ?_, ?_⟩, fun c hcm => ?_⟩
    · exact (sb.2 _ ap.TIz).trans (n.keep _ _ ap.TIz ap.TITO ap.TIi1 ap.TIi2 ti)
    · exact (sb.2 _ ap.TOz).trans npair
    · exact n.it1.at fun o q => (sb.2 _ ap.i1z).trans q
    · exact n.it2.at fun o q => (sb.2 _ ap.i2z).trans q
    · rw [upd_ne (Nat.ne_of_lt (old c hcm))]
      exact (hf c hcm).1
  done := by
    intro X hP hw hK hc i pins s σ H E I hf t hg
    subst hP hw hK
    obtain ⟨⟨f0, fl, mk, zr⟩, ti, ⟨x0, y0, to⟩, j1, j2⟩ := t
    obtain ⟨xs, ys, sx, sy, hend⟩ := hg
    obtain ⟨its, rv, t1, _⟩ := I.tuple sx
    obtain ⟨its2, rv2, t2, _⟩ := I.tuple sy
    have l1 := rv.length
    have l2 := rv2.length
    have he : its.toArray[i]? = none ∨ its2.toArray[i]? = none := hend.imp (fun q => by simp; omega) (fun q => by simp; omega)
    exact zStop (I.ok.hd hc) ap zr mk ti to j1 j2 t1 t2 he fun h' hk => ⟨rfl, I.turnedL (t' := s.toks) (ch := [z, TI, TO, i1, i2]) (fun c o hb q => hk c o (fun e => hb (by simp [e])) (fun e => hb (by simp [e])) (fun e => hb (by simp [e])) (fun e => hb (by simp [e])) q) hf⟩
  self := fun A i s Q E t h => by
    obtain ⟨f0, fl, mk, zr⟩ := t.zr
    exact zIter zr h
def iZipF (K : PySem.W.Frag) (ta : TA) : TI := fun σ H R => ta σ H fun vs H1 => ∃ a b xs ys, vs = [.ref a, .ref b] ∧ SqT K H1 a xs ∧ SqT K H1 b ys ∧ (xs.length ≤ sizeLine → R (ItzF K a b) H1)
theorem pi_zipF {X : Cx} {tg e e2 : Expr} {ta : TA} {p pos : Pos} (hg : Gl X "zip") (hm : X.mg "zip" = none) (ha : PA X [e, e2] ta) (hs : starEach [e, e2] X.env = (false, eval e X.env) :: starEach [e2] X.env) (hpl : (backTo pos (starEach [e2] X.env)).any (·.1) = false) :
    PI X tg (.Call (.Name "zip" p) [e, e2] [] pos) (iZipF X.K ta) := by
  refine ⟨fun pins s σ H R I h => ?_⟩
  refine Call_ (ld_blt I hg hm PyProof.Rows.boot_zip (PyProof.Rows.callWith_type1 (thn (ha.run pos pins s σ H _ I h) fun us s1 ⟨vs, H1, I1, r1, q1⟩ => ?_) hs hpl))
  obtain ⟨a, b, xs, ys, ex, sx, sy, q⟩ := q1
  subst ex
  cases r1 with
  | cons r rr =>
    cases rr with
    | cons r' rr =>
      cases rr
      cases r
      cases r'
      obtain ⟨its, rv, t1, hz1⟩ := I1.tuple sx
      obtain ⟨its2, rv2, t2, _⟩ := I1.tuple sy
      obtain ⟨o1, f1, _⟩ := id t1
      obtain ⟨o2, f2, _⟩ := id t2
      refine RZ.call_zipT (show s1.heap.IsTuple a its.toArray from t1) (show s1.heap.IsTuple b its2.toArray from t2) fun h' hz hTI hTO h1 h2 hsz hk => wpAny_pyIter_zip hz ?_
      have I2 : Inv X pins σ H1 { s1 with heap := h' } := I1.kept (t' := s1.toks) hk
      refine ⟨s1.heap.objs.size + 4, [s1.heap.objs.size + 4, s1.heap.objs.size + 2, s1.heap.objs.size + 3, s1.heap.objs.size, s1.heap.objs.size + 1], _, _, H1, rfl, I2, zTurn (PySem.W.ktu_apart s1.heap.objs.size a b (Heap.lt_size f1) (Heap.lt_size f2)), ⟨⟨_, _, .inl rfl, hz⟩, hTI, ⟨_, _, hTO⟩, h1, h2⟩, fun c hcm => ?_, q hz1⟩
      have hle : s1.heap.objs.size ≤ c := by
        simp only [List.mem_cons, List.not_mem_nil, or_false] at hcm
        rcases hcm with e | e | e | e | e <;> rw [e] <;> first | exact Nat.le_refl _ | exact Nat.le_add_right _ _
      exact I1.fpOk hle (I1.hok.fresh hle)
end RP
end
section
set_option Elab.async false
set_option linter.all false
set_option maxRecDepth 100000
/-! Readings of denotations; the rules for expressions. -/
namespace RP
open PySem L2

structure EnvR (K : PySem.W.Frag) (H : Hp) (W : Wd) (σ : L2.St) (env : Env) : Prop where
  len : σ.length = env.length
  get : ∀ (i : Nat) (d : D), env[i]? = some (some d) → ∃ v, σ[i]? = some (some v) ∧ Rep K H W v d
/-- what is raised, in the layer -/
def XRep (K : PySem.W.Frag) (H : Hp) (W : Wd) (x : Xc) (cls : Value) (dd : Option Addr) : Prop := cls = .ref (He.ga K x.cls) ∧
  ((dd = none ∧ x.fs = []) ∨ ∃ a fs', dd = some a ∧ H a = some (.xd fs') ∧ fs'.map (·.1) = x.fs.map (·.1) ∧ Reps K H W (fs'.map (·.2)) (x.fs.map (·.2)))
def Post {α : Type} (K : PySem.W.Frag) (Wx : WX) (σ : L2.St) (H : Hp) (W : Wd) (r : R α) (P : α → St → Prop) : Prop := match r with
  | .ok a st => P a st
  | .er x st => ∀ H' W' cls dd, Step H W H' W' → Sim K H' W' st → XRep K H' W' x cls dd → Wx cls dd σ H'
  | .no => False
section
variable {α β : Type} {K : PySem.W.Frag} {Wx : WX} {σ : L2.St} {H H1 : Hp} {W W1 : Wd} {r : R α} {P P' : α → St → Prop}
theorem Post.mono (h : Post K Wx σ H W r P) (hp : ∀ a st, P a st → P' a st) : Post K Wx σ H W r P' := by
  cases r with
  | ok a st => exact hp a st h
  | er x st => exact h
  | no => exact h
theorem Post.bind {k : α → St → R β} {Q : β → St → Prop} (h : Post K Wx σ H W (r.bind k) Q) : Post K Wx σ H W r fun a st => Post K Wx σ H W (k a st) Q := by
  cases r with
  | ok a st => exact h
  | er x st => exact h
  | no => exact h
theorem Post.at (T : Step H W H1 W1) (h : Post K Wx σ H W r P) : Post K Wx σ H1 W1 r P := by
  cases r with
  | ok a st => exact h
  | er x st => exact fun H' W' cls dd T' S' x' => h H' W' cls dd (T.trans T') S' x'
  | no => exact h
theorem Post.of {o : Option α} {st : St} (h : Post K Wx σ H W (R.of o st) P) : ∃ a, o = some a ∧ P a st := by
  cases o with
  | some a => exact ⟨a, rfl, h⟩
  | none => exact (show False from h).elim
theorem EnvR.step {σ : L2.St} {env : Env} {st : St} (S : Sim K H W st) (T : Step H W H1 W1) (E : EnvR K H W σ env) : EnvR K H1 W1 σ env :=
  ⟨E.len, fun i d h => let ⟨v, e, r⟩ := E.get i d h; ⟨v, e, r.step S T⟩⟩
end
/-- what is wanted behind an expression: from (H, W) on -/
abbrev Aft (K : PySem.W.Frag) (H : Hp) (W : Wd) (Q : VK) : D → St → Prop := fun d st' => ∀ v H' W', Step H W H' W' → Sim K H' W' st' → Rep K H' W' v d → Q v H'
abbrev AftA (K : PySem.W.Frag) (H : Hp) (W : Wd) (Q : List V → Hp → Prop) : List D → St → Prop := fun ds st' => ∀ vs H' W', Step H W H' W' → Sim K H' W' st' → Reps K H' W' vs ds → Q vs H'
abbrev AftT (K : PySem.W.Frag) (H : Hp) (W : Wd) (Q : Bool → Hp → Prop) : Bool → St → Prop := fun b st' => ∀ H' W', Step H W H' W' → Sim K H' W' st' → Q b H'
def tE (K : PySem.W.Frag) (c : Call) (Wx : WX) (m : ME) : TE := fun σ H Q => ∃ W st env, Sim K H W st ∧ EnvR K H W σ env ∧ Post K Wx σ H W (m c env st) (Aft K H W Q)
def tAs (K : PySem.W.Frag) (c : Call) (Wx : WX) (m : MA) : TA := fun σ H Q => ∃ W st env, Sim K H W st ∧ EnvR K H W σ env ∧ Post K Wx σ H W (m c env st) (AftA K H W Q)
def tTs (K : PySem.W.Frag) (c : Call) (Wx : WX) (m : MT) : TT := fun σ H Q => ∃ W st env, Sim K H W st ∧ EnvR K H W σ env ∧ Post K Wx σ H W (m c env st) (AftT K H W Q)

theorem PE.weak {X : Cx} {e : Expr} {t t' : TE} (h : PE X e t) (hw : ∀ σ H Q, t' σ H Q → t σ H Q) : PE X e t' := ⟨fun pins s σ H Q I q => h.run pins s σ H Q I (hw _ _ _ q)⟩
theorem PA.weak {X : Cx} {e : List Expr} {t t' : TA} (h : PA X e t) (hw : ∀ σ H Q, t' σ H Q → t σ H Q) : PA X e t' := ⟨fun pos pins s σ H Q I q => h.run pos pins s σ H Q I (hw _ _ _ q)⟩
theorem PT.weak {X : Cx} {e : Expr} {t t' : TT} (h : PT X e t) (hw : ∀ σ H Q, t' σ H Q → t σ H Q) : PT X e t' := ⟨fun pins s σ H Q I q => h.run pins s σ H Q I (hw _ _ _ q)⟩
theorem PW.weak {X : Cx} {e : Expr} {t t' : TT} (h : PW X e t) (hw : ∀ σ H Q, t' σ H Q → t σ H Q) : PW X e t' := ⟨fun wh pins s σ H Q I q => h.run wh pins s σ H Q I (hw _ _ _ q)⟩

section
variable {X : Cx} {c : Call} {Wx : WX} {a b e : Expr} {ma mb me : ME} {pos : Pos}
theorem dVar {i : Nat} {x : Str} (hN : X.N[i]? = some x) (hv : Vis X.env.scope x) (hd : (x == ("__debug__" : Str)) = false) (hcd : (x == ("__classdict__" : Str)) = false) : PE X (.Name x pos) (tE X.K c Wx (mVar i)) :=
  PE.weak (pe_var hN hv hd hcd) fun σ H Q h => by
    obtain ⟨W, st, env, S, E, p⟩ := h
    unfold mVar at p
    split at p
    · rename_i d he
      obtain ⟨v, e, r⟩ := E.get i d he
      exact ⟨v, e, p v H W (Step.refl _ _) S r⟩
    · exact (show False from p).elim
/-- a constant -/
theorem dCst {d : D} {v : V} (h : PE X e (tC v)) (hr : ∀ H W, Rep X.K H W v d) : PE X e (tE X.K c Wx (mCst d)) :=
  PE.weak h fun σ H Q h => by
    obtain ⟨W, st, env, S, E, p⟩ := h
    exact p v H W (Step.refl _ _) S (hr H W)
theorem dOp2 {op : Operator} {f : St → D → D → Option D} (ho : OpR X (binaryOp op) (lift2 X.K f)) (ha : PE X a (tE X.K c Wx ma)) (hb : PE X b (tE X.K c Wx mb)) : PE X (.BinOp a op b pos) (tE X.K c Wx (mOp2 f ma mb)) :=
  PE.weak (pe_op ho ha hb) fun σ H Q h => by
    obtain ⟨W, st, env, S, E, p⟩ := h
    refine ⟨W, st, env, S, E, p.bind.mono fun dx st1 p1 x H1 W1 T1 S1 R1 => ⟨W1, st1, env, S1, E.step S T1, (p1.bind.at T1).mono fun dy st2 p2 y H2 W2 T2 S2 R2 => ?_⟩⟩
    obtain ⟨d, e, q⟩ := p2.of
    exact ⟨W2, st2, dx, dy, d, S2, R1.step S1 T2, R2, e, fun v H' T S' R => q v H' W2 ((T1.trans T2).trans T) S' R⟩
/-- any rule of two parts that hands values on -/
theorem two_weak {f : St → D → D → Option D} {σ : L2.St} {H : Hp} {Q : VK} (h : tE X.K c Wx (mOp2 f ma mb) σ H Q) : tOp (lift2 X.K f) (tE X.K c Wx ma) (tE X.K c Wx mb) σ H Q := by
  obtain ⟨W, st, env, S, E, p⟩ := h
  refine ⟨W, st, env, S, E, p.bind.mono fun dx st1 p1 x H1 W1 T1 S1 R1 => ⟨W1, st1, env, S1, E.step S T1, (p1.bind.at T1).mono fun dy st2 p2 y H2 W2 T2 S2 R2 => ?_⟩⟩
  obtain ⟨d, e, q⟩ := p2.of
  exact ⟨W2, st2, dx, dy, d, S2, R1.step S1 T2, R2, e, fun v H' T S' R => q v H' W2 ((T1.trans T2).trans T) S' R⟩
theorem dCmp {op : CmpOp} {f : St → D → D → Option D} (ho : OpR X (compareOp op) (lift2 X.K f)) (ha : PE X a (tE X.K c Wx ma)) (hb : PE X b (tE X.K c Wx mb)) (hm : behindInMarks op b = false) : PE X (.Compare a [op] [b] pos) (tE X.K c Wx (mOp2 f ma mb)) :=
  PE.weak (pe_cmpR ho ha hb hm) fun σ H Q h => two_weak h
theorem dIx (hr : IxR X (lift2 X.K idxD)) (ha : PE X a (tE X.K c Wx ma)) (hb : PE X b (tE X.K c Wx mb)) (hs : PlainIx b) : PE X (.Subscript a b pos) (tE X.K c Wx (mOp2 idxD ma mb)) :=
  PE.weak (pe_ix hr ha hb hs) fun σ H Q h => two_weak h
theorem dUn {op : UnaryOp} {f : St → D → Option D} (ho : UnR X (unaryOp op) (lift1 X.K f)) (ha : PE X a (tE X.K c Wx ma)) : PE X (.UnaryOp op a pos) (tE X.K c Wx (mOp1 f ma)) :=
  PE.weak (pe_un ho ha) fun σ H Q h => by
    obtain ⟨W, st, env, S, E, p⟩ := h
    refine ⟨W, st, env, S, E, p.bind.mono fun dx st1 p1 x H1 W1 T1 S1 R1 => ?_⟩
    obtain ⟨d, e, q⟩ := p1.of
    exact ⟨W1, st1, dx, d, S1, R1, e, fun v H' T S' R => q v H' W1 (T1.trans T) S' R⟩
theorem dRev {k : Nat} {p1 p2 p3 : Pos} (ha : PE X a (tE X.K c Wx ma)) : PE X (.Subscript a (.Slice none none (some (.UnaryOp .USub (.Constant (.int 1) k p1) p2)) p3) pos) (tE X.K c Wx (mOp1 revD ma)) :=
  PE.weak (pe_revD ha) fun σ H Q h => by
    obtain ⟨W, st, env, S, E, p⟩ := h
    refine ⟨W, st, env, S, E, p.bind.mono fun dx st1 p1 x H1 W1 T1 S1 R1 => ?_⟩
    obtain ⟨d, e, q⟩ := p1.of
    exact ⟨W1, st1, dx, d, S1, R1, e, fun v H' T S' R => q v H' W1 (T1.trans T) S' R⟩
theorem chain_weak {f g : St → D → D → Option D} {σ : L2.St} {H : Hp} {Q : VK} (h : tE X.K c Wx (mChain f g ma mb me) σ H Q) : tChain (lift2 X.K f) (lift2 X.K g) (tE X.K c Wx ma) (tE X.K c Wx mb) (tE X.K c Wx me) σ H Q := by
  obtain ⟨W, st, env, S, E, p⟩ := h
  refine ⟨W, st, env, S, E, p.bind.mono fun dx st1 p1 x H1 W1 T1 S1 R1 => ⟨W1, st1, env, S1, E.step S T1, (p1.bind.at T1).mono fun dy st2 p2 y H2 W2 T2 S2 R2 => ?_⟩⟩
  split at p2
  · rename_i ef
    refine ⟨W2, st2, dx, dy, .bl true, S2, R1.step S1 T2, R2, ef, fun v H' T S' R => ?_⟩
    have ev := rep_bl R
    subst ev
    refine ⟨true, rfl, ?_⟩
    rw [if_pos rfl]
    have T12 := (T1.trans T2).trans T
    refine ⟨W2, st2, env, S', E.step S T12, (p2.bind.at T12).mono fun dz st3 p3 z H3 W3 T3 S3 R3 => ?_⟩
    obtain ⟨d, e, q⟩ := p3.of
    exact ⟨W3, st3, dy, dz, d, S3, (R2.step S2 T).step S' T3, R3, e, fun v H' T S' R => q v H' W3 ((T12.trans T3).trans T) S' R⟩
  · rename_i ef
    refine ⟨W2, st2, dx, dy, .bl false, S2, R1.step S1 T2, R2, ef, fun v H' T S' R => ?_⟩
    have ev := rep_bl R
    subst ev
    refine ⟨false, rfl, ?_⟩
    rw [if_neg Bool.false_ne_true]
    exact p2 _ _ W2 ((T1.trans T2).trans T) S' (.bl false)
  · exact (show False from p2).elim
theorem dChain {op op' : CmpOp} {f g : St → D → D → Option D} (ho : OpR X (compareOp op) (lift2 X.K f)) (ho' : OpR X (compareOp op') (lift2 X.K g)) (ha : PE X a (tE X.K c Wx ma)) (hb : PE X b (tE X.K c Wx mb)) (he : PE X e (tE X.K c Wx me))
    (hm : behindInMarks op' e = false) : PE X (.Compare a [op, op'] [b, e] pos) (tE X.K c Wx (mChain f g ma mb me)) :=
  PE.weak (pe_chain ho ho' ha hb he hm) fun σ H Q h => chain_weak h
/-! ### truth -/
theorem truV {K : PySem.W.Frag} {H : Hp} {W : Wd} {st : St} {v : V} {d : D} {k : Bool} (S : Sim K H W st) (r : Rep K H W v d) (h : tru st d = some k) : TruV K v H k := by
  have s1 := r.saw S
  have bl := bigLine
  unfold tru at h
  generalize see st d = ex at s1 h
  split at h
  · cases h; rw [saw_non s1]; rfl
  · cases h; rw [saw_bl s1]; rfl
  · cases h; rw [saw_int s1]; rfl
  · split at h
    · cases h
      rw [saw_str s1]
      exact ⟨by omega, rfl⟩
    · cases h
  · cases h
    obtain ⟨a, xs, rfl, ht, q1⟩ := saw_tup s1
    refine .inr (.inl ⟨xs, ht.sq, ?_⟩)
    cases q1 <;> rfl
  · cases h
    obtain ⟨a, xs, rfl, ht, q1⟩ := saw_lst s1
    refine .inl ⟨xs, SqL.of ht, ?_⟩
    cases q1 <;> rfl
  · cases h
theorem dOne {op} (h : PE X a (tE X.K c Wx ma)) : PE X (.BoolOp op [a] pos) (tE X.K c Wx ma) := pe_one h
theorem dAnd {rest : List Expr} (ha : PE X a (tE X.K c Wx ma)) (hb : PE X (.BoolOp .And (b :: rest) pos) (tE X.K c Wx mb)) : PE X (.BoolOp .And (a :: b :: rest) pos) (tE X.K c Wx (mAnd ma mb)) :=
  PE.weak (pe_andT ha hb) fun σ H Q h => by
    obtain ⟨W, st, env, S, E, p⟩ := h
    refine ⟨W, st, env, S, E, p.bind.mono fun dx st1 p1 x H1 W1 T1 S1 R1 => ?_⟩
    split at p1
    · rename_i et
      refine ⟨true, truV S1 R1 et, ?_⟩
      rw [if_pos rfl]
      exact ⟨W1, st1, env, S1, E.step S T1, (p1.at T1).mono fun d st' q v H' W' T S' R => q v H' W' (T1.trans T) S' R⟩
    · rename_i et
      refine ⟨false, truV S1 R1 et, ?_⟩
      rw [if_neg Bool.false_ne_true]
      exact p1 x H1 W1 T1 S1 R1
    · exact (show False from p1).elim
theorem dOr {rest : List Expr} (ha : PE X a (tE X.K c Wx ma)) (hb : PE X (.BoolOp .Or (b :: rest) pos) (tE X.K c Wx mb)) : PE X (.BoolOp .Or (a :: b :: rest) pos) (tE X.K c Wx (mOr ma mb)) :=
  PE.weak (pe_orT ha hb) fun σ H Q h => by
    obtain ⟨W, st, env, S, E, p⟩ := h
    refine ⟨W, st, env, S, E, p.bind.mono fun dx st1 p1 x H1 W1 T1 S1 R1 => ?_⟩
    split at p1
    · rename_i et
      refine ⟨true, truV S1 R1 et, ?_⟩
      rw [if_pos rfl]
      exact p1 x H1 W1 T1 S1 R1
    · rename_i et
      refine ⟨false, truV S1 R1 et, ?_⟩
      rw [if_neg Bool.false_ne_true]
      exact ⟨W1, st1, env, S1, E.step S T1, (p1.at T1).mono fun d st' q v H' W' T S' R => q v H' W' (T1.trans T) S' R⟩
    · exact (show False from p1).elim
theorem dNot (ha : PE X a (tE X.K c Wx ma)) : PE X (.UnaryOp .Not a pos) (tE X.K c Wx (mNot ma)) :=
  PE.weak (pe_notT ha) fun σ H Q h => by
    obtain ⟨W, st, env, S, E, p⟩ := h
    refine ⟨W, st, env, S, E, p.bind.mono fun dx st1 p1 x H1 W1 T1 S1 R1 => ?_⟩
    obtain ⟨d, e, q⟩ := p1.of
    obtain ⟨k, e1, rfl⟩ := Option.map_eq_some_iff.mp e
    exact ⟨k, truV S1 R1 e1, q _ H1 W1 T1 S1 (.bl _)⟩
variable {ta tb : MT}
/-! ### tests -/
theorem bVal (ha : PE X a (tE X.K c Wx ma)) (he : ∀ whole, isTrue a X.env whole = (do let v ← whole; standAt a.pos; holding [v] (truthy v))) : PT X a (tTs X.K c Wx (tVal ma)) :=
  PT.weak (pt_truth ha he) fun σ H Q h => by
    obtain ⟨W, st, env, S, E, p⟩ := h
    refine ⟨W, st, env, S, E, p.bind.mono fun dx st1 p1 x H1 W1 T1 S1 R1 => ?_⟩
    obtain ⟨k, e, q⟩ := p1.of
    exact ⟨k, truV S1 R1 e, q H1 W1 T1 S1⟩
/-- a comparison gives a truth -/
def IsBl (f : St → D → D → Option D) : Prop := ∀ st x y d, f st x y = some d → ∃ b, d = .bl b
theorem bCmp {op : CmpOp} {f : St → D → D → Option D} (hf : IsBl f) (ho : OpR X (compareOp op) (lift2 X.K f)) (ha : PE X a (tE X.K c Wx ma)) (hb : PE X b (tE X.K c Wx mb)) (hm : behindInMarks op b = false) : PT X (.Compare a [op] [b] pos) (tTs X.K c Wx (tVal (mOp2 f ma mb))) :=
  PT.weak (pt_cmpR ho ha hb hm) fun σ H Q h => by
    refine two_weak ?_
    obtain ⟨W, st, env, S, E, p⟩ := h
    refine ⟨W, st, env, S, E, ?_⟩
    have p' := p.bind
    unfold mOp2 at p' ⊢
    generalize ma c env st = r1 at p' ⊢
    cases r1 with
    | er x st => exact p'
    | no => exact p'
    | ok dx st1 =>
      show Post X.K Wx σ H W ((mb c env st1).bind _) _
      have p'' : Post X.K Wx σ H W ((mb c env st1).bind fun y st2 => R.of (f st2 dx y) st2) _ := p'
      generalize mb c env st1 = r2 at p'' ⊢
      cases r2 with
      | er x st => exact p''
      | no => exact p''
      | ok dy st2 =>
        show Post X.K Wx σ H W (R.of (f st2 dx dy) st2) _
        have p3 : Post X.K Wx σ H W (R.of (f st2 dx dy) st2) _ := p''
        obtain ⟨d, e, q⟩ := p3.of
        rw [e]
        show ∀ v H' W', Step H W H' W' → Sim X.K H' W' st2 → Rep X.K H' W' v d → _
        intro v H' W' T S' R
        obtain ⟨bb, rfl⟩ := hf _ _ _ _ e
        have ev := rep_bl R
        subst ev
        exact ⟨bb, rfl, q H' W' T S'⟩
theorem bChain {op op' : CmpOp} {f g : St → D → D → Option D} (hg : IsBl g) (ho : OpR X (compareOp op) (lift2 X.K f)) (ho' : OpR X (compareOp op') (lift2 X.K g)) (ha : PE X a (tE X.K c Wx ma)) (hb : PE X b (tE X.K c Wx mb)) (he : PE X e (tE X.K c Wx me))
    (hm : behindInMarks op' e = false) : PT X (.Compare a [op, op'] [b, e] pos) (tTs X.K c Wx (tVal (mChain f g ma mb me))) :=
  PT.weak (pt_chain ho ho' ha hb he hm) fun σ H Q h => by
    refine chain_weak ?_
    obtain ⟨W, st, env, S, E, p⟩ := h
    refine ⟨W, st, env, S, E, ?_⟩
    have p' := p.bind
    have aux : ∀ d st', (mChain f g ma mb me c env st) = .ok d st' → ∃ b, d = .bl b := by
      intro d st' h
      unfold mChain at h
      cases h1 : ma c env st with
      | er x st => rw [h1] at h; cases h
      | no => rw [h1] at h; cases h
      | ok dx st1 =>
        rw [h1] at h
        simp only [R.bind] at h
        cases h2 : mb c env st1 with
        | er x st => rw [h2] at h; cases h
        | no => rw [h2] at h; cases h
        | ok dy st2 =>
          rw [h2] at h
          simp only at h
          split at h
          · cases h3 : me c env st2 with
            | er x st => rw [h3] at h; cases h
            | no => rw [h3] at h; cases h
            | ok dz st3 =>
              rw [h3] at h
              simp only at h
              unfold R.of at h
              split at h
              · cases h
                exact hg _ _ _ _ ‹_›
              · cases h
          · cases h
            exact ⟨false, rfl⟩
          · cases h
    generalize mChain f g ma mb me c env st = r at p' aux ⊢
    cases r with
    | er x st => exact p'
    | no => exact p'
    | ok d st' =>
      obtain ⟨bb, rfl⟩ := aux d st' rfl
      intro v H' W' T S' R9
      have ev := rep_bl R9
      subst ev
      have p3 : Post X.K Wx σ H W (R.of (tru st' (.bl bb)) st') (AftT X.K H W Q) := p'
      obtain ⟨k, e, q⟩ := p3.of
      cases e
      exact ⟨bb, rfl, q H' W' T S'⟩
theorem bAnd1 (ha : PT X a (tTs X.K c Wx ta)) : PW X (.BoolOp .And [a] pos) (tTs X.K c Wx ta) := pw_and1 ha
theorem bOr1 (ha : PT X a (tTs X.K c Wx ta)) : PW X (.BoolOp .Or [a] pos) (tTs X.K c Wx ta) := pw_or1 ha
theorem bAndD {rest : List Expr} (ha : PT X a (tTs X.K c Wx ta)) (hb : PW X (.BoolOp .And (b :: rest) pos) (tTs X.K c Wx tb)) : PW X (.BoolOp .And (a :: b :: rest) pos) (tTs X.K c Wx (RP.bAnd ta tb)) :=
  PW.weak (pw_and ha hb) fun σ H Q h => by
    obtain ⟨W, st, env, S, E, p⟩ := h
    refine ⟨W, st, env, S, E, p.bind.mono fun x st1 p1 H1 W1 T1 S1 => ?_⟩
    cases x with
    | true =>
      rw [if_pos rfl] at p1 ⊢
      exact ⟨W1, st1, env, S1, E.step S T1, (p1.at T1).mono fun d st' q H' W' T S' => q H' W' (T1.trans T) S'⟩
    | false =>
      rw [if_neg Bool.false_ne_true] at p1 ⊢
      exact p1 H1 W1 T1 S1
theorem bOrD {rest : List Expr} (ha : PT X a (tTs X.K c Wx ta)) (hb : PW X (.BoolOp .Or (b :: rest) pos) (tTs X.K c Wx tb)) : PW X (.BoolOp .Or (a :: b :: rest) pos) (tTs X.K c Wx (RP.bOr ta tb)) :=
  PW.weak (pw_or ha hb) fun σ H Q h => by
    obtain ⟨W, st, env, S, E, p⟩ := h
    refine ⟨W, st, env, S, E, p.bind.mono fun x st1 p1 H1 W1 T1 S1 => ?_⟩
    cases x with
    | true =>
      rw [if_pos rfl] at p1 ⊢
      exact p1 H1 W1 T1 S1
    | false =>
      rw [if_neg Bool.false_ne_true] at p1 ⊢
      exact ⟨W1, st1, env, S1, E.step S T1, (p1.at T1).mono fun d st' q H' W' T S' => q H' W' (T1.trans T) S'⟩
theorem bNotD (ha : PT X a (tTs X.K c Wx ta)) : PT X (.UnaryOp .Not a pos) (tTs X.K c Wx (RP.bNot ta)) :=
  PT.weak (pt_not ha) fun σ H Q h => by
    obtain ⟨W, st, env, S, E, p⟩ := h
    exact ⟨W, st, env, S, E, p.bind.mono fun x st1 p1 H1 W1 T1 S1 => p1 H1 W1 T1 S1⟩
theorem dIf {t : Expr} (ht : PT X t (tTs X.K c Wx ta)) (ha : PE X a (tE X.K c Wx ma)) (hb : PE X b (tE X.K c Wx mb)) : PE X (.IfExp t a b pos) (tE X.K c Wx (mIf ta ma mb)) :=
  PE.weak (pe_ifExp ht ha hb) fun σ H Q h => by
    obtain ⟨W, st, env, S, E, p⟩ := h
    refine ⟨W, st, env, S, E, p.bind.mono fun x st1 p1 H1 W1 T1 S1 => ?_⟩
    cases x with
    | true =>
      rw [if_pos rfl] at p1 ⊢
      exact ⟨W1, st1, env, S1, E.step S T1, (p1.at T1).mono fun d st' q v H' W' T S' R => q v H' W' (T1.trans T) S' R⟩
    | false =>
      rw [if_neg Bool.false_ne_true] at p1 ⊢
      exact ⟨W1, st1, env, S1, E.step S T1, (p1.at T1).mono fun d st' q v H' W' T S' R => q v H' W' (T1.trans T) S' R⟩
/-! ### arguments, displays -/
theorem dNil : PA X [] (tAs X.K c Wx (mArgs [])) := PA.weak pa_nil fun σ H Q h => by
  obtain ⟨W, st, env, S, E, p⟩ := h
  exact p [] H W (Step.refl _ _) S .nil
theorem dCons {es : List Expr} {ms : List ME} (ha : PE X a (tE X.K c Wx ma)) (hr : PA X es (tAs X.K c Wx (mArgs ms))) (hs : starEach (a :: es) X.env = (false, eval a X.env) :: starEach es X.env) : PA X (a :: es) (tAs X.K c Wx (mArgs (ma :: ms))) :=
  PA.weak (pa_cons ha hr hs) fun σ H Q h => by
    obtain ⟨W, st, env, S, E, p⟩ := h
    refine ⟨W, st, env, S, E, p.bind.mono fun dx st1 p1 x H1 W1 T1 S1 R1 => ⟨W1, st1, env, S1, E.step S T1, (p1.bind.at T1).mono fun ds st2 p2 xs H2 W2 T2 S2 R2 => ?_⟩⟩
    exact p2 _ H2 W2 (T1.trans T2) S2 (.cons (R1.step S1 T2) R2)
theorem mArgs_len : ∀ {ms : List ME} {c : Call} {env : Env} {st st' : St} {ds : List D}, mArgs ms c env st = .ok ds st' → ds.length = ms.length
  | [], c, env, st, st', ds, h => by cases h; rfl
  | m :: ms, c, env, st, st', ds, h => by
    unfold mArgs at h
    cases h1 : m c env st with
    | er x st => rw [h1] at h; cases h
    | no => rw [h1] at h; cases h
    | ok d st1 =>
      rw [h1] at h
      simp only [R.bind] at h
      cases h2 : mArgs ms c env st1 with
      | er x st => rw [h2] at h; cases h
      | no => rw [h2] at h; cases h
      | ok ds' st2 =>
        rw [h2] at h
        cases h
        simp [mArgs_len h2]
theorem args_post {ms : List ME} {env : Env} {st : St} {σ : L2.St} {H : Hp} {W : Wd} {β : Type} {k : List D → St → R β} {P : β → St → Prop} (p : Post X.K Wx σ H W ((mArgs ms c env st).bind k) P) :
    Post X.K Wx σ H W (mArgs ms c env st) fun ds st1 => ds.length = ms.length ∧ Post X.K Wx σ H W (k ds st1) P := by
  cases h : mArgs ms c env st with
  | er x st => rw [h] at p; exact p
  | no => rw [h] at p; exact p
  | ok ds st1 => rw [h] at p; exact ⟨mArgs_len h, p⟩
theorem dTup {es : List Expr} {ms : List ME} {k : Nat} (h : PA X es (tAs X.K c Wx (mArgs ms))) (hl : ms.length ≤ 1000) : PE X (.Tuple es k pos) (tE X.K c Wx (mTup ms)) :=
  PE.weak (pe_tupF h) fun σ H Q h => by
    obtain ⟨W, st, env, S, E, p⟩ := h
    refine ⟨W, st, env, S, E, (args_post p).mono fun ds st1 p1 xs H1 W1 T1 S1 R1 => ⟨?_, ?_⟩⟩
    · have := R1.length
      have := p1.1
      have := bigLine
      unfold big at this
      omega
    · exact newT S1 R1 fun v H' T S' R => p1.2 v H' W1 (T1.trans T) S' R
theorem dLst {es : List Expr} {ms : List ME} (h : PA X es (tAs X.K c Wx (mArgs ms))) (hl : ms.length ≤ 1000) : PE X (.List es pos) (tE X.K c Wx (mLst ms)) :=
  PE.weak (pe_lst h) fun σ H Q h => by
    obtain ⟨W, st, env, S, E, p⟩ := h
    refine ⟨W, st, env, S, E, (args_post p).mono fun ds st1 p1 xs H1 W1 T1 S1 R1 => ⟨?_, ?_⟩⟩
    · have := R1.length
      have := p1.1
      have := bigLine
      unfold big at this
      omega
    · exact newL S1 R1 fun v H' T S' R => p1.2 v H' W1 (T1.trans T) S' R
theorem newCell {K : PySem.W.Frag} {H : Hp} {W : Wd} {st : St} {Q : VK} (S : Sim K H W st) {xs : List V} {ds : List D} (rs : Reps K H W xs ds) (q : ∀ v H' W', Step H W H' W' → Sim K H' W' (st ++ [.lst ds]) → Rep K H' W' v (.ref st.length) → Q v H') (p : Addr) (hp : H p = none) : Q (.ref p) (upd H p (.lst xs)) := by
  have T := Step.cell S (o := .lst xs) hp
  refine q _ _ ⟨W.rho ++ [p], W.B⟩ T (S.newcell hp ⟨xs, upd_same, rs.step S T⟩) (.ref ?_)
  show (W.rho ++ [p])[st.length]? = some p
  rw [← S.len]
  simp
theorem dLstM {es : List Expr} {ms : List ME} (h : PA X es (tAs X.K c Wx (mArgs ms))) (hl : ms.length ≤ 1000) : PE X (.List es pos) (tE X.K c Wx (mLstM ms)) :=
  PE.weak (pe_lst h) fun σ H Q h => by
    obtain ⟨W, st, env, S, E, p⟩ := h
    refine ⟨W, st, env, S, E, (args_post p).mono fun ds st1 p1 xs H1 W1 T1 S1 R1 => ⟨?_, ?_⟩⟩
    · have := R1.length
      have := p1.1
      have := bigLine
      unfold big at this
      omega
    · exact newCell S1 R1 fun v H' W' T S' R => p1.2 v H' W' (T1.trans T) S' R
/-- a built-in function or type of values -/
def mBlt (f : St → List D → Option D) (ms : List ME) : ME := fun c env st => (mArgs ms c env st).bind fun ds st1 => R.of (f st1 ds) st1
theorem blt_weak {f : St → List D → Option D} {ms : List ME} {σ : L2.St} {H : Hp} {Q : VK} (h : tE X.K c Wx (mBlt f ms) σ H Q) : tCB (liftN X.K f) (tAs X.K c Wx (mArgs ms)) σ H Q := by
  obtain ⟨W, st, env, S, E, p⟩ := h
  refine ⟨W, st, env, S, E, p.bind.mono fun ds st1 p1 xs H1 W1 T1 S1 R1 => ?_⟩
  obtain ⟨d, e, q⟩ := p1.of
  exact ⟨W1, st1, ds, d, S1, R1, e, fun v H' T S' R => q v H' W1 (T1.trans T) S' R⟩
theorem dBlt {id : String} {x : Str} {p : Pos} {es : List Expr} {ms : List ME} {f : St → List D → Option D} (hc : CallR X (.builtin id) (liftN X.K f)) (hg : Gl X x) (hm : X.mg x = none) (hv : bootBuiltins x = some (.builtin id)) (ha : PA X (a :: es) (tAs X.K c Wx (mArgs ms)))
    (hn : x ≠ "__name__") (hdb : (x == ("__debug__" : Str)) = false) (he : starEach (a :: es) X.env = (false, eval a X.env) :: starEach es X.env) (hpl : (backTo pos (starEach es X.env)).any (·.1) = false) : PE X (.Call (.Name x p) (a :: es) [] pos) (tE X.K c Wx (mBlt f ms)) :=
  PE.weak (pe_callB hc hg hm hv ha hn hdb he hpl) fun σ H Q h => blt_weak h
theorem dTy {id : String} {x : Str} {p : Pos} {es : List Expr} {ms : List ME} {f : St → List D → Option D} (hc : CallR X (.type id) (liftN X.K f)) (hg : Gl X x) (hm : X.mg x = none) (hv : bootBuiltins x = some (.type id)) (ha : PA X (a :: es) (tAs X.K c Wx (mArgs ms)))
    (hn : x ≠ "__name__") (hdb : (x == ("__debug__" : Str)) = false) (he : starEach (a :: es) X.env = (false, eval a X.env) :: starEach es X.env) (hpl : (backTo pos (starEach es X.env)).any (·.1) = false) : PE X (.Call (.Name x p) (a :: es) [] pos) (tE X.K c Wx (mBlt f ms)) :=
  PE.weak (pe_callTy hc hg hm hv ha hn hdb he hpl) fun σ H Q h => blt_weak h
/-- isinstance(e, T) -/
theorem dIsi {k : Kd} {p q : Pos} {T : Str} (hg : Gl X "isinstance") (hm : X.mg "isinstance" = none) (hgT : Gl X T) (hmT : X.mg T = none) (hvT : bootBuiltins T = some (.type (kdName k))) (ha : PE X a (tE X.K c Wx ma)) (hnT : T ≠ "__name__") (hdT : (T == ("__debug__" : Str)) = false)
    (he : starEach [a, .Name T q] X.env = (false, eval a X.env) :: starEach [.Name T q] X.env) : PE X (.Call (.Name "isinstance" p) [a, .Name T q] [] pos) (tE X.K c Wx (mOp1 (isiD k) ma)) :=
  PE.weak (pe_callB (call_isiL k) hg hm (by decide +kernel) (pa_cons ha (pa_cons (pe_bltn hgT hmT hvT (v := .ty (kdName k)) rfl hnT hdT) pa_nil) he) (by decide) (by decide) he (by rfl)) fun σ H Q h => by
    obtain ⟨W, st, env, S, E, p⟩ := h
    refine ⟨W, st, env, S, E, p.bind.mono fun dx st1 p1 x H1 W1 T1 S1 R1 => ?_⟩
    obtain ⟨d, e, q⟩ := p1.of
    exact ⟨x, W1, st1, dx, d, rfl, S1, R1, e, fun v R => q v H1 W1 T1 S1 R⟩
end
end RP
end
section
set_option Elab.async false
set_option linter.all false
set_option maxRecDepth 100000
/-! Slices, what is walked, comprehensions, calls, methods. -/
namespace RP
open PySem L2
section
variable {X : Cx} {c : Call} {Wx : WX} {a b e : Expr} {ma mb me : ME} {pos : Pos}
def tOs (K : PySem.W.Frag) (c : Call) (Wx : WX) (o : Option ME) : TO := fun σ H Q => ∃ W st env, Sim K H W st ∧ EnvR K H W σ env ∧ Post K Wx σ H W (optI o c env st) fun i st' => ∀ H' W', Step H W H' W' → Sim K H' W' st' → Q i H'
theorem PO.weak {e : Option Expr} {t t' : TO} (h : PO X e t) (hw : ∀ σ H Q, t' σ H Q → t σ H Q) : PO X e t' := ⟨fun pins s σ H Q I q => h.run pins s σ H Q I (hw _ _ _ q)⟩
theorem dONone : PO X none (tOs X.K c Wx none) := PO.weak po_none fun σ H Q h => by
  obtain ⟨W, st, env, S, E, p⟩ := h
  exact p H W (Step.refl _ _) S
theorem dOSome (ha : PE X a (tE X.K c Wx ma)) : PO X (some a) (tOs X.K c Wx (some ma)) := PO.weak (po_some ha) fun σ H Q h => by
  obtain ⟨W, st, env, S, E, p⟩ := h
  refine ⟨W, st, env, S, E, p.bind.mono fun dx st1 p1 x H1 W1 T1 S1 R1 => ?_⟩
  split at p1
  · exact ⟨_, rep_int R1, p1 H1 W1 T1 S1⟩
  · exact (show False from p1).elim
theorem dSlice {lo hi : Option Expr} {ml mh : Option ME} {p2 : Pos} (ha : PE X a (tE X.K c Wx ma)) (hl : PO X lo (tOs X.K c Wx ml)) (hh : PO X hi (tOs X.K c Wx mh)) : PE X (.Subscript a (.Slice lo hi none p2) pos) (tE X.K c Wx (mSlice ma ml mh)) :=
  PE.weak (pe_slice sl_L ha hl hh) fun σ H Q h => by
    obtain ⟨W, st, env, S, E, p⟩ := h
    refine ⟨W, st, env, S, E, p.bind.mono fun dx st1 p1 x H1 W1 T1 S1 R1 => ⟨W1, st1, env, S1, E.step S T1, (p1.bind.at T1).mono fun i st2 p2 H2 W2 T2 S2 => ⟨W2, st2, env, S2, E.step S (T1.trans T2), (p2.bind.at (T1.trans T2)).mono fun j st3 p3 H3 W3 T3 S3 => ?_⟩⟩⟩
    obtain ⟨d, e, q⟩ := p3.of
    exact ⟨W3, st3, dx, d, S3, R1.step S1 (T2.trans T3), e, fun v H' T S' R => q v H' W3 (((T1.trans T2).trans T3).trans T) S' R⟩

/-! ### what is walked -/
/-- an iterator that goes through the items: while G stands the i-th turn gives the i-th item -/
structure Wk (K : PySem.W.Frag) (J : It) (gd : Option Nat) (xs : List D) (H0 : Hp) (W0 : Wd) : Prop where
  go : ∀ (i : Nat) (H : Hp) (W : Wd) (st : St), Step H0 W0 H W → Sim K H W st → gOk gd xs st → i < xs.length → J.go i H
  yld : ∀ (i : Nat) (H : Hp) (W : Wd) (st : St) (d : D) (x : V) (H' : Hp), Step H0 W0 H W → Sim K H W st → gOk gd xs st → xs[i]? = some d → J.yld i H x H' → Step H W H' W ∧ Sim K H' W st ∧ Rep K H' W x d
  stop : ∀ (i : Nat) (H : Hp) (W : Wd) (st : St), Step H0 W0 H W → Sim K H W st → gOk gd xs st → i = xs.length → J.stop i H
/-- the reading of what is walked -/
def tIs (K : PySem.W.Frag) (c : Call) (Wx : WX) (m : MI) : TI := fun σ H R => ∃ W st env, Sim K H W st ∧ EnvR K H W σ env ∧ Post K Wx σ H W (m c env st) fun p st' => ∀ J H' W', Step H W H' W' → Sim K H' W' st' → Wk K J p.2 p.1 H' W' → p.1.length ≤ sizeLine → R J H'
theorem PI.weak {tg : Expr} {w w' : TI} (h : PI X tg e w) (hw : ∀ σ H R, w' σ H R → w σ H R) : PI X tg e w' := ⟨fun pins s σ H R I q => h.run pins s σ H R I (hw _ _ _ q)⟩
theorem wk_list {K : PySem.W.Frag} {H0 : Hp} {W0 : Wd} {st0 : St} {l : Addr} {xs : List V} {ds : List D} (S0 : Sim K H0 W0 st0) (h : H0 l = some (.lst xs)) (n1 : l ∉ W0.rho) (r : Reps K H0 W0 xs ds) : Wk K (Itl K l) none ds H0 W0 where
  go := fun i H W st T S _ hi => by
    have e := r.length
    exact ⟨xs, xs[i]'(by omega), SqL.of (T.keep _ _ h n1).1, by simp⟩
  yld := fun i H W st d x H' T S _ hd y => by
    obtain ⟨e1, e2⟩ := y
    obtain ⟨v, f1, f2⟩ := r.get hd
    have := e2 xs (SqL.of (T.keep _ _ h n1).1)
    rw [f1] at this; cases this
    subst e1
    exact ⟨Step.refl _ _, S, f2.step S0 T⟩
  stop := fun i H W st T S _ hi => ⟨xs, SqL.of (T.keep _ _ h n1).1, by rw [r.length]; omega⟩
theorem wk_tup {K : PySem.W.Frag} {H0 : Hp} {W0 : Wd} {st0 : St} {l : Addr} {xs : List V} {ds : List D} (S0 : Sim K H0 W0 st0) (h : Tp K H0 l xs) (r : Reps K H0 W0 xs ds) : Wk K (Itt K l) none ds H0 W0 where
  go := fun i H W st T S _ hi => by
    have e := r.length
    exact ⟨xs, xs[i]'(by omega), (Tp.step S0 T h).sq, by simp⟩
  yld := fun i H W st d x H' T S _ hd y => by
    obtain ⟨e1, e2⟩ := y
    obtain ⟨v, f1, f2⟩ := r.get hd
    have := e2 xs (Tp.step S0 T h).sq
    rw [f1] at this; cases this
    subst e1
    exact ⟨Step.refl _ _, S, f2.step S0 T⟩
  stop := fun i H W st T S _ hi => ⟨xs, (Tp.step S0 T h).sq, by rw [r.length]; omega⟩
theorem wk_cell {K : PySem.W.Frag} {H0 : Hp} {W0 : Wd} {l : Addr} {n : Nat} {ds : List D} (hn : W0.rho[n]? = some l) : Wk K (Itl K l) (some n) ds H0 W0 where
  go := fun i H W st T S g hi => by
    obtain ⟨xs, h, r⟩ := S.cell n l _ (T.rho hn) (g n rfl)
    have e := r.length
    exact ⟨xs, xs[i]'(by omega), SqL.of h, by simp⟩
  yld := fun i H W st d x H' T S g hd y => by
    obtain ⟨xs, h, r⟩ := S.cell n l _ (T.rho hn) (g n rfl)
    obtain ⟨e1, e2⟩ := y
    obtain ⟨v, f1, f2⟩ := r.get hd
    have := e2 xs (SqL.of h)
    rw [f1] at this; cases this
    subst e1
    exact ⟨Step.refl _ _, S, f2⟩
  stop := fun i H W st T S g hi => by
    obtain ⟨xs, h, r⟩ := S.cell n l _ (T.rho hn) (g n rfl)
    exact ⟨xs, SqL.of h, by rw [r.length]; omega⟩
theorem wk_range {K : PySem.W.Frag} {H0 : Hp} {W0 : Wd} (lo : Int) (n : Nat) : Wk K (Itr lo n) none ((List.range n).map fun (k : Nat) => .int (lo + k)) H0 W0 where
  go := fun i H W st T S _ hi => by
    show i < n
    simpa using hi
  yld := fun i H W st d x H' T S _ hd y => by
    obtain ⟨e1, e2⟩ := y
    subst e1
    refine ⟨Step.refl _ _, S, ?_⟩
    rw [List.getElem?_map] at hd
    obtain ⟨k, f1, rfl⟩ := Option.map_eq_some_iff.mp hd
    have : i = k := by
      rw [List.getElem?_range] at f1
      · exact Option.some.inj f1
      · have := (List.getElem?_eq_some_iff.mp f1).1
        simpa using this
    subst this
    rw [e2]
    exact .int _
  stop := fun i H W st T S _ hi => by
    show n ≤ i
    simp at hi
    omega
theorem wk_str {K : PySem.W.Frag} {H0 : Hp} {W0 : Wd} (z : Str) : Wk K (Its z) none (z.cps.toList.map fun c => .str ⟨#[c]⟩) H0 W0 where
  go := fun i H W st T S _ hi => by
    show i < z.cps.size
    simpa using hi
  yld := fun i H W st d x H' T S _ hd y => by
    obtain ⟨e1, ch, e2, e3⟩ := y
    subst e1
    refine ⟨Step.refl _ _, S, ?_⟩
    rw [List.getElem?_map] at hd
    obtain ⟨k, f1, rfl⟩ := Option.map_eq_some_iff.mp hd
    have : ch = k := by
      have f2 : z.cps[i]? = some k := by simpa using f1
      rw [e2] at f2; exact Option.some.inj f2
    subst this
    rw [e3]
    exact .str _
  stop := fun i H W st T S _ hi => by
    show z.cps.size ≤ i
    simp at hi
    omega
theorem wk_zip {K : PySem.W.Frag} {H0 : Hp} {W0 : Wd} {st0 : St} {a b : Addr} {xs ys : List V} {ds es : List D} (S0 : Sim K H0 W0 st0) (h1 : Tp K H0 a xs) (r1 : Reps K H0 W0 xs ds) (h2 : Tp K H0 b ys) (r2 : Reps K H0 W0 ys es) : Wk K (ItzF K a b) none (List.zipWith (fun x y => D.tup [x, y]) ds es) H0 W0 where
  go := fun i H W st T S _ hi => by
    have e1 := r1.length
    have e2 := r2.length
    rw [List.length_zipWith] at hi
    exact ⟨xs, ys, xs[i]'(by omega), ys[i]'(by omega), (Tp.step S0 T h1).sq, (Tp.step S0 T h2).sq, by simp, by simp⟩
  yld := fun i H W st d x H' T S _ hd y => by
    obtain ⟨p, o, u, v, rfl, hp, ho, rfl, f1, f2⟩ := y
    rw [List.getElem?_zipWith] at hd
    have g1 := f1 xs (Tp.step S0 T h1).sq
    have g2 := f2 ys (Tp.step S0 T h2).sq
    obtain ⟨d1, k1, q1⟩ := r1.getV g1
    obtain ⟨d2, k2, q2⟩ := r2.getV g2
    rw [k1, k2] at hd
    cases hd
    have T1 := Step.temp S (o := .frz o (.tup [u, v])) hp
    exact ⟨T1, S.temp hp, .tup (.inl ⟨o, upd_same, ho⟩) (.cons ((q1.step S0 T).step S T1) (.cons ((q2.step S0 T).step S T1) .nil))⟩
  stop := fun i H W st T S _ hi => by
    have e1 := r1.length
    have e2 := r2.length
    rw [List.length_zipWith] at hi
    exact ⟨xs, ys, (Tp.step S0 T h1).sq, (Tp.step S0 T h2).sq, by omega⟩
end
section
open PySem.Spec PyProof.Rows
variable {X : Cx}
theorem pi_any {tg l : Expr} {tl : TE} (hl : PE X l tl) : PI X tg l (fun σ H R => tl σ H fun x H1 => (∃ a xs, x = .ref a ∧ SqL X.K H1 a xs ∧ (xs.length ≤ sizeLine → R (Itl X.K a) H1)) ∨ (∃ a xs, x = .ref a ∧ SqT X.K H1 a xs ∧ (xs.length ≤ sizeLine → R (Itt X.K a) H1)) ∨ ∃ z, x = .str z ∧ R (Its z) H1) := by
  refine ⟨fun pins s σ H R I h => ?_⟩
  refine thn (hl.run pins s σ H _ I h) fun v s1 ⟨x, H1, I1, r1, q1⟩ => ?_
  rcases q1 with ⟨a, xs, e, hq, q⟩ | ⟨a, xs, e, hq, q⟩ | ⟨z, e, q⟩
  · subst e
    cases r1
    obtain ⟨its, rv, p, hz⟩ := I1.list hq
    refine wpAny_pyIter_list p.isList ?_
    refine ⟨s1.heap.objs.size, [s1.heap.objs.size], _, _, H1, rfl, I1.kept (t' := s1.toks) fun b o e => Heap.get?_push_of_some _ e, turn_list a _, ⟨_, Heap.get?_push_size _ rfl, rfl, rfl⟩, fun b hb => ?_, q hz⟩
    have e : b = s1.heap.objs.size := by simpa using hb
    subst e
    exact I1.fpOk (Nat.le_refl _) (I1.hok.fresh (Nat.le_refl _))
  · subst e
    cases r1
    obtain ⟨its, rv, p, hz⟩ := I1.tuple hq
    refine wpAny_pyIter_tuple (show s1.heap.IsTuple a its.toArray from p) ?_
    refine ⟨s1.heap.objs.size, [s1.heap.objs.size], _, _, H1, rfl, I1.kept (t' := s1.toks) fun b o e => Heap.get?_push_of_some _ e, turn_tuple a _, ⟨_, Heap.get?_push_size _ rfl, rfl, rfl⟩, fun b hb => ?_, q hz⟩
    have e : b = s1.heap.objs.size := by simpa using hb
    subst e
    exact I1.fpOk (Nat.le_refl _) (I1.hok.fresh (Nat.le_refl _))
  · subst e
    obtain ⟨t, rfl⟩ := r1
    cases ha : z.cps.all (· < 128)
    · exact wpAny_pyIter_wide ha (pi_one (tk := s1.toks) I1 _ (turn_str _ z t "str_iterator" (.inr rfl)) ⟨_, Heap.get?_push_size _ rfl, rfl, rfl⟩ q)
    · exact wpAny_pyIter_ascii ha (pi_one (tk := s1.toks) I1 _ (turn_str _ z t "str_ascii_iterator" (.inl rfl)) ⟨_, Heap.get?_push_size _ rfl, rfl, rfl⟩ q)
end
section
variable {X : Cx} {c : Call} {Wx : WX} {a b e : Expr} {ma mb me : ME} {pos : Pos}
theorem iVald {tg : Expr} (ha : PE X a (tE X.K c Wx ma)) : PI X tg a (tIs X.K c Wx (iVal ma)) := PI.weak (pi_any ha) fun σ H R h => by
  obtain ⟨W, st, env, S, E, p⟩ := h
  refine ⟨W, st, env, S, E, p.bind.mono fun dx st1 p1 x H1 W1 T1 S1 R1 => ?_⟩
  obtain ⟨pr, e, q⟩ := p1.of
  unfold itD at e
  split at e
  · cases e
    cases R1 with
    | tup h r => exact .inr (.inl ⟨_, _, rfl, h.sq, fun hz => q _ H1 W1 T1 S1 (wk_tup S1 h r) (by rw [← r.length]; exact hz)⟩)
  · cases e
    cases R1 with
    | lst h n1 n2 r => exact .inl ⟨_, _, rfl, SqL.of h, fun hz => q _ H1 W1 T1 S1 (wk_list S1 h n1 r) (by rw [← r.length]; exact hz)⟩
  · split at e
    · cases e
      rename_i z hz
      have bl := bigLine
      exact .inr (.inr ⟨_, rep_str R1, q _ H1 W1 T1 S1 (wk_str _) (by simp only [List.length_map, Array.length_toList]; unfold Str.length at hz; omega)⟩)
    · cases e
  · split at e
    · rename_i hn
      cases e
      cases R1 with
      | ref hr =>
        obtain ⟨vs, h, r⟩ := S1.cell _ _ _ hr hn
        exact .inl ⟨_, _, rfl, SqL.of h, fun hz => q _ H1 W1 T1 S1 (wk_cell hr) (by rw [← r.length]; exact hz)⟩
    · cases e
  · cases e
theorem iZipD {tg : Expr} {p : Pos} (hg : Gl X "zip") (hm : X.mg "zip" = none) (ha : PA X [a, b] (tAs X.K c Wx (mArgs [ma, mb]))) (hs : starEach [a, b] X.env = (false, eval a X.env) :: starEach [b] X.env) (hpl : (backTo pos (starEach [b] X.env)).any (·.1) = false) :
    PI X tg (.Call (.Name "zip" p) [a, b] [] pos) (tIs X.K c Wx (iZip ma mb)) := PI.weak (pi_zipF hg hm ha hs hpl) fun σ H R h => by
  obtain ⟨W, st, env, S, E, p⟩ := h
  refine ⟨W, st, env, S, E, p.bind.mono fun ds st1 p1 vs H1 W1 T1 S1 R1 => ?_⟩
  split at p1
  · rename_i xs ys
    cases R1 with
    | cons q1 rr =>
      cases rr with
      | cons q2 rr =>
        cases rr
        cases q1 with
        | tup h1 r1 =>
          cases q2 with
          | tup h2 r2 => exact ⟨_, _, _, _, rfl, h1.sq, h2.sq, fun hz => p1 _ H1 W1 T1 S1 (wk_zip S1 h1 r1 h2 r2) (by have := r1.length; simp only [List.length_zipWith]; omega)⟩
  · exact (show False from p1).elim
theorem bigInt : (big : Int) < 2 ^ 62 := by decide
theorem iRange1d {tg : Expr} {p : Pos} (hg : Gl X "range") (hm : X.mg "range" = none) (ha : PE X a (tE X.K c Wx ma)) (hs : starEach [a] X.env = [(false, eval a X.env)]) : PI X tg (.Call (.Name "range" p) [a] [] pos) (tIs X.K c Wx (iRange1 ma)) :=
  PI.weak (pi_range1 hg hm (pa_cons ha pa_nil hs) hs) fun σ H R h => by
    obtain ⟨W, st, env, S, E, p⟩ := h
    refine ⟨W, st, env, S, E, p.bind.mono fun dx st1 p1 x H1 W1 T1 S1 R1 => ?_⟩
    have bi := bigInt
    split at p1
    · rename_i n
      split at p1
      · rename_i hc
        have hc' : -(big : Int) ≤ n ∧ n ≤ (big : Int) := by simpa using hc
        have ev := rep_int R1
        subst ev
        refine ⟨n, rfl, by omega, by omega, ?_⟩
        have w := wk_range (K := X.K) (H0 := H1) (W0 := W1) 0 n.toNat
        have e0 : (List.range n.toNat).map (fun (k : Nat) => D.int (0 + k)) = (List.range n.toNat).map (fun (k : Nat) => D.int k) := by simp
        rw [e0] at w
        have bl := bigLine
        exact p1 _ H1 W1 T1 S1 w (by simp only [List.length_map, List.length_range]; unfold big at hc' bl; omega)
      · exact (show False from p1).elim
    · exact (show False from p1).elim
theorem iRange2d {tg : Expr} {p : Pos} (hg : Gl X "range") (hm : X.mg "range" = none) (ha : PE X a (tE X.K c Wx ma)) (hb : PE X b (tE X.K c Wx mb)) (hs : starEach [a, b] X.env = [(false, eval a X.env), (false, eval b X.env)]) (hs2 : starEach [b] X.env = [(false, eval b X.env)]) : PI X tg (.Call (.Name "range" p) [a, b] [] pos) (tIs X.K c Wx (iRange2 ma mb)) :=
  PI.weak (pi_range2 hg hm (pa_cons ha (pa_cons hb pa_nil hs2) (by rw [hs, hs2])) hs hs2) fun σ H R h => by
    obtain ⟨W, st, env, S, E, p⟩ := h
    refine ⟨W, st, env, S, E, p.bind.mono fun dx st1 p1 x H1 W1 T1 S1 R1 => ⟨W1, st1, env, S1, E.step S T1, (p1.bind.at T1).mono fun dy st2 p2 y H2 W2 T2 S2 R2 => ?_⟩⟩
    have bi := bigInt
    split at p2
    · rename_i m n
      split at p2
      · rename_i hc
        have hc' : ((-(big : Int) ≤ m ∧ m ≤ (big : Int)) ∧ -(big : Int) ≤ n) ∧ n ≤ (big : Int) := by simpa using hc
        have ev := rep_int R1
        subst ev
        have ev := rep_int R2
        subst ev
        exact ⟨m, n, rfl, ⟨by omega, by omega, by omega, by omega⟩, p2 _ H2 W2 (T1.trans T2) S2 (wk_range m (n - m).toNat) (by have bl : 2 * big ≤ sizeLine := (by decide); simp only [List.length_map, List.length_range]; unfold big at hc' bl; omega)⟩
      · exact (show False from p2).elim
    · exact (show False from p2).elim
/-! ### targets -/
def tG (K : PySem.W.Frag) (is : List Nat) (g : MG) : TG := fun v σ H Q => ∃ W st d env env', Sim K H W st ∧ Rep K H W v d ∧ EnvR K H W σ env ∧ g d env = some env' ∧ ∀ σ', EnvR K H W σ' env' → σ'.length = σ.length → (∀ j, j ∉ is → σ'[j]? = σ[j]?) → Q σ' H
theorem PG.weak {tg : Expr} {t t' : TG} (h : PG X tg t) (hw : ∀ v σ H Q, t' v σ H Q → t v σ H Q) : PG X tg t' := ⟨fun pins s σ H v u Q I r q => h.run pins s σ H v u Q I r (hw _ _ _ _ q)⟩
theorem EnvR.set {K : PySem.W.Frag} {H : Hp} {W : Wd} {σ : L2.St} {env : Env} {i : Nat} {v : V} {d : D} (E : EnvR K H W σ env) (r : Rep K H W v d) : EnvR K H W (σ.set i (some v)) (env.set i (some d)) := by
  refine ⟨by simp [E.len], fun j e h => ?_⟩
  by_cases hj : j = i
  · subst hj
    by_cases hl : j < env.length
    · rw [List.getElem?_set_self hl] at h
      cases h
      exact ⟨v, by rw [List.getElem?_set_self (by rw [E.len]; exact hl)], r⟩
    · rw [List.getElem?_eq_none (by simpa using hl)] at h; cases h
  · rw [List.getElem?_set_ne (Ne.symm hj)] at h
    obtain ⟨w, e1, e2⟩ := E.get j e h
    exact ⟨w, by rw [List.getElem?_set_ne (Ne.symm hj)]; exact e1, e2⟩
theorem gNmd {i : Nat} {x : Str} (hN : X.N.Nodup) (hi : X.N[i]? = some x) (hx : Loc X.env.scope x) (hf : X.fn x = true ∨ X.env.scope.names.lookup x = some .local) : PG X (.Name x pos) (tG X.K [i] (gNm i)) :=
  PG.weak (pg_name hN hi hx hf) fun v σ H Q h => by
    obtain ⟨W, st, d, env, env', S, r, E, e, q⟩ := h
    unfold gNm at e
    split at e
    · cases e
      exact q _ (E.set r) (by simp) fun j hj => by rw [List.getElem?_set_ne (fun z => hj (by simp [z]))]
    · cases e
/-- several names -/
def tGs (K : PySem.W.Frag) (is : List Nat) : TGs := fun vs σ H Q => ∃ W st ds env env', Sim K H W st ∧ Reps K H W vs ds ∧ EnvR K H W σ env ∧ gNms is ds env = some env' ∧ ∀ σ', EnvR K H W σ' env' → σ'.length = σ.length → (∀ j, j ∉ is → σ'[j]? = σ[j]?) → Q σ' H
theorem PGs.weak {ts : List Expr} {t t' : TGs} (h : PGs X ts t) (hw : ∀ v σ H Q, t' v σ H Q → t v σ H Q) : PGs X ts t' := ⟨fun pins s σ H v u Q I r q => h.run pins s σ H v u Q I r (hw _ _ _ _ q)⟩
theorem gNilD : PGs X [] (tGs X.K []) := PGs.weak pgs_nil fun vs σ H Q h => by
  obtain ⟨W, st, ds, env, env', S, r, E, e, q⟩ := h
  cases r with
  | nil => cases e; exact ⟨rfl, q σ E rfl fun _ _ => rfl⟩
  | cons _ _ => cases e
theorem gConsD {i : Nat} {x : Str} {is : List Nat} {ts : List Expr} {p : Pos} (hN : X.N.Nodup) (hi : X.N[i]? = some x) (hx : Loc X.env.scope x) (hf : X.fn x = true ∨ X.env.scope.names.lookup x = some .local) (hr : PGs X ts (tGs X.K is)) : PGs X (.Name x p :: ts) (tGs X.K (i :: is)) :=
  PGs.weak (pgs_cons (pg_name hN hi hx hf) hr rfl) fun vs σ H Q h => by
    obtain ⟨W, st, ds, env, env', S, r, E, e, q⟩ := h
    cases r with
    | nil => cases e
    | cons r1 rr =>
      rename_i v vs d ds
      unfold gNms at e
      obtain ⟨env1, e1, e2⟩ := Option.bind_eq_some_iff.mp e
      unfold gNm at e1
      split at e1
      · cases e1
        refine ⟨v, vs, rfl, W, st, ds, _, env', S, rr, E.set r1, e2, fun σ' E' hl hj => q σ' E' (by rw [hl]; simp) fun j hj' => ?_⟩
        rw [hj j (fun z => hj' (List.mem_cons_of_mem _ z)), List.getElem?_set_ne (fun z => hj' (by simp [z]))]
      · cases e1
theorem gNms_len : ∀ {is : List Nat} {ds : List D} {env env' : Env}, gNms is ds env = some env' → is.length = ds.length
  | [], [], _, _, _ => rfl
  | [], _ :: _, _, _, e => by cases e
  | _ :: _, [], _, _, e => by cases e
  | i :: is, d :: ds, env, env', e => by
    unfold gNms at e
    obtain ⟨env1, e1, e2⟩ := Option.bind_eq_some_iff.mp e
    simp [gNms_len e2]
theorem gTpd {is : List Nat} {ts : List Expr} {k : Nat} (hc : X.calm = true) (h : PGs X ts (tGs X.K is)) (hn : (assignEach ts X.env).length = is.length) (hst : (assignEach ts X.env).findIdx? (·.1) = none) : PG X (.Tuple ts k pos) (tG X.K is (gTp is)) :=
  PG.weak (pg_tup hc h hn hst) fun v σ H Q h => by
    obtain ⟨W, st, d, env, env', S, r, E, e, q⟩ := h
    unfold gTp at e
    split at e
    · cases r with
      | tup ht rr => exact ⟨_, _, rfl, ht.sq, by rw [rr.length, gNms_len e], W, st, _, env, env', S, rr, E, e, q⟩
    · cases e
end
end RP
end
section
set_option Elab.async false
set_option linter.all false
set_option maxRecDepth 100000
/-! Comprehensions. -/
namespace RP
open PySem L2
abbrev WF : WX := fun _ _ _ _ => False
theorem Post.calmed {α : Type} {K : PySem.W.Frag} {Wx : WX} {σ : L2.St} {H : Hp} {W : Wd} {r : R α} {β : Type} {k : α → St → R β} {P : β → St → Prop} (h : Post K Wx σ H W (r.calm.bind k) P) (σ' : L2.St) (H' : Hp) (W' : Wd) : Post K WF σ' H' W' r fun a st => Post K Wx σ H W (k a st) P := by
  cases r with
  | ok a st => exact h
  | er x st => exact (show False from h).elim
  | no => exact (show False from h).elim
theorem wipe_none (vs : List Nat) : ∀ (σ : L2.St) (j : Nat), j ∈ vs → ∀ v, (wipe σ vs)[j]? ≠ some (some v) := fun σ j hj v h => (wipe_some h).2 hj
theorem wipe_get : ∀ (vs : List Nat) (σ : L2.St) (j : Nat), (wipe σ vs)[j]? = if j ∈ vs ∧ j < σ.length then some none else σ[j]?
  | [], σ, j => by simp [wipe]
  | v :: vs, σ, j => by
    unfold wipe
    by_cases hj : v = j
    · subst hj
      by_cases hl : v < σ.length
      · rw [List.getElem?_set_self (by rw [wipe_length]; exact hl), if_pos ⟨List.mem_cons_self, hl⟩]
      · rw [List.getElem?_eq_none (by simpa [wipe_length] using hl), if_neg (fun z => hl z.2), List.getElem?_eq_none (by simpa using hl)]
    · rw [List.getElem?_set_ne hj, wipe_get vs σ j]
      have hne : ¬ j = v := fun z => hj z.symm
      by_cases hm : j ∈ vs
      · by_cases hl : j < σ.length
        · rw [if_pos ⟨hm, hl⟩, if_pos ⟨List.mem_cons_of_mem _ hm, hl⟩]
        · rw [if_neg (fun z => hl z.2), if_neg (fun z => hl z.2)]
      · rw [if_neg (fun z => hm z.1), if_neg (fun z => by rcases List.mem_cons.mp z.1 with q | q; exact hne q; exact hm q)]
theorem wipe_ext {σ τ : L2.St} {vs : List Nat} (hl : τ.length = σ.length) (h : ∀ j, j ∉ vs → τ[j]? = σ[j]?) : wipe τ vs = wipe σ vs := by
  apply List.ext_getElem?
  intro j
  rw [wipe_get, wipe_get, hl]
  by_cases hm : j ∈ vs
  · by_cases hl' : j < σ.length
    · rw [if_pos ⟨hm, hl'⟩, if_pos ⟨hm, hl'⟩]
    · rw [if_neg (fun z => hl' z.2), if_neg (fun z => hl' z.2), List.getElem?_eq_none (by omega), List.getElem?_eq_none (by omega)]
  · rw [if_neg (fun z => hm z.1), if_neg (fun z => hm z.1), h j hm]
theorem wipe_wipe (σ : L2.St) (vs : List Nat) : wipe (wipe σ vs) vs = wipe σ vs := wipe_ext (wipe_length σ vs) fun j hj => by rw [wipe_get, if_neg (fun z => hj z.1)]
theorem wipeE_length (env : Env) : ∀ vs : List Nat, (wipeE env vs).length = env.length
  | [] => rfl
  | v :: vs => by unfold wipeE; rw [List.length_set, wipeE_length env vs]
theorem wipeE_some {env : Env} {i : Nat} {x : D} : ∀ {vs : List Nat}, (wipeE env vs)[i]? = some (some x) → env[i]? = some (some x) ∧ i ∉ vs
  | [], h => ⟨h, by simp⟩
  | v :: vs, h => by
    unfold wipeE at h
    by_cases hi : v = i
    · subst hi
      by_cases hv : v < (wipeE env vs).length
      · rw [List.getElem?_set_self hv] at h; cases h
      · rw [List.getElem?_eq_none (by simpa using hv)] at h; cases h
    · rw [List.getElem?_set_ne hi] at h
      obtain ⟨h1, h2⟩ := wipeE_some h
      exact ⟨h1, by simp only [List.mem_cons, not_or]; exact ⟨fun e => hi e.symm, h2⟩⟩
theorem EnvR.wipe {K : PySem.W.Frag} {H : Hp} {W : Wd} {σ : L2.St} {env : Env} (E : EnvR K H W σ env) (vs : List Nat) : EnvR K H W (wipe σ vs) (wipeE env vs) :=
  ⟨by rw [wipe_length, wipeE_length]; exact E.len, fun i d h => by
    obtain ⟨h1, h2⟩ := wipeE_some h
    obtain ⟨v, e, r⟩ := E.get i d h1
    exact ⟨v, by rw [wipe_get, if_neg (fun z => h2 z.1)]; exact e, r⟩⟩

section
variable {K : PySem.W.Frag} {H : Hp}
mutual
/-- what was busy is a cell from now on -/
theorem Rep.cellB {rho B B' : List Addr} {D : Addr} (hD : D ∈ B) (hb : ∀ a ∈ B', a ∈ B) : ∀ {v : V} (d : RP.D), Rep K H ⟨rho, B⟩ v d → Rep K H ⟨rho ++ [D], B'⟩ v d
  | _, .non, .non => .non
  | _, .bl b, .bl _ => .bl b
  | _, .int i, .int _ => .int i
  | _, .str x, .str _ => .str x
  | _, .tup ds, .tup h r => .tup h (Reps.cellB hD hb ds r)
  | _, .lst ds, .lst h n1 n2 r => .lst h (fun z => by
      rcases List.mem_append.mp z with z | z
      · exact n1 z
      · have e := List.mem_singleton.mp z
        exact n2 (by rw [e]; exact hD)) (fun z => n2 (hb _ z)) (Reps.cellB hD hb ds r)
  | _, .dct ks vs, .dct h n1 n2 r1 r2 => .dct h (fun z => by
      rcases List.mem_append.mp z with z | z
      · exact n1 z
      · have e := List.mem_singleton.mp z
        exact n2 (by rw [e]; exact hD)) (fun z => n2 (hb _ z)) (Reps.cellB hD hb ks r1) (Reps.cellB hD hb vs r2)
  | _, .frz ns, .frz h => .frz h
  | _, .ref n, .ref h => .ref (by
      show (rho ++ [D])[n]? = _
      have h' : rho[n]? = _ := h
      rw [List.getElem?_append_left (List.getElem?_eq_some_iff.mp h').1]
      exact h')
theorem Reps.cellB {rho B B' : List Addr} {D : Addr} (hD : D ∈ B) (hb : ∀ a ∈ B', a ∈ B) : ∀ {vs : List V} (ds : List RP.D), Reps K H ⟨rho, B⟩ vs ds → Reps K H ⟨rho ++ [D], B'⟩ vs ds
  | _, [], .nil => .nil
  | _, d :: ds, .cons h r => .cons (Rep.cellB hD hb d h) (Reps.cellB hD hb ds r)
end
theorem Sim.cellB {rho B B' : List Addr} {D : Addr} {st : St} {c : Cell} (hD : D ∈ B) (hb : ∀ a ∈ B', a ∈ B) (hn : D ∉ B') (S : Sim K H ⟨rho, B⟩ st) (hc : CellOk K H ⟨rho ++ [D], B'⟩ D c) : Sim K H ⟨rho ++ [D], B'⟩ (st ++ [c]) := by
  have hDr : D ∉ rho := fun z => S.dis D z hD
  have hlen : rho.length = st.length := S.len
  refine ⟨by simp [hlen], ?_, fun a ha => S.bt a (hb a ha), fun a ha hz => ?_, fun i a c' h1 h2 => ?_⟩
  · show (rho ++ [D]).Nodup
    rw [List.nodup_append]
    refine ⟨S.nd, by simp, fun a ha b hb' => ?_⟩
    have e : b = D := by simpa using hb'
    subst e
    intro z; subst z; exact hDr ha
  · rcases List.mem_append.mp ha with z | z
    · exact S.dis a z (hb a hz)
    · have e := List.mem_singleton.mp z
      subst e; exact hn hz
  · have h1' : (rho ++ [D])[i]? = some a := h1
    by_cases hi : i < rho.length
    · rw [List.getElem?_append_left hi] at h1'
      rw [List.getElem?_append_left (by omega)] at h2
      have q := S.cell i a c' h1' h2
      cases c' with
      | lst ds => obtain ⟨xs, h, r⟩ := q; exact ⟨xs, h, r.cellB hD hb⟩
      | dct ks vs => obtain ⟨xs, h, r, r2⟩ := q; exact ⟨xs, h, r.cellB hD hb, r2.cellB hD hb⟩
      | ins c fs => obtain ⟨dx, xs, h, q, r⟩ := q; exact ⟨dx, xs, h, q, r.cellB hD hb⟩
    · have hi2 : i = rho.length := by
        have := (List.getElem?_eq_some_iff.mp h1').1
        simp at this; omega
      subst hi2
      have e1 : D = a := by simpa using h1'
      have e2 : c = c' := by rw [hlen] at h2; simpa using h2
      subst e1 e2
      exact hc
end
section
variable {X : Cx} {c : Call} {Wx : WX}
/-- the block's loop, the new list at D handed on with what it is -/
theorem comp_core {it : MI} {g : MG} {ts : MT} {elt : ME} {vs is : List Nat} (his : ∀ i ∈ is, i ∈ vs) {σ : L2.St} {H : Hp} {Q : VK} {W : Wd} {st : St} {env : Env} (S : Sim X.K H W st) (E : EnvR X.K H W σ env) {fin : List D → St → R D}
    (hfin : ∀ ys st2, fin ys st2 = .ok (.lst ys) st2 ∨ fin ys st2 = .ok (.ref st2.length) (st2 ++ [.lst ys]))
    (p : Post X.K Wx σ H W ((it c env st).bind fun p st1 => (compL c p.2 p.1 g ts elt (wipeE env vs) p.1 st1).bind fin) (Aft X.K H W Q)) :
    tLc (tIs X.K c Wx it) (tG X.K is g) (tTs X.K c WF ts) (tE X.K c WF elt) vs σ H Q := by
  refine ⟨W, st, env, S, E, p.bind.mono fun pr st1 p1 J H1 W1 T1 S1 wk hxl D hD => ?_⟩
  obtain ⟨xs, gd⟩ := pr
  have hDr := S1.fresh hD
  have hDB := S1.freshB hD
  refine ⟨fun i m H2 => m = xs.length - i ∧ i ≤ xs.length ∧ ∃ W2 st2 acc accV, Step H1 W1 H2 W2 ∧ Sim X.K H2 W2 st2 ∧ D ∈ W2.B ∧ H2 D = some (.lst accV) ∧ acc.length ≤ i ∧ Reps X.K H2 W2 accV acc ∧
    Post X.K Wx σ H W ((compL c gd xs g ts elt (wipeE env vs) (xs.drop i) st2).bind fun ys st3 => fin (acc ++ ys) st3) (Aft X.K H W Q), ⟨xs.length, by simp, Nat.zero_le _, ⟨W1.rho, D :: W1.B⟩, st1, [], [], Step.busy S1 hD, S1.busy hD, List.mem_cons_self, upd_same, Nat.zero_le _, .nil, ?_⟩, ?_⟩
  · simpa using p1
  rintro i m H2 ⟨rfl, hi, W2, st2, acc, accV, T2, S2, hB, hD2, hal, hacc, p2⟩
  by_cases hlt : i < xs.length
  · -- a turn
    obtain ⟨d, hd⟩ : ∃ d, xs[i]? = some d := ⟨xs[i], List.getElem?_eq_getElem hlt⟩
    have edrop : xs.drop i = d :: xs.drop (i + 1) := by
      rw [List.drop_eq_getElem_cons hlt]
      have : xs[i] = d := by rw [List.getElem?_eq_getElem hlt] at hd; exact Option.some.inj hd
      rw [this]
    rw [edrop] at p2
    unfold compL at p2
    by_cases hg : gOk gd xs st2
    · rw [if_pos hg] at p2
      refine .inr ⟨wk.go i H2 W2 st2 T2 S2 hg hlt, fun H5 => ∃ W5 st5 acc5 accV5, Step H1 W1 H5 W5 ∧ Sim X.K H5 W5 st5 ∧ D ∈ W5.B ∧ H5 D = some (.lst accV5) ∧ acc5.length ≤ i + 1 ∧ Reps X.K H5 W5 accV5 acc5 ∧
        Post X.K Wx σ H W ((compL c gd xs g ts elt (wipeE env vs) (xs.drop (i + 1)) st5).bind fun ys st3 => fin (acc5 ++ ys) st3) (Aft X.K H W Q), fun H' n' => ⟨xs.length - (i + 1), by omega, rfl, hlt, n'⟩, fun x H' y => ?_⟩
      obtain ⟨Ty, Sy, rx⟩ := wk.yld i H2 W2 st2 d x H' T2 S2 hg hd y
      replace T2 := T2.trans Ty
      replace hacc := hacc.step S2 Ty
      replace hD2 := (Ty.keep D _ hD2 (fun z => S2.dis D z hB)).1
      replace S2 := Sy
      clear Sy Ty
      have Ew := (E.step S (T1.trans T2)).wipe vs
      split at p2
      · exact (show False from p2).elim
      · rename_i env1 henv1
        refine ⟨W2, st2, d, wipeE env vs, env1, S2, rx, Ew, henv1, fun σ' E1 hl hj => ⟨?_, ?_⟩⟩
        · have h1 : L2.wipe σ' vs = L2.wipe (L2.wipe σ vs) vs := wipe_ext hl fun j hjv => hj j fun z => hjv (his j z)
          rw [h1, wipe_wipe]
        · have p3 := p2.bind
          -- the tests
          have p3' : Post X.K Wx σ H W ((ts c env1 st2).calm.bind fun b st1 => if b = true then (elt c env1 st1).calm.bind fun y st2 => (compL c gd xs g ts elt (wipeE env vs) (xs.drop (i + 1)) st2).bind fun ys st3 => .ok (y :: ys) st3 else compL c gd xs g ts elt (wipeE env vs) (xs.drop (i + 1)) st1) fun ys st3 => Post X.K Wx σ H W (fin (acc ++ ys) st3) (Aft X.K H W Q) := p3
          refine ⟨W2, st2, env1, S2, E1, (p3'.calmed σ' _ W2).mono fun bb st3 p4 H3 W3 T3 S3 => ?_⟩
          have hDr2 : D ∉ W2.rho := fun z => S2.dis D z hB
          have hD3 := (T3.keep D _ hD2 hDr2).1
          cases bb with
          | true =>
            rw [if_pos rfl] at p4
            dsimp only
            rw [if_pos rfl]
            refine ⟨W3, st3, env1, S3, E1.step S2 T3, (p4.calmed σ' _ W3).mono fun dy st4 p5 yv H4 W4 T4 S4 R4 => ?_⟩
            have hB3 := T3.sub D hB
            have hDr3 : D ∉ W3.rho := fun z => S3.dis D z hB3
            have hD4 := (T4.keep D _ hD3 hDr3).1
            have hB4 := T4.sub D hB3
            have T24 := T3.trans T4
            have hacc4 := hacc.step S2 T24
            refine ⟨accV, hD4, ?_, W4, st4, acc ++ [dy], accV ++ [yv], ?_, S4.wr hB4 hD4 (fun _ _ z => nomatch z), hB4, upd_same, by simp; omega, (hacc4.append (.cons R4 .nil)).wr hB4 hD4 (fun _ _ z => nomatch z), ?_⟩
            · have h1 := hacc.length
              have h2 : xs.length ≤ sizeLine := hxl
              omega
            · have T14 := T2.trans T24
              exact ⟨T14.pre, T14.B, T14.sub, fun a o ha hn => ⟨by rw [upd_ne (ne_of_none ha hD)]; exact (T14.keep a o ha hn).1, (T14.keep a o ha hn).2⟩⟩
            · have p6 := p5.bind
              generalize hr : compL c gd xs g ts elt (wipeE env vs) (xs.drop (i + 1)) st4 = r at p6 ⊢
              cases r with
              | er x st => exact p6
              | no => exact p6
              | ok ys st3 =>
                have p7 : Post X.K Wx σ H W (fin (acc ++ (dy :: ys)) st3) (Aft X.K H W Q) := p6
                show Post X.K Wx σ H W (fin (acc ++ [dy] ++ ys) st3) _
                rw [List.append_assoc]
                exact p7
          | false =>
            rw [if_neg Bool.false_ne_true] at p4
            dsimp only
            rw [if_neg Bool.false_ne_true]
            refine ⟨W3, st3, acc, accV, T2.trans T3, S3, T3.sub D hB, hD3, by omega, hacc.step S2 T3, ?_⟩
            generalize hr : compL c gd xs g ts elt (wipeE env vs) (xs.drop (i + 1)) st3 = r at p4 ⊢
            cases r with
            | er x st => exact p4
            | no => exact p4
            | ok ys st3 => exact p4
    · rw [if_neg hg] at p2
      exact (show False from p2).elim
  · -- the end
    have e : i = xs.length := by omega
    rw [List.drop_of_length_le (by omega)] at p2
    unfold compL at p2
    by_cases hg : gOk gd xs st2
    · rw [if_pos hg] at p2
      have p3 : Post X.K Wx σ H W (fin (acc ++ []) st2) (Aft X.K H W Q) := p2
      rw [List.append_nil] at p3
      refine .inl ⟨wk.stop i H2 W2 st2 T2 S2 hg e, ?_⟩
      obtain ⟨rho2, B2⟩ := W2
      have hsub : ∀ a ∈ B2.filter (fun a => decide (a ≠ D)), a ∈ B2 := fun a ha => (List.mem_filter.mp ha).1
      have hDn : D ∉ B2.filter (fun a => decide (a ≠ D)) := fun z => by
        have := (List.mem_filter.mp z).2
        simp at this
      have hDr2 : D ∉ rho2 := fun z => S2.dis D z hB
      have T3 : Step H1 W1 H2 ⟨rho2, B2.filter (fun a => decide (a ≠ D))⟩ :=
        ⟨T2.pre, fun a ha => T2.B a (hsub a ha), fun a ha => List.mem_filter.mpr ⟨T2.sub a ha, by simp; intro z; subst z; exact hDB ha⟩, T2.keep⟩
      rcases hfin acc st2 with hf | hf
      · rw [hf] at p3
        exact p3 _ H2 _ (T1.trans T3) (S2.unB hsub) (.lst hD2 hDr2 hDn (hacc.unB hsub))
      · rw [hf] at p3
        -- the list is a cell from now on
        have S3 := S2.unB hsub
        have hacc3 := hacc.unB hsub
        have T4 : Step H1 W1 H2 ⟨rho2 ++ [D], B2.filter (fun a => decide (a ≠ D))⟩ := by
          refine ⟨?_, T3.B, T3.sub, fun a o ha hn => ⟨(T3.keep a o ha hn).1, fun z => ?_⟩⟩
          · obtain ⟨m, em⟩ := T2.pre
            exact ⟨m ++ [D], by show rho2 ++ [D] = _; rw [show rho2 = W1.rho ++ m from em, List.append_assoc]⟩
          · rcases List.mem_append.mp z with z | z
            · exact (T3.keep a o ha hn).2 z
            · have : a = D := by simpa using z
              subst this
              rw [hD] at ha; cases ha
        refine p3 (.ref D) H2 _ (T1.trans T4) (Sim.cellB hB hsub hDn S2 ⟨accV, hD2, hacc.cellB hB hsub⟩) (.ref ?_)
        show (rho2 ++ [D])[st2.length]? = some D
        have hlen : rho2.length = st2.length := S2.len
        rw [← hlen]
        simp
    · rw [if_neg hg] at p2
      exact (show False from p2).elim
variable {elt tg iter : Expr} {ifs : List Expr} {scope : Scope} {own : List (Str × Nat)} {pos : Pos} {it : MI} {g : MG} {ts : MT} {me : ME} {is : List Nat}
theorem dComp (hc : X.calm = true) (hN : X.N.Nodup) (hi : PI X tg iter (tIs X.K c Wx it)) (ok : BlkOk X.N X.env.scope scope own) (his : ∀ i ∈ is, i ∈ own.map (·.2))
    (hg : ∀ (s : Shared) (H : Hp) (C : Addr) (cl : List (Str × Addr)) (fp : List Addr), PG (X.blk s H scope (compEnvC scope cl C X.env) fp) tg (tG X.K is g)) (ht : ∀ (s : Shared) (H : Hp) (C : Addr) (cl : List (Str × Addr)) (fp : List Addr), PTs (X.blk s H scope (compEnvC scope cl C X.env) fp) ifs (tTs X.K c WF ts))
    (he : ∀ (s : Shared) (H : Hp) (C : Addr) (cl : List (Str × Addr)) (fp : List Addr), PE (X.blk s H scope (compEnvC scope cl C X.env) fp) elt (tE X.K c WF me)) (hs : ∀ x, foldedSetIterable iter X.env x = pure x) :
    PE X (.ListComp elt [⟨tg, iter, ifs, 0⟩] scope pos) (tE X.K c Wx (mComp (own.map (·.2)) it g ts me)) :=
  PE.weak (pe_lc hc hN hi ok hg ht he hs) fun σ H Q h => by
    obtain ⟨W, st, env, S, E, p⟩ := h
    exact comp_core his S E (fun ys st2 => .inl rfl) p
theorem dCompM (hc : X.calm = true) (hN : X.N.Nodup) (hi : PI X tg iter (tIs X.K c Wx it)) (ok : BlkOk X.N X.env.scope scope own) (his : ∀ i ∈ is, i ∈ own.map (·.2))
    (hg : ∀ (s : Shared) (H : Hp) (C : Addr) (cl : List (Str × Addr)) (fp : List Addr), PG (X.blk s H scope (compEnvC scope cl C X.env) fp) tg (tG X.K is g)) (ht : ∀ (s : Shared) (H : Hp) (C : Addr) (cl : List (Str × Addr)) (fp : List Addr), PTs (X.blk s H scope (compEnvC scope cl C X.env) fp) ifs (tTs X.K c WF ts))
    (he : ∀ (s : Shared) (H : Hp) (C : Addr) (cl : List (Str × Addr)) (fp : List Addr), PE (X.blk s H scope (compEnvC scope cl C X.env) fp) elt (tE X.K c WF me)) (hs : ∀ x, foldedSetIterable iter X.env x = pure x) :
    PE X (.ListComp elt [⟨tg, iter, ifs, 0⟩] scope pos) (tE X.K c Wx (mCompM (own.map (·.2)) it g ts me)) :=
  PE.weak (pe_lc hc hN hi ok hg ht he hs) fun σ H Q h => by
    obtain ⟨W, st, env, S, E, p⟩ := h
    exact comp_core his S E (fun ys st2 => .inr rfl) p
end
end RP
end
section
set_option Elab.async false
set_option linter.all false
set_option maxRecDepth 100000
/-! Calls: what is left behind one. -/
namespace RP
open PySem L2
section
variable {K : PySem.W.Frag} {H : Hp}
mutual
theorem Rep.bel {W : Wd} : ∀ {v : V} (d : D), Rep K H W v d → bel W.rho.length d = true
  | _, .non, _ => by simp [RP.bel]
  | _, .bl b, _ => by simp [RP.bel]
  | _, .int b, _ => by simp [RP.bel]
  | _, .str b, _ => by simp [RP.bel]
  | _, .tup ds, .tup h r => by simpa [RP.bel] using Reps.bel ds r
  | _, .lst ds, .lst h _ _ r => by simpa [RP.bel] using Reps.bel ds r
  | _, .dct ks vs, .dct h _ _ r r2 => by simp [RP.bel, Reps.bel ks r, Reps.bel vs r2]
  | _, .frz ds, _ => by simp [RP.bel]
  | _, .ref n, .ref h => by simpa [RP.bel] using (List.getElem?_eq_some_iff.mp h).1
theorem Reps.bel {W : Wd} : ∀ {vs : List V} (ds : List D), Reps K H W vs ds → bels W.rho.length ds = true
  | _, [], .nil => by simp [bels]
  | _, d :: ds, .cons h r => by simp [bels, Rep.bel d h, Reps.bel ds r]
end
theorem CellOk.bel {W : Wd} {a : Addr} {c : Cell} (h : CellOk K H W a c) : belC W.rho.length c = true := by
  cases c with
  | lst ds => obtain ⟨xs, _, r⟩ := h; exact r.bel
  | dct ks vs => obtain ⟨xs, _, r, r2⟩ := h; simp [belC, r.bel, r2.bel]
  | ins c fs => obtain ⟨dx, xs, _, _, r⟩ := h; exact r.bel
mutual
/-- fewer cells -/
theorem Rep.few {rho rho' B : List Addr} {n : Nat} (h1 : ∀ i, i < n → rho'[i]? = rho[i]?) (h2 : ∀ a ∈ rho', a ∈ rho) : ∀ {v : V} (d : D), bel n d = true → Rep K H ⟨rho, B⟩ v d → Rep K H ⟨rho', B⟩ v d
  | _, .non, _, .non => .non
  | _, .bl b, _, .bl _ => .bl b
  | _, .int i, _, .int _ => .int i
  | _, .str x, _, .str _ => .str x
  | _, .tup ds, e, .tup h r => .tup h (Reps.few h1 h2 ds (by simpa [RP.bel] using e) r)
  | _, .lst ds, e, .lst h n1 n2 r => .lst h (fun z => n1 (h2 _ z)) n2 (Reps.few h1 h2 ds (by simpa [RP.bel] using e) r)
  | _, .dct ks vs, e, .dct h n1 n2 r1 r2 => by
    have e' : bels n ks = true ∧ bels n vs = true := by simpa [RP.bel] using e
    exact .dct h (fun z => n1 (h2 _ z)) n2 (Reps.few h1 h2 ks e'.1 r1) (Reps.few h1 h2 vs e'.2 r2)
  | _, .frz ns, _, .frz h => .frz h
  | _, .ref k, e, .ref h => by
    have e' : k < n := by simpa [RP.bel] using e
    exact .ref ((h1 k e').trans h)
theorem Reps.few {rho rho' B : List Addr} {n : Nat} (h1 : ∀ i, i < n → rho'[i]? = rho[i]?) (h2 : ∀ a ∈ rho', a ∈ rho) : ∀ {vs : List V} (ds : List D), bels n ds = true → Reps K H ⟨rho, B⟩ vs ds → Reps K H ⟨rho', B⟩ vs ds
  | _, [], _, .nil => .nil
  | _, d :: ds, e, .cons h r => by
    have e' : bel n d = true ∧ bels n ds = true := by simpa [bels] using e
    exact .cons (Rep.few h1 h2 d e'.1 h) (Reps.few h1 h2 ds e'.2 r)
end
theorem CellOk.few {rho rho' B : List Addr} {n : Nat} {a : Addr} {c : Cell} (h1 : ∀ i, i < n → rho'[i]? = rho[i]?) (h2 : ∀ a ∈ rho', a ∈ rho) (e : belC n c = true) (h : CellOk K H ⟨rho, B⟩ a c) : CellOk K H ⟨rho', B⟩ a c := by
  cases c with
  | lst ds => obtain ⟨xs, h, r⟩ := h; exact ⟨xs, h, r.few h1 h2 _ e⟩
  | dct ks vs =>
    have e' : bels n ks = true ∧ bels n vs = true := by simpa [belC] using e
    obtain ⟨xs, h, r, r2⟩ := h; exact ⟨xs, h, r.few h1 h2 _ e'.1, r2.few h1 h2 _ e'.2⟩
  | ins c fs => obtain ⟨dx, xs, h, q, r⟩ := h; exact ⟨dx, xs, h, q, r.few h1 h2 _ e⟩
end
section
variable {K : PySem.W.Frag} {H1 H' : Hp} {W1 W' : Wd} {st1 st' : St}
/-- the elder cells alone, and one more -/
theorem Sim.fewer (S1 : Sim K H1 W1 st1) (T : Step H1 W1 H' W') (S' : Sim K H' W' st') (ho : Old st1 st') (hl : st1.length ≤ st'.length) : Sim K H' ⟨W1.rho, W'.B⟩ (st'.take st1.length) := by
  obtain ⟨more, hm⟩ := T.pre
  have g1 : ∀ i, i < st1.length → W1.rho[i]? = W'.rho[i]? := fun i hi => by rw [hm, List.getElem?_append_left (by rw [S1.len]; exact hi)]
  have g2 : ∀ a ∈ W1.rho, a ∈ W'.rho := fun a ha => by rw [hm]; exact List.mem_append_left _ ha
  refine ⟨by rw [List.length_take, Nat.min_eq_left hl]; exact S1.len, S1.nd, S'.bt, fun a ha => S'.dis a (g2 a ha), fun i a c h1 h2 => ?_⟩
  have hi : i < st1.length := by
    have := (List.getElem?_eq_some_iff.mp h2).1
    rw [List.length_take] at this; omega
  rw [List.getElem?_take_of_lt hi] at h2
  have q := S'.cell i a c (by rw [← g1 i hi]; exact h1) h2
  refine q.few g1 g2 ?_
  rcases ho i c hi h2 with h | h
  · have := (S1.cell i a c h1 h).bel
    rw [S1.len] at this
    exact this
  · exact h
theorem Step.fewer (T : Step H1 W1 H' W') : Step H1 W1 H' ⟨W1.rho, W'.B⟩ := ⟨⟨[], by simp⟩, T.B, T.sub, fun a o h n => ⟨(T.keep a o h n).1, n⟩⟩
theorem gc_ok {v : V} {d d2 : D} {st2 : St} (S1 : Sim K H1 W1 st1) (T : Step H1 W1 H' W') (S' : Sim K H' W' st') (r : Rep K H' W' v d) (e : gc st1 d st' = .ok d2 st2) : ∃ W2, Step H1 W1 H' W2 ∧ Sim K H' W2 st2 ∧ Rep K H' W2 v d2 := by
  unfold gc at e
  split at e
  · cases e; exact ⟨W', T, S', r⟩
  · split at e
    · rename_i ho
      obtain ⟨more, hm⟩ := T.pre
      have g1 : ∀ i, i < st1.length → W1.rho[i]? = W'.rho[i]? := fun i hi => by rw [hm, List.getElem?_append_left (by rw [S1.len]; exact hi)]
      have g2 : ∀ a ∈ W1.rho, a ∈ W'.rho := fun a ha => by rw [hm]; exact List.mem_append_left _ ha
      split at e
      · rename_i hb
        cases e
        exact ⟨_, T.fewer, S1.fewer T S' ho.2 ho.1, r.few g1 g2 _ hb⟩
      · rename_i hb
        split at e
        · rename_i c hc
          split at e
          · rename_i hbc
            cases e
            obtain ⟨k, hk1, hk2⟩ := Option.bind_eq_some_iff.mp hc
            have hk1' : d = .ref k := by
              cases d <;> simp [isRef] at hk1
              rw [hk1]
            subst hk1'
            cases r with
            | ref hr =>
              rename_i a
              have hkn : st1.length ≤ k := by
                have : ¬ k < st1.length := by simpa [bel] using hb
                omega
              have ha : a ∉ W1.rho := fun z => by
                obtain ⟨i, hi, ei⟩ := List.getElem_of_mem z
                have h1 : W'.rho[i]? = some a := by rw [← g1 i (by rw [← S1.len]; exact hi), List.getElem?_eq_getElem hi, ei]
                obtain ⟨l1, e1⟩ := List.getElem?_eq_some_iff.mp hr
                obtain ⟨l2, e2⟩ := List.getElem?_eq_some_iff.mp h1
                have : k = i := (List.getElem_inj S'.nd).mp (e1.trans e2.symm)
                rw [S1.len] at hi
                omega
              have haW : a ∈ W'.rho := List.mem_of_getElem? hr
              have S2 := S1.fewer T S' ho.2 ho.1
              have g3 : ∀ i, i < st1.length → (W1.rho ++ [a])[i]? = W'.rho[i]? := fun i hi => by rw [List.getElem?_append_left (by rw [S1.len]; exact hi)]; exact g1 i hi
              have g4 : ∀ b ∈ W1.rho ++ [a], b ∈ W'.rho := fun b hb => by
                rcases List.mem_append.mp hb with z | z
                · exact g2 b z
                · rw [List.mem_singleton.mp z]; exact haW
              refine ⟨⟨W1.rho ++ [a], W'.B⟩, ⟨⟨[a], rfl⟩, T.B, T.sub, fun b o h n => ⟨(T.keep b o h n).1, fun z => (T.keep b o h n).2 (g4 b z)⟩⟩, ⟨?_, ?_, S'.bt, fun b hb => S'.dis b (g4 b hb), fun i b c' h1 h2 => ?_⟩, .ref ?_⟩
              · simp [S1.len, Nat.min_eq_left ho.1]
              · show (W1.rho ++ [a]).Nodup
                rw [List.nodup_append]
                refine ⟨S1.nd, by simp, fun x hx y hy => ?_⟩
                rw [List.mem_singleton.mp hy]
                intro z; subst z; exact ha hx
              · have h1' : (W1.rho ++ [a])[i]? = some b := h1
                have hlen : (st'.take st1.length).length = st1.length := by rw [List.length_take]; omega
                by_cases hi : i < st1.length
                · rw [List.getElem?_append_left (by rw [S1.len]; exact hi)] at h1'
                  rw [List.getElem?_append_left (by omega), List.getElem?_take_of_lt hi] at h2
                  have q := S'.cell i b c' (by rw [← g1 i hi]; exact h1') h2
                  refine q.few g3 g4 ?_
                  rcases ho.2 i c' hi h2 with h | h
                  · have := (S1.cell i b c' h1' h).bel
                    rw [S1.len] at this
                    exact this
                  · exact h
                · have hi2 : i = st1.length := by
                    have := (List.getElem?_eq_some_iff.mp h2).1
                    rw [List.length_append, hlen] at this
                    simp at this; omega
                  subst hi2
                  have e1 : a = b := by
                    rw [← S1.len] at h1'; simpa using h1'
                  have e2 : c = c' := by
                    rw [List.getElem?_append_right (by omega), hlen] at h2
                    simpa using h2
                  subst e1 e2
                  exact (S'.cell k a c hr hk2).few g3 g4 hbc
              · show (W1.rho ++ [a])[st1.length]? = some a
                rw [← S1.len]; simp
          · cases e; exact ⟨W', T, S', r⟩
        · cases e; exact ⟨W', T, S', r⟩
    · cases e; exact ⟨W', T, S', r⟩
theorem ice_ok {Wx Wy : WX} {σ τ : L2.St} {H : Hp} {W : Wd} {r : R D} {P : D → St → Prop} {Q : VK} (S1 : Sim K H1 W1 st1) (hx : ∀ cls dd H', Wx cls dd σ H' → Wy cls dd τ H') (T1 : Step H W H1 W1) (hP : ∀ d st', P d st' → Aft K H W Q d st') (p : Post K Wx σ H W (ice st1 r) P) :
    Post K Wy τ H1 W1 r (Aft K H1 W1 Q) := by
  have plain : ∀ d st', P d st' → Aft K H1 W1 Q d st' := fun d st' h v H' W' T S' R => hP d st' h v H' W' (T1.trans T) S' R
  cases r with
  | no => exact p
  | er x st => exact fun H' W' cls dd T S' x' => hx _ _ _ (p H' W' cls dd (T1.trans T) S' x')
  | ok d st' =>
    show Aft K H1 W1 Q d st'
    unfold ice at p
    split at p
    · rename_i k st2 heq
      cases heq
      split at p
      · rename_i hk
        obtain ⟨rfl, hl, ho⟩ := hk
        split at p
        · rename_i xs hxs
          split at p
          · rename_i hb
            intro v H' W' T S' R
            cases R with
            | ref hr =>
              rename_i a
              obtain ⟨vs, hv, rv⟩ := S'.cell _ a _ hr hxs
              obtain ⟨more, hm⟩ := T.pre
              have g1 : ∀ i, i < st1.length → W1.rho[i]? = W'.rho[i]? := fun i hi => by rw [hm, List.getElem?_append_left (by rw [S1.len]; exact hi)]
              have g2 : ∀ a ∈ W1.rho, a ∈ W'.rho := fun a ha => by rw [hm]; exact List.mem_append_left _ ha
              have ha : a ∉ W1.rho := fun z => by
                obtain ⟨i, hi, ei⟩ := List.getElem_of_mem z
                have h1 : W'.rho[i]? = some a := by rw [← g1 i (by rw [← S1.len]; exact hi), List.getElem?_eq_getElem hi, ei]
                obtain ⟨l1, e1⟩ := List.getElem?_eq_some_iff.mp hr
                obtain ⟨l2, e2⟩ := List.getElem?_eq_some_iff.mp h1
                have : st1.length = i := (List.getElem_inj S'.nd).mp (e1.trans e2.symm)
                rw [S1.len] at hi
                omega
              exact hP _ _ p (.ref a) H' ⟨W1.rho, W'.B⟩ (T1.trans T.fewer) (S1.fewer T S' ho (by omega)) (.lst hv ha (S'.dis a (List.mem_of_getElem? hr)) (rv.few g1 g2 _ hb))
          · exact plain _ _ p
        · rename_i ks ws hxs
          split at p
          · rename_i hb
            have hb' : bels st1.length ks = true ∧ bels st1.length ws = true := by simpa using hb
            intro v H' W' T S' R
            cases R with
            | ref hr =>
              rename_i a
              obtain ⟨kvs, hv, rk, rv⟩ := S'.cell _ a _ hr hxs
              obtain ⟨more, hm⟩ := T.pre
              have g1 : ∀ i, i < st1.length → W1.rho[i]? = W'.rho[i]? := fun i hi => by rw [hm, List.getElem?_append_left (by rw [S1.len]; exact hi)]
              have g2 : ∀ a ∈ W1.rho, a ∈ W'.rho := fun a ha => by rw [hm]; exact List.mem_append_left _ ha
              have ha : a ∉ W1.rho := fun z => by
                obtain ⟨i, hi, ei⟩ := List.getElem_of_mem z
                have h1 : W'.rho[i]? = some a := by rw [← g1 i (by rw [← S1.len]; exact hi), List.getElem?_eq_getElem hi, ei]
                obtain ⟨l1, e1⟩ := List.getElem?_eq_some_iff.mp hr
                obtain ⟨l2, e2⟩ := List.getElem?_eq_some_iff.mp h1
                have : st1.length = i := (List.getElem_inj S'.nd).mp (e1.trans e2.symm)
                rw [S1.len] at hi
                omega
              exact hP _ _ p (.ref a) H' ⟨W1.rho, W'.B⟩ (T1.trans T.fewer) (S1.fewer T S' ho (by omega)) (.dct (.inl hv) ha (S'.dis a (List.mem_of_getElem? hr)) (rk.few g1 g2 _ hb'.1) (rv.few g1 g2 _ hb'.2))
          · exact plain _ _ p
        · exact plain _ _ p
      · exact plain _ _ p
    · exact plain _ _ p
end
/-- a def's promise: what its denotation does -/
def spF (K : PySem.W.Frag) (c : Call) (f : Str) (np : Nat) : Sp := fun vs H Q E => ∃ W st ds, Sim K H W st ∧ Reps K H W vs ds ∧ ds.length = np ∧ Post K (fun cls d _ H => E cls d H) [] H W (c f ds st) (Aft K H W Q)
/-- a def keeps its promise wherever no guard of the machine is up -/
structure FnG (P : Program) (w : World) (K : PySem.W.Frag) (mg : Str → Option Value) (base : Heap) (k : Nat) (f : Addr) (fd : FuncData) (ps : List Str) (sp : Sp) : Prop where
  len : ∀ vs H Q E, sp vs H Q E → vs.length = ps.length
  run : ∀ (A : Around) (up : List PySem.Env) (s : Shared) (H : Hp) (args : Args) (us : List Value) (vs : List V) (Q : VK) (E : XK), Room k A → A.guards = some [] → Env0 P w K mg base A up s H → BindsTo s fd args (ps.zip us) → Vals vs us → sp vs H Q E →
    codeAny (model P w) A (.call (.ref f) args) (CR (L2.CX P w) up P w H s Q E) s
structure FnAt (P : Program) (w : World) (K : PySem.W.Frag) (mg : Str → Option Value) (base : Heap) (c : Call) (k : Nat) (f : Str) (np : Nat) : Prop where
  ex : ∃ (a : Addr) (fd : FuncData) (ps : List Str), mg f = some (.ref a) ∧ PySem.W.keepIn K (.ref a) = true ∧ Binds K fd ps [] ∧ FnG P w K mg base k a fd ps (spF K c f np)
section
variable {X : Cx} {k : Nat} {f : Addr} {fd : FuncData} {ps : List Str} {sp : Sp} {E : L2.St → XK} {x : Str} {p pos : Pos} {e : Expr} {es : List Expr} {t : TA}
/-- x(e, ..), x a def of the module -/
theorem pe_callG (F : FnG X.prog X.w X.K X.mg X.base k f fd ps sp) (hr : Room k X.A) (hgd : X.A.guards = some []) (hg : Gl X x) (hm : X.mg x = some (.ref f)) (hk : PySem.W.keepIn X.K (.ref f) = true) (hb : Binds X.K fd ps []) (hx : ∀ σ, PassesAt (L2.CX X.prog X.w) X σ (E σ))
    (ha : PA X (e :: es) t) (hdb : (x == ("__debug__" : Str)) = false) (he : starEach (e :: es) X.env = (false, eval e X.env) :: starEach es X.env) (hpl : (backTo pos (starEach es X.env)).any (·.1) = false) :
    PE X (.Call (.Name x p) (e :: es) [] pos) (tCallS sp E t) := ⟨fun pins s σ H Q I h => by
  refine PySem.wpAny_Call_Name_kw (ld_glob I hg hm (PySem.W.callWith_K (h₀ := X.base) I.ok.mod.kin hk (thn (ha.run pos pins s σ H _ I h) fun us s1 ⟨vs, H1, J, r, q⟩ => ⟨J.kIn, ?_⟩) he hpl) hdb)
  have hl : us.length = ps.length := by rw [← r.length]; exact F.len _ _ _ _ q
  have bd := hb s1 us J.kIn (by rw [List.append_nil]; exact hl)
  rw [List.append_nil] at bd
  refine wpAny_call (codeAny_mono (F.run X.A X.stack s1 H1 ⟨us, []⟩ us vs Q (E σ) hr hgd J.env0 bd r q) fun z s2 hz => ?_)
  rcases z with er | fl
  · exact hx σ pins H1 s1 er s2 J hz
  · cases fl with
    | ret u => exact J.after hz
    | _ => exact False.elim hz⟩
end
section
variable {X : Cx} {c : Call} {Wx : WX} {a b e : Expr} {ma mb me : ME} {pos : Pos} {es : List Expr} {ms : List ME}
theorem dCall {k np : Nat} {f : Str} {p : Pos} (F : FnAt X.prog X.w X.K X.mg X.base c k f np) (hr : Room k X.A) (hgd : X.A.guards = some []) (hg : Gl X f) (tk : Takes X Wx) (ha : PA X (e :: es) (tAs X.K c Wx (mArgs ms))) (hl : ms.length = np)
    (hdb : (f == ("__debug__" : Str)) = false) (he : starEach (e :: es) X.env = (false, eval e X.env) :: starEach es X.env) (hpl : (backTo pos (starEach es X.env)).any (·.1) = false) :
    PE X (.Call (.Name f p) (e :: es) [] pos) (tE X.K c Wx (mCall f ms)) := by
  obtain ⟨ad, fd, ps, hm, hk, hb, F⟩ := F.ex
  refine PE.weak (pe_callG (E := WE Wx) F hr hgd hg hm hk hb (fun σ => passAt tk σ) ha hdb he hpl) fun σ H Q h => ?_
  obtain ⟨W, st, env, S, E, p⟩ := h
  refine ⟨W, st, env, S, E, (args_post p).mono fun ds st1 p1 vs H1 W1 T1 S1 R1 => ⟨W1, st1, ds, S1, R1, p1.1.trans hl, ?_⟩⟩
  exact ice_ok S1 (fun cls dd H' h => h) T1 (fun _ _ h => h) p1.2
theorem dCallM {k np : Nat} {f : Str} {p : Pos} (F : FnAt X.prog X.w X.K X.mg X.base c k f np) (hr : Room k X.A) (hgd : X.A.guards = some []) (hg : Gl X f) (tk : Takes X Wx) (ha : PA X (e :: es) (tAs X.K c Wx (mArgs ms))) (hl : ms.length = np)
    (hdb : (f == ("__debug__" : Str)) = false) (he : starEach (e :: es) X.env = (false, eval e X.env) :: starEach es X.env) (hpl : (backTo pos (starEach es X.env)).any (·.1) = false) :
    PE X (.Call (.Name f p) (e :: es) [] pos) (tE X.K c Wx (mCallM f ms)) := by
  obtain ⟨ad, fd, ps, hm, hk, hb, F⟩ := F.ex
  refine PE.weak (pe_callG (E := WE Wx) F hr hgd hg hm hk hb (fun σ => passAt tk σ) ha hdb he hpl) fun σ H Q h => ?_
  obtain ⟨W, st, env, S, E, p⟩ := h
  refine ⟨W, st, env, S, E, (args_post p).mono fun ds st1 p1 vs H1 W1 T1 S1 R1 => ⟨W1, st1, ds, S1, R1, p1.1.trans hl, ?_⟩⟩
  have p2 := p1.2
  generalize c f ds st1 = r at p2 ⊢
  cases r with
  | no => exact p2
  | er x st => exact fun H' W' cls dd T S' x' => p2 H' W' cls dd (T1.trans T) S' x'
  | ok d st' => exact fun v H' W' T S' R => p2 v H' W' (T1.trans T) S' R
end
end RP
end
section
set_option Elab.async false
set_option linter.all false
set_option maxRecDepth 100000
/-! Methods of lists; statements. -/
namespace RP
open PySem L2
/-! ### methods -/
def liftM (K : PySem.W.Frag) (f : Meth) : V → List V → Hp → VK → Prop := fun x xs H Q => ∃ W st d ds d2 st2, Sim K H W st ∧ Rep K H W x d ∧ Reps K H W xs ds ∧ f st d ds = some (d2, st2) ∧ ∀ v H' W', Step H W H' W' → Sim K H' W' st2 → Rep K H' W' v d2 → Q v H'
/-- xs.insert(i, y) -/
def xInsert : Meth := fun st o ds => match o, ds with
  | .ref n, [.int i, d] => match st[n]? with
    | some (.lst xs) => if xs.length < big ∧ 0 ≤ i ∧ i < (big : Int) then some (.non, st.set n (.lst (xs.take i.toNat ++ [d] ++ xs.drop i.toNat))) else none
    | _ => none
  | _, _ => none
def xReverse : Meth := fun st o ds => match o, ds with
  | .ref n, [] => match st[n]? with
    | some (.lst xs) => some (.non, st.set n (.lst xs.reverse))
    | _ => none
  | _, _ => none
def xClear : Meth := fun st o ds => match o, ds with
  | .ref n, [] => match st[n]? with
    | some (.lst xs) => some (.non, st.set n (.lst []))
    | _ => none
  | _, _ => none
section
variable {X : Cx}
theorem mt_appendL : MtR X "list.append" (liftM X.K xAppend) := fun pins s σ H x xs v us Q I rx rxs h => by
  refine mt_append pins s σ H x xs v us Q I rx rxs ?_
  obtain ⟨W, st, d, ds, d2, st2, S, r, rs, e, q⟩ := h
  have bl := bigLine
  unfold xAppend at e
  split at e
  · rename_i n d1
    split at e
    · rename_i ys hn
      split at e
      · cases e
        cases r with
        | ref hr =>
          rename_i a
          obtain ⟨vs, hv, rv⟩ := S.cell _ a _ hr hn
          cases rs with
          | cons r1 rn =>
            cases rn
            rename_i w
            have T := Step.write S (o := .lst (vs ++ [w])) hr
            refine ⟨a, vs, _, rfl, rfl, hv, by rw [rv.length]; omega, q .non _ W T (S.write hr ⟨_, upd_same, (rv.append (.cons r1 .nil)).step S T⟩) .non⟩
      · cases e
    · cases e
  · cases e
theorem mt_extendL : MtR X "list.extend" (liftM X.K xExtend) := fun pins s σ H x xs v us Q I rx rxs h => by
  refine mt_extend pins s σ H x xs v us Q I rx rxs ?_
  obtain ⟨W, st, d, ds, d2, st2, S, r, rs, e, q⟩ := h
  have bl := bigLine
  unfold xExtend at e
  split at e
  · rename_i n d1
    split at e
    · rename_i ys zs hn hz
      split at e
      · cases e
        cases r with
        | ref hr =>
          rename_i a
          obtain ⟨vs, hv, rv⟩ := S.cell _ a _ hr hn
          cases rs with
          | cons r1 rn =>
            cases rn
            have s1 := r1.saw S
            rw [hz] at s1
            obtain ⟨b, ws, rfl, hb, rb⟩ := saw_lst s1
            have T := Step.write S (o := .lst (vs ++ ws)) hr
            refine ⟨a, b, vs, ws, rfl, rfl, hv, hb, by rw [rv.length, rb.length]; omega, q .non _ W T (S.write hr ⟨_, upd_same, (rv.append rb).step S T⟩) .non⟩
      · cases e
    · cases e
  · cases e
theorem mt_insertL : MtR X "list.insert" (liftM X.K xInsert) := fun pins s σ H x xs v us Q I rx rxs h => by
  refine mt_insert pins s σ H x xs v us Q I rx rxs ?_
  obtain ⟨W, st, d, ds, d2, st2, S, r, rs, e, q⟩ := h
  have bl := bigLine
  have bi : (big : Int) < 2 ^ 63 := by decide
  unfold xInsert at e
  split at e
  · rename_i n i d1
    split at e
    · rename_i ys hn
      split at e
      · rename_i hc
        cases e
        cases r with
        | ref hr =>
          rename_i a
          obtain ⟨vs, hv, rv⟩ := S.cell _ a _ hr hn
          cases rs with
          | cons r1 rn =>
            cases rn with
            | cons r2 rn =>
              cases rn
              have ev := rep_int r1
              subst ev
              rename_i w
              have T := Step.write S (o := .lst (vs.take i.toNat ++ [w] ++ vs.drop i.toNat)) hr
              refine ⟨a, vs, i, _, rfl, rfl, hv, by rw [rv.length]; omega, by omega, by omega, q .non _ W T (S.write hr ⟨_, upd_same, (((rv.take _).append (.cons r2 .nil)).append (rv.drop _)).step S T⟩) .non⟩
      · cases e
    · cases e
  · cases e
theorem mt_reverseL : MtR X "list.reverse" (liftM X.K xReverse) := fun pins s σ H x xs v us Q I rx rxs h => by
  refine mt_reverse pins s σ H x xs v us Q I rx rxs ?_
  obtain ⟨W, st, d, ds, d2, st2, S, r, rs, e, q⟩ := h
  unfold xReverse at e
  split at e
  · rename_i n
    split at e
    · rename_i ys hn
      cases e
      cases r with
      | ref hr =>
        rename_i a
        obtain ⟨vs, hv, rv⟩ := S.cell _ a _ hr hn
        cases rs
        have T := Step.write S (o := .lst vs.reverse) hr
        exact ⟨a, vs, rfl, rfl, hv, q .non _ W T (S.write hr ⟨_, upd_same, rv.reverse.step S T⟩) .non⟩
    · cases e
  · cases e
theorem mt_clearL : MtR X "list.clear" (liftM X.K xClear) := fun pins s σ H x xs v us Q I rx rxs h => by
  refine mt_clear pins s σ H x xs v us Q I rx rxs ?_
  obtain ⟨W, st, d, ds, d2, st2, S, r, rs, e, q⟩ := h
  unfold xClear at e
  split at e
  · rename_i n
    split at e
    · rename_i ys hn
      cases e
      cases r with
      | ref hr =>
        rename_i a
        obtain ⟨vs, hv, rv⟩ := S.cell _ a _ hr hn
        cases rs
        have T := Step.write S (o := .lst []) hr
        exact ⟨a, vs, rfl, rfl, hv, q .non _ W T (S.write hr ⟨_, upd_same, .nil⟩) .non⟩
    · cases e
  · cases e
/-- what a list's method is called of -/
def isL (st : St) (d : D) : Bool := match d with
  | .lst _ => true
  | .frz _ => true
  | .ref n => match st[n]? with
    | some (.lst _) => true
    | _ => false
  | _ => false
/-- a method of a list -/
def mLm (f : Meth) (o : ME) (ms : List ME) : ME := fun c env st => (o c env st).bind fun x st1 => if isL st1 x = true then (mArgs ms c env st1).bind fun ds st2 => match f st2 x ds with
  | some (d, st3) => .ok d st3
  | none => .no
  else .no
theorem tyL {K : PySem.W.Frag} {H : Hp} {W : Wd} {st : St} {v : V} {d : D} (S : Sim K H W st) (r : Rep K H W v d) (h : isL st d = true) : tyV K "list" v H := by
  cases d with
  | lst ds => cases r with | lst h _ _ _ => exact .inl ⟨rfl, _, SqL.of h⟩
  | frz ns =>
    cases r with
    | frz h =>
      refine .inl ⟨rfl, ns.map V.int, ?_⟩
      rcases h with ⟨o, h⟩ | ⟨o, its, n, h1, h2, h3, h4, h5, h6⟩
      · exact .inl (.inr ⟨o, h⟩)
      · exact .inr ⟨o, its, n, h1, h2, h3, h4, h5, h6⟩
  | ref n =>
    cases r with
    | ref hr =>
      have h' : (match st[n]? with | some (.lst _) => true | _ => false) = true := h
      split at h'
      · rename_i ys hn
        obtain ⟨vs, hv, _⟩ := S.cell _ _ _ hr hn
        exact .inl ⟨rfl, _, SqL.of hv⟩
      · cases h'
  | _ => exact absurd h Bool.false_ne_true
variable {c : Call} {Wx : WX} {o e : Expr} {es : List Expr} {mo : ME} {ms : List ME} {name : Str} {apos cpos : Pos} {id : String} {f : Meth}
theorem dLm0 (slot : Slot "list" name id) (hty : typeOf (.builtin id) = pure (.type "method_descriptor")) (hm : MtR X id (liftM X.K f)) (ho : PE X o (tE X.K c Wx mo)) (hbase : attributeBase o name X.env (eval o X.env) = eval o X.env) (hline : (apos.endLine == cpos.line) = true) :
    PE X (.Call (.Attribute o name apos) [] [] cpos) (tE X.K c Wx (mLm f mo [])) :=
  PE.weak (pe_bm0 F.plainAttrs_list slot hty hm ho hbase hline) fun σ H Q h => by
    obtain ⟨W, st, env, S, E, p⟩ := h
    refine ⟨W, st, env, S, E, p.bind.mono fun dx st1 p1 x H1 W1 T1 S1 R1 => ?_⟩
    split at p1
    · rename_i hl
      refine ⟨tyL S1 R1 hl, ?_⟩
      have p2 : Post X.K Wx σ H W (match f st1 dx [] with | some (d, st3) => R.ok d st3 | none => .no) (Aft X.K H W Q) := p1
      split at p2
      · rename_i d st3 he
        exact ⟨W1, st1, dx, [], d, st3, S1, R1, .nil, he, fun v H' W' T S' R => p2 v H' W' (T1.trans T) S' R⟩
      · exact (show False from p2).elim
    · exact (show False from p1).elim
theorem dLm (slot : Slot "list" name id) (hty : typeOf (.builtin id) = pure (.type "method_descriptor")) (hm : MtR X id (liftM X.K f)) (ho : PE X o (tE X.K c Wx mo)) (ha : PA X (e :: es) (tAs X.K c Wx (mArgs ms))) (hbase : attributeBase o name X.env (eval o X.env) = eval o X.env)
    (hfew : ((backTo cpos (starEach (e :: es) X.env)).all (fun x => !x.1) && (backToKw cpos (keywordEach [] X.env)).all (fun x => x.1.isSome)
      && decide ((e :: es).length + ([] : List Keyword).length + (if ([] : List Keyword).isEmpty then 0 else 1) < 30)) = true)
    (hline : (apos.endLine == cpos.line) = true) (hs : starEach (e :: es) X.env = (false, eval e X.env) :: starEach es X.env) (hplain : (backTo cpos (starEach es X.env)).any (·.1) = false) :
    PE X (.Call (.Attribute o name apos) (e :: es) [] cpos) (tE X.K c Wx (mLm f mo ms)) :=
  PE.weak (pe_bm F.plainAttrs_list slot hty hm ho ha hbase hfew hline hs hplain) fun σ H Q h => by
    obtain ⟨W, st, env, S, E, p⟩ := h
    refine ⟨W, st, env, S, E, p.bind.mono fun dx st1 p1 x H1 W1 T1 S1 R1 => ?_⟩
    split at p1
    · rename_i hl
      refine ⟨tyL S1 R1 hl, W1, st1, env, S1, E.step S T1, (p1.bind.at T1).mono fun ds st2 p2 xs H2 W2 T2 S2 R2 => ?_⟩
      split at p2
      · rename_i d st3 he
        exact ⟨W2, st2, dx, ds, d, st3, S2, R1.step S1 T2, R2, he, fun v H' W' T S' R => p2 v H' W' ((T1.trans T2).trans T) S' R⟩
      · exact (show False from p2).elim
    · exact (show False from p1).elim
end

/-! ### statements -/
def PostS (K : PySem.W.Frag) (Wx : WX) (Dn : Ends) (H : Hp) (W : Wd) (r : RS) : Prop := match r with
  | .nx env st => ∀ σ' H' W', Step H W H' W' → Sim K H' W' st → EnvR K H' W' σ' env → Dn.nx σ' H'
  | .rt d st => ∀ v H' W', Step H W H' W' → Sim K H' W' st → Rep K H' W' v d → Dn.rt v H'
  | .bk env st => ∀ σ' H' W', Step H W H' W' → Sim K H' W' st → EnvR K H' W' σ' env → Dn.bk σ' H'
  | .ct env st => ∀ σ' H' W', Step H W H' W' → Sim K H' W' st → EnvR K H' W' σ' env → Dn.ct σ' H'
  | .er x env st => ∀ σ' H' W' cls dd, Step H W H' W' → Sim K H' W' st → EnvR K H' W' σ' env → XRep K H' W' x cls dd → Wx cls dd σ' H'
  | .no => False
def tSs (K : PySem.W.Frag) (c : Call) (Wx : WX) (m : MS) : TS := fun Dn σ H => ∃ W st env, Sim K H W st ∧ EnvR K H W σ env ∧ PostS K Wx Dn H W (m c env st)
theorem PS.weak {X : Cx} {s : Stmt} {t t' : TS} (h : PS X s t) (hw : ∀ Dn σ H, t' Dn σ H → t Dn σ H) : PS X s t' := ⟨fun pins s σ H Q I q => h.run pins s σ H Q I (hw _ _ _ q)⟩
theorem PSs.weak {X : Cx} {s : List Stmt} {t t' : TS} (h : PSs X s t) (hw : ∀ Dn σ H, t' Dn σ H → t Dn σ H) : PSs X s t' := ⟨fun pins s σ H Q I q => h.run pins s σ H Q I (hw _ _ _ q)⟩
section
variable {K : PySem.W.Frag} {Wx : WX} {σ : L2.St} {H H1 : Hp} {W W1 : Wd} {Dn : Ends}
theorem PostS.at {r : RS} (T : Step H W H1 W1) (h : PostS K Wx Dn H W r) : PostS K Wx Dn H1 W1 r := by
  cases r with
  | nx env st => exact fun σ' H' W' T' S' E' => h σ' H' W' (T.trans T') S' E'
  | rt d st => exact fun v H' W' T' S' E' => h v H' W' (T.trans T') S' E'
  | bk env st => exact fun σ' H' W' T' S' E' => h σ' H' W' (T.trans T') S' E'
  | ct env st => exact fun σ' H' W' T' S' E' => h σ' H' W' (T.trans T') S' E'
  | er x env st => exact fun σ' H' W' cls dd T' S' E' x' => h σ' H' W' cls dd (T.trans T') S' E' x'
  | no => exact h
theorem PostS.ofR {α : Type} {r : R α} {env : Env} {st : St} {k : α → St → RS} (S : Sim K H W st) (E : EnvR K H W σ env) (h : PostS K Wx Dn H W (RS.ofR r env k)) : Post K Wx σ H W r fun a st' => PostS K Wx Dn H W (k a st') := by
  cases r with
  | ok a st' => exact h
  | er x st' => exact fun H' W' cls dd T S' x' => h σ H' W' cls dd T S' (E.step S T) x'
  | no => exact h
theorem PostS.at' {r : RS} {a : St} {al : Type} {x : al} (T : Step H W H1 W1) (h : PostS K Wx Dn H W r) : PostS K Wx Dn H1 W1 r := h.at T
/-- a block in a row -/
theorem PostS.seq {r : RS} {k : Env → St → RS} (h : PostS K Wx Dn H W (r.bind k)) : PostS K Wx { Dn with nx := fun σ' H' => ∃ W' st env, Sim K H' W' st ∧ EnvR K H' W' σ' env ∧ PostS K Wx Dn H' W' (k env st) } H W r := by
  cases r with
  | nx env st => exact fun σ' H' W' T S' E' => ⟨W', st, env, S', E', PostS.at T h⟩
  | rt d st => exact h
  | bk env st => exact h
  | ct env st => exact h
  | er x env st => exact h
  | no => exact h
end
section
variable {X : Cx} {c : Call} {Wx : WX} {a b e : Expr} {ma mb me : ME} {pos : Pos} {s : Stmt} {rest bd bd2 : List Stmt} {m m2 : MS}
theorem sNil : PSs X [] (tSs X.K c Wx sSkip) := PSs.weak pss_nil fun Dn σ H h => by
  obtain ⟨W, st, env, S, E, p⟩ := h
  exact p σ H W (Step.refl _ _) S E
theorem sOne (h : PS X s (tSs X.K c Wx m)) : PSs X [s] (tSs X.K c Wx m) := pss_one h
theorem sConsD (h : PS X s (tSs X.K c Wx m)) (hr : PSs X rest (tSs X.K c Wx m2)) : PSs X (s :: rest) (tSs X.K c Wx (sSeq m m2)) := PSs.weak (pss_cons h hr) fun Dn σ H h => by
  obtain ⟨W, st, env, S, E, p⟩ := h
  exact ⟨W, st, env, S, E, p.seq⟩
theorem sPassD : PS X (.Pass pos) (tSs X.K c Wx sSkip) := PS.weak ps_pass fun Dn σ H h => by
  obtain ⟨W, st, env, S, E, p⟩ := h
  exact p σ H W (Step.refl _ _) S E
theorem sBrkD : PS X (.Break pos) (tSs X.K c Wx sBrk) := PS.weak ps_break fun Dn σ H h => by
  obtain ⟨W, st, env, S, E, p⟩ := h
  exact p σ H W (Step.refl _ _) S E
theorem sCntD : PS X (.Continue pos) (tSs X.K c Wx sCnt) := PS.weak ps_continue fun Dn σ H h => by
  obtain ⟨W, st, env, S, E, p⟩ := h
  exact p σ H W (Step.refl _ _) S E
theorem sExprD (he : PE X e (tE X.K c Wx me)) (hs : swapsWith e none pos.line X.env = pure false) : PS X (.Expr e pos) (tSs X.K c Wx (sExpr me)) := PS.weak (ps_expr he hs) fun Dn σ H h => by
  obtain ⟨W, st, env, S, E, p⟩ := h
  exact ⟨W, st, env, S, E, (p.ofR S E).mono fun d st1 p1 v H1 W1 T1 S1 R1 => p1 σ H1 W1 T1 S1 (E.step S T1)⟩
theorem sRetD (he : PE X e (tE X.K c Wx me)) : PS X (.Return (some e) pos) (tSs X.K c Wx (sRet me)) := PS.weak (ps_ret he) fun Dn σ H h => by
  obtain ⟨W, st, env, S, E, p⟩ := h
  exact ⟨W, st, env, S, E, (p.ofR S E).mono fun d st1 p1 v H1 W1 T1 S1 R1 => p1 v H1 W1 T1 S1 R1⟩
theorem sRetND : PS X (.Return none pos) (tSs X.K c Wx sRetN) := PS.weak ps_retN fun Dn σ H h => by
  obtain ⟨W, st, env, S, E, p⟩ := h
  exact p .non H W (Step.refl _ _) S .non
theorem sIfD {t : MT} (ht : PT X e (tTs X.K c Wx t)) (ha : PSs X bd (tSs X.K c Wx m)) (hb : PSs X bd2 (tSs X.K c Wx m2)) : PS X (.If e bd bd2 pos) (tSs X.K c Wx (sIf t m m2)) := PS.weak (ps_if ht ha hb) fun Dn σ H h => by
  obtain ⟨W, st, env, S, E, p⟩ := h
  refine ⟨W, st, env, S, E, (p.ofR S E).mono fun x st1 p1 H1 W1 T1 S1 => ?_⟩
  cases x with
  | true =>
    rw [if_pos rfl] at p1 ⊢
    exact ⟨W1, st1, env, S1, E.step S T1, p1.at T1⟩
  | false =>
    rw [if_neg Bool.false_ne_true] at p1 ⊢
    exact ⟨W1, st1, env, S1, E.step S T1, p1.at T1⟩
/-- any rule that binds a value to a target -/
theorem asg_weak {is : List Nat} {g : MG} {Dn : Ends} {σ : L2.St} {H : Hp} (h : tSs X.K c Wx (sAsg g me) Dn σ H) : tAsg (tE X.K c Wx me) (tG X.K is g) Dn σ H := by
  obtain ⟨W, st, env, S, E, p⟩ := h
  refine ⟨W, st, env, S, E, (p.ofR S E).mono fun d st1 p1 v H1 W1 T1 S1 R1 => ?_⟩
  split at p1
  · rename_i env1 he
    exact ⟨W1, st1, d, env, env1, S1, R1, E.step S T1, he, fun σ' E' _ _ => p1 σ' H1 W1 T1 S1 E'⟩
  · exact (show False from p1).elim
theorem sAsgD {tg : Expr} {is : List Nat} {g : MG} (he : PE X e (tE X.K c Wx me)) (hg : PG X tg (tG X.K is g)) (hs : swapsWithSole [tg] e pos.line X.env = pure false) (hw : swappedStores [tg] e X.env = pure none) (h1 : (assignEach [tg] X.env).map (·.2) = [assign tg X.env]) :
    PS X (.Assign [tg] e pos) (tSs X.K c Wx (sAsg g me)) := PS.weak (ps_asg he hg hs hw h1) fun Dn σ H h => asg_weak h
theorem name_weak {i : Nat} {v : V} {σ : L2.St} {H : Hp} {Q : L2.St → Hp → Prop} (h : tG X.K [i] (gNm i) v σ H Q) : gName i v σ H Q := by
  obtain ⟨W, st, d, env, env', S, r, E, e, q⟩ := h
  unfold gNm at e
  split at e
  · cases e
    exact q _ (E.set r) (by simp) fun j hj => by rw [List.getElem?_set_ne (fun z => hj (by simp [z]))]
  · cases e
theorem tE_mono {σ : L2.St} {H : Hp} {Q Q' : VK} (h : tE X.K c Wx me σ H Q) (hq : ∀ v H', Q v H' → Q' v H') : tE X.K c Wx me σ H Q' := by
  obtain ⟨W, st, env, S, E, p⟩ := h
  exact ⟨W, st, env, S, E, p.mono fun d st1 p1 v H1 W1 T1 S1 R1 => hq _ _ (p1 v H1 W1 T1 S1 R1)⟩
theorem sSetD {i : Nat} {x : Str} {p : Pos} (hN : X.N.Nodup) (hi : X.N[i]? = some x) (hx : Loc X.env.scope x) (he : PE X e (tE X.K c Wx me)) (hs : swapsWith e (some (.Name x p)) pos.line X.env = pure false) (hf : X.fn x = true ∨ X.env.scope.names.lookup x = some .local) :
    PS X (.Assign [.Name x p] e pos) (tSs X.K c Wx (sAsg (gNm i) me)) := PS.weak (ps_set hN hi hx he hs hf) fun Dn σ H h => tE_mono (asg_weak (is := [i]) h) fun v H' q => name_weak q
/-! a[i] = e -/
def rSetX (K : PySem.W.Frag) : TSet := fun o i v H Q => ∃ W st dO dI dV st', Sim K H W st ∧ Rep K H W o dO ∧ Rep K H W i dI ∧ Rep K H W v dV ∧ putIx st dO dI dV = some st' ∧ ∀ H' W', Step H W H' W' → Sim K H' W' st' → Q H'
theorem set_any (hu : X.A.units + 1 < cLine) : PSet X (rSetX X.K) := by
  intro pins s σ H o i v ov iv u Q I ro ri rv h
  obtain ⟨W, st, dO, dI, dV, st', S, r1, r2, r3, e, q⟩ := h
  have bl : big < sizeLine := by decide
  unfold putIx at e
  split at e
  · rename_i n
    cases r1 with
    | ref hr =>
      rename_i a
      split at e
      · rename_i xs k hn
        obtain ⟨j, hj, rfl⟩ := Option.map_eq_some_iff.mp e
        obtain ⟨vs, hv, rv2⟩ := S.cell _ a _ hr hn
        have ev := rep_int r2
        subst ev
        have T := Step.write S (o := .lst (vs.set j v)) hr
        exact set_list pins s σ H _ _ v ov iv u Q I ro ri rv ⟨a, vs, k, j, rfl, rfl, hv, by rw [rv2.length]; exact hj, q _ W T (S.write hr ⟨_, upd_same, (Reps.set r3 j rv2).step S T⟩)⟩
      · rename_i dI ks vs hn
        split at e
        · rename_i hk
          have hk' := (Bool.and_eq_true _ _).mp hk
          cases e
          obtain ⟨kvs, hv, rk, rv2⟩ := S.cell _ a _ hr hn
          obtain ⟨ke, rfl⟩ := key_rep r2 hk'.1
          have pr := put_rep r2 r3 rk rv2
          have hl : kvs.length ≤ big := by
            have h1 := rk.length
            rw [List.length_map] at h1
            have h2 := of_decide_eq_true hk'.2
            omega
          have T := Step.write S (o := .dK (putK kvs ke v)) hr
          exact set_dict hu pins s σ H _ _ v ov iv u Q I ro ri rv ⟨a, _, rfl, DPut.k hv (by omega), q _ W T (S.write hr ⟨_, upd_same, pr.1.step S T, pr.2.step S T⟩)⟩
        · cases e
      · cases e
  · cases e
theorem sPutD {o i : Expr} {mo mi : ME} {p : Pos} (hu : X.A.units + 1 < cLine) (he : PE X e (tE X.K c Wx me)) (ho : PE X o (tE X.K c Wx mo)) (hi : PE X i (tE X.K c Wx mi)) (hs : swapsWithSole [.Subscript o i p] e pos.line X.env = pure false)
    (ha : ∀ v, assign (.Subscript o i p) X.env v = (do
      let ov ← holding [v] (eval o X.env)
      let iv ← holding [v, ov] (eval i X.env)
      standAt p
      holding [v, ov, iv] (setItem ov iv v)
      release [v, ov, iv] []))
    (hw : swappedStores [.Subscript o i p] e X.env = pure none) (h1 : (assignEach [.Subscript o i p] X.env).map (·.2) = [assign (.Subscript o i p) X.env]) : PS X (.Assign [.Subscript o i p] e pos) (tSs X.K c Wx (sPut mo mi me)) :=
  PS.weak (ps_asg he (pg_sub ho hi (set_any hu) ha) hs hw h1) fun Dn σ H h => by
    obtain ⟨W, st, env, S, E, p⟩ := h
    refine ⟨W, st, env, S, E, (p.ofR S E).mono fun dv st1 p1 v H1 W1 T1 S1 R1 => ⟨W1, st1, env, S1, E.step S T1, ((p1.at T1).ofR S1 (E.step S T1)).mono fun dO st2 p2 vo H2 W2 T2 S2 R2 => ⟨W2, st2, env, S2, E.step S (T1.trans T2), ((p2.at T2).ofR S2 (E.step S (T1.trans T2))).mono fun dI st3 p3 vi H3 W3 T3 S3 R3 => ?_⟩⟩⟩
    split at p3
    · rename_i st4 h4
      exact ⟨W3, st3, dO, dI, dv, st4, S3, R2.step S2 T3, R3, R1.step S1 (T2.trans T3), h4, fun H' W' T S' => p3 σ H' W' (T3.trans T) S' (E.step S (((T1.trans T2).trans T3).trans T))⟩
    · exact (show False from p3).elim
/-- while -/
theorem sWhileD {t : MT} (hp : PassesOwn (model X.prog X.w) X.A X.env X.xe) (ht : PT X e (tTs X.K c Wx t)) (hb : PSs X bd (tSs X.K c Wx m)) : PS X (.While e bd [] pos) (tSs X.K c Wx (sWhile t m)) :=
  PS.weak (ps_while hp ht hb) fun Dn σ H h => by
    obtain ⟨W, st, env, S, E, p⟩ := h
    have p' : PostS X.K Wx Dn H W (whileN c t m wMost env st) := p
    generalize wMost = n at p'
    refine ⟨fun k σ H => ∃ W st env, Sim X.K H W st ∧ EnvR X.K H W σ env ∧ PostS X.K Wx Dn H W (whileN c t m k env st), ⟨n, W, st, env, S, E, p'⟩, ?_⟩
    rintro k σ H ⟨W, st, env, S, E, p⟩
    cases k with
    | zero => exact (show False from p).elim
    | succ k =>
      unfold whileN at p
      refine ⟨W, st, env, S, E, (p.ofR S E).mono fun x st1 p1 H1 W1 T1 S1 => ?_⟩
      cases x with
      | false =>
        rw [if_neg Bool.false_ne_true] at p1
        dsimp only
        rw [if_neg Bool.false_ne_true]
        exact p1 σ H1 W1 T1 S1 (E.step S T1)
      | true =>
        rw [if_pos rfl] at p1
        dsimp only
        rw [if_pos rfl]
        refine ⟨fun σ' H' => ∃ W st env, Sim X.K H' W st ∧ EnvR X.K H' W σ' env ∧ PostS X.K Wx Dn H' W (whileN c t m k env st), fun σ' H' q => ⟨k, by omega, q⟩, W1, st1, env, S1, E.step S T1, ?_⟩
        have p2 := p1.at T1
        clear p1 p
        generalize m c env st1 = r at p2 ⊢
        cases r with
        | nx env2 st2 => exact fun σ' H' W' T S' E' => ⟨W', st2, env2, S', E', p2.at T⟩
        | ct env2 st2 => exact fun σ' H' W' T S' E' => ⟨W', st2, env2, S', E', p2.at T⟩
        | bk env2 st2 => exact p2
        | rt d st2 => exact p2
        | er x env2 st2 => exact p2
        | no => exact p2
/-- for -/
theorem sForD {tg iter : Expr} {is : List Nat} {it : MI} {g : MG} (hp : PassesOwn (model X.prog X.w) X.A X.env X.xe) (hc : X.calm = true) (hi : PI X tg iter (tIs X.K c Wx it)) (hg : PG X tg (tG X.K is g)) (hb : PSs X bd (tSs X.K c Wx m)) (hs : ∀ x, foldedSetIterable iter X.env x = pure x) :
    PS X (.For tg iter bd [] pos) (tSs X.K c Wx (sFor it g m)) :=
  PS.weak (ps_for hp hc hi hg hb hs) fun Dn σ H h => by
    obtain ⟨W, st, env, S, E, p⟩ := h
    refine ⟨W, st, env, S, E, (p.ofR S E).mono fun pr st1 p1 J H1 W1 T1 S1 wk hxl => ?_⟩
    obtain ⟨xs, gd⟩ := pr
    refine ⟨fun i k σ2 H2 => k = xs.length - i ∧ i ≤ xs.length ∧ ∃ W2 st2 env2, Step H1 W1 H2 W2 ∧ Sim X.K H2 W2 st2 ∧ EnvR X.K H2 W2 σ2 env2 ∧ PostS X.K Wx Dn H2 W2 (forL c gd xs g m (xs.drop i) env2 st2),
      ⟨xs.length, by simp, Nat.zero_le _, W1, st1, env, Step.refl _ _, S1, E.step S T1, p1.at T1⟩, ?_⟩
    rintro i k σ2 H2 ⟨rfl, hi, W2, st2, env2, T2, S2, E2, p2⟩
    by_cases hlt : i < xs.length
    · obtain ⟨d, hd⟩ : ∃ d, xs[i]? = some d := ⟨xs[i], List.getElem?_eq_getElem hlt⟩
      have edrop : xs.drop i = d :: xs.drop (i + 1) := by
        rw [List.drop_eq_getElem_cons hlt]
        have : xs[i] = d := by rw [List.getElem?_eq_getElem hlt] at hd; exact Option.some.inj hd
        rw [this]
      rw [edrop] at p2
      unfold forL at p2
      by_cases hgd : gOk gd xs st2
      · rw [if_pos hgd] at p2
        refine .inr ⟨wk.go i H2 W2 st2 T2 S2 hgd hlt, fun σ' H' => ∃ W' st' env', Step H1 W1 H' W' ∧ Sim X.K H' W' st' ∧ EnvR X.K H' W' σ' env' ∧ PostS X.K Wx Dn H' W' (forL c gd xs g m (xs.drop (i + 1)) env' st'),
          fun σ' H' q => ⟨xs.length - (i + 1), by omega, rfl, hlt, q⟩, fun x H' y => ?_⟩
        obtain ⟨Ty, Sy, rx⟩ := wk.yld i H2 W2 st2 d x H' T2 S2 hgd hd y
        replace T2 := T2.trans Ty
        replace E2 := E2.step S2 Ty
        replace p2 := p2.at Ty
        replace S2 := Sy
        clear Sy Ty
        split at p2
        · exact (show False from p2).elim
        · rename_i env1 henv1
          refine ⟨W2, st2, d, env2, env1, S2, rx, E2, henv1, fun σ' E1 hl hj => ⟨W2, st2, env1, S2, E1, ?_⟩⟩
          generalize m c env1 st2 = r at p2 ⊢
          cases r with
          | nx env3 st3 => exact fun σ' H' W' T S' E' => ⟨W', st3, env3, T2.trans T, S', E', p2.at T⟩
          | ct env3 st3 => exact fun σ' H' W' T S' E' => ⟨W', st3, env3, T2.trans T, S', E', p2.at T⟩
          | bk env3 st3 => exact p2
          | rt d st3 => exact p2
          | er x env3 st3 => exact p2
          | no => exact p2
      · rw [if_neg hgd] at p2
        exact (show False from p2).elim
    · have e : i = xs.length := by omega
      rw [List.drop_of_length_le (by omega)] at p2
      unfold forL at p2
      by_cases hgd : gOk gd xs st2
      · rw [if_pos hgd] at p2
        exact .inl ⟨wk.stop i H2 W2 st2 T2 S2 hgd e, p2 σ2 H2 W2 (Step.refl _ _) S2 E2⟩
      · rw [if_neg hgd] at p2
        exact (show False from p2).elim
end
section
variable {X : Cx} {c : Call} {Wx : WX} {elt tg iter : Expr} {ifs : List Expr} {scope : Scope} {own : List (Str × Nat)} {pos spos py : Pos} {it : MI} {g : MG} {ts : MT} {me : ME} {is : List Nat} {i : Nat} {y : Str}
/-- name = [..] on one line -/
theorem sSetC (hc : X.calm = true) (hN : X.N.Nodup) (hy : X.N[i]? = some y) (hyl : X.env.scope.names.lookup y = some .local)
    (hsw : swapsWith (.ListComp elt [⟨tg, iter, ifs, 0⟩] scope pos) (some (.Name y py)) spos.line X.env = pure true) (hi : PI X tg iter (tIs X.K c Wx it)) (ok : BlkOk X.N X.env.scope scope own) (his : ∀ i ∈ is, i ∈ own.map (·.2))
    (hg : ∀ (s : Shared) (H : Hp) (C : Addr) (cl : List (Str × Addr)) (fp : List Addr), PG (X.blk s H scope (compEnvC scope cl C X.env) fp) tg (tG X.K is g)) (ht : ∀ (s : Shared) (H : Hp) (C : Addr) (cl : List (Str × Addr)) (fp : List Addr), PTs (X.blk s H scope (compEnvC scope cl C X.env) fp) ifs (tTs X.K c WF ts))
    (he : ∀ (s : Shared) (H : Hp) (C : Addr) (cl : List (Str × Addr)) (fp : List Addr), PE (X.blk s H scope (compEnvC scope cl C X.env) fp) elt (tE X.K c WF me)) (hs : ∀ x, foldedSetIterable iter X.env x = pure x) :
    PS X (.Assign [.Name y py] (.ListComp elt [⟨tg, iter, ifs, 0⟩] scope pos) spos) (tSs X.K c Wx (sAsg (gNm i) (mComp (own.map (·.2)) it g ts me))) :=
  PS.weak (ps_setLc hc hN hy hyl hsw hi ok hg ht he hs) fun Dn σ H h => by
    have h1 : tAsg (tE X.K c Wx (mComp (own.map (·.2)) it g ts me)) (gName i) Dn σ H := tE_mono (asg_weak (is := [i]) h) fun v H' q => name_weak q
    obtain ⟨W, st, env, S, E, p⟩ := h1
    exact comp_core his S E (fun ys st2 => .inl rfl) p
theorem sSetCM (hc : X.calm = true) (hN : X.N.Nodup) (hy : X.N[i]? = some y) (hyl : X.env.scope.names.lookup y = some .local)
    (hsw : swapsWith (.ListComp elt [⟨tg, iter, ifs, 0⟩] scope pos) (some (.Name y py)) spos.line X.env = pure true) (hi : PI X tg iter (tIs X.K c Wx it)) (ok : BlkOk X.N X.env.scope scope own) (his : ∀ i ∈ is, i ∈ own.map (·.2))
    (hg : ∀ (s : Shared) (H : Hp) (C : Addr) (cl : List (Str × Addr)) (fp : List Addr), PG (X.blk s H scope (compEnvC scope cl C X.env) fp) tg (tG X.K is g)) (ht : ∀ (s : Shared) (H : Hp) (C : Addr) (cl : List (Str × Addr)) (fp : List Addr), PTs (X.blk s H scope (compEnvC scope cl C X.env) fp) ifs (tTs X.K c WF ts))
    (he : ∀ (s : Shared) (H : Hp) (C : Addr) (cl : List (Str × Addr)) (fp : List Addr), PE (X.blk s H scope (compEnvC scope cl C X.env) fp) elt (tE X.K c WF me)) (hs : ∀ x, foldedSetIterable iter X.env x = pure x) :
    PS X (.Assign [.Name y py] (.ListComp elt [⟨tg, iter, ifs, 0⟩] scope pos) spos) (tSs X.K c Wx (sAsg (gNm i) (mCompM (own.map (·.2)) it g ts me))) :=
  PS.weak (ps_setLc hc hN hy hyl hsw hi ok hg ht he hs) fun Dn σ H h => by
    have h1 : tAsg (tE X.K c Wx (mCompM (own.map (·.2)) it g ts me)) (gName i) Dn σ H := tE_mono (asg_weak (is := [i]) h) fun v H' q => name_weak q
    obtain ⟨W, st, env, S, E, p⟩ := h1
    exact comp_core his S E (fun ys st2 => .inr rfl) p
end
end RP
end
section
set_option Elab.async false
set_option linter.all false
set_option maxRecDepth 100000
/-! Defs, the table of them, the end. -/
namespace RP
open PySem L2
/-- a def: its name, its row, its parameters, its names (the slots), what it does -/
structure FI where
  name : Str
  st : Stmt
  ps : List Str
  N : List Str
  fn : Fn
section
variable {P : Program} {w : World} {K : PySem.W.Frag} {mg : Str → Option Value} {base : Heap} {N : List Str} {qual : Str} {scope : Scope} {f : Addr} {cdv : Value} {A : Around} {outer : List PySem.Env} {s : Shared} {H : Hp} {E : XK}
abbrev WL (E : XK) : WX := fun cls d _ H => E cls d H
theorem cx_takes : Takes (cxOf (L2.CX P w) P w K mg base N qual scope f cdv A outer s H E) (WL E) := takes_of rfl rfl rfl rfl
theorem cx_passes : PassesOwn (model P w) (cxOf (L2.CX P w) P w K mg base N qual scope f cdv A outer s H E).A (cxOf (L2.CX P w) P w K mg base N qual scope f cdv A outer s H E).env (cxOf (L2.CX P w) P w K mg base N qual scope f cdv A outer s H E).xe := passes_of (X := cxOf (L2.CX P w) P w K mg base N qual scope f cdv A outer s H E) rfl
end
def Body (L : List FI) (bs : List Str) (i : FI) : Prop := ∀ (P : Program) (w : World) (K : PySem.W.Frag) (mg : Str → Option Value) (base : Heap) (c : Call) (n : Nat) (f : Addr) (cdv : Value) (A : Around) (outer : List PySem.Env) (s : Shared) (H : Hp) (E : XK),
  (∀ (k : Nat) (j : FI), L[k]? = some j → FnAt P w K mg base c n j.name j.ps.length) → (∀ (k : Nat) (b : Str), bs[k]? = some b → mg b = none) → Room n (A.deeper (PyProof.Rows.envOfC i.name (defScope i.st) s.heap.objs.size f cdv)) →
  (A.deeper (PyProof.Rows.envOfC i.name (defScope i.st) s.heap.objs.size f cdv)).guards = some [] →
  PSs (cxOf (L2.CX P w) P w K mg base i.N i.name (defScope i.st) f cdv A outer s H E) (defBody i.st) (tSs K c (WL E) i.fn.body)
theorem gc_ok_some (st : St) (d : D) (st' : St) : ∃ d2 st2, gc st d st' = .ok d2 st2 := by
  unfold gc
  split
  · exact ⟨_, _, rfl⟩
  · split
    · split
      · exact ⟨_, _, rfl⟩
      · split
        · split <;> exact ⟨_, _, rfl⟩
        · exact ⟨_, _, rfl⟩
    · exact ⟨_, _, rfl⟩
section
variable {K : PySem.W.Frag} {Wx : WX} {σ : L2.St} {H : Hp} {W : Wd} {Q : VK}
theorem gc_post {st st' : St} {d : D} (S : Sim K H W st) (p : Post K Wx σ H W (gc st d st') (Aft K H W Q)) {v : V} {H' : Hp} {W' : Wd} (T : Step H W H' W') (S' : Sim K H' W' st') (r : Rep K H' W' v d) : Q v H' := by
  obtain ⟨d2, st2, e⟩ := gc_ok_some st d st'
  rw [e] at p
  obtain ⟨W2, T2, S2, r2⟩ := gc_ok S T S' r e
  exact p v H' W2 T2 S2 r2
theorem start_env {N : List Str} {vs : List V} {ds : List D} (r : Reps K H W vs ds) : EnvR K H W (L2.start N vs) (ds.map some ++ List.replicate (N.length - ds.length) none) := by
  have hl := r.length
  refine ⟨by simp [L2.start, hl], fun i d h => ?_⟩
  by_cases hi : i < ds.length
  · rw [List.getElem?_append_left (by simpa using hi), List.getElem?_map] at h
    obtain ⟨d', e1, e2⟩ := Option.map_eq_some_iff.mp h
    cases e2
    obtain ⟨v, f1, f2⟩ := r.get e1
    refine ⟨v, ?_, f2⟩
    unfold L2.start
    rw [List.getElem?_append_left (by simp; omega), List.getElem?_map, f1]
    rfl
  · rw [List.getElem?_append_right (by simpa using hi), List.getElem?_replicate] at h
    split at h
    · cases h
    · cases h
theorem run_start {T : Tab} {n : Nat} {f : Str} {fn : Fn} {N : List Str} {vs : List V} {E : XK} (hT : T f = some fn) (hns : fn.ns = N.length) (h : spF K (run T (n + 1)) f fn.np vs H Q E) :
    tSs K (run T n) (WL E) fn.body { nx := fun _ H' => Q .non H', rt := Q } (L2.start N vs) H := by
  obtain ⟨W, st, ds, S, R, hl, p⟩ := h
  have e : run T (n + 1) f ds st = runFn (run T n) fn ds st := by
    show (match T f with | some fn => runFn (run T n) fn ds st | none => .no) = _
    rw [hT]
  rw [e] at p
  unfold runFn at p
  rw [if_pos hl] at p
  refine ⟨W, st, ds.map some ++ List.replicate (fn.ns - fn.np) none, S, ?_, ?_⟩
  · have := start_env (N := N) R
    rw [hns, ← hl]
    exact this
  · generalize fn.body (run T n) (ds.map some ++ List.replicate (fn.ns - fn.np) none) st = r at p ⊢
    cases r with
    | nx env st1 => exact fun σ' H' W' T' S' E' => gc_post S p T' S' .non
    | rt d st1 => exact fun v H' W' T' S' R' => gc_post S p T' S' R'
    | bk env st1 => exact (show False from p).elim
    | ct env st1 => exact (show False from p).elim
    | er x env st1 => exact fun σ' H' W' cls dd T' S' E' x' => p H' W' cls dd T' S' x'
    | no => exact (show False from p).elim
end
section
variable {P : Program} {w : World} {K : PySem.W.Frag} {mg : Str → Option Value} {base : Heap} {L : List FI} {bs : List Str} {T : Tab} {n : Nat} {j : FI} {a : Addr} {fd : FuncData}
theorem sp_len {c : Call} {f : Str} {ps : List Str} {vs : List V} {H : Hp} {Q : VK} {E : XK} (h : spF K c f ps.length vs H Q E) : vs.length = ps.length := by
  obtain ⟨W, st, ds, S, R, hl, p⟩ := h
  rw [R.length, hl]
/-- a def's body keeps the promise, no guard up -/
theorem fnG_of {N ps : List Str} {k : Nat} {sp : Sp} {x qual : Str} {params : Arguments} {body : List Stmt} {scope : Scope} (F : FunD K x qual params body scope [] [] a fd) (S : FnScope N ps scope) (len : ∀ vs H Q E, sp vs H Q E → vs.length = ps.length)
    (hbody : ∀ (cdv : Value) (A : Around) (up : List PySem.Env) (s : Shared) (H : Hp) (vs : List V) (Q : VK) (E : XK), Room k (A.deeper (PyProof.Rows.envOfC qual scope s.heap.objs.size a cdv)) → (A.deeper (PyProof.Rows.envOfC qual scope s.heap.objs.size a cdv)).guards = some [] → sp vs H Q E →
      ∃ t, PSs (cxOf (L2.CX P w) P w K mg base N qual scope a cdv A up s H E) body t ∧ t { nx := fun _ H' => Q .non H', rt := Q } (L2.start N vs) H) : FnG P w K mg base (k + 1) a fd ps sp := by
  obtain ⟨oc, od, dV, kV, doc, pm, an, cdv, ct, osl, rfl, lk, hcd, _, _⟩ := F.ex
  refine ⟨len, fun A up s H args us vs Q E hr hgd e0 hb rv hsp => ?_⟩
  have old : ∀ b o, base.get? b = some o → s.heap.get? b = some o := fun b o e => (e0.bs b o e).1
  have kin : K.In s.heap := e0.mod.kin.keeps old
  have nlim : s.heap.NoLimit := e0.mod.nolimit.keeps old
  refine codeAny_call_function hr.depth (kin _ _ lk) rfl S.co S.gen rfl (PySem.W.codeRec_of kin hcd) (hb _ _ _ _ ?_)
  refine wpAny_newFunctionEnv_cells S.kind (fun y hy => (S.par y.1 (List.of_mem_zip hy).1).imp id fun z => ⟨z, PySem.W.cellsFrom_some _ _ _ (.inl z)⟩) fun env he s1 ic => ?_
  subst he
  refine ⟨nlim.keeps ic.toInCall.keep, codeAny_func ?_⟩
  obtain ⟨t, ht, hq⟩ := hbody cdv A up s H vs Q E (hr.deeper _) hgd hsp
  refine wpAny_mono (ht.run [] s1 (L2.start N vs) H _ (inv_start S hr.hd e0 (len _ _ _ _ hsp) rv ic) hq) (fun fl s2 hs => ?_) fun _ _ hs => hs
  cases fl with
  | ret u => obtain ⟨v, σ2, H2, J, r2, q⟩ := hs; exact ⟨v, H2, J.os, J.bare, J.base, J.hok, r2, q⟩
  | next => obtain ⟨σ2, H2, J, q⟩ := hs; exact ⟨.non, H2, J.os, J.bare, J.base, J.hok, rfl, q⟩
  | brk => obtain ⟨_, _, _, q⟩ := hs; exact False.elim q
  | cont => obtain ⟨_, _, _, q⟩ := hs; exact False.elim q
theorem fn_step (F : FunD K j.name j.name (defArgs j.st) (defBody j.st) (defScope j.st) [] [] a fd) (hS : FnScope j.N j.ps (defScope j.st)) (hb : Body L bs j) (hT : T j.name = some j.fn) (hnp : j.fn.np = j.ps.length) (hns : j.fn.ns = j.N.length)
    (hA : ∀ (k : Nat) (i : FI), L[k]? = some i → FnAt P w K mg base (run T n) n i.name i.ps.length) (hB : ∀ (k : Nat) (b : Str), bs[k]? = some b → mg b = none) :
    FnG P w K mg base (n + 1) a fd j.ps (spF K (run T (n + 1)) j.name j.ps.length) := by
  refine fnG_of F hS (fun vs H Q E h => sp_len h) fun cdv A outer s H vs Q E hr hgd h => ⟨_, hb P w K mg base (run T n) n a cdv A outer s H E hA hB hr hgd, ?_⟩
  rw [← hnp] at h
  exact run_start hT hns h
theorem all_ok (hT : ∀ (k : Nat) (i : FI), L[k]? = some i → T i.name = some i.fn ∧ i.fn.np = i.ps.length ∧ i.fn.ns = i.N.length) (hS : ∀ (k : Nat) (i : FI), L[k]? = some i → FnScope i.N i.ps (defScope i.st))
    (hf : ∀ (k : Nat) (i : FI), L[k]? = some i → ∃ a fd, mg i.name = some (.ref a) ∧ FunD K i.name i.name (defArgs i.st) (defBody i.st) (defScope i.st) [] [] a fd ∧ Binds K fd i.ps [])
    (hB : ∀ (k : Nat) (b : Str), bs[k]? = some b → mg b = none) (hb : ∀ (k : Nat) (i : FI), L[k]? = some i → Body L bs i) : ∀ (n k : Nat) (i : FI), L[k]? = some i → FnAt P w K mg base (run T n) n i.name i.ps.length
  | 0, k, i, h => by
    obtain ⟨a, fd, h1, F, h2⟩ := hf k i h
    refine ⟨a, fd, i.ps, h1, F.kp, h2, fun vs H Q E q => sp_len q, fun A outer s H args us vs Q E hr hgd he hbd hv q => ?_⟩
    obtain ⟨W, st, ds, S, R, hl, p⟩ := q
    exact (show False from p).elim
  | n + 1, k, i, h => by
    obtain ⟨a, fd, h1, F, h2⟩ := hf k i h
    obtain ⟨e1, e2, e3⟩ := hT k i h
    exact ⟨a, fd, i.ps, h1, F.kp, h2, fn_step F (hS k i h) (hb k i h) e1 e2 e3 (all_ok hT hS hf hB hb n) hB⟩
/-- at the start: the script alone -/
theorem sp_start {K : PySem.W.Frag} {H : Hp} {a : Addr} {ns : List Int} {c : Call} {f : Str} (hO : Only H) (hS : SqL K H a (ns.map V.int)) (h : ∃ st', c f [.frz ns] [] = .ok (.bl true) st') : spF K c f 1 [.ref a] H (fun v _ => v = .bl true) fun _ _ _ => False := by
  obtain ⟨st', e⟩ := h
  refine ⟨⟨[], []⟩, [], [.frz ns], ⟨rfl, by simp, by simp, by simp, fun i a c h => by cases h⟩, .cons (.frz ?_) .nil, rfl, ?_⟩
  · rcases hS with (hS | ⟨o, hS⟩) | hS
    · rcases hO a with z | ⟨o, xs, z⟩
      · rw [z] at hS; cases hS
      · rw [z] at hS; cases hS
    · exact .inl ⟨o, hS⟩
    · exact .inr hS
  · rw [e]
    exact fun v H' W' T S' R => rep_bl R
end
/-- a table -/
def tabOf : List FI → Tab
  | [], _ => none
  | i :: l, f => if f = i.name then some i.fn else tabOf l f
/-- what the checks want of the list -/
theorem tab_ok : ∀ {L : List FI}, (L.map (·.name)).Nodup → ∀ (k : Nat) (i : FI), L[k]? = some i → tabOf L i.name = some i.fn
  | [], _, k, i, h => by simp at h
  | j :: l, nd, 0, i, h => by
    have e : j = i := by simpa using h
    subst e
    unfold tabOf
    rw [if_pos rfl]
  | j :: l, nd, k + 1, i, h => by
    have h' : l[k]? = some i := by simpa using h
    rw [List.map_cons, List.nodup_cons] at nd
    unfold tabOf
    rw [if_neg (fun z => nd.1 (by rw [← z]; exact List.mem_map.mpr ⟨i, List.mem_of_getElem? h', rfl⟩)), tab_ok nd.2 k i h']
/-- of each of a list -/
def All {α : Type} (P : α → Prop) : List α → Prop
  | [] => True
  | x :: l => P x ∧ All P l
theorem all_nil {α : Type} {P : α → Prop} : All P [] := trivial
theorem all_cons {α : Type} {P : α → Prop} {x : α} {l : List α} (h : P x) (r : All P l) : All P (x :: l) := ⟨h, r⟩
theorem All.get {α : Type} {P : α → Prop} : ∀ {l : List α}, All P l → ∀ (k : Nat) (i : α), l[k]? = some i → P i
  | [], _, k, i, h => by simp at h
  | x :: l, a, 0, i, h => by
    have e : x = i := by simpa using h
    rw [← e]
    exact a.1
  | x :: l, a, k + 1, i, h => All.get a.2 k i (by simpa using h)
abbrev FunI (K : PySem.W.Frag) (i : FI) (a : Addr) (fd : FuncData) : Prop := FunD K i.name i.name (defArgs i.st) (defBody i.st) (defScope i.st) [] [] a fd
/-- the law, by what its denotation gives -/
theorem law_of {P : Program} {w : World} {K : PySem.W.Frag} {mg : Str → Option Value} {L : List FI} {bs : List Str} {j : FI} {fa : Addr} {fd : FuncData} (n : Nat) (hnd : (L.map (·.name)).Nodup) (hT : All (fun i => i.fn.np = i.ps.length ∧ i.fn.ns = i.N.length) L)
    (hS : All (fun i => FnScope i.N i.ps (defScope i.st)) L) (hb : All (Body L bs) L) (hf : All (fun i => ∃ a fd, mg i.name = some (.ref a) ∧ FunI K i a fd ∧ Binds K fd i.ps []) L) (hB : All (fun b => mg b = none) bs)
    (k : Nat) (hk : L[k]? = some j) (hj1 : j.ps.length = 1) (F : FunI K j fa fd) (base : Heap) : FnG P w K mg base (n + 1) fa fd j.ps (spF K (run (tabOf L) (n + 1)) j.name 1) := by
  have hT' : ∀ (k : Nat) (i : FI), L[k]? = some i → tabOf L i.name = some i.fn ∧ i.fn.np = i.ps.length ∧ i.fn.ns = i.N.length := fun k i h => ⟨tab_ok hnd k i h, hT.get k i h⟩
  have A := all_ok (P := P) (w := w) (K := K) (mg := mg) (base := base) hT' hS.get hf.get hB.get hb.get n
  have F1 := fn_step (P := P) (w := w) (mg := mg) (base := base) F (hS.get k j hk) (hb.get k j hk) (hT' k j hk).1 (hT' k j hk).2.1 (hT' k j hk).2.2 A hB.get
  rw [hj1] at F1
  exact F1
open PyProof.Rows in
/-- the law at the heap behind the top -/
theorem law_callG {P : Program} {w : World} {K : PySem.W.Frag} {mg mb : Str → Option Value} {k : Nat} {fa a : Addr} {fd : FuncData} {x : Str} {sp : Sp} {s : Shared} {vs : List Value} {ns : List Int}
    (KX : K.In s.heap) (hns : s.heap.Ns mainGlobals mg) (hb : s.heap.Ns builtinsNs mb) (hbb : ∀ x : Str, x ≠ "__name__" → mb x = bootBuiltins x) (hlim : s.heap.NoLimit) (hg : s.gens = #[])
    (ha : s.heap.get? a = some { cls := .type "list", data := .seq vs.toArray }) (hi : IntsAre vs ns) (hl : ns.length ≤ sizeLine) (hr : Room k callerA) (F : ∀ base : Heap, FnG P w K mg base k fa fd [x] sp) (hbind : ∀ (s : Shared) (u : Value), BindsTo s fd ⟨[u], []⟩ [(x, u)])
    (hsp : ∀ H : Hp, Only H → SqL K H a (ns.map V.int) → sp [.ref a] H (fun v _ => v = .bl true) fun _ _ _ => False) :
    codeAny (model P w) callerA (.call (.ref fa) ⟨[.ref a], []⟩) (fun r s' => r = .ok (.ret (.bool true)) ∧ OldK s.heap s'.heap ∧ s'.os = s.os ∧ AllBare s'.gens) s := by
  have key : ∀ H : Hp, Only H → SqL K H a (ns.map V.int) → HOk P w H s.heap → (∀ b, H b ≠ none → b = a ∧ K.lookup a = none) → codeAny (model P w) callerA (.call (.ref fa) ⟨[.ref a], []⟩) (fun r s' => r = .ok (.ret (.bool true)) ∧ OldK s.heap s'.heap ∧ s'.os = s.os ∧ AllBare s'.gens) s := fun H hO hS hok hA => by
    have free : ∀ {b : Addr} {o : Obj} {es : Array DictEntry} {ep : Nat}, s.heap.get? b = some o → o.data = .dict es ep → H b = none := fun {b o es ep} e d => by
      by_cases q : H b = none
      · exact q
      · obtain ⟨rfl, _⟩ := hA b q
        rw [ha] at e
        cases e
        exact absurd (show Data.seq vs.toArray _ = Data.dict es ep from d) (fun z => by cases z)
    have nsB : ∀ {b : Addr} {m : Str → Option Value}, s.heap.Ns b m → (hidT s.heap H).Ns b m := fun ⟨o, es, ep, e, d, r⟩ => ⟨o, es, ep, hidT_get e (free e d), d, r⟩
    have kB : K.In (hidT s.heap H) := fun b o e => hidT_get (KX b o e) (by
      by_cases q : H b = none
      · exact q
      · obtain ⟨rfl, z⟩ := hA b q
        rw [z] at e
        cases e)
    obtain ⟨mc, l1, l2⟩ := hlim
    have en : Env0 P w K mg (hidT s.heap H) callerA [] s H := ⟨rfl, ⟨kB, nsB hns, ⟨mb, nsB hb, hbb⟩, ⟨mc, nsB l1, l2⟩⟩, fun b o e => of_hidT e, Nat.le_of_eq (hidT_size _ _), trivial, fun b z => absurd (show b ∈ ([] : List Addr) from z) (by simp), hok, .of_eq hg⟩
    refine codeAny_mono ((F (hidT s.heap H)).run callerA [] s H ⟨[.ref a], []⟩ [.ref a] [.ref a] _ _ hr rfl en (hbind s (.ref a)) (.cons rfl .nil) (hsp H hO hS)) fun r s' h => ?_
    rcases r with er | fl
    · obtain ⟨_, _, _, _, _, _, _, _, _, _, _, _, z⟩ := h
      exact z.elim
    · cases fl with
      | ret u =>
        obtain ⟨v, H', os, bare, un, hok', r', rfl⟩ := h
        cases (show u = Value.bool true from r')
        refine ⟨rfl, OldK.of_keep fun b o e => ?_, os, bare⟩
        rcases hO b with z | ⟨ob, xs, z⟩
        · exact un.keep b o e z (fun y => absurd (show b ∈ ([] : List Addr) from y) (by simp)) (by simp)
        · have e1 := (hok b _ z).1
          rw [e] at e1
          cases e1
          exact (hok' b _ (un.frzs b _ _ z)).1
      | _ => exact False.elim h
  have rv := vals_ints hi
  have lv := hi.length
  cases hk : K.lookup a with
  | some o =>
    have e := KX a o hk
    rw [ha] at e
    cases e
    exact key (fun _ => none) (fun _ => .inl rfl) (.inr ⟨_, vs.toArray, _, hk, rfl, rfl, rfl, by rw [List.size_toArray, lv]; exact hl, by simpa using rv⟩) (fun b u z => by cases (show (none : Option HO) = some u from z)) fun b z => absurd rfl z
  | none =>
    refine key (fun b => if b = a then some (.frz { cls := .type "list", data := .seq vs.toArray } (.lst (ns.map V.int))) else none) (fun b => ?_) (.inl (.inr ⟨{ cls := .type "list", data := .seq vs.toArray }, if_pos rfl⟩)) (fun b u z => ?_) fun b z => ?_
    · by_cases h : b = a
      · exact .inr ⟨_, _, if_pos h⟩
      · exact .inl (if_neg h)
    · by_cases h : b = a
      · cases (if_pos h).symm.trans z
        subst h
        exact ⟨ha, by rw [List.length_map]; exact hl, vs, _, rv, ha⟩
      · cases (if_neg h).symm.trans z
    · by_cases h : b = a
      · exact ⟨h, hk⟩
      · exact absurd (if_neg h) z
theorem walk_ofG {l : PySem.W.OpenLaw} {n k : Nat} {q : Program} {loose : List Str} {XP : (Str → Option Value) → Heap → Prop} {YP : World → Heap → Prop} {d : DefRec} {x : Str} (hn : l.most = some n) (hn2 : n ≤ sizeLine) (hdf : d.params.defaults = []) (hr : Room k PySem.callerA)
    (F : ∀ (w : World) (mg : Str → Option Value) (fa : Addr) (h : Heap), YP w h → h.Ns mainGlobals mg → mg d.name = some (.ref fa) → ∃ (K : PySem.W.Frag) (fd : FuncData) (sp : Sp), K.In h ∧ (∀ (s : Shared) (u : Value), BindsTo s fd ⟨[u], []⟩ [(x, u)]) ∧
      (∀ (H : Hp) (a : Addr) (ns : List Int), ns.length ≤ n → Only H → SqL K H a (ns.map V.int) → sp [.ref a] H (fun v _ => v = .bl true) fun _ _ _ => False) ∧ ∀ base : Heap, FnG l.prog w K mg base k fa fd [x] sp) :
    PySem.W.WalkO q loose XP YP l.row.toRowW d [] (fun f vs => PySem.call f vs) := by
  refine Att.attach_call hn hdf fun w s0 s1 mg mb fa o pm cd doc a vs ns G Y ho hd hcd hmg hobj hints hlen hg => ?_
  obtain ⟨K, fd, sp, KX, hb, hsp, hF⟩ := F w mg fa _ Y G.T.g hmg
  exact law_callG KX G.T.g G.T.b G.T.builtins G.T.nolimit hg hobj hints (Nat.le_trans hlen hn2) hr hF hb fun H hO hS => hsp H a ns hlen hO hS
end RP
end
section
set_option Elab.async false
set_option linter.all false
set_option maxRecDepth 100000
/-! Short names for what a generator prints. -/
namespace RP
open PySem L2
theorem isBl_bD {o : Option Bool} {d : D} (h : bD o = some d) : ∃ b, d = .bl b := by
  cases o with
  | none => cases h
  | some b => cases h; exact ⟨b, rfl⟩
theorem ib_eq : IsBl eqB := fun _ _ _ _ h => isBl_bD h
theorem ib_ne : IsBl neB := fun _ _ _ _ h => isBl_bD h
theorem ib_in : IsBl inB := fun _ _ _ _ h => isBl_bD h
theorem ib_nin : IsBl ninB := fun _ _ _ _ h => isBl_bD h
theorem ib_lt : IsBl ltB := fun _ _ _ _ h => by
  unfold ltB at h
  split at h
  · cases h; exact ⟨_, rfl⟩
  · cases h
theorem ib_le : IsBl leB := fun _ _ _ _ h => by
  unfold leB at h
  split at h
  · cases h; exact ⟨_, rfl⟩
  · cases h
theorem ib_gt : IsBl gtB := fun _ _ _ _ h => by
  unfold gtB at h
  split at h
  · cases h; exact ⟨_, rfl⟩
  · cases h
theorem ib_ge : IsBl geB := fun _ _ _ _ h => by
  unfold geB at h
  split at h
  · cases h; exact ⟨_, rfl⟩
  · cases h
theorem ib_is : IsBl isB := fun _ _ _ _ h => by
  unfold isB at h
  split at h
  · cases h; exact ⟨_, rfl⟩
  · cases h; exact ⟨_, rfl⟩
  · cases h
theorem ib_isn : IsBl isnB := fun _ _ _ _ h => by
  unfold isnB at h
  split at h
  · cases h; exact ⟨_, rfl⟩
  · cases h; exact ⟨_, rfl⟩
  · cases h
section
variable {X : Cx} {c : Call} {Wx : WX} {a b e : Expr} {ma mb me : ME} {pos : Pos}
theorem kNon {j : Nat} : PE X (.Constant .none j pos) (tE X.K c Wx (mCst .non)) := dCst pe_non fun _ _ => .non
theorem kBl {v : Bool} {j : Nat} : PE X (.Constant (.bool v) j pos) (tE X.K c Wx (mCst (.bl v))) := dCst pe_bl fun _ _ => .bl v
theorem kInt {i : Int} {j : Nat} : PE X (.Constant (.int i) j pos) (tE X.K c Wx (mCst (.int i))) := dCst pe_int fun _ _ => .int i
theorem kStr {x : Str} {j : Nat} : PE X (.Constant (.str x) j pos) (tE X.K c Wx (mCst (.str x))) := dCst pe_str fun _ _ => .str x
theorem dPtsNil : PTs X [] (tTs X.K c Wx tYesM) := ⟨fun pins s σ H Q I h => pts_nil.run pins s σ H Q I (by
  obtain ⟨W, st, env, S, E, p⟩ := h
  exact p H W (Step.refl _ _) S)⟩
theorem dPtsOne {t : MT} (h : PT X a (tTs X.K c Wx t)) : PTs X [a] (tTs X.K c Wx t) := pts_one h
mutual
/-- as the library's data -/
def toPy : D → PyData
  | .bl b => .bool b
  | .int i => .int i
  | .str x => .str x
  | .tup xs => .tuple (toPys xs)
  | .lst xs => .list (toPys xs)
  | _ => .none
def toPys : List D → List PyData
  | [] => []
  | x :: xs => toPy x :: toPys xs
end
/-- repr of plain data -/
def reprD (st : St) (x : D) : Option D :=
  if pln (see st x) && (toPy (see st x)).showable && decide ((toPy (see st x)).shown.length ≤ big) && decide ((toPy (see st x)).depth ≤ 90) then some (.str (toPy (see st x)).shown) else none
mutual
theorem toPy_noDict : ∀ d : D, (toPy d).hasDict = false
  | .non => by simp [toPy, PyData.hasDict]
  | .bl _ => by simp [toPy, PyData.hasDict]
  | .int _ => by simp [toPy, PyData.hasDict]
  | .str _ => by simp [toPy, PyData.hasDict]
  | .tup xs => by simp [toPy, PyData.hasDict, toPys_noDict xs]
  | .lst xs => by simp [toPy, PyData.hasDict, toPys_noDict xs]
  | .dct _ _ => by simp [toPy, PyData.hasDict]
  | .set _ => by simp [toPy, PyData.hasDict]
  | .frz _ => by simp [toPy, PyData.hasDict]
  | .ref _ => by simp [toPy, PyData.hasDict]
theorem toPys_noDict : ∀ ds : List D, PyData.hasDictAll (toPys ds) = false
  | [] => by simp [toPys, PyData.hasDictAll]
  | d :: ds => by simp [toPys, PyData.hasDictAll, toPy_noDict d, toPys_noDict ds]
end
mutual
theorem Pl.reads {pins : List (Addr × Obj)} {σ : L2.St} {H : Hp} {s : Shared} (I : L2.Inv X pins σ H s) : ∀ {v : V} (d : D) {u : Value}, Pl X.K H v d → RelV v u → ∃ as, Reads s.heap u (toPy d) as
  | _, .non, _, .non, r => by cases (show _ = Value.none from r); exact ⟨[], by simpa [toPy] using Reads.none⟩
  | _, .bl b, _, .bl _, r => by cases (show _ = Value.bool b from r); exact ⟨[], by simpa [toPy] using Reads.bool b⟩
  | _, .int i, _, .int _, r => by obtain ⟨t, rfl⟩ := r; exact ⟨[], by simpa [toPy] using Reads.int i t⟩
  | _, .str x, _, .str _, r => by obtain ⟨t, rfl⟩ := r; exact ⟨[], by simpa [toPy] using Reads.str x t⟩
  | _, .tup ds, _, .tup h hs, r => by
    cases r
    obtain ⟨its, rv, ⟨o, e, hc, n, hd⟩, _⟩ := I.tuple h
    obtain ⟨as, ra⟩ := Pls.reads I ds hs rv
    exact ⟨as, by simpa [toPy] using Reads.tuple e hc hd (by simpa using ra)⟩
  | _, .lst ds, _, .lst h hs, r => by
    cases r
    obtain ⟨its, rv, ⟨o, n, e, hc, _, hd⟩, _⟩ := I.list (SqL.of h)
    obtain ⟨as, ra⟩ := Pls.reads I ds hs rv
    exact ⟨_, by simpa [toPy] using Reads.list e hc hd (by simpa using ra)⟩
theorem Pls.reads {pins : List (Addr × Obj)} {σ : L2.St} {H : Hp} {s : Shared} (I : L2.Inv X pins σ H s) : ∀ {vs : List V} (ds : List D) {us : List Value}, Pls X.K H vs ds → Vals vs us → ∃ as, ReadsAll s.heap us (toPys ds) as
  | _, [], _, .nil, r => by cases r; exact ⟨[], by simpa [toPys] using ReadsAll.nil⟩
  | _, d :: ds, _, .cons h hs, r => by
    cases r with
    | cons r1 rr =>
      obtain ⟨as, e1⟩ := Pl.reads I d h r1
      obtain ⟨bs, e2⟩ := Pls.reads I ds hs rr
      exact ⟨as ++ bs, by simpa [toPys] using ReadsAll.cons e1 e2⟩
end
theorem call_reprL (hgd : X.A.guards = some []) (hu : X.A.units + 101 < cLine) : CallR X (.builtin "repr") (liftN X.K (un1 reprD)) := call_un1 fun pins s σ H x us Q W st dx d I r S rx e q => by
  have s1 := rx.saw S
  have bl := bigLine
  unfold reprD at e
  generalize see st dx = ex at s1 e
  split at e
  · rename_i hc
    simp only [Bool.and_eq_true, decide_eq_true_eq] at hc
    obtain ⟨⟨⟨hp, hs⟩, hsz⟩, hdp⟩ := hc
    cases e
    have pl := s1.pl hp
    cases r with
    | cons r1 rn =>
      cases rn
      have fin : ∀ h' u tk, (∀ b o, s.heap.get? b = some o → h'.get? b = some o) → EP X pins σ Q (.str (toPy ex).shown u) { s with heap := h', toks := tk } := fun h' u tk hk =>
        ⟨.str _, H, I.kept (t' := tk) hk, ⟨_, rfl⟩, q (.str _) H (Step.refl _ _) S (.str _)⟩
      obtain ⟨as, rd⟩ := Pl.reads I ex pl r1
      cases pl with
      | non => cases (show _ = Value.none from r1); exact P.repr_of_none (by simpa [toPy, PyData.shown] using fin s.heap s.toks _ (fun _ _ e => e))
      | bl b => cases (show _ = Value.bool b from r1); exact P.repr_of_bool (by simpa [toPy, PyData.shown] using fin s.heap s.toks _ (fun _ _ e => e))
      | int i => obtain ⟨t, rfl⟩ := r1; exact P.repr_of_int (by simpa [toPy, PyData.showable] using hs) (by simpa [toPy, PyData.shown] using fin s.heap s.toks _ (fun _ _ e => e))
      | str z =>
        obtain ⟨t, rfl⟩ := r1
        have ez : (toPy (.str z)).shown = reprText z := by simp [toPy, PyData.shown]
        exact P.repr_of_str (by simpa [toPy, PyData.shown] using fin s.heap s.toks _ (fun _ _ e => e)) (by rw [← ez]; omega)
      | tup h hs' => cases r1; exact repr_of_reads' rd hs (PyData.noDict_hsm (toPy_noDict _)) hgd (by omega) (fun _ _ e => e) fin (by omega)
      | lst h hs' => cases r1; exact repr_of_reads' rd hs (PyData.noDict_hsm (toPy_noDict _)) hgd (by omega) (fun _ _ e => e) fin (by omega)
  · cases e
end
section
variable {X : Cx} {c : Call} {Wx : WX} {elt tg iter : Expr} {ifs : List Expr} {scope : Scope} {own : List (Str × Nat)} {pos spos py : Pos} {it : MI} {g : MG} {ts : MT} {me : ME} {is vs : List Nat} {i : Nat} {y : Str}
theorem dCompV (hv : own.map (·.2) = vs) (hc : X.calm = true) (hN : X.N.Nodup) (hi : PI X tg iter (tIs X.K c Wx it)) (ok : BlkOk X.N X.env.scope scope own) (his : ∀ i ∈ is, i ∈ vs)
    (hg : ∀ (s : Shared) (H : Hp) (C : Addr) (cl : List (Str × Addr)) (fp : List Addr), PG (X.blk s H scope (compEnvC scope cl C X.env) fp) tg (tG X.K is g)) (ht : ∀ (s : Shared) (H : Hp) (C : Addr) (cl : List (Str × Addr)) (fp : List Addr), PTs (X.blk s H scope (compEnvC scope cl C X.env) fp) ifs (tTs X.K c WF ts))
    (he : ∀ (s : Shared) (H : Hp) (C : Addr) (cl : List (Str × Addr)) (fp : List Addr), PE (X.blk s H scope (compEnvC scope cl C X.env) fp) elt (tE X.K c WF me)) (hs : ∀ x, foldedSetIterable iter X.env x = pure x) :
    PE X (.ListComp elt [⟨tg, iter, ifs, 0⟩] scope pos) (tE X.K c Wx (mComp vs it g ts me)) := by
  subst hv
  exact dComp hc hN hi ok his hg ht he hs
theorem sSetV (hv : own.map (·.2) = vs) (hc : X.calm = true) (hN : X.N.Nodup) (hy : X.N[i]? = some y) (hyl : X.env.scope.names.lookup y = some .local)
    (hsw : swapsWith (.ListComp elt [⟨tg, iter, ifs, 0⟩] scope pos) (some (.Name y py)) spos.line X.env = pure true) (hi : PI X tg iter (tIs X.K c Wx it)) (ok : BlkOk X.N X.env.scope scope own) (his : ∀ i ∈ is, i ∈ vs)
    (hg : ∀ (s : Shared) (H : Hp) (C : Addr) (cl : List (Str × Addr)) (fp : List Addr), PG (X.blk s H scope (compEnvC scope cl C X.env) fp) tg (tG X.K is g)) (ht : ∀ (s : Shared) (H : Hp) (C : Addr) (cl : List (Str × Addr)) (fp : List Addr), PTs (X.blk s H scope (compEnvC scope cl C X.env) fp) ifs (tTs X.K c WF ts))
    (he : ∀ (s : Shared) (H : Hp) (C : Addr) (cl : List (Str × Addr)) (fp : List Addr), PE (X.blk s H scope (compEnvC scope cl C X.env) fp) elt (tE X.K c WF me)) (hs : ∀ x, foldedSetIterable iter X.env x = pure x) :
    PS X (.Assign [.Name y py] (.ListComp elt [⟨tg, iter, ifs, 0⟩] scope pos) spos) (tSs X.K c Wx (sAsg (gNm i) (mComp vs it g ts me))) := by
  subst hv
  exact sSetC hc hN hy hyl hsw hi ok his hg ht he hs
theorem dCompVM (hv : own.map (·.2) = vs) (hc : X.calm = true) (hN : X.N.Nodup) (hi : PI X tg iter (tIs X.K c Wx it)) (ok : BlkOk X.N X.env.scope scope own) (his : ∀ i ∈ is, i ∈ vs)
    (hg : ∀ (s : Shared) (H : Hp) (C : Addr) (cl : List (Str × Addr)) (fp : List Addr), PG (X.blk s H scope (compEnvC scope cl C X.env) fp) tg (tG X.K is g)) (ht : ∀ (s : Shared) (H : Hp) (C : Addr) (cl : List (Str × Addr)) (fp : List Addr), PTs (X.blk s H scope (compEnvC scope cl C X.env) fp) ifs (tTs X.K c WF ts))
    (he : ∀ (s : Shared) (H : Hp) (C : Addr) (cl : List (Str × Addr)) (fp : List Addr), PE (X.blk s H scope (compEnvC scope cl C X.env) fp) elt (tE X.K c WF me)) (hs : ∀ x, foldedSetIterable iter X.env x = pure x) :
    PE X (.ListComp elt [⟨tg, iter, ifs, 0⟩] scope pos) (tE X.K c Wx (mCompM vs it g ts me)) := by
  subst hv
  exact dCompM hc hN hi ok his hg ht he hs
theorem sSetVM (hv : own.map (·.2) = vs) (hc : X.calm = true) (hN : X.N.Nodup) (hy : X.N[i]? = some y) (hyl : X.env.scope.names.lookup y = some .local)
    (hsw : swapsWith (.ListComp elt [⟨tg, iter, ifs, 0⟩] scope pos) (some (.Name y py)) spos.line X.env = pure true) (hi : PI X tg iter (tIs X.K c Wx it)) (ok : BlkOk X.N X.env.scope scope own) (his : ∀ i ∈ is, i ∈ vs)
    (hg : ∀ (s : Shared) (H : Hp) (C : Addr) (cl : List (Str × Addr)) (fp : List Addr), PG (X.blk s H scope (compEnvC scope cl C X.env) fp) tg (tG X.K is g)) (ht : ∀ (s : Shared) (H : Hp) (C : Addr) (cl : List (Str × Addr)) (fp : List Addr), PTs (X.blk s H scope (compEnvC scope cl C X.env) fp) ifs (tTs X.K c WF ts))
    (he : ∀ (s : Shared) (H : Hp) (C : Addr) (cl : List (Str × Addr)) (fp : List Addr), PE (X.blk s H scope (compEnvC scope cl C X.env) fp) elt (tE X.K c WF me)) (hs : ∀ x, foldedSetIterable iter X.env x = pure x) :
    PS X (.Assign [.Name y py] (.ListComp elt [⟨tg, iter, ifs, 0⟩] scope pos) spos) (tSs X.K c Wx (sAsg (gNm i) (mCompM vs it g ts me))) := by
  subst hv
  exact sSetCM hc hN hy hyl hsw hi ok his hg ht he hs
end
/-- list(e), a list that will be changed -/
def mListM (a : ME) : ME := fun c env st => (a c env st).bind fun x st1 => match listD st1 x with
  | some (.lst xs) => .ok (.ref st1.length) (st1 ++ [.lst xs])
  | _ => .no
theorem dListM {X : Cx} {c : Call} {Wx : WX} {a : Expr} {ma : ME} {p pos : Pos} (hg : Gl X "list") (hm : X.mg "list" = none) (ha : PE X a (tE X.K c Wx ma)) (he : starEach [a] X.env = [(false, eval a X.env)]) : PE X (.Call (.Name "list" p) [a] [] pos) (tE X.K c Wx (mListM ma)) :=
  PE.weak (pe_callTy call_list_of hg hm (by decide +kernel) (pa_cons ha pa_nil he) (by decide) rfl he rfl) fun σ H Q h => by
    obtain ⟨W, st, env, S, E, p⟩ := h
    refine ⟨W, st, env, S, E, p.bind.mono fun dx st1 p1 x H1 W1 T1 S1 R1 => ?_⟩
    have s1 := R1.saw S1
    unfold listD at p1
    generalize see st1 dx = ex at s1 p1
    cases ex with
    | lst xs =>
      obtain ⟨b, vs, rfl, ht, q1⟩ := saw_lst s1
      exact ⟨b, vs, rfl, .inl (SqL.of ht), newCell S1 q1 fun v H' W' T S' R => p1 v H' W' (T1.trans T) S' R⟩
    | tup xs =>
      obtain ⟨b, vs, rfl, ht, q1⟩ := saw_tup s1
      exact ⟨b, vs, rfl, .inr ht.sq, newCell S1 q1 fun v H' W' T S' R => p1 v H' W' (T1.trans T) S' R⟩
    | _ => exact (show False from p1).elim
end RP
end
section
set_option Elab.async false
set_option linter.all false
set_option maxRecDepth 100000
/-! A calculus for the denotations: what is wanted behind them. -/
namespace RP
open PySem
def Ok {α : Type} (r : R α) (Q : α → St → Prop) : Prop := match r with
  | .ok a st => Q a st
  | _ => False
def OkS (r : RS) (qn : Env → St → Prop) (qr : D → St → Prop) (qb qc : Env → St → Prop) : Prop := match r with
  | .nx env st => qn env st
  | .rt d st => qr d st
  | .bk env st => qb env st
  | .ct env st => qc env st
  | _ => False
section
variable {α β : Type} {r : R α} {Q Q' : α → St → Prop} {c : Call} {env : Env} {st : St} {d : D}
theorem Ok.mono (h : Ok r Q) (hq : ∀ a st, Q a st → Q' a st) : Ok r Q' := by
  cases r with
  | ok a st => exact hq a st h
  | er x st => exact h
  | no => exact h
theorem Ok.ex (h : Ok r Q) : ∃ a st, r = .ok a st ∧ Q a st := by
  cases r with
  | ok a st => exact ⟨a, st, rfl, h⟩
  | er x st => exact h.elim
  | no => exact h.elim
theorem ok_ok {a : α} : Ok (R.ok a st) Q ↔ Q a st := Iff.rfl
theorem ok_no : Ok (R.no : R α) Q ↔ False := Iff.rfl
theorem ok_er {x : Xc} : Ok (R.er x st : R α) Q ↔ False := Iff.rfl
theorem ok_bind {k : α → St → R β} {P : β → St → Prop} : Ok (r.bind k) P ↔ Ok r fun a st => Ok (k a st) P := by cases r <;> exact Iff.rfl
theorem ok_of {o : Option α} : Ok (R.of o st) Q ↔ ∃ a, o = some a ∧ Q a st := by
  cases o with
  | none => exact ⟨fun h => h.elim, fun ⟨a, e, _⟩ => by cases e⟩
  | some a => exact ⟨fun h => ⟨a, rfl, h⟩, fun ⟨b, e, h⟩ => by cases e; exact h⟩
theorem ok_of_some {a : α} : Ok (R.of (some a) st) Q ↔ Q a st := Iff.rfl
theorem ok_if {p : Prop} [Decidable p] {r' : R α} : Ok (if p then r else r') Q ↔ if p then Ok r Q else Ok r' Q := by
  by_cases h : p <;> simp [h]
end
section
variable {c : Call} {env : Env} {st : St} {d : D} {Q : D → St → Prop} {QB : Bool → St → Prop} {QA : List D → St → Prop} {ma mb me : ME} {ta tb : MT} {ms : List ME}
theorem ok_var {i : Nat} : Ok (mVar i c env st) Q ↔ ∃ d, env[i]? = some (some d) ∧ Q d st := by
  unfold mVar
  split
  · rename_i d h
    exact ⟨fun q => ⟨d, h, q⟩, fun ⟨e, h', q⟩ => by rw [h] at h'; cases h'; exact q⟩
  · rename_i h
    exact ⟨fun q => q.elim, fun ⟨e, h', q⟩ => (h e h').elim⟩
theorem ok_cst : Ok (mCst d c env st) Q ↔ Q d st := Iff.rfl
theorem ok_nil : Ok (mArgs [] c env st) QA ↔ QA [] st := Iff.rfl
theorem ok_cons : Ok (mArgs (ma :: ms) c env st) QA ↔ Ok (ma c env st) fun d st1 => Ok (mArgs ms c env st1) fun ds st2 => QA (d :: ds) st2 := by
  show Ok (R.bind _ _) _ ↔ _
  rw [ok_bind]
  simp only [ok_bind, ok_ok]
theorem ok_tup : Ok (mTup ms c env st) Q ↔ Ok (mArgs ms c env st) fun ds st1 => Q (.tup ds) st1 := by show Ok (R.bind _ _) _ ↔ _; simp only [ok_bind, ok_ok]
theorem ok_lst : Ok (mLst ms c env st) Q ↔ Ok (mArgs ms c env st) fun ds st1 => Q (.lst ds) st1 := by show Ok (R.bind _ _) _ ↔ _; simp only [ok_bind, ok_ok]
theorem ok_lstM : Ok (mLstM ms c env st) Q ↔ Ok (mArgs ms c env st) fun ds st1 => Q (.ref st1.length) (st1 ++ [.lst ds]) := by show Ok (R.bind _ _) _ ↔ _; simp only [ok_bind, ok_ok]
theorem ok_op2 {f : St → D → D → Option D} : Ok (mOp2 f ma mb c env st) Q ↔ Ok (ma c env st) fun x st1 => Ok (mb c env st1) fun y st2 => ∃ d, f st2 x y = some d ∧ Q d st2 := by show Ok (R.bind _ _) _ ↔ _; simp only [ok_bind, ok_of]
theorem ok_op1 {f : St → D → Option D} : Ok (mOp1 f ma c env st) Q ↔ Ok (ma c env st) fun x st1 => ∃ d, f st1 x = some d ∧ Q d st1 := by show Ok (R.bind _ _) _ ↔ _; simp only [ok_bind, ok_of]
theorem ok_blt {f : St → List D → Option D} : Ok (mBlt f ms c env st) Q ↔ Ok (mArgs ms c env st) fun ds st1 => ∃ d, f st1 ds = some d ∧ Q d st1 := by show Ok (R.bind _ _) _ ↔ _; simp only [ok_bind, ok_of]
theorem ok_listM : Ok (mListM ma c env st) Q ↔ Ok (ma c env st) fun x st1 => ∃ xs, listD st1 x = some (.lst xs) ∧ Q (.ref st1.length) (st1 ++ [.lst xs]) := by
  show Ok (R.bind _ _) _ ↔ _
  simp only [ok_bind]
  refine iff_of_eq (congrArg (Ok (ma c env st)) (funext fun x => funext fun st1 => propext ?_))
  split
  · rename_i xs h
    exact ⟨fun q => ⟨xs, h, q⟩, fun ⟨ys, e, q⟩ => by rw [h] at e; cases e; exact q⟩
  · rename_i h
    exact ⟨fun q => q.elim, fun ⟨ys, e, q⟩ => (h ys e).elim⟩
theorem ok_chain {f g : St → D → D → Option D} : Ok (mChain f g ma mb me c env st) Q ↔ Ok (ma c env st) fun x st1 => Ok (mb c env st1) fun y st2 => (f st2 x y = some (.bl true) ∧ Ok (me c env st2) fun z st3 => ∃ d, g st3 y z = some d ∧ Q d st3) ∨ (f st2 x y = some (.bl false) ∧ Q (.bl false) st2) := by
  show Ok (R.bind _ _) _ ↔ _
  simp only [ok_bind]
  refine iff_of_eq (congrArg (Ok (ma c env st)) (funext fun x => funext fun st1 => congrArg (Ok (mb c env st1)) (funext fun y => funext fun st2 => propext ?_)))
  split
  · rename_i h; simp [h, ok_bind, ok_of]
  · rename_i h; simp [h, ok_ok]
  · rename_i h1 h2; simp only [ok_no, false_iff]; exact fun z => z.elim (fun y => h1 y.1) (fun y => h2 y.1)
theorem ok_and : Ok (mAnd ma mb c env st) Q ↔ Ok (ma c env st) fun x st1 => ∃ b, tru st1 x = some b ∧ (if b = true then Ok (mb c env st1) Q else Q x st1) := by
  show Ok (R.bind _ _) _ ↔ _
  simp only [ok_bind]
  refine iff_of_eq (congrArg (Ok (ma c env st)) (funext fun x => funext fun st1 => propext ?_))
  cases h : tru st1 x with
  | none => simp [ok_no]
  | some b => cases b <;> simp [ok_ok]
theorem ok_or : Ok (mOr ma mb c env st) Q ↔ Ok (ma c env st) fun x st1 => ∃ b, tru st1 x = some b ∧ (if b = true then Q x st1 else Ok (mb c env st1) Q) := by
  show Ok (R.bind _ _) _ ↔ _
  simp only [ok_bind]
  refine iff_of_eq (congrArg (Ok (ma c env st)) (funext fun x => funext fun st1 => propext ?_))
  cases h : tru st1 x with
  | none => simp [ok_no]
  | some b => cases b <;> simp [ok_ok]
theorem ok_not : Ok (mNot ma c env st) Q ↔ Ok (ma c env st) fun x st1 => ∃ b, tru st1 x = some b ∧ Q (.bl (!b)) st1 := by
  show Ok (R.bind _ _) _ ↔ _
  simp only [ok_bind, ok_of]
  refine iff_of_eq (congrArg (Ok (ma c env st)) (funext fun x => funext fun st1 => propext ?_))
  cases h : tru st1 x with
  | none => simp
  | some b => simp
theorem ok_tval : Ok (tVal ma c env st) QB ↔ Ok (ma c env st) fun x st1 => ∃ b, tru st1 x = some b ∧ QB b st1 := by show Ok (R.bind _ _) _ ↔ _; simp only [ok_bind, ok_of]
theorem ok_band : Ok (bAnd ta tb c env st) QB ↔ Ok (ta c env st) fun x st1 => if x = true then Ok (tb c env st1) QB else QB false st1 := by
  show Ok (R.bind _ _) _ ↔ _
  rw [ok_bind]
  simp only [ok_if, ok_ok]
theorem ok_bor : Ok (bOr ta tb c env st) QB ↔ Ok (ta c env st) fun x st1 => if x = true then QB true st1 else Ok (tb c env st1) QB := by
  show Ok (R.bind _ _) _ ↔ _
  rw [ok_bind]
  simp only [ok_if, ok_ok]
theorem ok_bnot : Ok (bNot ta c env st) QB ↔ Ok (ta c env st) fun x st1 => QB (!x) st1 := by show Ok (R.bind _ _) _ ↔ _; simp only [ok_bind, ok_ok]
theorem ok_yes : Ok (tYesM c env st) QB ↔ QB true st := Iff.rfl
theorem ok_mif : Ok (mIf ta ma mb c env st) Q ↔ Ok (ta c env st) fun x st1 => if x = true then Ok (ma c env st1) Q else Ok (mb c env st1) Q := by
  show Ok (R.bind _ _) _ ↔ _
  rw [ok_bind]
  simp only [ok_if]
theorem ok_callM {f : Str} : Ok (mCallM f ms c env st) Q ↔ Ok (mArgs ms c env st) fun ds st1 => Ok (c f ds st1) Q := by show Ok (R.bind _ _) _ ↔ _; simp only [ok_bind]
theorem ok_call {f : Str} : Ok (mCall f ms c env st) Q ↔ Ok (mArgs ms c env st) fun ds st1 => Ok (ice st1 (c f ds st1)) Q := by show Ok (R.bind _ _) _ ↔ _; simp only [ok_bind]
theorem ok_lm {f : Meth} : Ok (mLm f ma ms c env st) Q ↔ Ok (ma c env st) fun x st1 => isL st1 x = true ∧ Ok (mArgs ms c env st1) fun ds st2 => ∃ d st3, f st2 x ds = some (d, st3) ∧ Q d st3 := by
  show Ok (R.bind _ _) _ ↔ _
  simp only [ok_bind, ok_if, ok_no]
  refine iff_of_eq (congrArg (Ok (ma c env st)) (funext fun x => funext fun st1 => propext ?_))
  by_cases h : isL st1 x = true
  · simp only [h, if_true, true_and]
    refine iff_of_eq (congrArg (Ok (mArgs ms c env st1)) (funext fun ds => funext fun st2 => propext ?_))
    cases h2 : f st2 x ds with
    | none => simp [ok_no]
    | some p => obtain ⟨d, st3⟩ := p; exact ⟨fun q => ⟨d, st3, rfl, q⟩, fun ⟨_, _, e, q⟩ => by cases e; exact q⟩
  · simp [h]
theorem ok_optN {QO : Option Int → St → Prop} : Ok (optI none c env st) QO ↔ QO none st := Iff.rfl
theorem ok_optS {QO : Option Int → St → Prop} : Ok (optI (some me) c env st) QO ↔ Ok (me c env st) fun d st1 => ∃ i, d = .int i ∧ QO (some i) st1 := by
  show Ok (R.bind _ _) _ ↔ _
  simp only [ok_bind]
  refine iff_of_eq (congrArg (Ok (me c env st)) (funext fun x => funext fun st1 => propext ?_))
  cases x <;> simp [ok_no, ok_ok]
theorem ok_slice {lo hi : Option ME} : Ok (mSlice ma lo hi c env st) Q ↔ Ok (ma c env st) fun x st1 => Ok (optI lo c env st1) fun i st2 => Ok (optI hi c env st2) fun j st3 => ∃ d, sliceD st3 x i j = some d ∧ Q d st3 := by show Ok (R.bind _ _) _ ↔ _; simp only [ok_bind, ok_of]
theorem ok_ival {QI : List D × Option Nat → St → Prop} : Ok (iVal ma c env st) QI ↔ Ok (ma c env st) fun x st1 => ∃ p, itD st1 x = some p ∧ QI p st1 := by show Ok (R.bind _ _) _ ↔ _; simp only [ok_bind, ok_of]
theorem ok_range1 {QI : List D × Option Nat → St → Prop} : Ok (iRange1 ma c env st) QI ↔ Ok (ma c env st) fun x st1 => ∃ n : Int, x = .int n ∧ (-(big : Int) ≤ n ∧ n ≤ (big : Int)) ∧ QI ((List.range n.toNat).map fun (k : Nat) => .int k, none) st1 := by
  show Ok (R.bind _ _) _ ↔ _
  simp only [ok_bind]
  refine iff_of_eq (congrArg (Ok (ma c env st)) (funext fun x => funext fun st1 => propext ?_))
  cases x <;> simp [ok_no, ok_ok, ok_if]
theorem ok_range2 {QI : List D × Option Nat → St → Prop} : Ok (iRange2 ma mb c env st) QI ↔ Ok (ma c env st) fun x st1 => Ok (mb c env st1) fun y st2 => ∃ m n : Int, x = .int m ∧ y = .int n ∧ (-(big : Int) ≤ m ∧ m ≤ (big : Int) ∧ -(big : Int) ≤ n ∧ n ≤ (big : Int)) ∧ QI ((List.range (n - m).toNat).map fun (k : Nat) => .int (m + k), none) st2 := by
  show Ok (R.bind _ _) _ ↔ _
  simp only [ok_bind]
  refine iff_of_eq (congrArg (Ok (ma c env st)) (funext fun x => funext fun st1 => congrArg (Ok (mb c env st1)) (funext fun y => funext fun st2 => propext ?_)))
  cases x <;> cases y <;> simp [ok_no, ok_ok, ok_if, and_assoc]
theorem ok_zip {QI : List D × Option Nat → St → Prop} : Ok (iZip ma mb c env st) QI ↔ Ok (ma c env st) fun x st1 => Ok (mb c env st1) fun y st2 => ∃ xs ys, x = .tup xs ∧ y = .tup ys ∧ QI (List.zipWith (fun x y => D.tup [x, y]) xs ys, none) st2 := by
  show Ok (R.bind _ _) _ ↔ _
  simp only [ok_bind, ok_cons, ok_nil]
  refine iff_of_eq (congrArg (Ok (ma c env st)) (funext fun x => funext fun st1 => congrArg (Ok (mb c env st1)) (funext fun y => funext fun st2 => propext ?_)))
  cases x <;> cases y <;> simp [ok_no, ok_ok]
theorem ok_comp {own : List Nat} {it : MI} {g : MG} {ts : MT} {elt : ME} : Ok (mComp own it g ts elt c env st) Q ↔ Ok (it c env st) fun p st1 => Ok (compL c p.2 p.1 g ts elt (wipeE env own) p.1 st1) fun ys st2 => Q (.lst ys) st2 := by show Ok (R.bind _ _) _ ↔ _; simp only [ok_bind, ok_ok]
theorem ok_compM {own : List Nat} {it : MI} {g : MG} {ts : MT} {elt : ME} : Ok (mCompM own it g ts elt c env st) Q ↔ Ok (it c env st) fun p st1 => Ok (compL c p.2 p.1 g ts elt (wipeE env own) p.1 st1) fun ys st2 => Q (.ref st2.length) (st2 ++ [.lst ys]) := by show Ok (R.bind _ _) _ ↔ _; simp only [ok_bind, ok_ok]
end
section
variable {c : Call} {env : Env} {st : St} {qn qb qc : Env → St → Prop} {qr : D → St → Prop} {me mo mi : ME} {ta : MT} {a b : MS} {g : MG} {it : MI}
theorem OkS.mono {r : RS} {qn' qb' qc' : Env → St → Prop} {qr' : D → St → Prop} (h : OkS r qn qr qb qc) (hn : ∀ e s, qn e s → qn' e s) (hr : ∀ e s, qr e s → qr' e s) (hb : ∀ e s, qb e s → qb' e s) (hc : ∀ e s, qc e s → qc' e s) : OkS r qn' qr' qb' qc' := by
  cases r with
  | nx e s => exact hn e s h
  | rt e s => exact hr e s h
  | bk e s => exact hb e s h
  | ct e s => exact hc e s h
  | er x e s => exact h
  | no => exact h
theorem s_nx {e : Env} {s : St} : OkS (.nx e s) qn qr qb qc ↔ qn e s := Iff.rfl
theorem s_ofR {α : Type} {r : R α} {k : α → St → RS} : OkS (RS.ofR r env k) qn qr qb qc ↔ Ok r fun x st1 => OkS (k x st1) qn qr qb qc := by cases r <;> exact Iff.rfl
theorem s_skip : OkS (sSkip c env st) qn qr qb qc ↔ qn env st := Iff.rfl
theorem s_seq : OkS (sSeq a b c env st) qn qr qb qc ↔ OkS (a c env st) (fun e s => OkS (b c e s) qn qr qb qc) qr qb qc := by
  show OkS (RS.bind (a c env st) _) _ _ _ _ ↔ _
  cases a c env st <;> exact Iff.rfl
theorem seq_mid (P : Env → St → Prop) (h1 : OkS (a c env st) P qr qb qc) (h2 : ∀ e s, P e s → OkS (b c e s) qn qr qb qc) : OkS (sSeq a b c env st) qn qr qb qc := s_seq.mpr (h1.mono h2 (fun _ _ h => h) (fun _ _ h => h) (fun _ _ h => h))
theorem s_expr : OkS (sExpr me c env st) qn qr qb qc ↔ Ok (me c env st) fun _ st1 => qn env st1 := by show OkS (RS.ofR _ _ _) _ _ _ _ ↔ _; rw [s_ofR]; exact Iff.rfl
theorem s_asg : OkS (sAsg g me c env st) qn qr qb qc ↔ Ok (me c env st) fun d st1 => ∃ env1, g d env = some env1 ∧ qn env1 st1 := by
  show OkS (RS.ofR _ _ _) _ _ _ _ ↔ _
  rw [s_ofR]
  refine iff_of_eq (congrArg (Ok (me c env st)) (funext fun x => funext fun st1 => propext ?_))
  cases h : g x env with
  | none => simp [OkS]
  | some e => simp [OkS]
theorem s_put : OkS (sPut mo mi me c env st) qn qr qb qc ↔ Ok (me c env st) fun d st1 => Ok (mo c env st1) fun x st2 => Ok (mi c env st2) fun y st3 => ∃ st4, putIx st3 x y d = some st4 ∧ qn env st4 := by
  show OkS (RS.ofR _ _ _) _ _ _ _ ↔ _
  rw [s_ofR]
  simp only [s_ofR]
  refine iff_of_eq (congrArg (Ok (me c env st)) (funext fun d => funext fun st1 => congrArg (Ok (mo c env st1)) (funext fun x => funext fun st2 => congrArg (Ok (mi c env st2)) (funext fun y => funext fun st3 => propext ?_))))
  cases h : putIx st3 x y d with
  | none => simp [OkS]
  | some e => simp [OkS]
theorem s_ret : OkS (sRet me c env st) qn qr qb qc ↔ Ok (me c env st) qr := by show OkS (RS.ofR _ _ _) _ _ _ _ ↔ _; rw [s_ofR]; exact Iff.rfl
theorem s_retN : OkS (sRetN c env st) qn qr qb qc ↔ qr .non st := Iff.rfl
theorem s_brk : OkS (sBrk c env st) qn qr qb qc ↔ qb env st := Iff.rfl
theorem s_cnt : OkS (sCnt c env st) qn qr qb qc ↔ qc env st := Iff.rfl
theorem s_if : OkS (sIf ta a b c env st) qn qr qb qc ↔ Ok (ta c env st) fun x st1 => if x = true then OkS (a c env st1) qn qr qb qc else OkS (b c env st1) qn qr qb qc := by
  show OkS (RS.ofR _ _ _) _ _ _ _ ↔ _
  rw [s_ofR]
  refine iff_of_eq (congrArg (Ok (ta c env st)) (funext fun x => funext fun st1 => propext ?_))
  cases x <;> simp
theorem s_for : OkS (sFor it g a c env st) qn qr qb qc ↔ Ok (it c env st) fun p st1 => OkS (forL c p.2 p.1 g a p.1 env st1) qn qr qb qc := by show OkS (RS.ofR _ _ _) _ _ _ _ ↔ _; rw [s_ofR]
theorem s_while : OkS (sWhile ta a c env st) qn qr qb qc ↔ OkS (whileN c ta a wMost env st) qn qr qb qc := Iff.rfl
end
/-! ### loops -/
section
variable {c : Call} {gd : Option Nat} {all : List D} {g : MG} {ts : MT} {elt : ME} {a : MS}
/-- a comprehension, item by item: I is kept by the states, P tells of the made list -/
theorem comp_inv {env : Env} (I : List D → List D → St → Prop) : ∀ (xs done : List D) (ys : List D) (st : St) (Q : List D → St → Prop), I done ys st →
    (∀ (x : D) (rest done ys : List D) (st : St), done ++ x :: rest = all → I done ys st → ∃ env1, g x env = some env1 ∧ Ok (ts c env1 st) fun b st1 => if b = true then Ok (elt c env1 st1) fun y st2 => I (done ++ [x]) (ys ++ [y]) st2 else I (done ++ [x]) ys st1) →
    (∀ done ys st, I done ys st → gOk gd all st) → done ++ xs = all → (∀ ys' st', I all (ys ++ ys') st' → Q ys' st') → Ok (compL c gd all g ts elt env xs st) Q
  | [], done, ys, st, Q, h, turn, hg, he, q => by
    unfold compL
    rw [if_pos (hg _ _ _ h)]
    rw [List.append_nil] at he
    subst he
    exact q [] st (by simpa using h)
  | x :: xs, done, ys, st, Q, h, turn, hg, he, q => by
    unfold compL
    rw [if_pos (hg _ _ _ h)]
    obtain ⟨env1, e1, t1⟩ := turn x xs done ys st he h
    rw [e1]
    show Ok (R.bind (ts c env1 st).calm _) Q
    rw [ok_bind]
    have calm : ∀ {α : Type} {r : R α} {P : α → St → Prop}, Ok r P → Ok r.calm P := fun {α r P} h => by cases r <;> exact h
    refine calm (t1.mono fun b st1 t2 => ?_)
    cases b with
    | true =>
      simp only [if_true] at t2 ⊢
      rw [ok_bind]
      refine calm (t2.mono fun y st2 t3 => ?_)
      rw [ok_bind]
      refine comp_inv I xs (done ++ [x]) (ys ++ [y]) st2 _ t3 turn hg (by simpa using he) fun ys' st' t4 => ?_
      exact q (y :: ys') st' (by simpa using t4)
    | false =>
      simp only [Bool.false_eq_true, if_false] at t2 ⊢
      exact comp_inv I xs (done ++ [x]) ys st1 _ t2 turn hg (by simpa using he) q
/-- .. where nothing is changed: the items by f, those with p alone -/
theorem comp_pure {env : Env} {st : St} (p : D → Bool) (f : D → D) (hg : gOk gd all st) : ∀ (xs : List D) (Q : List D → St → Prop), (∀ x ∈ xs, ∃ env1, g x env = some env1 ∧ ts c env1 st = .ok (p x) st ∧ (p x = true → elt c env1 st = .ok (f x) st)) →
    Q ((xs.filter p).map f) st → Ok (compL c gd all g ts elt env xs st) Q
  | [], Q, turn, q => by
    unfold compL
    rw [if_pos hg]
    exact q
  | x :: xs, Q, turn, q => by
    unfold compL
    rw [if_pos hg]
    obtain ⟨env1, e1, e2, e3⟩ := turn x List.mem_cons_self
    rw [e1]
    show Ok (R.bind (ts c env1 st).calm _) Q
    rw [e2]
    show Ok (if p x = true then _ else _) Q
    rw [ok_if]
    by_cases hp : p x = true
    · rw [if_pos hp, e3 hp]
      show Ok (R.bind (compL c gd all g ts elt env xs st) fun ys st3 => R.ok (f x :: ys) st3) Q
      rw [ok_bind]
      refine comp_pure p f hg xs _ (fun y hy => turn y (List.mem_cons_of_mem _ hy)) ?_
      rw [List.filter_cons_of_pos hp] at q
      exact q
    · rw [if_neg hp]
      refine comp_pure p f hg xs _ (fun y hy => turn y (List.mem_cons_of_mem _ hy)) ?_
      rw [List.filter_cons_of_neg hp] at q
      exact q
/-- a for: I by what is done -/
theorem for_inv (I : List D → Env → St → Prop) {qn : Env → St → Prop} {qr : D → St → Prop} {qb qc : Env → St → Prop} : ∀ (xs done : List D) (env : Env) (st : St), I done env st →
    (∀ (x : D) (rest done : List D) (env : Env) (st : St), done ++ x :: rest = all → I done env st → ∃ env1, g x env = some env1 ∧ OkS (a c env1 st) (I (done ++ [x])) qr qn (I (done ++ [x]))) →
    (∀ done env st, I done env st → gOk gd all st) → done ++ xs = all → (∀ env st, I all env st → qn env st) → OkS (forL c gd all g a xs env st) qn qr qb qc
  | [], done, env, st, h, turn, hg, he, q => by
    unfold forL
    rw [if_pos (hg _ _ _ h)]
    rw [List.append_nil] at he
    subst he
    exact q env st h
  | x :: xs, done, env, st, h, turn, hg, he, q => by
    unfold forL
    rw [if_pos (hg _ _ _ h)]
    obtain ⟨env1, e1, t1⟩ := turn x xs done env st he h
    rw [e1]
    show OkS (match a c env1 st with
        | .nx env2 st2 => forL c gd all g a xs env2 st2
        | .ct env2 st2 => forL c gd all g a xs env2 st2
        | .bk env2 st2 => .nx env2 st2
        | r => r) qn qr qb qc
    generalize a c env1 st = r at t1 ⊢
    cases r with
    | nx e s => exact for_inv I xs (done ++ [x]) e s t1 turn hg (by simpa using he) q
    | ct e s => exact for_inv I xs (done ++ [x]) e s t1 turn hg (by simpa using he) q
    | bk e s => exact t1
    | rt d s => exact t1
    | er y e s => exact t1
    | no => exact t1
/-- a while: I with its measure -/
theorem while_inv {ta : MT} (I : Nat → Env → St → Prop) {qn : Env → St → Prop} {qr : D → St → Prop} {qb qc : Env → St → Prop} (turn : ∀ n env st, I n env st → Ok (ta c env st) fun b st1 => if b = true then 0 < n ∧ OkS (a c env st1) (fun e s => ∃ m, m < n ∧ I m e s) qr qn (fun e s => ∃ m, m < n ∧ I m e s) else qn env st1) :
    ∀ (N n : Nat) (env : Env) (st : St), I n env st → n < N → OkS (whileN c ta a N env st) qn qr qb qc
  | 0, n, env, st, h, hn => by omega
  | N + 1, n, env, st, h, hn => by
    unfold whileN
    rw [s_ofR]
    refine (turn n env st h).mono fun b st1 t => ?_
    cases b with
    | false =>
      simp only [Bool.false_eq_true, if_false] at t ⊢
      exact t
    | true =>
      simp only [if_true] at t ⊢
      obtain ⟨h0, t⟩ := t
      generalize a c env st1 = r at t ⊢
      cases r with
      | nx e s => obtain ⟨m, hm, i⟩ := t; exact while_inv I turn N m e s i (by omega)
      | ct e s => obtain ⟨m, hm, i⟩ := t; exact while_inv I turn N m e s i (by omega)
      | bk e s => exact t
      | rt d s => exact t
      | er y e s => exact t
      | no => exact t
end
/-! ### functions -/
theorem run_at {L : List FI} (hnd : (L.map (·.name)).Nodup) {k : Nat} {i : FI} (h : L[k]? = some i) (n : Nat) (ds : List D) (st : St) : run (tabOf L) (n + 1) i.name ds st = runFn (run (tabOf L) n) i.fn ds st := by
  show (match tabOf L i.name with | some fn => runFn (run (tabOf L) n) fn ds st | none => .no) = _
  rw [tab_ok hnd k i h]
theorem ok_fn {f : Fn} {c : Call} {ds : List D} {st : St} {Q : D → St → Prop} (hl : ds.length = f.np) (h : OkS (f.body c (ds.map some ++ List.replicate (f.ns - f.np) none) st) (fun _ st1 => Ok (gc st .non st1) Q) (fun d st1 => Ok (gc st d st1) Q) (fun _ _ => False) (fun _ _ => False)) : Ok (runFn c f ds st) Q := by
  unfold runFn
  rw [if_pos hl]
  generalize f.body c (ds.map some ++ List.replicate (f.ns - f.np) none) st = r at h ⊢
  cases r with
  | nx e s => exact h
  | rt d s => exact h
  | bk e s => exact h.elim
  | ct e s => exact h.elim
  | er x e s => exact h.elim
  | no => exact h.elim
theorem gc_same {st st' : St} {d : D} (h : st'.length = st.length) : gc st d st' = .ok d st' := by unfold gc; rw [if_pos h]
theorem gc_val {st st' : St} {d : D} (h : st.length ≤ st'.length) (ho : Old st st') (hb : bel st.length d = true) : gc st d st' = .ok d (st'.take st.length) := by
  unfold gc
  by_cases he : st'.length = st.length
  · rw [if_pos he, ← he, List.take_length]
  · rw [if_neg he, if_pos ⟨h, ho⟩, if_pos hb]
theorem gc_ref {st st' : St} {k : Nat} {cl : Cell} (h : st.length ≤ k) (hk : st'[k]? = some cl) (ho : Old st st') (hb : belC st.length cl = true) : gc st (.ref k) st' = .ok (.ref st.length) (st'.take st.length ++ [cl]) := by
  have hl := (List.getElem?_eq_some_iff.mp hk).1
  unfold gc
  rw [if_neg (by omega), if_pos ⟨by omega, ho⟩, if_neg (by simp [bel]; omega)]
  simp [isRef, hk, hb]
theorem ice_val {st : St} {d : D} {st' : St} (h : isRef d = none) : ice st (.ok d st') = .ok d st' := by
  cases d <;> first | rfl | (simp [isRef] at h)
theorem ice_new {st : St} {xs : List D} {st' : St} (h : st'.length = st.length) (ho : Old st (st' ++ [.lst xs])) (hb : bels st.length xs = true) : ice st (.ok (.ref st.length) (st' ++ [.lst xs])) = .ok (.lst xs) st' := by
  unfold ice
  simp only
  rw [if_pos ⟨rfl, by simp [h], ho⟩]
  rw [show (st' ++ [Cell.lst xs])[st.length]? = some (.lst xs) by rw [← h]; simp]
  simp only [hb, if_true]
  rw [← h]
  simp
end RP
end
section
set_option Elab.async false
set_option linter.all false
set_option maxRecDepth 100000
/-! The single steps, as equations. -/
namespace RP
open PySem
/-- a cell, looked into -/
def seeC (n : Nat) : Option Cell → D
  | some (.lst xs) => .lst xs
  | some (.dct ks vs) => .dct ks vs
  | _ => .ref n
theorem see_ref {st : St} {n : Nat} : see st (.ref n) = seeC n st[n]? := by
  unfold see seeC
  rfl
theorem seeC_lst {n : Nat} {xs : List D} : seeC n (some (.lst xs)) = .lst xs := rfl
theorem seeC_dct {n : Nat} {ks vs : List D} : seeC n (some (.dct ks vs)) = .dct ks vs := rfl
def ixC (n : Nat) (o : Option Cell) (i : D) : Option D := match seeC n o, i with
  | .lst xs, .int i => L2.atI xs i
  | .dct ks vs, k => if keyish k then look ks vs k else none
  | _, _ => none
theorem seeC_cases (n : Nat) (o : Option Cell) : (∃ xs, seeC n o = .lst xs) ∨ (∃ ks vs, seeC n o = .dct ks vs) ∨ seeC n o = .ref n := by
  cases o with
  | none => exact .inr (.inr rfl)
  | some c =>
    cases c with
    | lst xs => exact .inl ⟨xs, rfl⟩
    | dct ks vs => exact .inr (.inl ⟨ks, vs, rfl⟩)
    | ins a b => exact .inr (.inr rfl)
theorem idx_ref {st : St} {n : Nat} {i : D} : idxD st (.ref n) i = ixC n st[n]? i := by
  unfold idxD ixC
  rw [see_ref]
  rcases seeC_cases n st[n]? with ⟨xs, e⟩ | ⟨ks, vs, e⟩ | e
  · rw [e]; cases i <;> rfl
  · rw [e]
  · rw [e]
theorem ixC_lst {n : Nat} {xs : List D} {i : Int} : ixC n (some (.lst xs)) (.int i) = L2.atI xs i := rfl
section
variable {st : St} {i j : Int} {xs ys ks vs : List D} {a b : Str} {ns : List Int} {d : D} {n : Nat}
theorem idx_lst : idxD st (.lst xs) (.int i) = L2.atI xs i := rfl
theorem idx_tup : idxD st (.tup xs) (.int i) = L2.atI xs i := rfl
theorem idx_frz : idxD st (.frz ns) (.int i) = (L2.atI ns i).map D.int := rfl
theorem idx_dctS : idxD st (.dct ks vs) (.str a) = look ks vs (.str a) := rfl
theorem at_nat {α : Type} {xs : List α} {k : Nat} : L2.atI xs (k : Int) = xs[k]? := by
  unfold L2.atI L2.ixN
  rw [if_pos (by omega)]
  by_cases h : k < xs.length
  · rw [if_pos (by omega)]; simp
  · rw [if_neg (by omega)]
    rw [List.getElem?_eq_none (by omega)]
    rfl
theorem at0 {α : Type} {xs : List α} : L2.atI xs 0 = xs[0]? := at_nat (k := 0)
theorem at1 {α : Type} {xs : List α} : L2.atI xs 1 = xs[1]? := at_nat (k := 1)
theorem at2 {α : Type} {xs : List α} : L2.atI xs 2 = xs[2]? := at_nat (k := 2)
theorem at3 {α : Type} {xs : List α} : L2.atI xs 3 = xs[3]? := at_nat (k := 3)
theorem at4 {α : Type} {xs : List α} : L2.atI xs 4 = xs[4]? := at_nat (k := 4)
theorem at_m1 {α : Type} {xs : List α} (h : 0 < xs.length) : L2.atI xs (-1) = xs[xs.length - 1]? := by
  unfold L2.atI L2.ixN
  rw [if_neg (by omega), if_pos (by omega)]
  have e : (-1 + (xs.length : Int)).toNat = xs.length - 1 := by omega
  rw [e]; rfl
theorem at_get {α : Type} {xs : List α} {r : Int} (h0 : 0 ≤ r) (h1 : r < xs.length) : ∃ x, x ∈ xs ∧ xs[r.toNat]? = some x ∧ L2.atI xs r = some x := by
  obtain ⟨k, rfl⟩ := Int.eq_ofNat_of_zero_le h0
  have hk : k < xs.length := by omega
  exact ⟨xs[k], List.getElem_mem hk, by simp, by rw [at_nat]; simp⟩
theorem add_int : addD st (.int i) (.int j) = some (.int (i + j)) := rfl
theorem add_tup (h : xs.length + ys.length ≤ big) : addD st (.tup xs) (.tup ys) = some (.tup (xs ++ ys)) := if_pos h
theorem add_lst (h : xs.length + ys.length ≤ big) : addD st (.lst xs) (.lst ys) = some (.lst (xs ++ ys)) := if_pos h
theorem add_str (h : a.length + b.length ≤ big) : addD st (.str a) (.str b) = some (.str (a ++ b)) := if_pos h
theorem sub_int : subD st (.int i) (.int j) = some (.int (i - j)) := rfl
theorem mul_int (h : (-18446744073709551616 < i ∧ i < 18446744073709551616) ∨ (-18446744073709551616 < j ∧ j < 18446744073709551616)) : mulD st (.int i) (.int j) = some (.int (i * j)) := by
  show (if _ then _ else _) = _
  rw [if_pos (by simpa using h)]
theorem mulL (h1 : -18446744073709551616 < i) (h2 : i < 18446744073709551616) : mulD st (.int i) (.int j) = some (.int (i * j)) := mul_int (.inl ⟨h1, h2⟩)
theorem mulR (h1 : -18446744073709551616 < j) (h2 : j < 18446744073709551616) : mulD st (.int i) (.int j) = some (.int (i * j)) := mul_int (.inr ⟨h1, h2⟩)
theorem mul_mod {k : Int} (h0 : 0 < k) (h1 : k < 18446744073709551616) : mulD st (.int (i % k)) (.int j) = some (.int (i % k * j)) :=
  mul_int (.inl ⟨by have := Int.emod_nonneg i (by omega : k ≠ 0); omega, by have := Int.emod_lt_of_pos i h0; omega⟩)
theorem mod_int (h : 0 < j) : modD st (.int i) (.int j) = some (.int (i % j)) := if_pos h
theorem fdiv_int (h : 0 < j) (h2 : j < 18446744073709551616) : fdivD st (.int i) (.int j) = some (.int (i / j)) := by
  show (if _ then _ else _) = _
  rw [if_pos (by simpa using ⟨h, h2⟩)]
theorem pow18 : powD st (.int 10) (.int 18) = some (.int 1000000000000000000) := rfl
theorem lt_int : ltB st (.int i) (.int j) = some (.bl (decide (i < j))) := rfl
theorem le_int : leB st (.int i) (.int j) = some (.bl (decide (i ≤ j))) := rfl
theorem gt_int : gtB st (.int i) (.int j) = some (.bl (decide (j < i))) := rfl
theorem ge_int : geB st (.int i) (.int j) = some (.bl (decide (j ≤ i))) := rfl
theorem tru_bl {b : Bool} : tru st (.bl b) = some b := rfl
theorem tru_int : tru st (.int i) = some (i != 0) := rfl
theorem tru_lst : tru st (.lst xs) = some (!xs.isEmpty) := rfl
theorem tru_tup : tru st (.tup xs) = some (!xs.isEmpty) := rfl
theorem eq_int : eqB st (.int i) (.int j) = some (.bl (i == j)) := by
  unfold eqB eqO
  simp [see, pln, dep, bD, eqD]
theorem ne_int : neB st (.int i) (.int j) = some (.bl (!(i == j))) := by
  unfold neB eqO
  simp [see, pln, dep, bD, eqD]
theorem eq_str : eqB st (.str a) (.str b) = some (.bl (a == b)) := by
  unfold eqB eqO
  simp [see, pln, dep, bD, eqD]
theorem ne_str : neB st (.str a) (.str b) = some (.bl (!(a == b))) := by
  unfold neB eqO
  simp [see, pln, dep, bD, eqD]
theorem eq_bl {x y : Bool} : eqB st (.bl x) (.bl y) = some (.bl (x == y)) := by
  unfold eqB eqO
  simp [see, pln, dep, bD, eqD]
theorem ne_bl {x y : Bool} : neB st (.bl x) (.bl y) = some (.bl (!(x == y))) := by
  unfold neB eqO
  simp [see, pln, dep, bD, eqD]
/-- o[i] = d, o a cell -/
def putC (st : St) (n : Nat) (o : Option Cell) (i d : D) : Option St := match o, i with
  | some (.lst xs), .int k => (L2.ixN xs.length k).map fun j => st.set n (.lst (xs.set j d))
  | some (.dct ks vs), k => if keyish k && decide (ks.length ≤ big) then some (st.set n (.dct (dPut ks vs k d).1 (dPut ks vs k d).2)) else none
  | _, _ => none
theorem put_ref {i : D} : putIx st (.ref n) i d = putC st n st[n]? i d := rfl
theorem putC_lst : putC st n (some (.lst xs)) (.int i) d = (L2.ixN xs.length i).map fun j => st.set n (.lst (xs.set j d)) := rfl
theorem ix_nat {m k : Nat} (h : k < m) : L2.ixN m (k : Int) = some k := by
  unfold L2.ixN
  rw [if_pos (by omega), if_pos (by omega)]
  simp
theorem ix0 {m : Nat} (h : 0 < m) : L2.ixN m 0 = some 0 := ix_nat h
theorem ix1 {m : Nat} (h : 1 < m) : L2.ixN m 1 = some 1 := ix_nat h
theorem ix2 {m : Nat} (h : 2 < m) : L2.ixN m 2 = some 2 := ix_nat h
theorem ix3 {m : Nat} (h : 3 < m) : L2.ixN m 3 = some 3 := ix_nat h
theorem ix_get {m : Nat} (h0 : 0 ≤ i) (h1 : i < m) : L2.ixN m i = some i.toNat := by
  unfold L2.ixN
  rw [if_pos h0, if_pos h1]
theorem len_lst : lenD st (.lst xs) = some (.int xs.length) := rfl
theorem len_tup : lenD st (.tup xs) = some (.int xs.length) := rfl
theorem len_frz : lenD st (.frz ns) = some (.int ns.length) := rfl
def lenC (n : Nat) (o : Option Cell) : Option D := match seeC n o with
  | .lst xs => some (.int xs.length)
  | .dct ks _ => some (.int ks.length)
  | _ => none
theorem len_ref : lenD st (.ref n) = lenC n st[n]? := by
  unfold lenD lenC
  rw [see_ref]
  rcases seeC_cases n st[n]? with ⟨xs, e⟩ | ⟨ks, vs, e⟩ | e
  · rw [e]
  · rw [e]
  · rw [e]
theorem lenC_lst : lenC n (some (.lst xs)) = some (.int xs.length) := rfl
theorem un1_one {f : St → D → Option D} {x : D} : un1 f st [x] = f st x := rfl
theorem tuple_lst : tupleD st (.lst xs) = some (.tup xs) := rfl
theorem tuple_tup : tupleD st (.tup xs) = some (.tup xs) := rfl
theorem list_lst : listD st (.lst xs) = some (.lst xs) := rfl
theorem list_tup : listD st (.tup xs) = some (.lst xs) := rfl
theorem tuple_ref {n : Nat} (h : st[n]? = some (.lst xs)) : tupleD st (.ref n) = some (.tup xs) := by
  unfold tupleD
  rw [see_ref, h]
  rfl
theorem slice_tup {lo hi : Option Int} : sliceD st (.tup xs) lo hi = some (.tup (cut xs lo hi)) := rfl
theorem slice_lst {lo hi : Option Int} : sliceD st (.lst xs) lo hi = some (.lst (cut xs lo hi)) := rfl
theorem it_tup : itD st (.tup xs) = some (xs, none) := rfl
theorem it_lst : itD st (.lst xs) = some (xs, none) := rfl
theorem it_ref (h : st[n]? = some (.lst xs)) : itD st (.ref n) = some (xs, some n) := by
  unfold itD
  simp only
  rw [h]
theorem cut_from1 {α : Type} {x : α} {l : List α} : cut (x :: l) (some 1) none = l := by
  unfold cut HT.sIx
  simp only [List.length_cons]
  rw [if_neg (by omega)]
  have e : min (1 : Int).toNat (l.length + 1) = 1 := by
    show min 1 (l.length + 1) = 1
    omega
  rw [e]
  simp
theorem cut_to {α : Type} {l : List α} {k : Nat} : cut l none (some (k : Int)) = l.take k := by
  unfold cut HT.sIx
  simp only
  rw [if_neg (by omega)]
  simp only [Int.toNat_natCast, Nat.sub_zero, List.drop_zero]
  rw [List.take_eq_take_iff]
  omega
theorem cut_from {α : Type} {l : List α} {k : Nat} : cut l (some (k : Int)) none = l.drop k := by
  unfold cut HT.sIx
  simp only
  rw [if_neg (by omega)]
  simp only [Int.toNat_natCast]
  by_cases h : k ≤ l.length
  · rw [Nat.min_eq_left h, List.take_of_length_le (by simp)]
  · rw [Nat.min_eq_right (by omega), List.drop_of_length_le (by omega), List.drop_of_length_le (by omega)]
    simp
theorem isL_ref (h : st[n]? = some (.lst xs)) : isL st (.ref n) = true := by
  unfold isL
  simp only
  rw [h]
theorem append_ref (h : st[n]? = some (.lst xs)) (hb : xs.length < big) : xAppend st (.ref n) [d] = some (.non, st.set n (.lst (xs ++ [d]))) := by
  unfold xAppend
  simp only
  rw [h]
  simp only
  rw [if_pos hb]
theorem insert_ref (h : st[n]? = some (.lst xs)) (hb : xs.length < big) (h0 : 0 ≤ i) (h1 : i < (big : Int)) : xInsert st (.ref n) [.int i, d] = some (.non, st.set n (.lst (xs.take i.toNat ++ [d] ++ xs.drop i.toNat))) := by
  unfold xInsert
  simp only
  rw [h]
  simp only
  rw [if_pos ⟨hb, h0, h1⟩]
theorem extend_ref (h : st[n]? = some (.lst xs)) (hb : xs.length + ys.length ≤ big) : xExtend st (.ref n) [.lst ys] = some (.non, st.set n (.lst (xs ++ ys))) := by
  unfold xExtend
  simp only
  rw [h]
  simp only [see]
  rw [if_pos hb]
end
/-! ### cells -/
theorem Old.refl (st : St) : Old st st := fun i c hi h => .inl h

theorem at_new {st : St} {c : Cell} : (st ++ [c])[st.length]? = some c := by simp
theorem set_new {st : St} {c c' : Cell} : (st ++ [c]).set st.length c' = st ++ [c'] := by simp [List.set_append]
theorem at_old {st : St} {c : Cell} {n : Nat} (h : n < st.length) : (st ++ [c])[n]? = st[n]? := List.getElem?_append_left h
theorem set_old {st : St} {c c' : Cell} {n : Nat} (h : n < st.length) : (st ++ [c]).set n c' = st.set n c' ++ [c] := by simp [List.set_append, h]
section
variable {st : St}
theorem plns_strs : ∀ {fs : List Str}, plns (fs.map D.str) = true
  | [] => rfl
  | f :: fs => by simp [plns, pln, plns_strs]
theorem pln_strs {fs : List Str} : pln (.lst (fs.map D.str)) = true := by simp [pln, plns_strs]
theorem any_strs {s : Str} : ∀ {fs : List Str}, ((fs.map D.str).any fun z => eqD z (.str s)) = decide (s ∈ fs)
  | [] => rfl
  | f :: fs => by
    simp only [List.map_cons, List.any_cons, any_strs, eqD]
    by_cases h : f = s
    · subst h; simp
    · have h' : ¬ s = f := fun z => h z.symm
      simp [h, h']
theorem in_strs {s : Str} {fs : List Str} : inB st (.str s) (.lst (fs.map D.str)) = some (.bl (decide (s ∈ fs))) := by
  unfold inB inO
  simp [see, pln, plns_strs, dep, bD, any_strs, -List.any_map]
theorem nin_strs {s : Str} {fs : List Str} : ninB st (.str s) (.lst (fs.map D.str)) = some (.bl (!decide (s ∈ fs))) := by
  unfold ninB inO
  simp [see, pln, plns_strs, dep, bD, any_strs, -List.any_map]
theorem in_ref {x : D} {n : Nat} {xs : List D} (h : st[n]? = some (.lst xs)) : inB st x (.ref n) = inB st x (.lst xs) := by
  unfold inB inO
  rw [see_ref, h]
  rfl
theorem nin_ref {x : D} {n : Nat} {xs : List D} (h : st[n]? = some (.lst xs)) : ninB st x (.ref n) = ninB st x (.lst xs) := by
  unfold ninB inO
  rw [see_ref, h]
  rfl
theorem asBools_map : ∀ {bs : List Bool}, asBools (bs.map D.bl) = some bs
  | [] => rfl
  | b :: bs => by simp [asBools, asBools_map]
theorem all_bls {bs : List Bool} : allD st (.lst (bs.map D.bl)) = some (.bl (bs.all id)) := by
  unfold allD
  simp [see, asBools_map]
theorem any_bls {bs : List Bool} : anyD st (.lst (bs.map D.bl)) = some (.bl (bs.any id)) := by
  unfold anyD
  simp [see, asBools_map]
theorem plns_bls : ∀ {bs : List Bool}, plns (bs.map D.bl) = true
  | [] => rfl
  | f :: fs => by simp [plns, pln, plns_bls]
theorem any_bls_eq {v : Bool} : ∀ {bs : List Bool}, ((bs.map D.bl).any fun z => eqD z (.bl v)) = bs.any (· == v)
  | [] => rfl
  | f :: fs => by simp only [List.map_cons, List.any_cons, any_bls_eq, eqD]
theorem nin_bls {v : Bool} {bs : List Bool} : ninB st (.bl v) (.lst (bs.map D.bl)) = some (.bl (!bs.any (· == v))) := by
  unfold ninB inO
  simp [see, pln, plns_bls, dep, bD, any_bls_eq, -List.any_map]
theorem in_bls {v : Bool} {bs : List Bool} : inB st (.bl v) (.lst (bs.map D.bl)) = some (.bl (bs.any (· == v))) := by
  unfold inB inO
  simp [see, pln, plns_bls, dep, bD, any_bls_eq, -List.any_map]
end

/-! ### two lists, one beside the other -/
inductive Al {α β : Type} (R : α → β → Prop) : List α → List β → Prop
  | nil : Al R [] []
  | cons {x : α} {y : β} {xs : List α} {ys : List β} : R x y → Al R xs ys → Al R (x :: xs) (y :: ys)
section
variable {α β : Type} {R R' : α → β → Prop}
theorem Al.append : ∀ {xs xs' : List α} {ys ys' : List β}, Al R xs ys → Al R xs' ys' → Al R (xs ++ xs') (ys ++ ys')
  | _, _, _, _, .nil, h => h
  | _, _, _, _, .cons r h, h' => .cons r (h.append h')
theorem Al.length : ∀ {xs : List α} {ys : List β}, Al R xs ys → xs.length = ys.length
  | _, _, .nil => rfl
  | _, _, .cons _ h => by simp [h.length]
theorem Al.get : ∀ {xs : List α} {ys : List β}, Al R xs ys → ∀ {k : Nat} {x : α}, xs[k]? = some x → ∃ y, ys[k]? = some y ∧ R x y
  | _, _, .nil, k, x, h => by simp at h
  | _, _, .cons (x := x0) (y := y0) r h, 0, x, e => by
    have e' : x0 = x := by simpa using e
    subst e'
    exact ⟨y0, rfl, r⟩
  | _, _, .cons _ h, k + 1, x, e => by
    obtain ⟨y, e1, r⟩ := h.get (k := k) (x := x) (by simpa using e)
    exact ⟨y, by simpa using e1, r⟩
theorem Al.imp (hr : ∀ x y, R x y → R' x y) : ∀ {xs : List α} {ys : List β}, Al R xs ys → Al R' xs ys
  | _, _, .nil => .nil
  | _, _, .cons r h => .cons (hr _ _ r) (h.imp hr)
theorem Al.left : ∀ {xs : List α} {ys : List β}, Al R xs ys → ∀ y ∈ ys, ∃ x ∈ xs, R x y
  | _, _, .nil, y, h => by simp at h
  | _, _, .cons (x := x0) r h, y, hy => by
    rcases List.mem_cons.mp hy with e | e
    · subst e; exact ⟨x0, List.mem_cons_self, r⟩
    · obtain ⟨x, hx, q⟩ := h.left y e
      exact ⟨x, List.mem_cons_of_mem _ hx, q⟩
end
theorem bels_strs {n : Nat} : ∀ {fs : List Str}, bels n (fs.map D.str) = true
  | [] => rfl
  | f :: fs => by simp [bels, bel, bels_strs]
theorem old_app {st more : St} : Old st (st ++ more) := fun i c hi h => .inl (by rwa [List.getElem?_append_left hi] at h)
theorem ok_ice_new {st : St} {r : R D} {P : List D → Prop} {Q : D → St → Prop} (h : Ok r fun d st' => ∃ xs, d = .ref st.length ∧ st' = st ++ [.lst xs] ∧ bels st.length xs = true ∧ P xs) (hq : ∀ xs, P xs → Q (.lst xs) st) : Ok (ice st r) Q := by
  obtain ⟨d, st', rfl, xs, rfl, rfl, hb, hp⟩ := h.ex
  rw [ice_new rfl old_app hb]
  exact hq xs hp
theorem ok_ice_val {st : St} {r : R D} {Q : D → St → Prop} (h : Ok r fun d st' => isRef d = none ∧ Q d st') : Ok (ice st r) Q := by
  obtain ⟨d, st', rfl, hi, hq⟩ := h.ex
  rw [ice_val hi]
  exact hq
theorem gc_new {st : St} {xs : List D} (hb : bels st.length xs = true) : gc st (.ref st.length) (st ++ [.lst xs]) = .ok (.ref st.length) (st ++ [.lst xs]) := by
  rw [gc_ref (st' := st ++ [.lst xs]) (cl := .lst xs) (Nat.le_refl _) at_new old_app (show belC st.length (.lst xs) = true from hb)]
  simp
end RP
end
section
set_option Elab.async false
set_option linter.all false
set_option maxRecDepth 100000
/-! One cell that goes on (the feed), and cells of one's own behind. -/
namespace RP
open PySem
section
variable {FC : Cell → Prop} {n : Nat} {st S S' rest : St}
/-- the feed stands at n -/
def Fd (FC : Cell → Prop) (n : Nat) (st : St) : Prop := ∃ c, st[n]? = some c ∧ FC c
/-- the feed has gone on, new cells stand behind -/
def Fr (FC : Cell → Prop) (n : Nat) (st rest S : St) : Prop := ∃ c, FC c ∧ S = st.set n c ++ rest
theorem Fd.lt (h : Fd FC n st) : n < st.length := by
  obtain ⟨c, h, _⟩ := h
  exact (List.getElem?_eq_some_iff.mp h).1
theorem Fr.refl (h : Fd FC n st) : Fr FC n st [] st := by
  obtain ⟨c, h, hc⟩ := h
  refine ⟨c, hc, ?_⟩
  rw [List.append_nil]
  apply List.ext_getElem?
  intro i
  by_cases hi : n = i
  · subst hi
    rw [List.getElem?_set_self (List.getElem?_eq_some_iff.mp h).1, h]
  · rw [List.getElem?_set_ne hi]
theorem Fr.len (h : Fr FC n st rest S) : S.length = st.length + rest.length := by
  obtain ⟨c, _, rfl⟩ := h
  simp
theorem Fr.fd (hd : n < st.length) (h : Fr FC n st rest S) : Fd FC n S := by
  obtain ⟨c, hc, rfl⟩ := h
  exact ⟨c, by rw [List.getElem?_append_left (by simpa using hd), List.getElem?_set_self hd], hc⟩
theorem Fr.at (h : Fr FC n st rest S) (i : Nat) : S[st.length + i]? = rest[i]? := by
  obtain ⟨c, _, rfl⟩ := h
  rw [List.getElem?_append_right (by simp)]
  simp
theorem Fr.old (h : Fr FC n st rest S) {i : Nat} (hi : i < st.length) (hn : i ≠ n) : S[i]? = st[i]? := by
  obtain ⟨c, _, rfl⟩ := h
  rw [List.getElem?_append_left (by simpa using hi), List.getElem?_set_ne (Ne.symm hn)]
theorem Fr.put (h : Fr FC n st rest S) (i : Nat) (c' : Cell) : Fr FC n st (rest.set i c') (S.set (st.length + i) c') := by
  obtain ⟨c, hc, rfl⟩ := h
  refine ⟨c, hc, ?_⟩
  rw [List.set_append_right _ _ (by simp)]
  simp
theorem Fr.push (h : Fr FC n st rest S) (c' : Cell) : Fr FC n st (rest ++ [c']) (S ++ [c']) := by
  obtain ⟨c, hc, rfl⟩ := h
  exact ⟨c, hc, by rw [List.append_assoc]⟩
/-- behind a call that leaves no cell of its own -/
theorem Fr.go (hd : n < st.length) (h : Fr FC n st rest S) (h' : Fr FC n S [] S') : Fr FC n st rest S' := by
  obtain ⟨c, hc, rfl⟩ := h
  obtain ⟨c', hc', rfl⟩ := h'
  refine ⟨c', hc', ?_⟩
  rw [List.append_nil, List.set_append_left _ _ (by simpa using hd), List.set_set]
theorem Fr.gc (hF : ∀ (c : Cell) (m : Nat), FC c → belC m c = true) (h : Fr FC n st rest S) {d : D} (hb : bel st.length d = true) : ∃ S', RP.gc st d S = .ok d S' ∧ Fr FC n st [] S' := by
  obtain ⟨c, hc, rfl⟩ := h
  refine ⟨st.set n c, ?_, c, hc, by simp⟩
  rw [gc_val (by simp) ?_ hb]
  · congr 1
    rw [List.take_append_of_le_length (by simp), List.take_of_length_le (by simp)]
  · intro i x hi hx
    rw [List.getElem?_append_left (by simpa using hi)] at hx
    by_cases hn : n = i
    · subst hn
      rw [List.getElem?_set_self hi] at hx
      cases hx
      exact .inr (hF _ _ hc)
    · rw [List.getElem?_set_ne hn] at hx
      exact .inl hx
theorem Fr.ok (hF : ∀ (c : Cell) (m : Nat), FC c → belC m c = true) (h : Fr FC n st rest S) {d : D} (hb : bel st.length d = true) {Q : D → St → Prop} (q : ∀ S', Fr FC n st [] S' → Q d S') : Ok (RP.gc st d S) Q := by
  obtain ⟨S', e, h'⟩ := h.gc hF hb
  rw [e]
  exact q S' h'
end
section
variable {c : Call} {env : Env} {st : St} {Q : List D → St → Prop} {i m : Nat} {elt : ME} {all : List D}
theorem comp_map {g : MG} (f : D → D) {xs : List D} (hall : all = xs) (h : ∀ x ∈ xs, ∃ env1, g x env = some env1 ∧ Ok (elt c env1 st) fun d st' => d = f x ∧ st' = st) (q : Q (xs.map f) st) : Ok (compL c none all g tYesM elt env all st) Q := by
  subst hall
  refine comp_pure (fun _ => true) f (fun n h => by cases h) all Q ?_ (by rw [List.filter_eq_self.mpr (fun _ _ => rfl)]; exact q)
  intro x hx
  obtain ⟨env1, e1, h1⟩ := h x hx
  obtain ⟨d, st', e, rfl, rfl⟩ := h1.ex
  exact ⟨env1, e1, rfl, fun _ => e⟩
theorem comp_rng (f : Nat → D) (hi : i < env.length) (hall : all = (List.range m).map fun (k : Nat) => D.int k) (h : ∀ k, k < m → Ok (elt c (env.set i (some (.int k))) st) fun d st' => d = f k ∧ st' = st) (q : Q ((List.range m).map f) st) :
    Ok (compL c none all (gNm i) tYesM elt env all st) Q := by
  refine comp_map (fun d => match d with | .int k => f k.toNat | _ => .non) hall ?_ ?_
  · intro x hx
    obtain ⟨k, hk, rfl⟩ := List.mem_map.mp hx
    exact ⟨env.set i (some (.int k)), by unfold gNm; rw [if_pos hi], by simpa using h k (by simpa using hk)⟩
  · rw [List.map_map]
    exact q
/-- .. the state goes on -/
theorem comp_go {g : MG} (I : List D → List D → St → Prop) {xs : List D} (hall : all = xs) (h0 : I [] [] st) (h : ∀ (x : D) (done ys : List D) (st : St), x ∈ xs → I done ys st → ∃ env1, g x env = some env1 ∧ Ok (elt c env1 st) fun y st' => I (done ++ [x]) (ys ++ [y]) st')
    (q : ∀ ys st', I xs ys st' → Q ys st') : Ok (compL c none all g tYesM elt env all st) Q := by
  subst hall
  refine comp_inv I all [] [] st Q h0 ?_ (fun _ _ _ _ n h => by cases h) rfl fun ys st' hi => q ys st' (by simpa using hi)
  intro x rest done ys st' he hi
  obtain ⟨env1, e1, h1⟩ := h x done ys st' (by rw [← he]; simp) hi
  exact ⟨env1, e1, by rw [ok_yes]; simpa using h1⟩
end
section
variable {α : Type} {c : Call} {env : Env} {st : St} {Q : List D → St → Prop} {elt : ME} {ts : MT} {all : List D} {gd : Option Nat} {g : MG} {e : α → D}
theorem enc_at {as : List α} {done rest : List D} {x : D} (h : done ++ x :: rest = as.map e) : ∃ a r, x = e a ∧ as = as.take done.length ++ a :: r ∧ as.take (done.length + 1) = as.take done.length ++ [a] := by
  have hl : done.length < as.length := by
    have := congrArg List.length h
    simp at this
    omega
  have hx : (as.map e)[done.length]? = some x := by rw [← h]; simp
  rw [List.getElem?_map, List.getElem?_eq_getElem hl] at hx
  refine ⟨as[done.length], as.drop (done.length + 1), (Option.some.inj hx).symm, ?_, ?_⟩
  · rw [← List.drop_eq_getElem_cons hl, List.take_append_drop]
  · rw [List.take_succ, List.getElem?_eq_getElem hl]
    rfl
/-- a comprehension over things of a kind: I by what is done, made, and the state -/
theorem comp_gen (as : List α) (I : List α → List D → St → Prop) (hall : all = as.map e) (h0 : I [] [] st)
    (turn : ∀ (a : α) (rest done : List α) (ys : List D) (st : St), as = done ++ a :: rest → I done ys st → ∃ env1, g (e a) env = some env1 ∧ Ok (ts c env1 st) fun b st1 => if b = true then Ok (elt c env1 st1) fun y st2 => I (done ++ [a]) (ys ++ [y]) st2 else I (done ++ [a]) ys st1)
    (hg : ∀ done ys st, I done ys st → gOk gd all st) (q : ∀ ys st', I as ys st' → Q ys st') : Ok (compL c gd all g ts elt env all st) Q := by
  subst hall
  refine comp_inv (fun done ys st => I (as.take done.length) ys st) (as.map e) [] [] st Q (by simpa using h0) ?_ (fun done ys st => hg _ ys st) rfl fun ys st' h => q ys st' (by simpa using h)
  intro x rest done ys st he hi
  obtain ⟨a, r, rfl, ha, ht⟩ := enc_at he
  have := turn a r _ ys st ha hi
  simpa only [List.length_append, List.length_singleton, ht] using this
/-- .. nothing is changed -/
theorem comp_encF (as : List α) (p : α → Bool) (f : α → D) (hall : all = as.map e) (hg : gOk gd all st) (h : ∀ a ∈ as, ∃ env1, g (e a) env = some env1 ∧ (Ok (ts c env1 st) fun b st' => b = p a ∧ st' = st) ∧ (p a = true → Ok (elt c env1 st) fun d st' => d = f a ∧ st' = st)) (q : Q ((as.filter p).map f) st) : Ok (compL c gd all g ts elt env all st) Q := by
  refine comp_gen as (fun done ys st' => st' = st ∧ ys = (done.filter p).map f) hall ⟨rfl, rfl⟩ ?_ (fun _ _ _ hi => by rw [hi.1]; exact hg) (fun ys st' hi => by rw [hi.1, hi.2]; exact q)
  rintro a rest done ys st' ha ⟨rfl, rfl⟩
  obtain ⟨env1, e1, h1, h2⟩ := h a (by rw [ha]; simp)
  refine ⟨env1, e1, h1.mono ?_⟩
  rintro b st1 ⟨rfl, rfl⟩
  by_cases hp : p a = true
  · rw [if_pos hp]
    refine (h2 hp).mono ?_
    rintro d st2 ⟨rfl, rfl⟩
    exact ⟨rfl, by simp [hp]⟩
  · rw [if_neg hp]
    exact ⟨rfl, by simp [hp]⟩
theorem comp_enc (as : List α) (f : α → D) (hall : all = as.map e) (hg : gOk gd all st) (h : ∀ a ∈ as, ∃ env1, g (e a) env = some env1 ∧ Ok (elt c env1 st) fun d st' => d = f a ∧ st' = st) (q : Q (as.map f) st) : Ok (compL c gd all g tYesM elt env all st) Q :=
  comp_encF as (fun _ => true) f hall hg (fun a ha => by
    obtain ⟨env1, e1, h1⟩ := h a ha
    exact ⟨env1, e1, ⟨rfl, rfl⟩, fun _ => h1⟩) (by rw [List.filter_eq_self.mpr (fun _ _ => rfl)]; exact q)
/-- a for over things of a kind -/
theorem for_gen {a : MS} (as : List α) (I : List α → Env → St → Prop) {qn : Env → St → Prop} {qr : D → St → Prop} {qb qc : Env → St → Prop} (hall : all = as.map e) (h0 : I [] env st)
    (turn : ∀ (x : α) (rest done : List α) (env : Env) (st : St), as = done ++ x :: rest → I done env st → ∃ env1, g (e x) env = some env1 ∧ OkS (a c env1 st) (I (done ++ [x])) qr qn (I (done ++ [x])))
    (hg : ∀ done env st, I done env st → gOk gd all st) (q : ∀ env st, I as env st → qn env st) : OkS (forL c gd all g a all env st) qn qr qb qc := by
  subst hall
  refine for_inv (fun done env st => I (as.take done.length) env st) (as.map e) [] env st (by simpa using h0) ?_ (fun done env st => hg _ env st) rfl fun env st h => q env st (by simpa using h)
  intro x rest done env st he hi
  obtain ⟨a', r, rfl, ha, ht⟩ := enc_at he
  have := turn a' r _ env st ha hi
  simpa only [List.length_append, List.length_singleton, ht] using this
theorem gNone {xs : List D} : gOk none xs st := fun n h => by cases h
end
theorem zip_one {α β : Type} : ∀ {xs : List α} {ys : List β}, xs.Nodup → ∀ {a : α} {k k' : β}, (a, k) ∈ xs.zip ys → (a, k') ∈ xs.zip ys → k = k'
  | [], _, _, a, k, k', h, _ => by simp at h
  | x :: xs, [], _, a, k, k', h, _ => by simp at h
  | x :: xs, y :: ys, nd, a, k, k', h, h' => by
    rw [List.nodup_cons] at nd
    rw [List.zip_cons_cons, List.mem_cons] at h h'
    rcases h with h | h
    · cases h
      rcases h' with h' | h'
      · cases h'; rfl
      · exact (nd.1 (List.of_mem_zip h').1).elim
    · rcases h' with h' | h'
      · cases h'
        exact (nd.1 (List.of_mem_zip h).1).elim
      · exact zip_one nd.2 h h'
theorem range_zip {α β γ : Type} (f : α → β → γ) {a : α} {b : β} {xs : List α} {ys : List β} {n : Nat} (h1 : xs.length = n) (h2 : ys.length = n) : (List.range n).map (fun k => f (xs.getD k a) (ys.getD k b)) = (xs.zip ys).map fun p => f p.1 p.2 := by
  apply List.ext_getElem?
  intro i
  by_cases hi : i < n
  · have e1 : xs[i]? = some (xs[i]'(by omega)) := by simp
    have e2 : ys[i]? = some (ys[i]'(by omega)) := by simp
    have e3 : (xs.zip ys)[i]? = some (xs[i]'(by omega), ys[i]'(by omega)) := by rw [List.getElem?_zip_eq_some]; exact ⟨e1, e2⟩
    rw [List.getElem?_map, List.getElem?_map, e3, List.getElem?_range hi]
    simp [List.getD, e1, e2]
  · rw [List.getElem?_eq_none (by simp; omega), List.getElem?_eq_none (by simp; omega)]
end RP
end
section
set_option Elab.async false
set_option linter.all false
set_option maxRecDepth 100000
/-! Plain data: what holds of all of it; trees, signs, tables as Lean's own data. -/
namespace RP
open PySem
mutual
/-- plain data without truths -/
def nob : D → Bool
  | .tup xs => nobs xs
  | .lst xs => nobs xs
  | .non => true
  | .int _ => true
  | .str _ => true
  | _ => false
def nobs : List D → Bool
  | [] => true
  | x :: xs => nob x && nobs xs
end
theorem nobs_iff : ∀ {xs : List D}, nobs xs = true ↔ ∀ x ∈ xs, nob x = true
  | [] => by simp [nobs]
  | x :: xs => by simp [nobs, nobs_iff (xs := xs)]
theorem plns_iff : ∀ {xs : List D}, plns xs = true ↔ ∀ x ∈ xs, pln x = true
  | [] => by simp [plns]
  | x :: xs => by simp [plns, plns_iff (xs := xs)]
theorem bels_iff {m : Nat} : ∀ {xs : List D}, bels m xs = true ↔ ∀ x ∈ xs, bel m x = true
  | [] => by simp [bels]
  | x :: xs => by simp [bels, bels_iff (xs := xs)]
mutual
theorem pln_nob : ∀ {d : D}, nob d = true → pln d = true
  | .tup xs, h => by simpa [pln] using plns_nob (by simpa [nob] using h)
  | .lst xs, h => by simpa [pln] using plns_nob (by simpa [nob] using h)
  | .non, _ => rfl
  | .int _, _ => rfl
  | .str _, _ => rfl
  | .bl _, h => by simp [nob] at h
  | .dct _ _, h => by simp [nob] at h
  | .set _, h => by simp [nob] at h
  | .frz _, h => by simp [nob] at h
  | .ref _, h => by simp [nob] at h
theorem plns_nob : ∀ {ds : List D}, nobs ds = true → plns ds = true
  | [], _ => rfl
  | d :: ds, h => by
    have h' : nob d = true ∧ nobs ds = true := by simpa [nobs] using h
    simp [plns, pln_nob h'.1, plns_nob h'.2]
end
mutual
theorem bel_pln {m : Nat} : ∀ {d : D}, pln d = true → bel m d = true
  | .tup xs, h => by simpa [bel] using bels_pln (by simpa [pln] using h)
  | .lst xs, h => by simpa [bel] using bels_pln (by simpa [pln] using h)
  | .non, _ => rfl
  | .int _, _ => rfl
  | .str _, _ => rfl
  | .bl _, h => rfl
  | .dct _ _, h => by simp [pln] at h
  | .set _, h => by simp [pln] at h
  | .frz _, h => by simp [pln] at h
  | .ref _, h => by simp [pln] at h
theorem bels_pln {m : Nat} : ∀ {ds : List D}, plns ds = true → bels m ds = true
  | [], _ => rfl
  | d :: ds, h => by
    have h' : pln d = true ∧ plns ds = true := by simpa [plns] using h
    simp [bels, bel_pln h'.1, bels_pln h'.2]
end
theorem isRef_pln {d : D} (h : pln d = true) : isRef d = none := by
  cases d <;> first | rfl | simp [pln] at h
theorem see_pln {st : St} {d : D} (h : pln d = true) : see st d = d := by
  cases d <;> first | rfl | simp [pln] at h
mutual
theorem eqD_nob : ∀ {d e : D}, nob d = true → nob e = true → (eqD d e = true ↔ d = e)
  | .non, e, _, he => by cases e <;> simp_all [eqD, nob]
  | .int i, e, _, he => by cases e <;> simp_all [eqD, nob]
  | .str x, e, _, he => by cases e <;> simp_all [eqD, nob]
  | .tup xs, e, hd, he => by
    cases e with
    | tup ys => simpa [eqD] using eqDs_nob (d := xs) (e := ys) (by simpa [nob] using hd) (by simpa [nob] using he)
    | _ => simp_all [eqD, nob]
  | .lst xs, e, hd, he => by
    cases e with
    | lst ys => simpa [eqD] using eqDs_nob (d := xs) (e := ys) (by simpa [nob] using hd) (by simpa [nob] using he)
    | _ => simp_all [eqD, nob]
  | .bl _, _, h, _ => by simp [nob] at h
  | .dct _ _, _, h, _ => by simp [nob] at h
  | .set _, _, h, _ => by simp [nob] at h
  | .frz _, _, h, _ => by simp [nob] at h
  | .ref _, _, h, _ => by simp [nob] at h
theorem eqDs_nob : ∀ {d e : List D}, nobs d = true → nobs e = true → (eqDs d e = true ↔ d = e)
  | [], [], _, _ => by simp [eqDs]
  | [], y :: ys, _, _ => by simp [eqDs]
  | x :: xs, [], _, _ => by simp [eqDs]
  | x :: xs, y :: ys, hd, he => by
    have h1 : nob x = true ∧ nobs xs = true := by simpa [nobs] using hd
    have h2 : nob y = true ∧ nobs ys = true := by simpa [nobs] using he
    simp [eqDs, eqD_nob h1.1 h2.1, eqDs_nob h1.2 h2.2]
end
open Classical in
theorem eqD_dec {d e : D} (hd : nob d = true) (he : nob e = true) : eqD d e = decide (d = e) := by
  have := eqD_nob hd he
  by_cases h : d = e
  · rw [decide_eq_true h]; exact this.mpr h
  · rw [decide_eq_false h]; cases q : eqD d e with
    | true => exact (h (this.mp q)).elim
    | false => rfl
theorem deps_le : ∀ {xs : List D} {n : Nat}, (∀ x ∈ xs, dep x ≤ n) → deps xs ≤ n
  | [], n, _ => by simp [deps]
  | x :: xs, n, h => by
    rw [deps]
    exact Nat.max_le.mpr ⟨h x List.mem_cons_self, deps_le fun y hy => h y (List.mem_cons_of_mem _ hy)⟩
theorem le_deps : ∀ {xs : List D} {x : D}, x ∈ xs → dep x ≤ deps xs
  | x :: xs, y, h => by
    rw [deps]
    rcases List.mem_cons.mp h with rfl | h
    · exact Nat.le_max_left _ _
    · exact Nat.le_trans (le_deps h) (Nat.le_max_right _ _)
section
variable {st : St} {d e : D} {xs : List D}
open Classical
theorem eqO_nob (hd : nob d = true) (he : nob e = true) (h : dep d ≤ 100) : eqO st d e = some (decide (d = e)) := by
  unfold eqO
  rw [see_pln (pln_nob hd), see_pln (pln_nob he), if_pos (by simp [pln_nob hd, pln_nob he]; omega), eqD_dec hd he]
theorem eq_nob (hd : nob d = true) (he : nob e = true) (h : dep d ≤ 100) : eqB st d e = some (.bl (decide (d = e))) := by
  unfold eqB
  rw [eqO_nob hd he h]; rfl
theorem ne_nob (hd : nob d = true) (he : nob e = true) (h : dep d ≤ 100) : neB st d e = some (.bl (!decide (d = e))) := by
  unfold neB
  rw [eqO_nob hd he h]; rfl
theorem any_nob (hd : nob d = true) (he : nobs xs = true) : (xs.any fun z => eqD z d) = decide (d ∈ xs) := by
  have h1 : ∀ x ∈ xs, eqD x d = decide (x = d) := fun x hx => eqD_dec (nobs_iff.mp he x hx) hd
  have : (xs.any fun z => eqD z d) = true ↔ d ∈ xs := by
    rw [List.any_eq_true]
    constructor
    · rintro ⟨x, hx, h⟩
      rw [h1 x hx] at h
      rw [← of_decide_eq_true h]; exact hx
    · intro h
      exact ⟨d, h, by rw [h1 d h]; simp⟩
  by_cases h : d ∈ xs
  · rw [decide_eq_true h]; exact this.mpr h
  · rw [decide_eq_false h]
    cases q : (xs.any fun z => eqD z d) with
    | true => exact (h (this.mp q)).elim
    | false => rfl
theorem inO_tup (hd : nob d = true) (he : nobs xs = true) (h : dep d ≤ 100) : inO st d (.tup xs) = some (decide (d ∈ xs)) := by
  have h1 : see st (.tup xs) = .tup xs := rfl
  unfold inO
  simp only [h1, see_pln (pln_nob hd)]
  rw [if_pos (by simp [pln_nob hd, plns_nob he]; omega), any_nob hd he]
theorem inO_lst (hd : nob d = true) (he : nobs xs = true) (h : dep d ≤ 100) : inO st d (.lst xs) = some (decide (d ∈ xs)) := by
  have h1 : see st (.lst xs) = .lst xs := rfl
  unfold inO
  simp only [h1, see_pln (pln_nob hd)]
  rw [if_pos (by simp [pln_nob hd, plns_nob he]; omega), any_nob hd he]
theorem inO_ref {n : Nat} (hn : st[n]? = some (.lst xs)) (hd : nob d = true) (he : nobs xs = true) (h : dep d ≤ 100) : inO st d (.ref n) = some (decide (d ∈ xs)) := by
  have h1 : see st (.ref n) = .lst xs := by simp [see, hn]
  unfold inO
  simp only [h1, see_pln (pln_nob hd)]
  rw [if_pos (by simp [pln_nob hd, plns_nob he]; omega), any_nob hd he]
theorem in_tup (hd : nob d = true) (he : nobs xs = true) (h : dep d ≤ 100) : inB st d (.tup xs) = some (.bl (decide (d ∈ xs))) := by unfold inB; rw [inO_tup hd he h]; rfl
theorem in_lst (hd : nob d = true) (he : nobs xs = true) (h : dep d ≤ 100) : inB st d (.lst xs) = some (.bl (decide (d ∈ xs))) := by unfold inB; rw [inO_lst hd he h]; rfl
theorem in_refl {n : Nat} (hn : st[n]? = some (.lst xs)) (hd : nob d = true) (he : nobs xs = true) (h : dep d ≤ 100) : inB st d (.ref n) = some (.bl (decide (d ∈ xs))) := by unfold inB; rw [inO_ref hn hd he h]; rfl
theorem nin_tup (hd : nob d = true) (he : nobs xs = true) (h : dep d ≤ 100) : ninB st d (.tup xs) = some (.bl (!decide (d ∈ xs))) := by unfold ninB; rw [inO_tup hd he h]; rfl
theorem nin_lst (hd : nob d = true) (he : nobs xs = true) (h : dep d ≤ 100) : ninB st d (.lst xs) = some (.bl (!decide (d ∈ xs))) := by unfold ninB; rw [inO_lst hd he h]; rfl
theorem nin_refl {n : Nat} (hn : st[n]? = some (.lst xs)) (hd : nob d = true) (he : nobs xs = true) (h : dep d ≤ 100) : ninB st d (.ref n) = some (.bl (!decide (d ∈ xs))) := by unfold ninB; rw [inO_ref hn hd he h]; rfl
end
theorem neB_see {st : St} {d e d' e' : D} (h1 : see st d = d') (h2 : see st e = e') (p1 : pln d' = true) (p2 : pln e' = true) : neB st d e = neB st d' e' := by
  unfold neB eqO
  rw [h1, h2, see_pln p1, see_pln p2]
theorem eqB_see {st : St} {d e d' e' : D} (h1 : see st d = d') (h2 : see st e = e') (p1 : pln d' = true) (p2 : pln e' = true) : eqB st d e = eqB st d' e' := by
  unfold eqB eqO
  rw [h1, h2, see_pln p1, see_pln p2]
theorem see_cell {st : St} {n : Nat} {xs : List D} (h : st[n]? = some (.lst xs)) : see st (.ref n) = .lst xs := by simp [see, h]
/-! ### trees -/
/-- trees, patterns, shapes -/
inductive Pt where
  | unk (x : Str)
  | nd (f : Str) (ks : List Pt)
  deriving Inhabited
mutual
def encT : Pt → D
  | .unk x => .str x
  | .nd f ks => .tup (.str f :: encTs ks)
def encTs : List Pt → List D
  | [] => []
  | t :: ts => encT t :: encTs ts
end
theorem encTs_map : ∀ {ts : List Pt}, encTs ts = ts.map encT
  | [] => rfl
  | t :: ts => by rw [encTs, encTs_map]; rfl
theorem encT_nd {f : Str} {ks : List Pt} : encT (.nd f ks) = .tup (.str f :: ks.map encT) := by rw [encT, encTs_map]
theorem encT_unk {x : Str} : encT (.unk x) = .str x := by rw [encT]
theorem Pt.ind {P : Pt → Prop} (unk : ∀ x, P (.unk x)) (nd : ∀ f ks, (∀ t ∈ ks, P t) → P (.nd f ks)) : ∀ t, P t
  | .unk x => unk x
  | .nd f ks => nd f ks fun t _ => Pt.ind unk nd t
mutual
/-- how many stand within one another -/
def hgt : Pt → Nat
  | .unk _ => 0
  | .nd _ ks => hgts ks + 1
def hgts : List Pt → Nat
  | [] => 0
  | t :: ts => max (hgt t) (hgts ts)
end
mutual
/-- how many signs and unknowns -/
def siz : Pt → Nat
  | .unk _ => 1
  | .nd _ ks => 1 + sizs ks
def sizs : List Pt → Nat
  | [] => 0
  | t :: ts => siz t + sizs ts
end
theorem hgts_le : ∀ {ts : List Pt} {n : Nat}, hgts ts ≤ n ↔ ∀ t ∈ ts, hgt t ≤ n
  | [], n => by simp [hgts]
  | t :: ts, n => by simp [hgts, Nat.max_le, hgts_le (ts := ts)]
theorem hgt_mem {ts : List Pt} {t : Pt} (h : t ∈ ts) : hgt t ≤ hgts ts := hgts_le.mp (Nat.le_refl _) t h
theorem sizs_sum : ∀ {ts : List Pt}, sizs ts = (ts.map siz).sum
  | [] => rfl
  | t :: ts => by simp [sizs, sizs_sum]
theorem siz_mem : ∀ {ts : List Pt} {t : Pt}, t ∈ ts → siz t ≤ sizs ts
  | u :: ts, t, h => by
    rw [sizs]
    rcases List.mem_cons.mp h with rfl | h
    · omega
    · have := siz_mem h; omega
theorem siz_pos : ∀ t : Pt, 0 < siz t
  | .unk _ => by rw [siz]; omega
  | .nd _ _ => by rw [siz]; omega
theorem nob_T : ∀ t : Pt, nob (encT t) = true := Pt.ind (fun x => by rw [encT_unk]; rfl) fun f ks ih => by
  rw [encT_nd]
  simp only [nob, nobs, Bool.true_and]
  rw [nobs_iff]
  intro x hx
  obtain ⟨t, ht, rfl⟩ := List.mem_map.mp hx
  exact ih t ht
theorem dep_T : ∀ t : Pt, dep (encT t) = hgt t
  | .unk x => by rw [encT, dep, hgt]; intro a h; cases h; intro a h; cases h
  | .nd f ks => by
    have hd : ∀ ks : List Pt, (∀ t ∈ ks, dep (encT t) = hgt t) → deps (ks.map encT) = hgts ks := by
      intro ks
      induction ks with
      | nil => intro _; rfl
      | cons t ts ih => intro h; rw [List.map_cons, deps, hgts, h t List.mem_cons_self, ih fun u hu => h u (List.mem_cons_of_mem _ hu)]
    rw [encT_nd, dep, deps, hgt, hd ks fun t ht => dep_T t]
    simp [dep]
mutual
theorem encT_inj : ∀ {t u : Pt}, encT t = encT u → t = u
  | .unk x, .unk y, h => by rw [encT, encT] at h; cases h; rfl
  | .unk x, .nd g ls, h => by rw [encT, encT] at h; cases h
  | .nd f ks, .unk y, h => by rw [encT, encT] at h; cases h
  | .nd f ks, .nd g ls, h => by
    rw [encT, encT] at h
    simp only [D.tup.injEq, List.cons.injEq, D.str.injEq] at h
    rw [h.1, encTs_inj h.2]
theorem encTs_inj : ∀ {ts us : List Pt}, encTs ts = encTs us → ts = us
  | [], [], _ => rfl
  | [], u :: us, h => by rw [encTs, encTs] at h; cases h
  | t :: ts, [], h => by rw [encTs, encTs] at h; cases h
  | t :: ts, u :: us, h => by
    rw [encTs, encTs] at h
    simp only [List.cons.injEq] at h
    rw [encT_inj h.1, encTs_inj h.2]
end
theorem encT_iff {t u : Pt} : encT t = encT u ↔ t = u := ⟨encT_inj, fun h => by rw [h]⟩
theorem pln_T (t : Pt) : pln (encT t) = true := pln_nob (nob_T t)
theorem isRef_T (t : Pt) : isRef (encT t) = none := isRef_pln (pln_T t)
theorem bel_T {m : Nat} (t : Pt) : bel m (encT t) = true := bel_pln (pln_T t)
theorem nobs_Ts {ts : List Pt} : nobs (ts.map encT) = true := nobs_iff.mpr fun x hx => by
  obtain ⟨t, _, rfl⟩ := List.mem_map.mp hx
  exact nob_T t
/-! ### signs, trees of them -/
abbrev Sg := List (Str × Nat)
structure One (sg : Sg) : Prop where
  one : ∀ a k k', (a, k) ∈ sg → (a, k') ∈ sg → k = k'
  le : ∀ p ∈ sg, p.2 ≤ 3
def encS (sg : Sg) : D := .tup (sg.map fun p => D.tup [.str p.1, .int p.2])
structure Sgn (sg : Sg) : Prop where
  one : One sg
  nd : (sg.map (·.1)).Nodup
  lo : 0 < sg.length
  hi : sg.length ≤ 6
  bare : ∃ p ∈ sg, p.2 = 0
/-- a tree of signs -/
inductive TreeOf (sg : Sg) : Pt → Prop
  | mk {f : Str} {ks : List Pt} : (f, ks.length) ∈ sg → (∀ t ∈ ks, TreeOf sg t) → TreeOf sg (.nd f ks)
theorem nob_S (sg : Sg) : nob (encS sg) = true := by
  unfold encS
  rw [nob, nobs_iff]
  intro x hx
  obtain ⟨p, _, rfl⟩ := List.mem_map.mp hx
  rfl
/-! ### tables of sorts -/
/-- a row: a name, the sorts of its children -/
abbrev Row := Str × List Str
abbrev Tb := List (Str × List Row)
def encR (r : Row) : D := .tup (.str r.1 :: r.2.map D.str)
def encTb (tb : Tb) : D := .tup (tb.map fun e => D.tup [.str e.1, .tup (e.2.map encR)])
structure TabOk (sg : Sg) (tb : Tb) : Prop where
  nd : (tb.map (·.1)).Nodup
  lo : 0 < tb.length
  hi : tb.length ≤ 4
  row : ∀ e ∈ tb, ∀ r ∈ e.2, (r.1, r.2.length) ∈ sg
  srt : ∀ e ∈ tb, ∀ r ∈ e.2, ∀ s ∈ r.2, s ∈ tb.map (·.1)
  few : ∀ e ∈ tb, e.2.length ≤ 8
  rnd : ∀ e ∈ tb, e.2.Nodup
theorem nob_strs {l : List Str} : nobs (l.map D.str) = true := nobs_iff.mpr fun x hx => by
  obtain ⟨s, _, rfl⟩ := List.mem_map.mp hx
  rfl
theorem map_inj {α β : Type} {f : α → β} (hf : ∀ a b, f a = f b → a = b) : ∀ {l m : List α}, l.map f = m.map f → l = m
  | [], [], _ => rfl
  | [], _ :: _, h => by cases h
  | _ :: _, [], h => by cases h
  | a :: l, b :: m, h => by
    simp only [List.map_cons, List.cons.injEq] at h
    rw [hf a b h.1, map_inj hf h.2]
theorem strs_inj {l m : List Str} (h : l.map D.str = m.map D.str) : l = m := map_inj (fun _ _ h => by cases h; rfl) h
theorem nob_R (r : Row) : nob (encR r) = true := by
  unfold encR
  rw [nob, nobs, nob_strs]
  rfl
theorem encR_inj {r q : Row} (h : encR r = encR q) : r = q := by
  unfold encR at h
  simp only [D.tup.injEq, List.cons.injEq, D.str.injEq] at h
  exact Prod.ext h.1 (strs_inj h.2)
theorem dep_strs {l : List Str} : deps (l.map D.str) = 0 := by
  induction l with
  | nil => rfl
  | cons x l ih => rw [List.map_cons, deps, ih]; simp [dep]
theorem dep_R (r : Row) : dep (encR r) = 1 := by
  unfold encR
  rw [dep, deps, dep_strs]
  simp [dep]
theorem nob_Rs {rs : List Row} : nobs (rs.map encR) = true := nobs_iff.mpr fun x hx => by
  obtain ⟨r, _, rfl⟩ := List.mem_map.mp hx
  exact nob_R r
theorem nob_Tb (tb : Tb) : nob (encTb tb) = true := by
  unfold encTb
  rw [nob, nobs_iff]
  intro x hx
  obtain ⟨p, _, rfl⟩ := List.mem_map.mp hx
  simp [nob, nobs, nob_Rs]
theorem mem_map_inj {α β : Type} {f : α → β} (hf : ∀ a b, f a = f b → a = b) {l : List α} {a : α} : f a ∈ l.map f ↔ a ∈ l := by
  rw [List.mem_map]
  constructor
  · rintro ⟨b, hb, e⟩
    rw [← hf b a e]; exact hb
  · intro h; exact ⟨a, h, rfl⟩
/-! ### the sorts of a tree -/
def inAt (gs : List (List Str)) (ss : List Str) (k : Nat) : Bool := match gs[k]?, ss[k]? with
  | some g, some z => decide (z ∈ g)
  | _, _ => true
theorem inAt_eq {gs : List (List Str)} {ss : List Str} {k : Nat} {g : List Str} {z : Str} (h1 : gs[k]? = some g) (h2 : ss[k]? = some z) : inAt gs ss k = decide (z ∈ g) := by
  unfold inAt
  rw [h1, h2]
def rowFits (f : Str) (gs : List (List Str)) (r : Row) : Bool := r.1 == f && (List.range gs.length).all (inAt gs r.2)
def rowsSorts (tb : Tb) (f : Str) (gs : List (List Str)) : List Str := (tb.filter fun e => e.2.any (rowFits f gs)).map (·.1)
mutual
def sortsOf (tb : Tb) : Pt → List Str
  | .unk _ => []
  | .nd f ks => rowsSorts tb f (sortsOfs tb ks)
def sortsOfs (tb : Tb) : List Pt → List (List Str)
  | [] => []
  | t :: ts => sortsOf tb t :: sortsOfs tb ts
end
theorem sortsOfs_map {tb : Tb} : ∀ {ts : List Pt}, sortsOfs tb ts = ts.map (sortsOf tb)
  | [] => rfl
  | t :: ts => by rw [sortsOfs, sortsOfs_map]; rfl
theorem rowFits_iff {f : Str} {gs : List (List Str)} {r : Row} (hl : r.1 = f → r.2.length = gs.length) : rowFits f gs r = true ↔ r.1 = f ∧ ∀ (k : Nat) (z : Str) (g : List Str), r.2[k]? = some z → gs[k]? = some g → z ∈ g := by
  unfold rowFits
  rw [Bool.and_eq_true, beq_iff_eq, List.all_eq_true]
  constructor
  · rintro ⟨h1, h2⟩
    refine ⟨h1, fun k z g hz hg => ?_⟩
    have := h2 k (by simpa using (List.getElem?_eq_some_iff.mp hg).1)
    rw [inAt_eq hg hz] at this
    exact of_decide_eq_true this
  · rintro ⟨h1, h2⟩
    refine ⟨h1, fun k hk => ?_⟩
    have hk' : k < gs.length := by simpa using hk
    have hl' := hl h1
    have e1 : gs[k]? = some gs[k] := by simp
    have e2 : r.2[k]? = some (r.2[k]'(by omega)) := by simp
    rw [inAt_eq e1 e2]
    exact decide_eq_true (h2 k _ _ e2 e1)
theorem mem_rowsSorts {tb : Tb} {f s : Str} {gs : List (List Str)} : s ∈ rowsSorts tb f gs ↔ ∃ rows, (s, rows) ∈ tb ∧ ∃ r ∈ rows, rowFits f gs r = true := by
  unfold rowsSorts
  rw [List.mem_map]
  constructor
  · rintro ⟨⟨z, rows⟩, h, rfl⟩
    obtain ⟨h1, h2⟩ := List.mem_filter.mp h
    obtain ⟨r, hr, hf⟩ := List.any_eq_true.mp h2
    exact ⟨rows, h1, r, hr, hf⟩
  · rintro ⟨rows, h1, r, hr, hf⟩
    exact ⟨(s, rows), List.mem_filter.mpr ⟨h1, List.any_eq_true.mpr ⟨r, hr, hf⟩⟩, rfl⟩
/-! ### sorts within others -/
abbrev Rel := List (Str × Str)
def encPr (p : Str × Str) : D := .tup [.str p.1, .str p.2]
theorem encPr_inj {p q : Str × Str} (h : encPr p = encPr q) : p = q := by
  unfold encPr at h
  simp only [D.tup.injEq, List.cons.injEq, D.str.injEq, and_true] at h
  exact Prod.ext h.1 h.2
theorem nob_Pr (p : Str × Str) : nob (encPr p) = true := rfl
theorem dep_Pr (p : Str × Str) : dep (encPr p) = 1 := by simp [encPr, dep, deps]
theorem nob_Prs {l : Rel} : nobs (l.map encPr) = true := nobs_iff.mpr fun x hx => by
  obtain ⟨r, _, rfl⟩ := List.mem_map.mp hx
  exact nob_Pr r
def rowsAt (tb : Tb) (s : Str) : List Row := ((tb.find? fun e => e.1 == s).map (·.2)).getD []
def rowIn (rel : Rel) (r q : Row) : Bool := q.1 == r.1 && (List.zip r.2 q.2).all fun p => decide (p ∈ rel)
def hasRow (rel : Rel) (r : Row) (rows : List Row) : Bool := rows.any (rowIn rel r)
def relOk (tb : Tb) (rel : Rel) (p : Str × Str) : Bool := (rowsAt tb p.1).all fun r => hasRow rel r (rowsAt tb p.2)
def relStep (tb : Tb) (rel : Rel) : Rel := rel.filter (relOk tb rel)
def relAll (tb : Tb) : Rel := tb.flatMap fun e => tb.map fun f => (e.1, f.1)
def chain (tb : Tb) : Nat → Rel
  | 0 => relAll tb
  | k + 1 => relStep tb (chain tb k)
theorem chain_sub {tb : Tb} : ∀ {k : Nat} {p : Str × Str}, p ∈ chain tb k → p ∈ relAll tb
  | 0, _, h => h
  | k + 1, p, h => chain_sub (List.mem_filter.mp h).1
theorem mem_relAll {tb : Tb} {p : Str × Str} : p ∈ relAll tb ↔ p.1 ∈ tb.map (·.1) ∧ p.2 ∈ tb.map (·.1) := by
  unfold relAll
  simp only [List.mem_flatMap, List.mem_map]
  constructor
  · rintro ⟨e, he, f, hf, rfl⟩
    exact ⟨⟨e, he, rfl⟩, f, hf, rfl⟩
  · rintro ⟨⟨e, he, h1⟩, f, hf, h2⟩
    exact ⟨e, he, f, hf, Prod.ext h1 h2⟩
theorem relAll_len {tb : Tb} (h : tb.length ≤ 4) : (relAll tb).length ≤ 16 := by
  unfold relAll
  have key : ∀ l : Tb, (l.flatMap fun e => tb.map fun f => (e.1, f.1)).length = l.length * tb.length := by
    intro l
    induction l with
    | nil => simp
    | cons e l ih => rw [List.flatMap_cons, List.length_append, ih, List.length_map, List.length_cons, Nat.succ_mul]; omega
  rw [key]
  have := Nat.mul_le_mul h h
  omega
theorem relStep_len {tb : Tb} {rel : Rel} : (relStep tb rel).length ≤ rel.length := List.length_filter_le _ _
theorem relStep_eq {tb : Tb} {rel : Rel} (h : (relStep tb rel).length = rel.length) : relStep tb rel = rel := by
  unfold relStep at h ⊢
  exact List.filter_eq_self.mpr (List.length_filter_eq_length_iff.mp h)
theorem chain_fix {tb : Tb} {k : Nat} (h : relStep tb (chain tb k) = chain tb k) : ∀ m, chain tb (k + m) = chain tb k
  | 0 => rfl
  | m + 1 => by
    show relStep tb (chain tb (k + m)) = _
    rw [chain_fix h m, h]
structure IsW (tb : Tb) (rel : Rel) : Prop where
  ch : ∃ k, rel = chain tb k
  fix : relStep tb rel = rel
theorem IsW.uniq {tb : Tb} {r q : Rel} (h : IsW tb r) (h' : IsW tb q) : r = q := by
  obtain ⟨⟨k, rfl⟩, f1⟩ := h
  obtain ⟨⟨m, rfl⟩, f2⟩ := h'
  rw [← chain_fix f1 m, ← chain_fix f2 k, Nat.add_comm]
theorem chain_len (tb : Tb) : ∀ k, (∃ j, j < k ∧ relStep tb (chain tb j) = chain tb j) ∨ (chain tb k).length + k ≤ (relAll tb).length
  | 0 => .inr (Nat.le_refl _)
  | k + 1 => by
    rcases chain_len tb k with ⟨j, hj, h⟩ | h
    · exact .inl ⟨j, by omega, h⟩
    · by_cases hf : relStep tb (chain tb k) = chain tb k
      · exact .inl ⟨k, by omega, hf⟩
      · right
        have h1 := relStep_len (tb := tb) (rel := chain tb k)
        have h2 : (relStep tb (chain tb k)).length ≠ (chain tb k).length := fun e => hf (relStep_eq e)
        show (relStep tb (chain tb k)).length + (k + 1) ≤ _
        omega
theorem isW_ex (tb : Tb) : ∃ rel, IsW tb rel := by
  rcases chain_len tb ((relAll tb).length + 1) with ⟨j, _, h⟩ | h
  · exact ⟨_, ⟨j, rfl⟩, h⟩
  · omega
noncomputable def withinR (tb : Tb) : Rel := Classical.choose (isW_ex tb)
theorem withinR_is (tb : Tb) : IsW tb (withinR tb) := Classical.choose_spec (isW_ex tb)
theorem IsW.eq {tb : Tb} {r : Rel} (h : IsW tb r) : r = withinR tb := h.uniq (withinR_is tb)
theorem find_mem {tb : Tb} (nd : (tb.map (·.1)).Nodup) {s : Str} {rows : List Row} (h : (s, rows) ∈ tb) : tb.find? (fun e => e.1 == s) = some (s, rows) := by
  induction tb with
  | nil => cases h
  | cons e tb ih =>
    rw [List.map_cons, List.nodup_cons] at nd
    rw [List.find?_cons]
    rcases List.mem_cons.mp h with rfl | h
    · simp
    · have : e.1 ≠ s := fun z => nd.1 (by rw [z]; exact List.mem_map.mpr ⟨_, h, rfl⟩)
      have hb : (e.1 == s) = false := by simpa using this
      rw [hb]
      exact ih nd.2 h
theorem rowsAt_mem {tb : Tb} (nd : (tb.map (·.1)).Nodup) {s : Str} {rows : List Row} (h : (s, rows) ∈ tb) : rowsAt tb s = rows := by
  unfold rowsAt
  rw [find_mem nd h]
  rfl
theorem mem_at {tb : Tb} (nd : (tb.map (·.1)).Nodup) {s : Str} (h : s ∈ tb.map (·.1)) : (s, rowsAt tb s) ∈ tb := by
  obtain ⟨⟨z, rows⟩, he, rfl⟩ := List.mem_map.mp h
  rw [show rowsAt tb z = rows from rowsAt_mem nd he]
  exact he
theorem mem_sortsOf {tb : Tb} (nd : (tb.map (·.1)).Nodup) {f s : Str} {ks : List Pt} : s ∈ sortsOf tb (.nd f ks) ↔ s ∈ tb.map (·.1) ∧ ∃ r ∈ rowsAt tb s, rowFits f (sortsOfs tb ks) r = true := by
  rw [sortsOf, mem_rowsSorts]
  constructor
  · rintro ⟨rows, h, r, hr, hf⟩
    exact ⟨List.mem_map.mpr ⟨_, h, rfl⟩, r, by rw [rowsAt_mem nd h]; exact hr, hf⟩
  · rintro ⟨h, r, hr, hf⟩
    exact ⟨_, mem_at nd h, r, hr, hf⟩
theorem row_len {sg : Sg} {tb : Tb} (one : One sg) (htb : TabOk sg tb) {s : Str} {r : Row} {n : Nat} (hs : s ∈ tb.map (·.1)) (hr : r ∈ rowsAt tb s) (hn : (r.1, n) ∈ sg) : r.2.length = n := one.one _ _ _ (htb.row _ (mem_at htb.nd hs) _ hr) hn
theorem zip_all {α β : Type} {p : α × β → Bool} : ∀ {xs : List α} {ys : List β}, (List.zip xs ys).all p = true → ∀ {k : Nat} {x : α} {y : β}, xs[k]? = some x → ys[k]? = some y → p (x, y) = true
  | [], _, _, k, x, y, h, _ => by simp at h
  | _ :: _, [], _, k, x, y, _, h => by simp at h
  | a :: xs, b :: ys, h, 0, x, y, h1, h2 => by
    simp at h1 h2
    subst h1 h2
    rw [List.zip_cons_cons, List.all_cons, Bool.and_eq_true] at h
    exact h.1
  | a :: xs, b :: ys, h, k + 1, x, y, h1, h2 => by
    rw [List.zip_cons_cons, List.all_cons, Bool.and_eq_true] at h
    exact zip_all h.2 (by simpa using h1) (by simpa using h2)
/-- trees of the one sort are of the other one -/
theorem within_sound {sg : Sg} {tb : Tb} (one : One sg) (htb : TabOk sg tb) {rel : Rel} (hw : IsW tb rel) : ∀ (t : Pt), TreeOf sg t → ∀ p ∈ rel, p.1 ∈ sortsOf tb t → p.2 ∈ sortsOf tb t
  | .unk x, ht, _, _, _ => by cases ht
  | .nd f ks, .mk hn hk, p, hp, h1 => by
    obtain ⟨k, hch⟩ := hw.ch
    have hall := mem_relAll.mp (chain_sub (by rw [← hch]; exact hp))
    have hok : relOk tb rel p = true := by
      have := hw.fix
      rw [← this] at hp
      exact (List.mem_filter.mp hp).2
    obtain ⟨hs, r, hr, hf⟩ := (mem_sortsOf htb.nd).mp h1
    have hgl : (sortsOfs tb ks).length = ks.length := by rw [sortsOfs_map, List.length_map]
    have hr1 : ∀ {s : Str} {r : Row}, s ∈ tb.map (·.1) → r ∈ rowsAt tb s → r.1 = f → r.2.length = (sortsOfs tb ks).length := fun hs hr e => by
      rw [hgl]
      exact row_len one htb hs hr (by rw [e]; exact hn)
    obtain ⟨e1, hall1⟩ := (rowFits_iff (hr1 hs hr)).mp hf
    obtain ⟨q, hq, hqi⟩ := List.any_eq_true.mp (List.all_eq_true.mp hok r hr)
    unfold rowIn at hqi
    rw [Bool.and_eq_true, beq_iff_eq] at hqi
    have e2 : q.1 = f := hqi.1.trans e1
    refine (mem_sortsOf htb.nd).mpr ⟨hall.2, q, hq, (rowFits_iff (hr1 hall.2 hq)).mpr ⟨e2, fun k z g hz hg => ?_⟩⟩
    have hkl : k < r.2.length := by
      rw [hr1 hs hr e1]
      exact (List.getElem?_eq_some_iff.mp hg).1
    have hy : r.2[k]? = some r.2[k] := by simp
    have hz1 := hall1 k _ g hy hg
    have hpair := of_decide_eq_true (zip_all hqi.2 hy hz)
    rw [sortsOfs_map, List.getElem?_map] at hg
    obtain ⟨t, ht, rfl⟩ := Option.map_eq_some_iff.mp hg
    exact within_sound one htb hw t (hk t (List.mem_of_getElem? ht)) _ hpair hz1
/-! ### a tuple of pairs as a dict -/
theorem dPuts_new {α : Type} (k : α → Str) (v : α → D) : ∀ (as done : List α), ((done ++ as).map k).Nodup → dPuts (done.map fun a => D.str (k a)) (done.map v) (as.map fun a => (D.str (k a), v a)) = ((done ++ as).map (fun a => D.str (k a)), (done ++ as).map v)
  | [], done, _ => by simp [dPuts]
  | a :: as, done, h => by
    have h' : ((done ++ [a] ++ as).map k).Nodup := by simpa using h
    have ih := dPuts_new k v as (done ++ [a]) h'
    rw [List.map_cons, dPuts]
    have hno : (done.map fun a => D.str (k a)).any (fun z => eqD z (.str (k a))) = false := by
      rw [List.any_eq_false]
      intro x hx
      obtain ⟨b, hb, rfl⟩ := List.mem_map.mp hx
      simp only [eqD, beq_iff_eq]
      intro e
      rw [List.map_append, List.nodup_append] at h
      exact h.2.2 (k b) (List.mem_map.mpr ⟨b, hb, rfl⟩) (k a) (by simp) e
    unfold dPut
    rw [if_neg (by rw [hno]; exact Bool.false_ne_true)]
    simp only
    rw [show (done.map fun a => D.str (k a)) ++ [D.str (k a)] = (done ++ [a]).map fun a => D.str (k a) by simp, show done.map v ++ [v a] = (done ++ [a]).map v by simp, ih]
    simp
theorem prs_pairs {α : Type} (k : α → Str) (v : α → D) : ∀ (as : List α), prs (as.map fun a => D.tup [.str (k a), v a]) = some (as.map fun a => (D.str (k a), v a))
  | [] => rfl
  | a :: as => by
    rw [List.map_cons, prs, if_pos (show keyish (D.str (k a)) = true from rfl), prs_pairs k v as]
    rfl
theorem dict_tup {α : Type} {st : St} (k : α → Str) (v : α → D) (as : List α) (h : (as.map k).Nodup) : dictD st (.tup (as.map fun a => D.tup [.str (k a), v a])) = some (.dct (as.map fun a => D.str (k a)) (as.map v)) := by
  unfold dictD
  simp only [see]
  rw [prs_pairs]
  have := dPuts_new k v as [] (by simpa using h)
  simp only [List.map_nil, List.nil_append] at this
  simp [this]
theorem look_map {α : Type} (k : α → Str) (v : α → D) (s : Str) : ∀ (as : List α), look (as.map fun a => D.str (k a)) (as.map v) (.str s) = (as.find? fun a => k a == s).map v
  | [] => rfl
  | a :: as => by
    rw [List.map_cons, List.map_cons, look, List.find?_cons]
    by_cases h : k a = s
    · subst h
      rw [if_pos (by simp [eqD])]
      simp
    · have hb : (k a == s) = false := by simpa using h
      rw [if_neg (by simp [eqD, h]), hb, look_map k v s as]
theorem dict_tb {st : St} {tb : Tb} (nd : (tb.map (·.1)).Nodup) : dictD st (encTb tb) = some (.dct (tb.map fun e => D.str e.1) (tb.map fun e => D.tup (e.2.map encR))) := dict_tup (fun e : Str × List Row => e.1) (fun e => D.tup (e.2.map encR)) tb nd
theorem idx_tb {st : St} {tb : Tb} (nd : (tb.map (·.1)).Nodup) {s : Str} (hs : s ∈ tb.map (·.1)) : idxD st (.dct (tb.map fun e => D.str e.1) (tb.map fun e => D.tup (e.2.map encR))) (.str s) = some (.tup ((rowsAt tb s).map encR)) := by
  rw [idx_dctS, look_map (fun e : Str × List Row => e.1) (fun e => D.tup (e.2.map encR)) s tb, find_mem nd (mem_at nd hs)]
  rfl
end RP
end
section
set_option Elab.async false
set_option linter.all false
set_option maxRecDepth 100000
set_option maxHeartbeats 4000000
namespace RP
open PySem L2

def top (i : Nat) : Stmt := PySem.Challenge.pw_ruleplans_k33_sorts_within.main.body.getD i (.Pass ⟨0, 0, 0, 0⟩)
abbrev s_sorts_of : Stmt := top 1
def n_sorts_of : List Str := ["table", "tree", "inner", "found", "sort", "rows", "row", "child", "k"]
noncomputable def b_sorts_of : MS :=
  (sSeq (sAsg (gNm 2) (mComp [7] (iVal (mSlice (mVar 1) (some (mCst (.int 1))) none)) (gNm 7) tYesM (mCall "sorts_of" [(mVar 0), (mVar 7)])))
  (sSeq (sAsg (gNm 3) (mLstM []))
  (sSeq (sFor (iVal (mVar 0)) (gTp [4, 5]) (sFor (iVal (mVar 5)) (gNm 6) (sIf (RP.bAnd (tVal (mOp2 eqB (mOp2 idxD (mVar 6) (mCst (.int 0))) (mOp2 idxD (mVar 1) (mCst (.int 0))))) (tVal (mBlt (un1 allD) [(mComp [8] (iRange1 (mBlt (un1 lenD) [(mVar 2)])) (gNm 8) tYesM (mOp2 inB (mOp2 idxD (mVar 6) (mOp2 addD (mVar 8) (mCst (.int 1)))) (mOp2 idxD (mVar 2) (mVar 8))))]))) (sSeq (sExpr (mLm xAppend (mVar 3) [(mVar 4)]))
  sBrk) sSkip)))
  (sRet (mVar 3)))))
noncomputable def i_sorts_of : FI := ⟨"sorts_of", s_sorts_of, ["table", "tree"], n_sorts_of, ⟨2, 9, b_sorts_of⟩⟩
abbrev s_is_of : Stmt := top 2
def n_is_of : List Str := ["table", "tree", "sort"]
noncomputable def b_is_of : MS :=
  (sRet (mOp2 inB (mVar 2) (mCall "sorts_of" [(mVar 0), (mVar 1)])))
noncomputable def i_is_of : FI := ⟨"is_of", s_is_of, ["table", "tree", "sort"], n_is_of, ⟨3, 3, b_is_of⟩⟩
abbrev s_has_row_for : Stmt := top 3
def n_has_row_for : List Str := ["relation", "row", "rows", "other", "pair"]
noncomputable def b_has_row_for : MS :=
  (sSeq (sFor (iVal (mVar 2)) (gNm 3) (sIf (RP.bAnd (tVal (mOp2 eqB (mOp2 idxD (mVar 3) (mCst (.int 0))) (mOp2 idxD (mVar 1) (mCst (.int 0))))) (tVal (mBlt (un1 allD) [(mComp [4] (iZip (mSlice (mVar 1) (some (mCst (.int 1))) none) (mSlice (mVar 3) (some (mCst (.int 1))) none)) (gNm 4) tYesM (mOp2 inB (mVar 4) (mVar 0)))]))) (sRet (mCst (.bl true))) sSkip))
  (sRet (mCst (.bl false))))
noncomputable def i_has_row_for : FI := ⟨"has_row_for", s_has_row_for, ["relation", "row", "rows"], n_has_row_for, ⟨3, 5, b_has_row_for⟩⟩
abbrev s_withins : Stmt := top 4
def n_withins : List Str := ["table", "rows_of", "relation", "one", "some", "last", "other", "more", "row"]
noncomputable def b_withins : MS :=
  (sSeq (sAsg (gNm 1) (mBlt (un1 dictD) [(mVar 0)]))
  (sSeq (sAsg (gNm 2) (mLstM []))
  (sSeq (sFor (iVal (mVar 0)) (gTp [3, 4]) (sExpr (mLm xExtend (mVar 2) [(mComp [6, 7] (iVal (mVar 0)) (gTp [6, 7]) tYesM (mTup [(mVar 3), (mVar 6)]))])))
  (sSeq (sAsg (gNm 5) (mCst .non))
  (sSeq (sWhile (tVal (mOp2 neB (mVar 2) (mVar 5))) (sSeq (sAsg (gNm 5) (mVar 2))
  (sSeq (sAsg (gNm 2) (mLstM []))
  (sFor (iVal (mVar 5)) (gTp [3, 6]) (sIf (tVal (mBlt (un1 allD) [(mComp [8] (iVal (mOp2 idxD (mVar 1) (mVar 3))) (gNm 8) tYesM (mCall "has_row_for" [(mVar 5), (mVar 8), (mOp2 idxD (mVar 1) (mVar 6))]))])) (sExpr (mLm xAppend (mVar 2) [(mTup [(mVar 3), (mVar 6)])])) sSkip)))))
  (sRet (mVar 2)))))))
noncomputable def i_withins : FI := ⟨"withins", s_withins, ["table"], n_withins, ⟨1, 9, b_withins⟩⟩
abbrev s__law_feed : Stmt := top 6
def n__law_feed : List Str := ["_law_script", "_law_k"]
noncomputable def b__law_feed : MS :=
  (sSeq (sIf (tVal (mOp2 eqB (mBlt (un1 lenD) [(mVar 0)]) (mCst (.int 0)))) (sRet (mLstM [(mCst (.int 0)), (mCst (.int 0)), (mVar 1)])) sSkip)
  (sRet (mLstM [(mOp2 idxD (mVar 0) (mOp2 modD (mVar 1) (mBlt (un1 lenD) [(mVar 0)]))), (mCst (.int 0)), (mVar 1)])))
noncomputable def i__law_feed : FI := ⟨"_law_feed", s__law_feed, ["_law_script", "_law_k"], n__law_feed, ⟨2, 2, b__law_feed⟩⟩
abbrev s__law_draw : Stmt := top 7
def n__law_draw : List Str := ["_law_feed_here", "_law_many", "_law_seed", "_law_digit"]
noncomputable def b__law_draw : MS :=
  (sSeq (sPut (mVar 0) (mCst (.int 1)) (mOp2 addD (mOp2 idxD (mVar 0) (mCst (.int 1))) (mCst (.int 1))))
  (sSeq (sIf (tVal (mOp2 geB (mOp2 idxD (mVar 0) (mCst (.int 0))) (mOp2 powD (mCst (.int 10)) (mCst (.int 18))))) (sSeq (sAsg (gNm 3) (mOp2 modD (mOp2 idxD (mVar 0) (mCst (.int 0))) (mVar 1)))
  (sSeq (sPut (mVar 0) (mCst (.int 0)) (mOp2 fdivD (mOp2 idxD (mVar 0) (mCst (.int 0))) (mVar 1)))
  (sRet (mVar 3)))) sSkip)
  (sSeq (sAsg (gNm 2) (mOp2 addD (mOp2 addD (mOp2 addD (mOp2 modD (mOp2 idxD (mVar 0) (mCst (.int 0))) (mCst (.int 2147483647))) (mOp2 mulD (mCst (.int 40692)) (mOp2 idxD (mVar 0) (mCst (.int 1))))) (mOp2 mulD (mCst (.int 7919)) (mOp2 idxD (mVar 0) (mCst (.int 2))))) (mCst (.int 12345))))
  (sSeq (sAsg (gNm 2) (mOp2 modD (mOp2 mulD (mVar 2) (mCst (.int 48271))) (mCst (.int 2147483647))))
  (sSeq (sAsg (gNm 2) (mOp2 modD (mOp2 mulD (mVar 2) (mOp2 addD (mVar 2) (mCst (.int 40692)))) (mCst (.int 2147483587))))
  (sRet (mOp2 modD (mOp2 fdivD (mOp2 modD (mOp2 mulD (mOp2 modD (mOp2 addD (mOp2 mulD (mVar 2) (mCst (.int 69621))) (mOp2 idxD (mVar 0) (mCst (.int 1)))) (mCst (.int 2147483399))) (mCst (.int 16807))) (mCst (.int 2147483563))) (mCst (.int 7))) (mVar 1))))))))
noncomputable def i__law_draw : FI := ⟨"_law_draw", s__law_draw, ["_law_feed_here", "_law_many"], n__law_draw, ⟨2, 4, b__law_draw⟩⟩
abbrev s__law_names : Stmt := top 8
def n__law_names : List Str := ["_law_feed_here", "_law_many", "_law_some", "_law_first", "_law_step", "_law_j"]
noncomputable def b__law_names : MS :=
  (sSeq (sAsg (gNm 2) (mLst [(mCst (.str "a")), (mCst (.str "ab")), (mCst (.str "b")), (mCst (.str "stay")), (mCst (.str "use")), (mCst (.str "abc")), (mCst (.str "all")), (mCst (.str "abcdefgh")), (mCst (.str "f")), (mCst (.str "fa")), (mCst (.str "then")), (mCst (.str "ba"))]))
  (sSeq (sAsg (gNm 3) (mCall "_law_draw" [(mVar 0), (mCst (.int 12))]))
  (sSeq (sAsg (gNm 4) (mOp2 idxD (mLst [(mCst (.int 1)), (mCst (.int 5)), (mCst (.int 7)), (mCst (.int 11))]) (mCall "_law_draw" [(mVar 0), (mCst (.int 4))])))
  (sRet (mComp [5] (iRange1 (mVar 1)) (gNm 5) tYesM (mOp2 idxD (mVar 2) (mOp2 modD (mOp2 addD (mVar 3) (mOp2 mulD (mVar 4) (mVar 5))) (mCst (.int 12)))))))))
noncomputable def i__law_names : FI := ⟨"_law_names", s__law_names, ["_law_feed_here", "_law_many"], n__law_names, ⟨2, 6, b__law_names⟩⟩
abbrev s__law_signs : Stmt := top 9
def n__law_signs : List Str := ["_law_feed_here", "_law_names_here", "_law_many", "_law_name", "_law_k"]
noncomputable def b__law_signs : MS :=
  (sSeq (sAsg (gNm 1) (mCall "_law_names" [(mVar 0), (mOp2 addD (mCst (.int 2)) (mCall "_law_draw" [(mVar 0), (mCst (.int 3))]))]))
  (sSeq (sAsg (gNm 2) (mCompM [3] (iVal (mVar 1)) (gNm 3) tYesM (mOp2 idxD (mLst [(mCst (.int 1)), (mCst (.int 2)), (mCst (.int 0)), (mCst (.int 1)), (mCst (.int 2)), (mCst (.int 3))]) (mCall "_law_draw" [(mVar 0), (mCst (.int 6))]))))
  (sSeq (sPut (mVar 2) (mCall "_law_draw" [(mVar 0), (mBlt (un1 lenD) [(mVar 1)])]) (mCst (.int 0)))
  (sRet (mBlt (un1 tupleD) [(mComp [4] (iRange1 (mBlt (un1 lenD) [(mVar 1)])) (gNm 4) tYesM (mTup [(mOp2 idxD (mVar 1) (mVar 4)), (mOp2 idxD (mVar 2) (mVar 4))]))])))))
noncomputable def i__law_signs : FI := ⟨"_law_signs", s__law_signs, ["_law_feed_here"], n__law_signs, ⟨1, 5, b__law_signs⟩⟩
abbrev s__law_table : Stmt := top 10
def n__law_table : List Str := ["_law_feed_here", "_law_signs_here", "_law_most", "_law_sorts", "_law_found", "_law_sort", "_law_rows", "_law_name", "_law_many", "_law_k", "_law_row", "_law_n"]
noncomputable def b__law_table : MS :=
  (sSeq (sAsg (gNm 3) (mCall "_law_names" [(mVar 0), (mOp2 addD (mCst (.int 1)) (mCall "_law_draw" [(mVar 0), (mVar 2)]))]))
  (sSeq (sAsg (gNm 4) (mLstM []))
  (sSeq (sFor (iVal (mVar 3)) (gNm 5) (sSeq (sAsg (gNm 6) (mLstM []))
  (sSeq (sFor (iVal (mVar 1)) (gTp [7, 8]) (sFor (iRange1 (mOp2 idxD (mLst [(mCst (.int 1)), (mCst (.int 1)), (mCst (.int 0)), (mCst (.int 2))]) (mCall "_law_draw" [(mVar 0), (mCst (.int 4))]))) (gNm 9) (sSeq (sAsg (gNm 10) (mOp2 addD (mTup [(mVar 7)]) (mBlt (un1 tupleD) [(mComp [11] (iRange1 (mVar 8)) (gNm 11) tYesM (mOp2 idxD (mVar 3) (mCall "_law_draw" [(mVar 0), (mBlt (un1 lenD) [(mVar 3)])])))])))
  (sIf (tVal (mOp2 ninB (mVar 10) (mVar 6))) (sExpr (mLm xInsert (mVar 6) [(mCall "_law_draw" [(mVar 0), (mOp2 addD (mBlt (un1 lenD) [(mVar 6)]) (mCst (.int 1)))]), (mVar 10)])) sSkip))))
  (sExpr (mLm xAppend (mVar 4) [(mTup [(mVar 5), (mBlt (un1 tupleD) [(mSlice (mVar 6) none (some (mCst (.int 8))))])])])))))
  (sRet (mBlt (un1 tupleD) [(mVar 4)])))))
noncomputable def i__law_table : FI := ⟨"_law_table", s__law_table, ["_law_feed_here", "_law_signs_here", "_law_most"], n__law_table, ⟨3, 12, b__law_table⟩⟩
abbrev s__law_tree : Stmt := top 11
def n__law_tree : List Str := ["_law_feed_here", "_law_signs_here", "_law_deep", "_law_bare", "_law_name", "_law_many", "_law_k"]
noncomputable def b__law_tree : MS :=
  (sSeq (sAsg (gNm 3) (mComp [4, 5] (iVal (mVar 1)) (gTp [4, 5]) (tVal (mOp2 eqB (mVar 5) (mCst (.int 0)))) (mVar 4)))
  (sSeq (sAsg (gTp [4, 5]) (mOp2 idxD (mVar 1) (mCall "_law_draw" [(mVar 0), (mBlt (un1 lenD) [(mVar 1)])])))
  (sSeq (sIf (tVal (mOp2 eqB (mVar 2) (mCst (.int 0)))) (sRet (mTup [(mOp2 idxD (mVar 3) (mCall "_law_draw" [(mVar 0), (mBlt (un1 lenD) [(mVar 3)])]))])) sSkip)
  (sRet (mOp2 addD (mTup [(mVar 4)]) (mBlt (un1 tupleD) [(mComp [6] (iRange1 (mVar 5)) (gNm 6) tYesM (mCall "_law_tree" [(mVar 0), (mVar 1), (mOp2 subD (mVar 2) (mCst (.int 1)))]))]))))))
noncomputable def i__law_tree : FI := ⟨"_law_tree", s__law_tree, ["_law_feed_here", "_law_signs_here", "_law_deep"], n__law_tree, ⟨3, 7, b__law_tree⟩⟩
abbrev s__law_rows_of : Stmt := top 12
def n__law_rows_of : List Str := ["_law_table_here", "_law_sort", "_law_name", "_law_row"]
noncomputable def b__law_rows_of : MS :=
  (sRet (mComp [3] (iVal (mOp2 idxD (mBlt (un1 dictD) [(mVar 0)]) (mVar 1))) (gNm 3) (tVal (mOp2 eqB (mOp2 idxD (mVar 3) (mCst (.int 0))) (mVar 2))) (mVar 3)))
noncomputable def i__law_rows_of : FI := ⟨"_law_rows_of", s__law_rows_of, ["_law_table_here", "_law_sort", "_law_name"], n__law_rows_of, ⟨3, 4, b__law_rows_of⟩⟩
abbrev s__law_within : Stmt := top 13
def n__law_within : List Str := ["_law_table_here", "_law_names_here", "_law_pairs", "_law_one", "_law_many", "_law_sort", "_law_rows", "_law_pair", "_law_other"]
noncomputable def b__law_within : MS :=
  (sSeq (sAsg (gNm 1) (mComp [5, 6] (iVal (mVar 0)) (gTp [5, 6]) tYesM (mVar 5)))
  (sSeq (sAsg (gNm 2) (mLstM []))
  (sSeq (sFor (iVal (mVar 1)) (gNm 3) (sExpr (mLm xExtend (mVar 2) [(mComp [8] (iVal (mVar 1)) (gNm 8) tYesM (mTup [(mVar 3), (mVar 8)]))])))
  (sSeq (sAsg (gNm 4) (mOp2 addD (mBlt (un1 lenD) [(mVar 2)]) (mCst (.int 1))))
  (sSeq (sWhile (tVal (mOp2 ltB (mBlt (un1 lenD) [(mVar 2)]) (mVar 4))) (sSeq (sAsg (gNm 4) (mBlt (un1 lenD) [(mVar 2)]))
  (sAsg (gNm 2) (mCompM [7] (iVal (mVar 2)) (gNm 7) (tVal (mCall "_law_has_rows" [(mVar 0), (mVar 2), (mVar 7)])) (mVar 7)))))
  (sRet (mVar 2)))))))
noncomputable def i__law_within : FI := ⟨"_law_within", s__law_within, ["_law_table_here"], n__law_within, ⟨1, 9, b__law_within⟩⟩
abbrev s__law_has_rows : Stmt := top 14
def n__law_has_rows : List Str := ["_law_table_here", "_law_pairs", "_law_pair", "_law_row", "_law_some", "_law_other", "_law_k"]
noncomputable def b__law_has_rows : MS :=
  (sSeq (sFor (iVal (mOp2 idxD (mBlt (un1 dictD) [(mVar 0)]) (mOp2 idxD (mVar 2) (mCst (.int 0))))) (gNm 3) (sSeq (sAsg (gNm 4) (mLstM []))
  (sSeq (sFor (iVal (mCall "_law_rows_of" [(mVar 0), (mOp2 idxD (mVar 2) (mCst (.int 1))), (mOp2 idxD (mVar 3) (mCst (.int 0)))])) (gNm 5) (sExpr (mLm xAppend (mVar 4) [(mOp2 ninB (mCst (.bl false)) (mComp [6] (iRange2 (mCst (.int 1)) (mBlt (un1 lenD) [(mVar 3)])) (gNm 6) tYesM (mOp2 inB (mTup [(mOp2 idxD (mVar 3) (mVar 6)), (mOp2 idxD (mVar 5) (mVar 6))]) (mVar 1))))])))
  (sIf (tVal (mOp2 ninB (mCst (.bl true)) (mVar 4))) (sRet (mCst (.bl false))) sSkip))))
  (sRet (mCst (.bl true))))
noncomputable def i__law_has_rows : FI := ⟨"_law_has_rows", s__law_has_rows, ["_law_table_here", "_law_pairs", "_law_pair"], n__law_has_rows, ⟨3, 7, b__law_has_rows⟩⟩
abbrev s_law : Stmt := top 15
def n_law : List Str := ["_law_script", "_law_k", "_law_feed_here", "_law_signs_here", "_law_table_here", "_law_turn", "_law_found", "_law_one", "_law_other", "_law_tree_here"]
noncomputable def b_law : MS :=
  (sSeq (sFor (iRange1 (mCst (.int 4))) (gNm 1) (sSeq (sAsg (gNm 2) (mCallM "_law_feed" [(mVar 0), (mVar 1)]))
  (sSeq (sAsg (gNm 3) (mCall "_law_signs" [(mVar 2)]))
  (sSeq (sAsg (gNm 4) (mCall "_law_table" [(mVar 2), (mVar 3), (mCst (.int 4))]))
  (sFor (iRange1 (mCst (.int 2))) (gNm 5) (sSeq (sAsg (gNm 6) (mCallM "withins" [(mVar 4)]))
  (sSeq (sIf (RP.bOr (bNot (tVal (mOp1 (isiD .list) (mVar 6)))) (tVal (mOp2 neB (mVar 6) (mCall "_law_within" [(mVar 4)])))) (sRet (mCst (.bl false))) sSkip)
  (sSeq (sFor (iVal (mVar 6)) (gTp [7, 8]) (sSeq (sAsg (gNm 9) (mCall "_law_tree" [(mVar 2), (mVar 3), (mCst (.int 2))]))
  (sIf (RP.bAnd (tVal (mCall "is_of" [(mVar 4), (mVar 9), (mVar 7)])) (bNot (tVal (mCall "is_of" [(mVar 4), (mVar 9), (mVar 8)])))) (sRet (mCst (.bl false))) sSkip)))
  (sExpr (mLm xClear (mVar 6) []))))))))))
  (sRet (mCst (.bl true))))
noncomputable def i_law : FI := ⟨"law", s_law, ["_law_script"], n_law, ⟨1, 10, b_law⟩⟩
noncomputable def LL : List FI := [i_sorts_of, i_is_of, i_has_row_for, i_withins, i__law_feed, i__law_draw, i__law_names, i__law_signs, i__law_table, i__law_tree, i__law_rows_of, i__law_within, i__law_has_rows, i_law]
def BB : List Str := ["len", "range", "all", "zip", "dict", "tuple", "isinstance", "list"]
theorem sc_sorts_of : FnScope n_sorts_of ["table", "tree"] (defScope s_sorts_of) := ⟨rfl, rfl, rfl, by decide +kernel, rfl, by decide +kernel, by decide +kernel⟩
theorem ok_sorts_of : Body LL BB i_sorts_of := by
  intro P w K mg base c n f cdv A outer s H E hF hB hr hgd
  have hu : (A.deeper (PyProof.Rows.envOfC i_sorts_of.name (defScope i_sorts_of.st) s.heap.objs.size f cdv)).units + 101 < cLine := by have := hr.un; omega
  have hu1 : (A.deeper (PyProof.Rows.envOfC i_sorts_of.name (defScope i_sorts_of.st) s.heap.objs.size f cdv)).units + 1 < cLine := by have := hr.un; omega
  have ND : n_sorts_of.Nodup := sc_sorts_of.nd
  exact (sConsD (sSetD (i := 2) ND rfl (.inr rfl) (dCompV (own := [("child", 7)]) (is := [7]) rfl rfl ND (iVald (dSlice (dVar (i := 1) rfl (.inl rfl) rfl rfl) (dOSome kInt) dONone)) (blkOk_by (N := n_sorts_of) (sc := defScope s_sorts_of) (by decide +kernel)) (by decide) (fun _ _ _ _ _ => (gNmd (i := 7) ND rfl (.inl rfl) (.inr rfl))) (fun _ _ _ _ _ => dPtsNil) (fun _ _ _ _ _ => (dCall (hF 0 _ rfl) hr hgd rfl takes0 (dCons (dVar (i := 0) rfl (.inr (.inl rfl)) rfl rfl) (dCons (dVar (i := 7) rfl (.inl rfl) rfl rfl) dNil rfl) rfl) rfl rfl rfl rfl)) (fun _ => rfl)) rfl (.inl rfl))
  (sConsD (sSetD (i := 3) ND rfl (.inl rfl) (dLstM dNil (by decide)) rfl (.inr rfl))
  (sConsD (sForD (is := [4, 5]) cx_passes rfl (iVald (dVar (i := 0) rfl (.inr (.inl rfl)) rfl rfl)) (gTpd rfl (gConsD (i := 4) ND rfl (.inl rfl) (.inr rfl) (gConsD (i := 5) ND rfl (.inl rfl) (.inr rfl) gNilD)) rfl rfl) (sOne (sForD (is := [6]) cx_passes rfl (iVald (dVar (i := 5) rfl (.inl rfl) rfl rfl)) (gNmd (i := 6) ND rfl (.inr rfl) (.inl rfl)) (sOne (sIfD (PW.pt (bAndD (bCmp ib_eq (op_eqL hu) (dIx (ix_L hu) (dVar (i := 6) rfl (.inr (.inl rfl)) rfl rfl) kInt (fun _ _ => rfl)) (dIx (ix_L hu) (dVar (i := 1) rfl (.inl rfl) rfl rfl) kInt (fun _ _ => rfl)) rfl) (bAnd1 (bVal (dBlt (call_allL rfl) rfl (hB 2 _ rfl) (by decide +kernel) (dCons (dCompV (own := [("k", 8)]) (is := [8]) rfl rfl ND (iRange1d rfl (hB 1 _ rfl) (dBlt call_lenL rfl (hB 0 _ rfl) (by decide +kernel) (dCons (dVar (i := 2) rfl (.inr (.inl rfl)) rfl rfl) dNil rfl) (by decide) rfl rfl rfl) rfl) (blkOk_by (N := n_sorts_of) (sc := defScope s_sorts_of) (by decide +kernel)) (by decide) (fun _ _ _ _ _ => (gNmd (i := 8) ND rfl (.inl rfl) (.inr rfl))) (fun _ _ _ _ _ => dPtsNil) (fun _ _ _ _ _ => (dCmp (op_inL hu) (dIx (ix_L hu) (dVar (i := 6) rfl (.inr (.inl rfl)) rfl rfl) (dOp2 op_addL (dVar (i := 8) rfl (.inl rfl) rfl rfl) kInt) (fun _ _ => rfl)) (dIx (ix_L hu) (dVar (i := 2) rfl (.inr (.inl rfl)) rfl rfl) (dVar (i := 8) rfl (.inl rfl) rfl rfl) (fun _ _ => rfl)) rfl)) (fun _ => rfl)) dNil rfl) (by decide) rfl rfl rfl) (fun _ => rfl))))) (sConsD (sExprD (dLm F.slot_list_append F.type_list_append mt_appendL (dVar (i := 3) rfl (.inl rfl) rfl rfl) (dCons (dVar (i := 4) rfl (.inl rfl) rfl rfl) dNil rfl) rfl rfl rfl rfl rfl) rfl)
  (sOne sBrkD)) sNil)) (fun _ => rfl))) (fun _ => rfl))
  (sOne (sRetD (dVar (i := 3) rfl (.inl rfl) rfl rfl))))))
theorem sc_is_of : FnScope n_is_of ["table", "tree", "sort"] (defScope s_is_of) := ⟨rfl, rfl, rfl, by decide +kernel, rfl, by decide +kernel, by decide +kernel⟩
theorem ok_is_of : Body LL BB i_is_of := by
  intro P w K mg base c n f cdv A outer s H E hF hB hr hgd
  have hu : (A.deeper (PyProof.Rows.envOfC i_is_of.name (defScope i_is_of.st) s.heap.objs.size f cdv)).units + 101 < cLine := by have := hr.un; omega
  have hu1 : (A.deeper (PyProof.Rows.envOfC i_is_of.name (defScope i_is_of.st) s.heap.objs.size f cdv)).units + 1 < cLine := by have := hr.un; omega
  have ND : n_is_of.Nodup := sc_is_of.nd
  exact (sOne (sRetD (dCmp (op_inL hu) (dVar (i := 2) rfl (.inl rfl) rfl rfl) (dCall (hF 0 _ rfl) hr hgd rfl cx_takes (dCons (dVar (i := 0) rfl (.inl rfl) rfl rfl) (dCons (dVar (i := 1) rfl (.inl rfl) rfl rfl) dNil rfl) rfl) rfl rfl rfl rfl) rfl)))
theorem sc_has_row_for : FnScope n_has_row_for ["relation", "row", "rows"] (defScope s_has_row_for) := ⟨rfl, rfl, rfl, by decide +kernel, rfl, by decide +kernel, by decide +kernel⟩
theorem ok_has_row_for : Body LL BB i_has_row_for := by
  intro P w K mg base c n f cdv A outer s H E hF hB hr hgd
  have hu : (A.deeper (PyProof.Rows.envOfC i_has_row_for.name (defScope i_has_row_for.st) s.heap.objs.size f cdv)).units + 101 < cLine := by have := hr.un; omega
  have hu1 : (A.deeper (PyProof.Rows.envOfC i_has_row_for.name (defScope i_has_row_for.st) s.heap.objs.size f cdv)).units + 1 < cLine := by have := hr.un; omega
  have ND : n_has_row_for.Nodup := sc_has_row_for.nd
  exact (sConsD (sForD (is := [3]) cx_passes rfl (iVald (dVar (i := 2) rfl (.inl rfl) rfl rfl)) (gNmd (i := 3) ND rfl (.inl rfl) (.inr rfl)) (sOne (sIfD (PW.pt (bAndD (bCmp ib_eq (op_eqL hu) (dIx (ix_L hu) (dVar (i := 3) rfl (.inl rfl) rfl rfl) kInt (fun _ _ => rfl)) (dIx (ix_L hu) (dVar (i := 1) rfl (.inl rfl) rfl rfl) kInt (fun _ _ => rfl)) rfl) (bAnd1 (bVal (dBlt (call_allL rfl) rfl (hB 2 _ rfl) (by decide +kernel) (dCons (dCompV (own := [("pair", 4)]) (is := [4]) rfl rfl ND (iZipD rfl (hB 3 _ rfl) (dCons (dSlice (dVar (i := 1) rfl (.inl rfl) rfl rfl) (dOSome kInt) dONone) (dCons (dSlice (dVar (i := 3) rfl (.inl rfl) rfl rfl) (dOSome kInt) dONone) dNil rfl) rfl) rfl rfl) (blkOk_by (N := n_has_row_for) (sc := defScope s_has_row_for) (by decide +kernel)) (by decide) (fun _ _ _ _ _ => (gNmd (i := 4) ND rfl (.inl rfl) (.inr rfl))) (fun _ _ _ _ _ => dPtsNil) (fun _ _ _ _ _ => (dCmp (op_inL hu) (dVar (i := 4) rfl (.inl rfl) rfl rfl) (dVar (i := 0) rfl (.inr (.inl rfl)) rfl rfl) rfl)) (fun _ => rfl)) dNil rfl) (by decide) rfl rfl rfl) (fun _ => rfl))))) (sOne (sRetD kBl)) sNil)) (fun _ => rfl))
  (sOne (sRetD kBl)))
theorem sc_withins : FnScope n_withins ["table"] (defScope s_withins) := ⟨rfl, rfl, rfl, by decide +kernel, rfl, by decide +kernel, by decide +kernel⟩
theorem ok_withins : Body LL BB i_withins := by
  intro P w K mg base c n f cdv A outer s H E hF hB hr hgd
  have hu : (A.deeper (PyProof.Rows.envOfC i_withins.name (defScope i_withins.st) s.heap.objs.size f cdv)).units + 101 < cLine := by have := hr.un; omega
  have hu1 : (A.deeper (PyProof.Rows.envOfC i_withins.name (defScope i_withins.st) s.heap.objs.size f cdv)).units + 1 < cLine := by have := hr.un; omega
  have ND : n_withins.Nodup := sc_withins.nd
  exact (sConsD (sSetD (i := 1) ND rfl (.inr rfl) (dTy (call_dictL rfl) rfl (hB 4 _ rfl) (by decide +kernel) (dCons (dVar (i := 0) rfl (.inl rfl) rfl rfl) dNil rfl) (by decide) rfl rfl rfl) rfl (.inl rfl))
  (sConsD (sSetD (i := 2) ND rfl (.inl rfl) (dLstM dNil (by decide)) rfl (.inr rfl))
  (sConsD (sForD (is := [3, 4]) cx_passes rfl (iVald (dVar (i := 0) rfl (.inl rfl) rfl rfl)) (gTpd rfl (gConsD (i := 3) ND rfl (.inr rfl) (.inl rfl) (gConsD (i := 4) ND rfl (.inl rfl) (.inr rfl) gNilD)) rfl rfl) (sOne (sExprD (dLm F.slot_list_extend F.type_list_extend mt_extendL (dVar (i := 2) rfl (.inl rfl) rfl rfl) (dCons (dCompV (own := [("other", 6), ("more", 7)]) (is := [6, 7]) rfl rfl ND (iVald (dVar (i := 0) rfl (.inl rfl) rfl rfl)) (blkOk_by (N := n_withins) (sc := defScope s_withins) (by decide +kernel)) (by decide) (fun _ _ _ _ _ => (gTpd rfl (gConsD (i := 6) ND rfl (.inl rfl) (.inr rfl) (gConsD (i := 7) ND rfl (.inl rfl) (.inr rfl) gNilD)) rfl rfl)) (fun _ _ _ _ _ => dPtsNil) (fun _ _ _ _ _ => (dTup (dCons (dVar (i := 3) rfl (.inr (.inl rfl)) rfl rfl) (dCons (dVar (i := 6) rfl (.inl rfl) rfl rfl) dNil rfl) rfl) (by decide))) (fun _ => rfl)) dNil rfl) rfl rfl rfl rfl rfl) rfl)) (fun _ => rfl))
  (sConsD (sSetD (i := 5) ND rfl (.inr rfl) kNon rfl (.inl rfl))
  (sConsD (sWhileD cx_passes (bCmp ib_ne (op_neL hu) (dVar (i := 2) rfl (.inl rfl) rfl rfl) (dVar (i := 5) rfl (.inr (.inl rfl)) rfl rfl) rfl) (sConsD (sSetD (i := 5) ND rfl (.inr rfl) (dVar (i := 2) rfl (.inl rfl) rfl rfl) rfl (.inl rfl))
  (sConsD (sSetD (i := 2) ND rfl (.inl rfl) (dLstM dNil (by decide)) rfl (.inr rfl))
  (sOne (sForD (is := [3, 6]) cx_passes rfl (iVald (dVar (i := 5) rfl (.inr (.inl rfl)) rfl rfl)) (gTpd rfl (gConsD (i := 3) ND rfl (.inr rfl) (.inl rfl) (gConsD (i := 6) ND rfl (.inr rfl) (.inl rfl) gNilD)) rfl rfl) (sOne (sIfD (bVal (dBlt (call_allL rfl) rfl (hB 2 _ rfl) (by decide +kernel) (dCons (dCompV (own := [("row", 8)]) (is := [8]) rfl rfl ND (iVald (dIx (ix_L hu) (dVar (i := 1) rfl (.inr (.inl rfl)) rfl rfl) (dVar (i := 3) rfl (.inr (.inl rfl)) rfl rfl) (fun _ _ => rfl))) (blkOk_by (N := n_withins) (sc := defScope s_withins) (by decide +kernel)) (by decide) (fun _ _ _ _ _ => (gNmd (i := 8) ND rfl (.inl rfl) (.inr rfl))) (fun _ _ _ _ _ => dPtsNil) (fun _ _ _ _ _ => (dCall (hF 2 _ rfl) hr hgd rfl takes0 (dCons (dVar (i := 5) rfl (.inr (.inl rfl)) rfl rfl) (dCons (dVar (i := 8) rfl (.inl rfl) rfl rfl) (dCons (dIx (ix_L hu) (dVar (i := 1) rfl (.inr (.inl rfl)) rfl rfl) (dVar (i := 6) rfl (.inr (.inl rfl)) rfl rfl) (fun _ _ => rfl)) dNil rfl) rfl) rfl) rfl rfl rfl rfl)) (fun _ => rfl)) dNil rfl) (by decide) rfl rfl rfl) (fun _ => rfl)) (sOne (sExprD (dLm F.slot_list_append F.type_list_append mt_appendL (dVar (i := 2) rfl (.inl rfl) rfl rfl) (dCons (dTup (dCons (dVar (i := 3) rfl (.inr (.inl rfl)) rfl rfl) (dCons (dVar (i := 6) rfl (.inr (.inl rfl)) rfl rfl) dNil rfl) rfl) (by decide)) dNil rfl) rfl rfl rfl rfl rfl) rfl)) sNil)) (fun _ => rfl))))))
  (sOne (sRetD (dVar (i := 2) rfl (.inl rfl) rfl rfl))))))))
theorem sc__law_feed : FnScope n__law_feed ["_law_script", "_law_k"] (defScope s__law_feed) := ⟨rfl, rfl, rfl, by decide +kernel, rfl, by decide +kernel, by decide +kernel⟩
theorem ok__law_feed : Body LL BB i__law_feed := by
  intro P w K mg base c n f cdv A outer s H E hF hB hr hgd
  have hu : (A.deeper (PyProof.Rows.envOfC i__law_feed.name (defScope i__law_feed.st) s.heap.objs.size f cdv)).units + 101 < cLine := by have := hr.un; omega
  have hu1 : (A.deeper (PyProof.Rows.envOfC i__law_feed.name (defScope i__law_feed.st) s.heap.objs.size f cdv)).units + 1 < cLine := by have := hr.un; omega
  have ND : n__law_feed.Nodup := sc__law_feed.nd
  exact (sConsD (sIfD (bCmp ib_eq (op_eqL hu) (dBlt call_lenL rfl (hB 0 _ rfl) (by decide +kernel) (dCons (dVar (i := 0) rfl (.inl rfl) rfl rfl) dNil rfl) (by decide) rfl rfl rfl) kInt rfl) (sOne (sRetD (dLstM (dCons kInt (dCons kInt (dCons (dVar (i := 1) rfl (.inl rfl) rfl rfl) dNil rfl) rfl) rfl) (by decide)))) sNil)
  (sOne (sRetD (dLstM (dCons (dIx (ix_L hu) (dVar (i := 0) rfl (.inl rfl) rfl rfl) (dOp2 op_modL (dVar (i := 1) rfl (.inl rfl) rfl rfl) (dBlt call_lenL rfl (hB 0 _ rfl) (by decide +kernel) (dCons (dVar (i := 0) rfl (.inl rfl) rfl rfl) dNil rfl) (by decide) rfl rfl rfl)) (fun _ _ => rfl)) (dCons kInt (dCons (dVar (i := 1) rfl (.inl rfl) rfl rfl) dNil rfl) rfl) rfl) (by decide)))))
theorem sc__law_draw : FnScope n__law_draw ["_law_feed_here", "_law_many"] (defScope s__law_draw) := ⟨rfl, rfl, rfl, by decide +kernel, rfl, by decide +kernel, by decide +kernel⟩
theorem ok__law_draw : Body LL BB i__law_draw := by
  intro P w K mg base c n f cdv A outer s H E hF hB hr hgd
  have hu : (A.deeper (PyProof.Rows.envOfC i__law_draw.name (defScope i__law_draw.st) s.heap.objs.size f cdv)).units + 101 < cLine := by have := hr.un; omega
  have hu1 : (A.deeper (PyProof.Rows.envOfC i__law_draw.name (defScope i__law_draw.st) s.heap.objs.size f cdv)).units + 1 < cLine := by have := hr.un; omega
  have ND : n__law_draw.Nodup := sc__law_draw.nd
  exact (sConsD (sPutD hu1 (dOp2 op_addL (dIx (ix_L hu) (dVar (i := 0) rfl (.inl rfl) rfl rfl) kInt (fun _ _ => rfl)) kInt) (dVar (i := 0) rfl (.inl rfl) rfl rfl) kInt rfl (fun _ => rfl) rfl rfl)
  (sConsD (sIfD (bCmp ib_ge op_geL (dIx (ix_L hu) (dVar (i := 0) rfl (.inl rfl) rfl rfl) kInt (fun _ _ => rfl)) (dOp2 op_powL kInt kInt) rfl) (sConsD (sSetD (i := 3) ND rfl (.inl rfl) (dOp2 op_modL (dIx (ix_L hu) (dVar (i := 0) rfl (.inl rfl) rfl rfl) kInt (fun _ _ => rfl)) (dVar (i := 1) rfl (.inl rfl) rfl rfl)) rfl (.inr rfl))
  (sConsD (sPutD hu1 (dOp2 op_fdivL (dIx (ix_L hu) (dVar (i := 0) rfl (.inl rfl) rfl rfl) kInt (fun _ _ => rfl)) (dVar (i := 1) rfl (.inl rfl) rfl rfl)) (dVar (i := 0) rfl (.inl rfl) rfl rfl) kInt rfl (fun _ => rfl) rfl rfl)
  (sOne (sRetD (dVar (i := 3) rfl (.inl rfl) rfl rfl))))) sNil)
  (sConsD (sSetD (i := 2) ND rfl (.inl rfl) (dOp2 op_addL (dOp2 op_addL (dOp2 op_addL (dOp2 op_modL (dIx (ix_L hu) (dVar (i := 0) rfl (.inl rfl) rfl rfl) kInt (fun _ _ => rfl)) kInt) (dOp2 op_mulL kInt (dIx (ix_L hu) (dVar (i := 0) rfl (.inl rfl) rfl rfl) kInt (fun _ _ => rfl)))) (dOp2 op_mulL kInt (dIx (ix_L hu) (dVar (i := 0) rfl (.inl rfl) rfl rfl) kInt (fun _ _ => rfl)))) kInt) rfl (.inr rfl))
  (sConsD (sSetD (i := 2) ND rfl (.inl rfl) (dOp2 op_modL (dOp2 op_mulL (dVar (i := 2) rfl (.inl rfl) rfl rfl) kInt) kInt) rfl (.inr rfl))
  (sConsD (sSetD (i := 2) ND rfl (.inl rfl) (dOp2 op_modL (dOp2 op_mulL (dVar (i := 2) rfl (.inl rfl) rfl rfl) (dOp2 op_addL (dVar (i := 2) rfl (.inl rfl) rfl rfl) kInt)) kInt) rfl (.inr rfl))
  (sOne (sRetD (dOp2 op_modL (dOp2 op_fdivL (dOp2 op_modL (dOp2 op_mulL (dOp2 op_modL (dOp2 op_addL (dOp2 op_mulL (dVar (i := 2) rfl (.inl rfl) rfl rfl) kInt) (dIx (ix_L hu) (dVar (i := 0) rfl (.inl rfl) rfl rfl) kInt (fun _ _ => rfl))) kInt) kInt) kInt) kInt) (dVar (i := 1) rfl (.inl rfl) rfl rfl)))))))))
theorem sc__law_names : FnScope n__law_names ["_law_feed_here", "_law_many"] (defScope s__law_names) := ⟨rfl, rfl, rfl, by decide +kernel, rfl, by decide +kernel, by decide +kernel⟩
theorem ok__law_names : Body LL BB i__law_names := by
  intro P w K mg base c n f cdv A outer s H E hF hB hr hgd
  have hu : (A.deeper (PyProof.Rows.envOfC i__law_names.name (defScope i__law_names.st) s.heap.objs.size f cdv)).units + 101 < cLine := by have := hr.un; omega
  have hu1 : (A.deeper (PyProof.Rows.envOfC i__law_names.name (defScope i__law_names.st) s.heap.objs.size f cdv)).units + 1 < cLine := by have := hr.un; omega
  have ND : n__law_names.Nodup := sc__law_names.nd
  exact (sConsD (sSetD (i := 2) ND rfl (.inr rfl) (dLst (dCons kStr (dCons kStr (dCons kStr (dCons kStr (dCons kStr (dCons kStr (dCons kStr (dCons kStr (dCons kStr (dCons kStr (dCons kStr (dCons kStr dNil rfl) rfl) rfl) rfl) rfl) rfl) rfl) rfl) rfl) rfl) rfl) rfl) (by decide)) rfl (.inl rfl))
  (sConsD (sSetD (i := 3) ND rfl (.inr rfl) (dCall (hF 5 _ rfl) hr hgd rfl cx_takes (dCons (dVar (i := 0) rfl (.inl rfl) rfl rfl) (dCons kInt dNil rfl) rfl) rfl rfl rfl rfl) rfl (.inl rfl))
  (sConsD (sSetD (i := 4) ND rfl (.inr rfl) (dIx (ix_L hu) (dLst (dCons kInt (dCons kInt (dCons kInt (dCons kInt dNil rfl) rfl) rfl) rfl) (by decide)) (dCall (hF 5 _ rfl) hr hgd rfl cx_takes (dCons (dVar (i := 0) rfl (.inl rfl) rfl rfl) (dCons kInt dNil rfl) rfl) rfl rfl rfl rfl) (fun _ _ => rfl)) rfl (.inl rfl))
  (sOne (sRetD (dCompV (own := [("_law_j", 5)]) (is := [5]) rfl rfl ND (iRange1d rfl (hB 1 _ rfl) (dVar (i := 1) rfl (.inl rfl) rfl rfl) rfl) (blkOk_by (N := n__law_names) (sc := defScope s__law_names) (by decide +kernel)) (by decide) (fun _ _ _ _ _ => (gNmd (i := 5) ND rfl (.inl rfl) (.inr rfl))) (fun _ _ _ _ _ => dPtsNil) (fun _ _ _ _ _ => (dIx (ix_L hu) (dVar (i := 2) rfl (.inr (.inl rfl)) rfl rfl) (dOp2 op_modL (dOp2 op_addL (dVar (i := 3) rfl (.inr (.inl rfl)) rfl rfl) (dOp2 op_mulL (dVar (i := 4) rfl (.inr (.inl rfl)) rfl rfl) (dVar (i := 5) rfl (.inl rfl) rfl rfl))) kInt) (fun _ _ => rfl))) (fun _ => rfl)))))))
theorem sc__law_signs : FnScope n__law_signs ["_law_feed_here"] (defScope s__law_signs) := ⟨rfl, rfl, rfl, by decide +kernel, rfl, by decide +kernel, by decide +kernel⟩
theorem ok__law_signs : Body LL BB i__law_signs := by
  intro P w K mg base c n f cdv A outer s H E hF hB hr hgd
  have hu : (A.deeper (PyProof.Rows.envOfC i__law_signs.name (defScope i__law_signs.st) s.heap.objs.size f cdv)).units + 101 < cLine := by have := hr.un; omega
  have hu1 : (A.deeper (PyProof.Rows.envOfC i__law_signs.name (defScope i__law_signs.st) s.heap.objs.size f cdv)).units + 1 < cLine := by have := hr.un; omega
  have ND : n__law_signs.Nodup := sc__law_signs.nd
  exact (sConsD (sSetD (i := 1) ND rfl (.inr rfl) (dCall (hF 6 _ rfl) hr hgd rfl cx_takes (dCons (dVar (i := 0) rfl (.inr (.inl rfl)) rfl rfl) (dCons (dOp2 op_addL kInt (dCall (hF 5 _ rfl) hr hgd rfl cx_takes (dCons (dVar (i := 0) rfl (.inr (.inl rfl)) rfl rfl) (dCons kInt dNil rfl) rfl) rfl rfl rfl rfl)) dNil rfl) rfl) rfl rfl rfl rfl) rfl (.inl rfl))
  (sConsD (sSetD (i := 2) ND rfl (.inr rfl) (dCompVM (own := [("_law_name", 3)]) (is := [3]) rfl rfl ND (iVald (dVar (i := 1) rfl (.inr (.inl rfl)) rfl rfl)) (blkOk_by (N := n__law_signs) (sc := defScope s__law_signs) (by decide +kernel)) (by decide) (fun _ _ _ _ _ => (gNmd (i := 3) ND rfl (.inl rfl) (.inr rfl))) (fun _ _ _ _ _ => dPtsNil) (fun _ _ _ _ _ => (dIx (ix_L hu) (dLst (dCons kInt (dCons kInt (dCons kInt (dCons kInt (dCons kInt (dCons kInt dNil rfl) rfl) rfl) rfl) rfl) rfl) (by decide)) (dCall (hF 5 _ rfl) hr hgd rfl takes0 (dCons (dVar (i := 0) rfl (.inr (.inl rfl)) rfl rfl) (dCons kInt dNil rfl) rfl) rfl rfl rfl rfl) (fun _ _ => rfl))) (fun _ => rfl)) rfl (.inl rfl))
  (sConsD (sPutD hu1 kInt (dVar (i := 2) rfl (.inr (.inl rfl)) rfl rfl) (dCall (hF 5 _ rfl) hr hgd rfl cx_takes (dCons (dVar (i := 0) rfl (.inr (.inl rfl)) rfl rfl) (dCons (dBlt call_lenL rfl (hB 0 _ rfl) (by decide +kernel) (dCons (dVar (i := 1) rfl (.inr (.inl rfl)) rfl rfl) dNil rfl) (by decide) rfl rfl rfl) dNil rfl) rfl) rfl rfl rfl rfl) rfl (fun _ => rfl) rfl rfl)
  (sOne (sRetD (dTy call_tupleL rfl (hB 5 _ rfl) (by decide +kernel) (dCons (dCompV (own := [("_law_k", 4)]) (is := [4]) rfl rfl ND (iRange1d rfl (hB 1 _ rfl) (dBlt call_lenL rfl (hB 0 _ rfl) (by decide +kernel) (dCons (dVar (i := 1) rfl (.inr (.inl rfl)) rfl rfl) dNil rfl) (by decide) rfl rfl rfl) rfl) (blkOk_by (N := n__law_signs) (sc := defScope s__law_signs) (by decide +kernel)) (by decide) (fun _ _ _ _ _ => (gNmd (i := 4) ND rfl (.inl rfl) (.inr rfl))) (fun _ _ _ _ _ => dPtsNil) (fun _ _ _ _ _ => (dTup (dCons (dIx (ix_L hu) (dVar (i := 1) rfl (.inr (.inl rfl)) rfl rfl) (dVar (i := 4) rfl (.inl rfl) rfl rfl) (fun _ _ => rfl)) (dCons (dIx (ix_L hu) (dVar (i := 2) rfl (.inr (.inl rfl)) rfl rfl) (dVar (i := 4) rfl (.inl rfl) rfl rfl) (fun _ _ => rfl)) dNil rfl) rfl) (by decide))) (fun _ => rfl)) dNil rfl) (by decide) rfl rfl rfl))))))
theorem sc__law_table : FnScope n__law_table ["_law_feed_here", "_law_signs_here", "_law_most"] (defScope s__law_table) := ⟨rfl, rfl, rfl, by decide +kernel, rfl, by decide +kernel, by decide +kernel⟩
theorem ok__law_table : Body LL BB i__law_table := by
  intro P w K mg base c n f cdv A outer s H E hF hB hr hgd
  have hu : (A.deeper (PyProof.Rows.envOfC i__law_table.name (defScope i__law_table.st) s.heap.objs.size f cdv)).units + 101 < cLine := by have := hr.un; omega
  have hu1 : (A.deeper (PyProof.Rows.envOfC i__law_table.name (defScope i__law_table.st) s.heap.objs.size f cdv)).units + 1 < cLine := by have := hr.un; omega
  have ND : n__law_table.Nodup := sc__law_table.nd
  exact (sConsD (sSetD (i := 3) ND rfl (.inr rfl) (dCall (hF 6 _ rfl) hr hgd rfl cx_takes (dCons (dVar (i := 0) rfl (.inr (.inl rfl)) rfl rfl) (dCons (dOp2 op_addL kInt (dCall (hF 5 _ rfl) hr hgd rfl cx_takes (dCons (dVar (i := 0) rfl (.inr (.inl rfl)) rfl rfl) (dCons (dVar (i := 2) rfl (.inl rfl) rfl rfl) dNil rfl) rfl) rfl rfl rfl rfl)) dNil rfl) rfl) rfl rfl rfl rfl) rfl (.inl rfl))
  (sConsD (sSetD (i := 4) ND rfl (.inl rfl) (dLstM dNil (by decide)) rfl (.inr rfl))
  (sConsD (sForD (is := [5]) cx_passes rfl (iVald (dVar (i := 3) rfl (.inr (.inl rfl)) rfl rfl)) (gNmd (i := 5) ND rfl (.inl rfl) (.inr rfl)) (sConsD (sSetD (i := 6) ND rfl (.inl rfl) (dLstM dNil (by decide)) rfl (.inr rfl))
  (sConsD (sForD (is := [7, 8]) cx_passes rfl (iVald (dVar (i := 1) rfl (.inl rfl) rfl rfl)) (gTpd rfl (gConsD (i := 7) ND rfl (.inl rfl) (.inr rfl) (gConsD (i := 8) ND rfl (.inl rfl) (.inr rfl) gNilD)) rfl rfl) (sOne (sForD (is := [9]) cx_passes rfl (iRange1d rfl (hB 1 _ rfl) (dIx (ix_L hu) (dLst (dCons kInt (dCons kInt (dCons kInt (dCons kInt dNil rfl) rfl) rfl) rfl) (by decide)) (dCall (hF 5 _ rfl) hr hgd rfl cx_takes (dCons (dVar (i := 0) rfl (.inr (.inl rfl)) rfl rfl) (dCons kInt dNil rfl) rfl) rfl rfl rfl rfl) (fun _ _ => rfl)) rfl) (gNmd (i := 9) ND rfl (.inl rfl) (.inr rfl)) (sConsD (sSetD (i := 10) ND rfl (.inl rfl) (dOp2 op_addL (dTup (dCons (dVar (i := 7) rfl (.inl rfl) rfl rfl) dNil rfl) (by decide)) (dTy call_tupleL rfl (hB 5 _ rfl) (by decide +kernel) (dCons (dCompV (own := [("_law_n", 11)]) (is := [11]) rfl rfl ND (iRange1d rfl (hB 1 _ rfl) (dVar (i := 8) rfl (.inl rfl) rfl rfl) rfl) (blkOk_by (N := n__law_table) (sc := defScope s__law_table) (by decide +kernel)) (by decide) (fun _ _ _ _ _ => (gNmd (i := 11) ND rfl (.inl rfl) (.inr rfl))) (fun _ _ _ _ _ => dPtsNil) (fun _ _ _ _ _ => (dIx (ix_L hu) (dVar (i := 3) rfl (.inr (.inl rfl)) rfl rfl) (dCall (hF 5 _ rfl) hr hgd rfl takes0 (dCons (dVar (i := 0) rfl (.inr (.inl rfl)) rfl rfl) (dCons (dBlt call_lenL rfl (hB 0 _ rfl) (by decide +kernel) (dCons (dVar (i := 3) rfl (.inr (.inl rfl)) rfl rfl) dNil rfl) (by decide) rfl rfl rfl) dNil rfl) rfl) rfl rfl rfl rfl) (fun _ _ => rfl))) (fun _ => rfl)) dNil rfl) (by decide) rfl rfl rfl)) rfl (.inr rfl))
  (sOne (sIfD (bCmp ib_nin (op_ninL hu) (dVar (i := 10) rfl (.inl rfl) rfl rfl) (dVar (i := 6) rfl (.inl rfl) rfl rfl) rfl) (sOne (sExprD (dLm F.slot_list_insert F.type_list_insert mt_insertL (dVar (i := 6) rfl (.inl rfl) rfl rfl) (dCons (dCall (hF 5 _ rfl) hr hgd rfl cx_takes (dCons (dVar (i := 0) rfl (.inr (.inl rfl)) rfl rfl) (dCons (dOp2 op_addL (dBlt call_lenL rfl (hB 0 _ rfl) (by decide +kernel) (dCons (dVar (i := 6) rfl (.inl rfl) rfl rfl) dNil rfl) (by decide) rfl rfl rfl) kInt) dNil rfl) rfl) rfl rfl rfl rfl) (dCons (dVar (i := 10) rfl (.inl rfl) rfl rfl) dNil rfl) rfl) rfl rfl rfl rfl rfl) rfl)) sNil))) (fun _ => rfl))) (fun _ => rfl))
  (sOne (sExprD (dLm F.slot_list_append F.type_list_append mt_appendL (dVar (i := 4) rfl (.inl rfl) rfl rfl) (dCons (dTup (dCons (dVar (i := 5) rfl (.inl rfl) rfl rfl) (dCons (dTy call_tupleL rfl (hB 5 _ rfl) (by decide +kernel) (dCons (dSlice (dVar (i := 6) rfl (.inl rfl) rfl rfl) dONone (dOSome kInt)) dNil rfl) (by decide) rfl rfl rfl) dNil rfl) rfl) (by decide)) dNil rfl) rfl rfl rfl rfl rfl) rfl)))) (fun _ => rfl))
  (sOne (sRetD (dTy call_tupleL rfl (hB 5 _ rfl) (by decide +kernel) (dCons (dVar (i := 4) rfl (.inl rfl) rfl rfl) dNil rfl) (by decide) rfl rfl rfl))))))
theorem sc__law_tree : FnScope n__law_tree ["_law_feed_here", "_law_signs_here", "_law_deep"] (defScope s__law_tree) := ⟨rfl, rfl, rfl, by decide +kernel, rfl, by decide +kernel, by decide +kernel⟩
theorem ok__law_tree : Body LL BB i__law_tree := by
  intro P w K mg base c n f cdv A outer s H E hF hB hr hgd
  have hu : (A.deeper (PyProof.Rows.envOfC i__law_tree.name (defScope i__law_tree.st) s.heap.objs.size f cdv)).units + 101 < cLine := by have := hr.un; omega
  have hu1 : (A.deeper (PyProof.Rows.envOfC i__law_tree.name (defScope i__law_tree.st) s.heap.objs.size f cdv)).units + 1 < cLine := by have := hr.un; omega
  have ND : n__law_tree.Nodup := sc__law_tree.nd
  exact (sConsD (sSetV (own := [("_law_name", 4), ("_law_many", 5)]) (i := 3) (is := [4, 5]) rfl rfl ND rfl rfl (sw_true rfl rfl rfl (by decide +kernel)) (iVald (dVar (i := 1) rfl (.inr (.inl rfl)) rfl rfl)) (blkOk_by (N := n__law_tree) (sc := defScope s__law_tree) (by decide +kernel)) (by decide) (fun _ _ _ _ _ => (gTpd rfl (gConsD (i := 4) ND rfl (.inl rfl) (.inr rfl) (gConsD (i := 5) ND rfl (.inl rfl) (.inr rfl) gNilD)) rfl rfl)) (fun _ _ _ _ _ => (dPtsOne (bCmp ib_eq (op_eqL hu) (dVar (i := 5) rfl (.inl rfl) rfl rfl) kInt rfl))) (fun _ _ _ _ _ => (dVar (i := 4) rfl (.inl rfl) rfl rfl)) (fun _ => rfl))
  (sConsD (sAsgD (is := [4, 5]) (dIx (ix_L hu) (dVar (i := 1) rfl (.inr (.inl rfl)) rfl rfl) (dCall (hF 5 _ rfl) hr hgd rfl cx_takes (dCons (dVar (i := 0) rfl (.inr (.inl rfl)) rfl rfl) (dCons (dBlt call_lenL rfl (hB 0 _ rfl) (by decide +kernel) (dCons (dVar (i := 1) rfl (.inr (.inl rfl)) rfl rfl) dNil rfl) (by decide) rfl rfl rfl) dNil rfl) rfl) rfl rfl rfl rfl) (fun _ _ => rfl)) (gTpd rfl (gConsD (i := 4) ND rfl (.inl rfl) (.inr rfl) (gConsD (i := 5) ND rfl (.inl rfl) (.inr rfl) gNilD)) rfl rfl) rfl rfl rfl)
  (sConsD (sIfD (bCmp ib_eq (op_eqL hu) (dVar (i := 2) rfl (.inr (.inl rfl)) rfl rfl) kInt rfl) (sOne (sRetD (dTup (dCons (dIx (ix_L hu) (dVar (i := 3) rfl (.inl rfl) rfl rfl) (dCall (hF 5 _ rfl) hr hgd rfl cx_takes (dCons (dVar (i := 0) rfl (.inr (.inl rfl)) rfl rfl) (dCons (dBlt call_lenL rfl (hB 0 _ rfl) (by decide +kernel) (dCons (dVar (i := 3) rfl (.inl rfl) rfl rfl) dNil rfl) (by decide) rfl rfl rfl) dNil rfl) rfl) rfl rfl rfl rfl) (fun _ _ => rfl)) dNil rfl) (by decide)))) sNil)
  (sOne (sRetD (dOp2 op_addL (dTup (dCons (dVar (i := 4) rfl (.inl rfl) rfl rfl) dNil rfl) (by decide)) (dTy call_tupleL rfl (hB 5 _ rfl) (by decide +kernel) (dCons (dCompV (own := [("_law_k", 6)]) (is := [6]) rfl rfl ND (iRange1d rfl (hB 1 _ rfl) (dVar (i := 5) rfl (.inl rfl) rfl rfl) rfl) (blkOk_by (N := n__law_tree) (sc := defScope s__law_tree) (by decide +kernel)) (by decide) (fun _ _ _ _ _ => (gNmd (i := 6) ND rfl (.inl rfl) (.inr rfl))) (fun _ _ _ _ _ => dPtsNil) (fun _ _ _ _ _ => (dCall (hF 9 _ rfl) hr hgd rfl takes0 (dCons (dVar (i := 0) rfl (.inr (.inl rfl)) rfl rfl) (dCons (dVar (i := 1) rfl (.inr (.inl rfl)) rfl rfl) (dCons (dOp2 op_subL (dVar (i := 2) rfl (.inr (.inl rfl)) rfl rfl) kInt) dNil rfl) rfl) rfl) rfl rfl rfl rfl)) (fun _ => rfl)) dNil rfl) (by decide) rfl rfl rfl)))))))
theorem sc__law_rows_of : FnScope n__law_rows_of ["_law_table_here", "_law_sort", "_law_name"] (defScope s__law_rows_of) := ⟨rfl, rfl, rfl, by decide +kernel, rfl, by decide +kernel, by decide +kernel⟩
theorem ok__law_rows_of : Body LL BB i__law_rows_of := by
  intro P w K mg base c n f cdv A outer s H E hF hB hr hgd
  have hu : (A.deeper (PyProof.Rows.envOfC i__law_rows_of.name (defScope i__law_rows_of.st) s.heap.objs.size f cdv)).units + 101 < cLine := by have := hr.un; omega
  have hu1 : (A.deeper (PyProof.Rows.envOfC i__law_rows_of.name (defScope i__law_rows_of.st) s.heap.objs.size f cdv)).units + 1 < cLine := by have := hr.un; omega
  have ND : n__law_rows_of.Nodup := sc__law_rows_of.nd
  exact (sOne (sRetD (dCompV (own := [("_law_row", 3)]) (is := [3]) rfl rfl ND (iVald (dIx (ix_L hu) (dTy (call_dictL rfl) rfl (hB 4 _ rfl) (by decide +kernel) (dCons (dVar (i := 0) rfl (.inl rfl) rfl rfl) dNil rfl) (by decide) rfl rfl rfl) (dVar (i := 1) rfl (.inl rfl) rfl rfl) (fun _ _ => rfl))) (blkOk_by (N := n__law_rows_of) (sc := defScope s__law_rows_of) (by decide +kernel)) (by decide) (fun _ _ _ _ _ => (gNmd (i := 3) ND rfl (.inl rfl) (.inr rfl))) (fun _ _ _ _ _ => (dPtsOne (bCmp ib_eq (op_eqL hu) (dIx (ix_L hu) (dVar (i := 3) rfl (.inl rfl) rfl rfl) kInt (fun _ _ => rfl)) (dVar (i := 2) rfl (.inr (.inl rfl)) rfl rfl) rfl))) (fun _ _ _ _ _ => (dVar (i := 3) rfl (.inl rfl) rfl rfl)) (fun _ => rfl))))
theorem sc__law_within : FnScope n__law_within ["_law_table_here"] (defScope s__law_within) := ⟨rfl, rfl, rfl, by decide +kernel, rfl, by decide +kernel, by decide +kernel⟩
theorem ok__law_within : Body LL BB i__law_within := by
  intro P w K mg base c n f cdv A outer s H E hF hB hr hgd
  have hu : (A.deeper (PyProof.Rows.envOfC i__law_within.name (defScope i__law_within.st) s.heap.objs.size f cdv)).units + 101 < cLine := by have := hr.un; omega
  have hu1 : (A.deeper (PyProof.Rows.envOfC i__law_within.name (defScope i__law_within.st) s.heap.objs.size f cdv)).units + 1 < cLine := by have := hr.un; omega
  have ND : n__law_within.Nodup := sc__law_within.nd
  exact (sConsD (sSetV (own := [("_law_sort", 5), ("_law_rows", 6)]) (i := 1) (is := [5, 6]) rfl rfl ND rfl rfl (sw_true rfl rfl rfl (by decide +kernel)) (iVald (dVar (i := 0) rfl (.inr (.inl rfl)) rfl rfl)) (blkOk_by (N := n__law_within) (sc := defScope s__law_within) (by decide +kernel)) (by decide) (fun _ _ _ _ _ => (gTpd rfl (gConsD (i := 5) ND rfl (.inl rfl) (.inr rfl) (gConsD (i := 6) ND rfl (.inl rfl) (.inr rfl) gNilD)) rfl rfl)) (fun _ _ _ _ _ => dPtsNil) (fun _ _ _ _ _ => (dVar (i := 5) rfl (.inl rfl) rfl rfl)) (fun _ => rfl))
  (sConsD (sSetD (i := 2) ND rfl (.inr rfl) (dLstM dNil (by decide)) rfl (.inl rfl))
  (sConsD (sForD (is := [3]) cx_passes rfl (iVald (dVar (i := 1) rfl (.inl rfl) rfl rfl)) (gNmd (i := 3) ND rfl (.inr rfl) (.inl rfl)) (sOne (sExprD (dLm F.slot_list_extend F.type_list_extend mt_extendL (dVar (i := 2) rfl (.inr (.inl rfl)) rfl rfl) (dCons (dCompV (own := [("_law_other", 8)]) (is := [8]) rfl rfl ND (iVald (dVar (i := 1) rfl (.inl rfl) rfl rfl)) (blkOk_by (N := n__law_within) (sc := defScope s__law_within) (by decide +kernel)) (by decide) (fun _ _ _ _ _ => (gNmd (i := 8) ND rfl (.inl rfl) (.inr rfl))) (fun _ _ _ _ _ => dPtsNil) (fun _ _ _ _ _ => (dTup (dCons (dVar (i := 3) rfl (.inr (.inl rfl)) rfl rfl) (dCons (dVar (i := 8) rfl (.inl rfl) rfl rfl) dNil rfl) rfl) (by decide))) (fun _ => rfl)) dNil rfl) rfl rfl rfl rfl rfl) rfl)) (fun _ => rfl))
  (sConsD (sSetD (i := 4) ND rfl (.inl rfl) (dOp2 op_addL (dBlt call_lenL rfl (hB 0 _ rfl) (by decide +kernel) (dCons (dVar (i := 2) rfl (.inr (.inl rfl)) rfl rfl) dNil rfl) (by decide) rfl rfl rfl) kInt) rfl (.inr rfl))
  (sConsD (sWhileD cx_passes (bCmp ib_lt op_ltL (dBlt call_lenL rfl (hB 0 _ rfl) (by decide +kernel) (dCons (dVar (i := 2) rfl (.inr (.inl rfl)) rfl rfl) dNil rfl) (by decide) rfl rfl rfl) (dVar (i := 4) rfl (.inl rfl) rfl rfl) rfl) (sConsD (sSetD (i := 4) ND rfl (.inl rfl) (dBlt call_lenL rfl (hB 0 _ rfl) (by decide +kernel) (dCons (dVar (i := 2) rfl (.inr (.inl rfl)) rfl rfl) dNil rfl) (by decide) rfl rfl rfl) rfl (.inr rfl))
  (sOne (sSetD (i := 2) ND rfl (.inr rfl) (dCompVM (own := [("_law_pair", 7)]) (is := [7]) rfl rfl ND (iVald (dVar (i := 2) rfl (.inr (.inl rfl)) rfl rfl)) (blkOk_by (N := n__law_within) (sc := defScope s__law_within) (by decide +kernel)) (by decide) (fun _ _ _ _ _ => (gNmd (i := 7) ND rfl (.inl rfl) (.inr rfl))) (fun _ _ _ _ _ => (dPtsOne (bVal (dCall (hF 12 _ rfl) hr hgd rfl takes0 (dCons (dVar (i := 0) rfl (.inr (.inl rfl)) rfl rfl) (dCons (dVar (i := 2) rfl (.inr (.inl rfl)) rfl rfl) (dCons (dVar (i := 7) rfl (.inl rfl) rfl rfl) dNil rfl) rfl) rfl) rfl rfl rfl rfl) (fun _ => rfl)))) (fun _ _ _ _ _ => (dVar (i := 7) rfl (.inl rfl) rfl rfl)) (fun _ => rfl)) rfl (.inl rfl)))))
  (sOne (sRetD (dVar (i := 2) rfl (.inr (.inl rfl)) rfl rfl))))))))
theorem sc__law_has_rows : FnScope n__law_has_rows ["_law_table_here", "_law_pairs", "_law_pair"] (defScope s__law_has_rows) := ⟨rfl, rfl, rfl, by decide +kernel, rfl, by decide +kernel, by decide +kernel⟩
theorem ok__law_has_rows : Body LL BB i__law_has_rows := by
  intro P w K mg base c n f cdv A outer s H E hF hB hr hgd
  have hu : (A.deeper (PyProof.Rows.envOfC i__law_has_rows.name (defScope i__law_has_rows.st) s.heap.objs.size f cdv)).units + 101 < cLine := by have := hr.un; omega
  have hu1 : (A.deeper (PyProof.Rows.envOfC i__law_has_rows.name (defScope i__law_has_rows.st) s.heap.objs.size f cdv)).units + 1 < cLine := by have := hr.un; omega
  have ND : n__law_has_rows.Nodup := sc__law_has_rows.nd
  exact (sConsD (sForD (is := [3]) cx_passes rfl (iVald (dIx (ix_L hu) (dTy (call_dictL rfl) rfl (hB 4 _ rfl) (by decide +kernel) (dCons (dVar (i := 0) rfl (.inl rfl) rfl rfl) dNil rfl) (by decide) rfl rfl rfl) (dIx (ix_L hu) (dVar (i := 2) rfl (.inl rfl) rfl rfl) kInt (fun _ _ => rfl)) (fun _ _ => rfl))) (gNmd (i := 3) ND rfl (.inr rfl) (.inl rfl)) (sConsD (sSetD (i := 4) ND rfl (.inl rfl) (dLstM dNil (by decide)) rfl (.inr rfl))
  (sConsD (sForD (is := [5]) cx_passes rfl (iVald (dCall (hF 10 _ rfl) hr hgd rfl cx_takes (dCons (dVar (i := 0) rfl (.inl rfl) rfl rfl) (dCons (dIx (ix_L hu) (dVar (i := 2) rfl (.inl rfl) rfl rfl) kInt (fun _ _ => rfl)) (dCons (dIx (ix_L hu) (dVar (i := 3) rfl (.inr (.inl rfl)) rfl rfl) kInt (fun _ _ => rfl)) dNil rfl) rfl) rfl) rfl rfl rfl rfl)) (gNmd (i := 5) ND rfl (.inr rfl) (.inl rfl)) (sOne (sExprD (dLm F.slot_list_append F.type_list_append mt_appendL (dVar (i := 4) rfl (.inl rfl) rfl rfl) (dCons (dCmp (op_ninL hu) kBl (dCompV (own := [("_law_k", 6)]) (is := [6]) rfl rfl ND (iRange2d rfl (hB 1 _ rfl) kInt (dBlt call_lenL rfl (hB 0 _ rfl) (by decide +kernel) (dCons (dVar (i := 3) rfl (.inr (.inl rfl)) rfl rfl) dNil rfl) (by decide) rfl rfl rfl) rfl rfl) (blkOk_by (N := n__law_has_rows) (sc := defScope s__law_has_rows) (by decide +kernel)) (by decide) (fun _ _ _ _ _ => (gNmd (i := 6) ND rfl (.inl rfl) (.inr rfl))) (fun _ _ _ _ _ => dPtsNil) (fun _ _ _ _ _ => (dCmp (op_inL hu) (dTup (dCons (dIx (ix_L hu) (dVar (i := 3) rfl (.inr (.inl rfl)) rfl rfl) (dVar (i := 6) rfl (.inl rfl) rfl rfl) (fun _ _ => rfl)) (dCons (dIx (ix_L hu) (dVar (i := 5) rfl (.inr (.inl rfl)) rfl rfl) (dVar (i := 6) rfl (.inl rfl) rfl rfl) (fun _ _ => rfl)) dNil rfl) rfl) (by decide)) (dVar (i := 1) rfl (.inr (.inl rfl)) rfl rfl) rfl)) (fun _ => rfl)) rfl) dNil rfl) rfl rfl rfl rfl rfl) rfl)) (fun _ => rfl))
  (sOne (sIfD (bCmp ib_nin (op_ninL hu) kBl (dVar (i := 4) rfl (.inl rfl) rfl rfl) rfl) (sOne (sRetD kBl)) sNil)))) (fun _ => rfl))
  (sOne (sRetD kBl)))
theorem sc_law : FnScope n_law ["_law_script"] (defScope s_law) := ⟨rfl, rfl, rfl, by decide +kernel, rfl, by decide +kernel, by decide +kernel⟩
theorem ok_law : Body LL BB i_law := by
  intro P w K mg base c n f cdv A outer s H E hF hB hr hgd
  have hu : (A.deeper (PyProof.Rows.envOfC i_law.name (defScope i_law.st) s.heap.objs.size f cdv)).units + 101 < cLine := by have := hr.un; omega
  have hu1 : (A.deeper (PyProof.Rows.envOfC i_law.name (defScope i_law.st) s.heap.objs.size f cdv)).units + 1 < cLine := by have := hr.un; omega
  have ND : n_law.Nodup := sc_law.nd
  exact (sConsD (sForD (is := [1]) cx_passes rfl (iRange1d rfl (hB 1 _ rfl) kInt rfl) (gNmd (i := 1) ND rfl (.inl rfl) (.inr rfl)) (sConsD (sSetD (i := 2) ND rfl (.inl rfl) (dCallM (hF 4 _ rfl) hr hgd rfl cx_takes (dCons (dVar (i := 0) rfl (.inl rfl) rfl rfl) (dCons (dVar (i := 1) rfl (.inl rfl) rfl rfl) dNil rfl) rfl) rfl rfl rfl rfl) rfl (.inr rfl))
  (sConsD (sSetD (i := 3) ND rfl (.inl rfl) (dCall (hF 7 _ rfl) hr hgd rfl cx_takes (dCons (dVar (i := 2) rfl (.inl rfl) rfl rfl) dNil rfl) rfl rfl rfl rfl) rfl (.inr rfl))
  (sConsD (sSetD (i := 4) ND rfl (.inl rfl) (dCall (hF 8 _ rfl) hr hgd rfl cx_takes (dCons (dVar (i := 2) rfl (.inl rfl) rfl rfl) (dCons (dVar (i := 3) rfl (.inl rfl) rfl rfl) (dCons kInt dNil rfl) rfl) rfl) rfl rfl rfl rfl) rfl (.inr rfl))
  (sOne (sForD (is := [5]) cx_passes rfl (iRange1d rfl (hB 1 _ rfl) kInt rfl) (gNmd (i := 5) ND rfl (.inl rfl) (.inr rfl)) (sConsD (sSetD (i := 6) ND rfl (.inl rfl) (dCallM (hF 3 _ rfl) hr hgd rfl cx_takes (dCons (dVar (i := 4) rfl (.inl rfl) rfl rfl) dNil rfl) rfl rfl rfl rfl) rfl (.inr rfl))
  (sConsD (sIfD (PW.pt (bOrD (bNotD (bVal (dIsi (k := .list) rfl (hB 6 _ rfl) rfl (hB 7 _ rfl) (by decide +kernel) (dVar (i := 6) rfl (.inl rfl) rfl rfl) (by decide) rfl rfl) (fun _ => rfl))) (bOr1 (bCmp ib_ne (op_neL hu) (dVar (i := 6) rfl (.inl rfl) rfl rfl) (dCall (hF 11 _ rfl) hr hgd rfl cx_takes (dCons (dVar (i := 4) rfl (.inl rfl) rfl rfl) dNil rfl) rfl rfl rfl rfl) rfl)))) (sOne (sRetD kBl)) sNil)
  (sConsD (sForD (is := [7, 8]) cx_passes rfl (iVald (dVar (i := 6) rfl (.inl rfl) rfl rfl)) (gTpd rfl (gConsD (i := 7) ND rfl (.inl rfl) (.inr rfl) (gConsD (i := 8) ND rfl (.inl rfl) (.inr rfl) gNilD)) rfl rfl) (sConsD (sSetD (i := 9) ND rfl (.inl rfl) (dCall (hF 9 _ rfl) hr hgd rfl cx_takes (dCons (dVar (i := 2) rfl (.inl rfl) rfl rfl) (dCons (dVar (i := 3) rfl (.inl rfl) rfl rfl) (dCons kInt dNil rfl) rfl) rfl) rfl rfl rfl rfl) rfl (.inr rfl))
  (sOne (sIfD (PW.pt (bAndD (bVal (dCall (hF 1 _ rfl) hr hgd rfl cx_takes (dCons (dVar (i := 4) rfl (.inl rfl) rfl rfl) (dCons (dVar (i := 9) rfl (.inl rfl) rfl rfl) (dCons (dVar (i := 7) rfl (.inl rfl) rfl rfl) dNil rfl) rfl) rfl) rfl rfl rfl rfl) (fun _ => rfl)) (bAnd1 (bNotD (bVal (dCall (hF 1 _ rfl) hr hgd rfl cx_takes (dCons (dVar (i := 4) rfl (.inl rfl) rfl rfl) (dCons (dVar (i := 9) rfl (.inl rfl) rfl rfl) (dCons (dVar (i := 8) rfl (.inl rfl) rfl rfl) dNil rfl) rfl) rfl) rfl rfl rfl rfl) (fun _ => rfl)))))) (sOne (sRetD kBl)) sNil))) (fun _ => rfl))
  (sOne (sExprD (dLm0 F.slot_list_clear F.type_list_clear mt_clearL (dVar (i := 6) rfl (.inl rfl) rfl rfl) rfl rfl) rfl))))) (fun _ => rfl)))))) (fun _ => rfl))
  (sOne (sRetD kBl)))
end RP
end
section
set_option Elab.async false
set_option linter.all false
set_option maxRecDepth 100000
set_option maxHeartbeats 4000000
namespace RP
open PySem L2
def d_sorts_of : He.DefD := ⟨("sorts_of", none), "sorts_of", "sorts_of", defArgs s_sorts_of, defBody s_sorts_of, defScope s_sorts_of, [], []⟩
def d_is_of : He.DefD := ⟨("is_of", none), "is_of", "is_of", defArgs s_is_of, defBody s_is_of, defScope s_is_of, [], []⟩
def d_has_row_for : He.DefD := ⟨("has_row_for", none), "has_row_for", "has_row_for", defArgs s_has_row_for, defBody s_has_row_for, defScope s_has_row_for, [], []⟩
def d_withins : He.DefD := ⟨("withins", none), "withins", "withins", defArgs s_withins, defBody s_withins, defScope s_withins, [], []⟩
def d__law_feed : He.DefD := ⟨("_law_feed", none), "_law_feed", "_law_feed", defArgs s__law_feed, defBody s__law_feed, defScope s__law_feed, [], []⟩
def d__law_draw : He.DefD := ⟨("_law_draw", none), "_law_draw", "_law_draw", defArgs s__law_draw, defBody s__law_draw, defScope s__law_draw, [], []⟩
def d__law_names : He.DefD := ⟨("_law_names", none), "_law_names", "_law_names", defArgs s__law_names, defBody s__law_names, defScope s__law_names, [], []⟩
def d__law_signs : He.DefD := ⟨("_law_signs", none), "_law_signs", "_law_signs", defArgs s__law_signs, defBody s__law_signs, defScope s__law_signs, [], []⟩
def d__law_table : He.DefD := ⟨("_law_table", none), "_law_table", "_law_table", defArgs s__law_table, defBody s__law_table, defScope s__law_table, [], []⟩
def d__law_tree : He.DefD := ⟨("_law_tree", none), "_law_tree", "_law_tree", defArgs s__law_tree, defBody s__law_tree, defScope s__law_tree, [], []⟩
def d__law_rows_of : He.DefD := ⟨("_law_rows_of", none), "_law_rows_of", "_law_rows_of", defArgs s__law_rows_of, defBody s__law_rows_of, defScope s__law_rows_of, [], []⟩
def d__law_within : He.DefD := ⟨("_law_within", none), "_law_within", "_law_within", defArgs s__law_within, defBody s__law_within, defScope s__law_within, [], []⟩
def d__law_has_rows : He.DefD := ⟨("_law_has_rows", none), "_law_has_rows", "_law_has_rows", defArgs s__law_has_rows, defBody s__law_has_rows, defScope s__law_has_rows, [], []⟩
def d_law : He.DefD := ⟨("law", none), "law", "law", defArgs s_law, defBody s_law, defScope s_law, [], []⟩
def fnD : List He.DefD := [d_sorts_of, d_is_of, d_has_row_for, d_withins, d__law_feed, d__law_draw, d__law_names, d__law_signs, d__law_table, d__law_tree, d__law_rows_of, d__law_within, d__law_has_rows, d_law]
def faD : List He.Fa := [.glo "sorts_of", .glo "is_of", .glo "has_row_for", .glo "withins", .glo "_law_feed", .glo "_law_draw", .glo "_law_names", .glo "_law_signs", .glo "_law_table", .glo "_law_tree", .glo "_law_rows_of", .glo "_law_within", .glo "_law_has_rows", .glo "law", .free "len", .free "range", .free "all", .free "zip", .free "dict", .free "tuple", .free "isinstance", .free "list"]
abbrev RR : PySem.W.OpenRow := PySem.W.OpenLaw.row PySem.Challenge.rw_ruleplans_k33_sorts_within
abbrev hkD : PySem.W.Hook := He.hookD 4 faD fnD
def obD (s : PySem.W.SharedT) : He.AlD := He.obsDG 4 faD fnD (HandSHeadRun.getT s)
theorem obD_eq (s : PySem.W.SharedT) : obD s = hkD.obs s.abs := He.obsDG_eq (HandSHeadRun.getT_eq s)
theorem runD (w : World) : HandSHeadRun.RunEq RR (PySem.W.view RR.prog [15]) hkD obD 1360 (["sorts_of", "is_of", "has_row_for", "withins", "_law_feed", "_law_draw", "_law_names", "_law_signs", "_law_table", "_law_tree", "_law_rows_of", "_law_within", "_law_has_rows"] : List Str) w := by
  intro os
  kernel_rfl
theorem bodies : All (Body LL BB) LL := all_cons ok_sorts_of (all_cons ok_is_of (all_cons ok_has_row_for (all_cons ok_withins (all_cons ok__law_feed (all_cons ok__law_draw (all_cons ok__law_names (all_cons ok__law_signs (all_cons ok__law_table (all_cons ok__law_tree (all_cons ok__law_rows_of (all_cons ok__law_within (all_cons ok__law_has_rows (all_cons ok_law (all_nil))))))))))))))
theorem scopes : All (fun i => FnScope i.N i.ps (defScope i.st)) LL := all_cons sc_sorts_of (all_cons sc_is_of (all_cons sc_has_row_for (all_cons sc_withins (all_cons sc__law_feed (all_cons sc__law_draw (all_cons sc__law_names (all_cons sc__law_signs (all_cons sc__law_table (all_cons sc__law_tree (all_cons sc__law_rows_of (all_cons sc__law_within (all_cons sc__law_has_rows (all_cons sc_law (all_nil))))))))))))))
theorem sizes : All (fun i => i.fn.np = i.ps.length ∧ i.fn.ns = i.N.length) LL := all_cons ⟨rfl, rfl⟩ (all_cons ⟨rfl, rfl⟩ (all_cons ⟨rfl, rfl⟩ (all_cons ⟨rfl, rfl⟩ (all_cons ⟨rfl, rfl⟩ (all_cons ⟨rfl, rfl⟩ (all_cons ⟨rfl, rfl⟩ (all_cons ⟨rfl, rfl⟩ (all_cons ⟨rfl, rfl⟩ (all_cons ⟨rfl, rfl⟩ (all_cons ⟨rfl, rfl⟩ (all_cons ⟨rfl, rfl⟩ (all_cons ⟨rfl, rfl⟩ (all_cons ⟨rfl, rfl⟩ (all_nil))))))))))))))
theorem names : (LL.map (·.name)).Nodup := by
  show (["sorts_of", "is_of", "has_row_for", "withins", "_law_feed", "_law_draw", "_law_names", "_law_signs", "_law_table", "_law_tree", "_law_rows_of", "_law_within", "_law_has_rows", "law"] : List Str).Nodup
  decide +kernel
theorem walk {P : Program} {w : World} {K : PySem.W.Frag} {h : Heap} {mg : Str → Option Value} {f : Addr} (n : Nat) (X : K.In h) (G : h.Ns mainGlobals mg) (hfa : mg ("law" : Str) = some (.ref f)) (c : He.SaysD faD fnD K) :
    ∃ fd : FuncData, (∀ (s : Shared) (v : Value), BindsTo s fd ⟨[v], []⟩ [("_law_script", v)]) ∧ ∀ base : Heap, FnG P w K mg base (n + 1) f fd ["_law_script"] (spF K (run (tabOf LL) (n + 1)) "law" 1) := by
  have e0 : ∃ a fd, mg i_sorts_of.name = some (.ref a) ∧ FunI K i_sorts_of a fd ∧ Binds K fd i_sorts_of.ps [] := by
    obtain ⟨fd, F⟩ := c.def_ 0 (d := d_sorts_of) rfl
    exact ⟨_, fd, He.glo_ok X G (c.fact 0 (f := .glo "sorts_of") rfl), F, F.bindsN fun _ _ _ _ _ _ us hl => match us, hl with | [_, _], _ => rfl⟩
  have e1 : ∃ a fd, mg i_is_of.name = some (.ref a) ∧ FunI K i_is_of a fd ∧ Binds K fd i_is_of.ps [] := by
    obtain ⟨fd, F⟩ := c.def_ 1 (d := d_is_of) rfl
    exact ⟨_, fd, He.glo_ok X G (c.fact 1 (f := .glo "is_of") rfl), F, F.bindsN fun _ _ _ _ _ _ us hl => match us, hl with | [_, _, _], _ => rfl⟩
  have e2 : ∃ a fd, mg i_has_row_for.name = some (.ref a) ∧ FunI K i_has_row_for a fd ∧ Binds K fd i_has_row_for.ps [] := by
    obtain ⟨fd, F⟩ := c.def_ 2 (d := d_has_row_for) rfl
    exact ⟨_, fd, He.glo_ok X G (c.fact 2 (f := .glo "has_row_for") rfl), F, F.bindsN fun _ _ _ _ _ _ us hl => match us, hl with | [_, _, _], _ => rfl⟩
  have e3 : ∃ a fd, mg i_withins.name = some (.ref a) ∧ FunI K i_withins a fd ∧ Binds K fd i_withins.ps [] := by
    obtain ⟨fd, F⟩ := c.def_ 3 (d := d_withins) rfl
    exact ⟨_, fd, He.glo_ok X G (c.fact 3 (f := .glo "withins") rfl), F, F.bindsN fun _ _ _ _ _ _ us hl => match us, hl with | [_], _ => rfl⟩
  have e4 : ∃ a fd, mg i__law_feed.name = some (.ref a) ∧ FunI K i__law_feed a fd ∧ Binds K fd i__law_feed.ps [] := by
    obtain ⟨fd, F⟩ := c.def_ 4 (d := d__law_feed) rfl
    exact ⟨_, fd, He.glo_ok X G (c.fact 4 (f := .glo "_law_feed") rfl), F, F.bindsN fun _ _ _ _ _ _ us hl => match us, hl with | [_, _], _ => rfl⟩
  have e5 : ∃ a fd, mg i__law_draw.name = some (.ref a) ∧ FunI K i__law_draw a fd ∧ Binds K fd i__law_draw.ps [] := by
    obtain ⟨fd, F⟩ := c.def_ 5 (d := d__law_draw) rfl
    exact ⟨_, fd, He.glo_ok X G (c.fact 5 (f := .glo "_law_draw") rfl), F, F.bindsN fun _ _ _ _ _ _ us hl => match us, hl with | [_, _], _ => rfl⟩
  have e6 : ∃ a fd, mg i__law_names.name = some (.ref a) ∧ FunI K i__law_names a fd ∧ Binds K fd i__law_names.ps [] := by
    obtain ⟨fd, F⟩ := c.def_ 6 (d := d__law_names) rfl
    exact ⟨_, fd, He.glo_ok X G (c.fact 6 (f := .glo "_law_names") rfl), F, F.bindsN fun _ _ _ _ _ _ us hl => match us, hl with | [_, _], _ => rfl⟩
  have e7 : ∃ a fd, mg i__law_signs.name = some (.ref a) ∧ FunI K i__law_signs a fd ∧ Binds K fd i__law_signs.ps [] := by
    obtain ⟨fd, F⟩ := c.def_ 7 (d := d__law_signs) rfl
    exact ⟨_, fd, He.glo_ok X G (c.fact 7 (f := .glo "_law_signs") rfl), F, F.bindsN fun _ _ _ _ _ _ us hl => match us, hl with | [_], _ => rfl⟩
  have e8 : ∃ a fd, mg i__law_table.name = some (.ref a) ∧ FunI K i__law_table a fd ∧ Binds K fd i__law_table.ps [] := by
    obtain ⟨fd, F⟩ := c.def_ 8 (d := d__law_table) rfl
    exact ⟨_, fd, He.glo_ok X G (c.fact 8 (f := .glo "_law_table") rfl), F, F.bindsN fun _ _ _ _ _ _ us hl => match us, hl with | [_, _, _], _ => rfl⟩
  have e9 : ∃ a fd, mg i__law_tree.name = some (.ref a) ∧ FunI K i__law_tree a fd ∧ Binds K fd i__law_tree.ps [] := by
    obtain ⟨fd, F⟩ := c.def_ 9 (d := d__law_tree) rfl
    exact ⟨_, fd, He.glo_ok X G (c.fact 9 (f := .glo "_law_tree") rfl), F, F.bindsN fun _ _ _ _ _ _ us hl => match us, hl with | [_, _, _], _ => rfl⟩
  have e10 : ∃ a fd, mg i__law_rows_of.name = some (.ref a) ∧ FunI K i__law_rows_of a fd ∧ Binds K fd i__law_rows_of.ps [] := by
    obtain ⟨fd, F⟩ := c.def_ 10 (d := d__law_rows_of) rfl
    exact ⟨_, fd, He.glo_ok X G (c.fact 10 (f := .glo "_law_rows_of") rfl), F, F.bindsN fun _ _ _ _ _ _ us hl => match us, hl with | [_, _, _], _ => rfl⟩
  have e11 : ∃ a fd, mg i__law_within.name = some (.ref a) ∧ FunI K i__law_within a fd ∧ Binds K fd i__law_within.ps [] := by
    obtain ⟨fd, F⟩ := c.def_ 11 (d := d__law_within) rfl
    exact ⟨_, fd, He.glo_ok X G (c.fact 11 (f := .glo "_law_within") rfl), F, F.bindsN fun _ _ _ _ _ _ us hl => match us, hl with | [_], _ => rfl⟩
  have e12 : ∃ a fd, mg i__law_has_rows.name = some (.ref a) ∧ FunI K i__law_has_rows a fd ∧ Binds K fd i__law_has_rows.ps [] := by
    obtain ⟨fd, F⟩ := c.def_ 12 (d := d__law_has_rows) rfl
    exact ⟨_, fd, He.glo_ok X G (c.fact 12 (f := .glo "_law_has_rows") rfl), F, F.bindsN fun _ _ _ _ _ _ us hl => match us, hl with | [_, _, _], _ => rfl⟩
  have e13 : ∃ a fd, mg i_law.name = some (.ref a) ∧ FunI K i_law a fd ∧ Binds K fd i_law.ps [] := by
    obtain ⟨fd, F⟩ := c.def_ 13 (d := d_law) rfl
    exact ⟨_, fd, He.glo_ok X G (c.fact 13 (f := .glo "law") rfl), F, F.bindsN fun _ _ _ _ _ _ us hl => match us, hl with | [_], _ => rfl⟩
  obtain ⟨fd, F⟩ := c.def_ 13 (d := d_law) rfl
  have e := hfa.symm.trans (He.glo_ok X G (c.fact 13 (f := .glo "law") rfl))
  cases e
  have b := FunD.bindsA (ps := ["_law_script"]) F fun _ _ _ _ _ _ us hl => match us, hl with | [_], _ => rfl
  exact ⟨fd, fun s v => b s [v] rfl, fun base => law_of (L := LL) (bs := BB) (j := i_law) n names sizes scopes bodies (all_cons e0 (all_cons e1 (all_cons e2 (all_cons e3 (all_cons e4 (all_cons e5 (all_cons e6 (all_cons e7 (all_cons e8 (all_cons e9 (all_cons e10 (all_cons e11 (all_cons e12 (all_cons e13 (all_nil))))))))))))))) (all_cons (He.free_ok X G (c.fact 14 (f := .free "len") rfl)) (all_cons (He.free_ok X G (c.fact 15 (f := .free "range") rfl)) (all_cons (He.free_ok X G (c.fact 16 (f := .free "all") rfl)) (all_cons (He.free_ok X G (c.fact 17 (f := .free "zip") rfl)) (all_cons (He.free_ok X G (c.fact 18 (f := .free "dict") rfl)) (all_cons (He.free_ok X G (c.fact 19 (f := .free "tuple") rfl)) (all_cons (He.free_ok X G (c.fact 20 (f := .free "isinstance") rfl)) (all_cons (He.free_ok X G (c.fact 21 (f := .free "list") rfl)) (all_nil))))))))) 13 rfl rfl F base⟩
noncomputable abbrev CC (n : Nat) : Call := run (tabOf LL) n
theorem r_sorts_of (n : Nat) (ds : List D) (st : St) : CC (n + 1) "sorts_of" ds st = runFn (CC n) ⟨2, 9, b_sorts_of⟩ ds st := run_at names (k := 0) (i := i_sorts_of) rfl n ds st
theorem r_is_of (n : Nat) (ds : List D) (st : St) : CC (n + 1) "is_of" ds st = runFn (CC n) ⟨3, 3, b_is_of⟩ ds st := run_at names (k := 1) (i := i_is_of) rfl n ds st
theorem r_has_row_for (n : Nat) (ds : List D) (st : St) : CC (n + 1) "has_row_for" ds st = runFn (CC n) ⟨3, 5, b_has_row_for⟩ ds st := run_at names (k := 2) (i := i_has_row_for) rfl n ds st
theorem r_withins (n : Nat) (ds : List D) (st : St) : CC (n + 1) "withins" ds st = runFn (CC n) ⟨1, 9, b_withins⟩ ds st := run_at names (k := 3) (i := i_withins) rfl n ds st
theorem r__law_feed (n : Nat) (ds : List D) (st : St) : CC (n + 1) "_law_feed" ds st = runFn (CC n) ⟨2, 2, b__law_feed⟩ ds st := run_at names (k := 4) (i := i__law_feed) rfl n ds st
theorem r__law_draw (n : Nat) (ds : List D) (st : St) : CC (n + 1) "_law_draw" ds st = runFn (CC n) ⟨2, 4, b__law_draw⟩ ds st := run_at names (k := 5) (i := i__law_draw) rfl n ds st
theorem r__law_names (n : Nat) (ds : List D) (st : St) : CC (n + 1) "_law_names" ds st = runFn (CC n) ⟨2, 6, b__law_names⟩ ds st := run_at names (k := 6) (i := i__law_names) rfl n ds st
theorem r__law_signs (n : Nat) (ds : List D) (st : St) : CC (n + 1) "_law_signs" ds st = runFn (CC n) ⟨1, 5, b__law_signs⟩ ds st := run_at names (k := 7) (i := i__law_signs) rfl n ds st
theorem r__law_table (n : Nat) (ds : List D) (st : St) : CC (n + 1) "_law_table" ds st = runFn (CC n) ⟨3, 12, b__law_table⟩ ds st := run_at names (k := 8) (i := i__law_table) rfl n ds st
theorem r__law_tree (n : Nat) (ds : List D) (st : St) : CC (n + 1) "_law_tree" ds st = runFn (CC n) ⟨3, 7, b__law_tree⟩ ds st := run_at names (k := 9) (i := i__law_tree) rfl n ds st
theorem r__law_rows_of (n : Nat) (ds : List D) (st : St) : CC (n + 1) "_law_rows_of" ds st = runFn (CC n) ⟨3, 4, b__law_rows_of⟩ ds st := run_at names (k := 10) (i := i__law_rows_of) rfl n ds st
theorem r__law_within (n : Nat) (ds : List D) (st : St) : CC (n + 1) "_law_within" ds st = runFn (CC n) ⟨1, 9, b__law_within⟩ ds st := run_at names (k := 11) (i := i__law_within) rfl n ds st
theorem r__law_has_rows (n : Nat) (ds : List D) (st : St) : CC (n + 1) "_law_has_rows" ds st = runFn (CC n) ⟨3, 7, b__law_has_rows⟩ ds st := run_at names (k := 12) (i := i__law_has_rows) rfl n ds st
theorem r_law (n : Nat) (ds : List D) (st : St) : CC (n + 1) "law" ds st = runFn (CC n) ⟨1, 10, b_law⟩ ds st := run_at names (k := 13) (i := i_law) rfl n ds st
end RP
open PySem PySem.W PySem.Calls PyProof.Rows
theorem holds_of (n : Nat) (hn : L2.Room (n + 1) callerA) (hl : ∀ ns : List Int, ns.length ≤ 63 → ∃ st, RP.run (RP.tabOf RP.LL) (n + 1) "law" [.frz ns] [] = .ok (.bl true) st) : PySem.Challenge.rw_ruleplans_k33_sorts_within.Holds := by
  w_on; o_law
  refine HandSHeadRun.head_any (r := OpenLaw.row PySem.Challenge.rw_ruleplans_k33_sorts_within) (q := view (OpenLaw.row PySem.Challenge.rw_ruleplans_k33_sorts_within).prog [15]) (H := RP.hkD) (ob := RP.obD) (M := 1360) (loose := (["sorts_of", "is_of", "has_row_for", "withins", "_law_feed", "_law_draw", "_law_names", "_law_signs", "_law_table", "_law_tree", "_law_rows_of", "_law_within", "_law_has_rows"] : List Str)) (d := HandSHeadRun.topDef (OpenLaw.row PySem.Challenge.rw_ruleplans_k33_sorts_within).prog 15) (kwd := []) RP.obD_eq
    (by kernel_rfl) (fun s => by kernel_rfl) RP.runD (by kernel_rfl) (by kernel_rfl) (by kernel_rfl) (by rfl) (by first | assumption | decide +kernel) (by decide +kernel) ⟨rfl, rfl, rfl, rfl, rfl, by decide +kernel⟩ ?hw ?hc
  case hw => w_witness2
  case hc =>
    refine RP.walk_ofG (l := PySem.Challenge.rw_ruleplans_k33_sorts_within) (n := 63) (k := n + 1) (x := "_law_script") rfl (by decide) (by kernel_rfl) hn ?F
    intro w mg fa h Y G hmg0
    obtain ⟨K, KX, c⟩ := Y
    have hmg : mg ("law" : PySem.Str) = some (.ref fa) := by
      have e : (HandSHeadRun.topDef (OpenLaw.row PySem.Challenge.rw_ruleplans_k33_sorts_within).prog 15).name = ("law" : PySem.Str) := by kernel_rfl
      rw [← e]
      exact hmg0
    obtain ⟨fd, hb, hF⟩ := RP.walk (P := (PySem.Challenge.rw_ruleplans_k33_sorts_within).prog) (w := w) n KX G hmg c
    exact ⟨K, fd, RP.spF K (RP.run (RP.tabOf RP.LL) (n + 1)) "law" 1, KX, hb, fun H a ns hl1 hO hS => RP.sp_start hO hS (hl ns hl1), hF⟩
end
section
set_option Elab.async false
set_option linter.all false
set_option maxRecDepth 100000
set_option maxHeartbeats 4000000
namespace RP
open PySem
/-- the feed -/
def FC (c : Cell) : Prop := ∃ a b k : Int, c = .lst [.int a, .int b, .int k]
theorem fcB (c : Cell) (m : Nat) (h : FC c) : belC m c = true := by
  obtain ⟨a, b, k, rfl⟩ := h
  simp [belC, bels, bel]
abbrev Go (n : Nat) (st st' : St) : Prop := Fr FC n st [] st'
theorem draw_ok {n j : Nat} {st : St} {m : Int} (h : Fd FC n st) (hm : 0 < m) (hm2 : m < 1000) : Ok (CC (j + 1) "_law_draw" [.ref n, .int m] st) fun d st' => ∃ r : Int, d = .int r ∧ 0 ≤ r ∧ r < m ∧ Go n st st' := by
  obtain ⟨_, h, a, b, k, rfl⟩ := h
  have hl : n < st.length := (List.getElem?_eq_some_iff.mp h).1
  rw [r__law_draw]
  refine ok_fn rfl ?_
  unfold b__law_draw
  have hm3 : m < 18446744073709551616 := by omega
  simp only [ok_ok, ok_no, ok_bind, ok_of_some, ok_var, ok_cst, ok_nil, ok_cons, ok_tup, ok_lst, ok_lstM, ok_op2, ok_op1, ok_blt, ok_listM, ok_chain, ok_and, ok_or, ok_not, ok_tval, ok_band, ok_bor, ok_bnot, ok_yes, ok_mif, ok_callM, ok_call, ok_lm, ok_optN, ok_optS, ok_slice, ok_ival, ok_range1, ok_range2, ok_zip, ok_comp, ok_compM, s_skip, s_seq, s_expr, s_asg, s_put, s_ret, s_retN, s_brk, s_cnt, s_if, s_for, s_while, List.map_cons, List.map_nil, List.cons_append, List.nil_append, List.replicate, List.getElem?_cons_zero, List.getElem?_cons_succ, List.set_cons_zero, List.set_cons_succ, Option.some.injEq, exists_eq_left', exists_eq_left, Nat.reduceSub, Nat.reduceAdd, Nat.reduceMul, wipeE, gNm, gNms, gTp, D.int.injEq, true_and, and_true, List.length_cons, List.length_nil, Option.bind_some, idx_ref, ixC_lst, idx_lst, idx_tup, idx_frz, at0, at1, at2, at3, add_int, sub_int, mod_int, fdiv_int, pow18, lt_int, le_int, gt_int, ge_int, tru_bl, tru_int, eq_int, ne_int, eq_str, ne_str, eq_bl, ne_bl, put_ref, putC_lst, ix0, ix1, ix2, ix3, len_lst, len_tup, len_frz, len_ref, lenC_lst, un1_one, tuple_lst, tuple_tup, list_lst, list_tup, slice_tup, slice_lst, it_tup, it_lst, cut_from1, Option.map_some, List.set_set, Nat.reduceLT, Int.reduceLT, if_true, Int.toNat_natCast, mul_mod, mulL, mulR, Int.reduceNeg, h, hl, hm, hm3, List.getElem?_set_self, List.length_set]
  by_cases ha : 1000000000000000000 ≤ a
  · rw [if_pos (by simpa using ha), gc_same (by simp)]
    exact ⟨_, rfl, Int.emod_nonneg _ (by omega), Int.emod_lt_of_pos _ hm, _, ⟨_, _, _, rfl⟩, (List.append_nil _).symm⟩
  · rw [if_neg (by simpa using ha), gc_same (by simp)]
    exact ⟨_, rfl, Int.emod_nonneg _ (by omega), Int.emod_lt_of_pos _ hm, _, ⟨_, _, _, rfl⟩, (List.append_nil _).symm⟩
/-- .. as it is called -/
theorem draw_call {n j : Nat} {st : St} {m : Int} {Q : D → St → Prop} (h : Fd FC n st) (hm : 0 < m) (hm2 : m < 1000) (q : ∀ (r : Int) (st' : St), 0 ≤ r → r < m → Go n st st' → Q (.int r) st') : Ok (ice st (CC (j + 1) "_law_draw" [.ref n, .int m] st)) Q := by
  refine ok_ice_val ((draw_ok h hm hm2).mono ?_)
  rintro d st' ⟨r, rfl, h0, h1, hg⟩
  exact ⟨rfl, q r st' h0 h1 hg⟩
theorem feed_ok {ns : List Int} {j : Nat} {st : St} {k : Int} : Ok (CC (j + 1) "_law_feed" [.frz ns, .int k] st) fun d st' => ∃ c, d = .ref st.length ∧ st' = st ++ [c] ∧ FC c := by
  rw [r__law_feed]
  refine ok_fn rfl ?_
  unfold b__law_feed
  simp only [ok_ok, ok_no, ok_bind, ok_of_some, ok_var, ok_cst, ok_nil, ok_cons, ok_tup, ok_lst, ok_lstM, ok_op2, ok_op1, ok_blt, ok_listM, ok_chain, ok_and, ok_or, ok_not, ok_tval, ok_band, ok_bor, ok_bnot, ok_yes, ok_mif, ok_callM, ok_call, ok_lm, ok_optN, ok_optS, ok_slice, ok_ival, ok_range1, ok_range2, ok_zip, ok_comp, ok_compM, s_skip, s_seq, s_expr, s_asg, s_put, s_ret, s_retN, s_brk, s_cnt, s_if, s_for, s_while, List.map_cons, List.map_nil, List.cons_append, List.nil_append, List.replicate, List.getElem?_cons_zero, List.getElem?_cons_succ, List.set_cons_zero, List.set_cons_succ, Option.some.injEq, exists_eq_left', exists_eq_left, Nat.reduceSub, Nat.reduceAdd, Nat.reduceMul, wipeE, gNm, gNms, gTp, D.int.injEq, true_and, and_true, List.length_cons, List.length_nil, Option.bind_some, idx_ref, ixC_lst, idx_lst, idx_tup, idx_frz, at0, at1, at2, at3, add_int, sub_int, mod_int, fdiv_int, pow18, lt_int, le_int, gt_int, ge_int, tru_bl, tru_int, eq_int, ne_int, eq_str, ne_str, eq_bl, ne_bl, put_ref, putC_lst, ix0, ix1, ix2, ix3, len_lst, len_tup, len_frz, len_ref, lenC_lst, un1_one, tuple_lst, tuple_tup, list_lst, list_tup, slice_tup, slice_lst, it_tup, it_lst, cut_from1, Option.map_some, List.set_set, Nat.reduceLT, Int.reduceLT, if_true, Int.toNat_natCast, mul_mod, mulL, mulR, Int.reduceNeg]
  have fin : ∀ v : Int, Ok (gc st (.ref st.length) (st ++ [.lst [.int v, .int 0, .int k]])) fun d st' => ∃ c, d = .ref st.length ∧ st' = st ++ [c] ∧ FC c := fun v => by
    rw [gc_new (by simp [bels, bel])]
    exact ⟨_, rfl, rfl, _, _, _, rfl⟩
  by_cases hn : ns.length = 0
  · rw [if_pos (by rw [hn]; rfl)]
    exact fin 0
  · rw [if_neg (by simpa using hn)]
    have hp : 0 < (ns.length : Int) := by omega
    obtain ⟨x, _, _, hx⟩ := at_get (xs := ns) (r := k % ns.length) (Int.emod_nonneg _ (by omega)) (Int.emod_lt_of_pos _ hp)
    simp only [mod_int hp, List.map_cons, List.map_nil, List.cons_append, List.nil_append, List.replicate, List.getElem?_cons_zero, List.getElem?_cons_succ, List.set_cons_zero, List.set_cons_succ, Option.some.injEq, exists_eq_left', exists_eq_left, Nat.reduceSub, Nat.reduceAdd, Nat.reduceMul, wipeE, gNm, gNms, gTp, D.int.injEq, true_and, and_true, List.length_cons, List.length_nil, Option.bind_some, idx_ref, ixC_lst, idx_lst, idx_tup, idx_frz, at0, at1, at2, at3, add_int, sub_int, mod_int, fdiv_int, pow18, lt_int, le_int, gt_int, ge_int, tru_bl, tru_int, eq_int, ne_int, eq_str, ne_str, eq_bl, ne_bl, put_ref, putC_lst, ix0, ix1, ix2, ix3, len_lst, len_tup, len_frz, len_ref, lenC_lst, un1_one, tuple_lst, tuple_tup, list_lst, list_tup, slice_tup, slice_lst, it_tup, it_lst, cut_from1, Option.map_some, List.set_set, Nat.reduceLT, Int.reduceLT, if_true, Int.toNat_natCast, mul_mod, mulL, mulR, Int.reduceNeg, hx]
    exact fin x
def pool : List Str := ["a", "ab", "b", "stay", "use", "abc", "all", "abcdefgh", "f", "fa", "then", "ba"]
def nameAt (a b : Int) (j : Nat) : Str := (pool[((a + b * j) % 12).toNat]?).getD ""
theorem names_ok {n j : Nat} {st : St} {m : Nat} (h : Fd FC n st) (hm : m ≤ 10) : Ok (CC (j + 2) "_law_names" [.ref n, .int m] st) fun d st' => ∃ a b : Int, 0 ≤ a ∧ a < 12 ∧ b ∈ [1, 5, 7, (11 : Int)] ∧ d = .lst (((List.range m).map (nameAt a b)).map D.str) ∧ Go n st st' := by
  rw [r__law_names]
  refine ok_fn rfl ?_
  unfold b__law_names
  try simp only [ok_ok, ok_no, ok_bind, ok_of_some, ok_var, ok_cst, ok_nil, ok_cons, ok_tup, ok_lst, ok_lstM, ok_op2, ok_op1, ok_blt, ok_listM, ok_chain, ok_and, ok_or, ok_not, ok_tval, ok_band, ok_bor, ok_bnot, ok_yes, ok_mif, ok_callM, ok_call, ok_lm, ok_optN, ok_optS, ok_slice, ok_ival, ok_range1, ok_range2, ok_zip, ok_comp, ok_compM, s_skip, s_seq, s_expr, s_asg, s_put, s_ret, s_retN, s_brk, s_cnt, s_if, s_for, s_while, List.map_cons, List.map_nil, List.cons_append, List.nil_append, List.replicate, List.getElem?_cons_zero, List.getElem?_cons_succ, List.set_cons_zero, List.set_cons_succ, Option.some.injEq, exists_eq_left', exists_eq_left, Nat.reduceSub, Nat.reduceAdd, Nat.reduceMul, wipeE, gNm, gNms, gTp, D.int.injEq, true_and, and_true, List.length_cons, List.length_nil, Option.bind_some, idx_ref, ixC_lst, idx_lst, idx_tup, idx_frz, at0, at1, at2, at3, add_int, sub_int, mod_int, fdiv_int, pow18, lt_int, le_int, gt_int, ge_int, tru_bl, tru_int, eq_int, ne_int, eq_str, ne_str, eq_bl, ne_bl, put_ref, putC_lst, ix0, ix1, ix2, ix3, len_lst, len_tup, len_frz, len_ref, lenC_lst, un1_one, tuple_lst, tuple_tup, list_lst, list_tup, slice_tup, slice_lst, it_tup, it_lst, cut_from1, Option.map_some, List.set_set, Nat.reduceLT, Int.reduceLT, if_true, Int.toNat_natCast, mul_mod, mulL, mulR, Int.reduceNeg]
  refine draw_call h (by decide) (by decide) fun a st1 a0 a1 g1 => ?_
  try simp only [ok_ok, ok_no, ok_bind, ok_of_some, ok_var, ok_cst, ok_nil, ok_cons, ok_tup, ok_lst, ok_lstM, ok_op2, ok_op1, ok_blt, ok_listM, ok_chain, ok_and, ok_or, ok_not, ok_tval, ok_band, ok_bor, ok_bnot, ok_yes, ok_mif, ok_callM, ok_call, ok_lm, ok_optN, ok_optS, ok_slice, ok_ival, ok_range1, ok_range2, ok_zip, ok_comp, ok_compM, s_skip, s_seq, s_expr, s_asg, s_put, s_ret, s_retN, s_brk, s_cnt, s_if, s_for, s_while, List.map_cons, List.map_nil, List.cons_append, List.nil_append, List.replicate, List.getElem?_cons_zero, List.getElem?_cons_succ, List.set_cons_zero, List.set_cons_succ, Option.some.injEq, exists_eq_left', exists_eq_left, Nat.reduceSub, Nat.reduceAdd, Nat.reduceMul, wipeE, gNm, gNms, gTp, D.int.injEq, true_and, and_true, List.length_cons, List.length_nil, Option.bind_some, idx_ref, ixC_lst, idx_lst, idx_tup, idx_frz, at0, at1, at2, at3, add_int, sub_int, mod_int, fdiv_int, pow18, lt_int, le_int, gt_int, ge_int, tru_bl, tru_int, eq_int, ne_int, eq_str, ne_str, eq_bl, ne_bl, put_ref, putC_lst, ix0, ix1, ix2, ix3, len_lst, len_tup, len_frz, len_ref, lenC_lst, un1_one, tuple_lst, tuple_tup, list_lst, list_tup, slice_tup, slice_lst, it_tup, it_lst, cut_from1, Option.map_some, List.set_set, Nat.reduceLT, Int.reduceLT, if_true, Int.toNat_natCast, mul_mod, mulL, mulR, Int.reduceNeg]
  refine draw_call (g1.fd h.lt) (by decide) (by decide) fun i st2 i0 i1 g2 => ?_
  obtain ⟨x, hx, _, hx2⟩ := at_get (xs := [D.int 1, .int 5, .int 7, .int 11]) i0 (by simpa using i1)
  obtain ⟨b, hb, rfl⟩ : ∃ b : Int, b ∈ [1, 5, 7, (11 : Int)] ∧ x = .int b := by
    simp at hx ⊢
    rcases hx with rfl | rfl | rfl | rfl <;> simp
  try simp only [ok_ok, ok_no, ok_bind, ok_of_some, ok_var, ok_cst, ok_nil, ok_cons, ok_tup, ok_lst, ok_lstM, ok_op2, ok_op1, ok_blt, ok_listM, ok_chain, ok_and, ok_or, ok_not, ok_tval, ok_band, ok_bor, ok_bnot, ok_yes, ok_mif, ok_callM, ok_call, ok_lm, ok_optN, ok_optS, ok_slice, ok_ival, ok_range1, ok_range2, ok_zip, ok_comp, ok_compM, s_skip, s_seq, s_expr, s_asg, s_put, s_ret, s_retN, s_brk, s_cnt, s_if, s_for, s_while, List.map_cons, List.map_nil, List.cons_append, List.nil_append, List.replicate, List.getElem?_cons_zero, List.getElem?_cons_succ, List.set_cons_zero, List.set_cons_succ, Option.some.injEq, exists_eq_left', exists_eq_left, Nat.reduceSub, Nat.reduceAdd, Nat.reduceMul, wipeE, gNm, gNms, gTp, D.int.injEq, true_and, and_true, List.length_cons, List.length_nil, Option.bind_some, idx_ref, ixC_lst, idx_lst, idx_tup, idx_frz, at0, at1, at2, at3, add_int, sub_int, mod_int, fdiv_int, pow18, lt_int, le_int, gt_int, ge_int, tru_bl, tru_int, eq_int, ne_int, eq_str, ne_str, eq_bl, ne_bl, put_ref, putC_lst, ix0, ix1, ix2, ix3, len_lst, len_tup, len_frz, len_ref, lenC_lst, un1_one, tuple_lst, tuple_tup, list_lst, list_tup, slice_tup, slice_lst, it_tup, it_lst, cut_from1, Option.map_some, List.set_set, Nat.reduceLT, Int.reduceLT, if_true, Int.toNat_natCast, mul_mod, mulL, mulR, Int.reduceNeg, hx2]
  refine ⟨by unfold big; omega, ?_⟩
  refine comp_rng (fun k => .str (nameAt a b k)) (by simp) rfl ?_ ?_
  · intro k hk
    have hb2 : -18446744073709551616 < b ∧ b < 18446744073709551616 := by simp at hb; omega
    obtain ⟨x, hx, hx3, hx2⟩ := at_get (xs := pool) (r := (a + b * k) % 12) (Int.emod_nonneg _ (by decide)) (Int.emod_lt_of_pos _ (by decide))
    have hx4 : L2.atI (pool.map D.str) ((a + b * k) % 12) = some (.str x) := by
      obtain ⟨q, hq⟩ := Int.eq_ofNat_of_zero_le (Int.emod_nonneg (a + b * k) (by decide : (12 : Int) ≠ 0))
      rw [hq, at_nat] at hx2 ⊢
      simp [hx2]
    have hx5 : nameAt a b k = x := by unfold nameAt; rw [hx3]; rfl
    simp only [ok_ok, ok_no, ok_bind, ok_of_some, ok_var, ok_cst, ok_nil, ok_cons, ok_tup, ok_lst, ok_lstM, ok_op2, ok_op1, ok_blt, ok_listM, ok_chain, ok_and, ok_or, ok_not, ok_tval, ok_band, ok_bor, ok_bnot, ok_yes, ok_mif, ok_callM, ok_call, ok_lm, ok_optN, ok_optS, ok_slice, ok_ival, ok_range1, ok_range2, ok_zip, ok_comp, ok_compM, s_skip, s_seq, s_expr, s_asg, s_put, s_ret, s_retN, s_brk, s_cnt, s_if, s_for, s_while, List.map_cons, List.map_nil, List.cons_append, List.nil_append, List.replicate, List.getElem?_cons_zero, List.getElem?_cons_succ, List.set_cons_zero, List.set_cons_succ, Option.some.injEq, exists_eq_left', exists_eq_left, Nat.reduceSub, Nat.reduceAdd, Nat.reduceMul, wipeE, gNm, gNms, gTp, D.int.injEq, true_and, and_true, List.length_cons, List.length_nil, Option.bind_some, idx_ref, ixC_lst, idx_lst, idx_tup, idx_frz, at0, at1, at2, at3, add_int, sub_int, mod_int, fdiv_int, pow18, lt_int, le_int, gt_int, ge_int, tru_bl, tru_int, eq_int, ne_int, eq_str, ne_str, eq_bl, ne_bl, put_ref, putC_lst, ix0, ix1, ix2, ix3, len_lst, len_tup, len_frz, len_ref, lenC_lst, un1_one, tuple_lst, tuple_tup, list_lst, list_tup, slice_tup, slice_lst, it_tup, it_lst, cut_from1, Option.map_some, List.set_set, Nat.reduceLT, Int.reduceLT, if_true, Int.toNat_natCast, mul_mod, mulL, mulR, Int.reduceNeg, mulL hb2.1 hb2.2, hx5]
    exact ⟨_, hx4, rfl⟩
  · refine Fr.ok fcB (g1.go h.lt g2) (by rw [bel, show (List.range m).map (fun k => D.str (nameAt a b k)) = ((List.range m).map (nameAt a b)).map D.str by simp]; exact bels_strs) fun S' g => ?_
    exact ⟨a, b, a0, a1, hb, by simp, g⟩
theorem names_nodup {a b : Int} (a0 : 0 ≤ a) (a1 : a < 12) (hb : b ∈ [1, 5, 7, (11 : Int)]) {m : Nat} (hm : m ≤ 4) : ((List.range m).map (nameAt a b)).Nodup := by
  have all : ∀ a : Fin 12, ∀ b ∈ [1, 5, 7, (11 : Int)], ∀ m : Fin 5, ((List.range m.val).map (nameAt (a.val : Int) b)).Nodup := by decide +kernel
  have := all ⟨a.toNat, by omega⟩ b hb ⟨m, by omega⟩
  simpa [Int.toNat_of_nonneg a0] using this
theorem signs_ok {n j : Nat} {st : St} (h : Fd FC n st) : Ok (CC (j + 3) "_law_signs" [.ref n] st) fun d st' => ∃ sg, Sgn sg ∧ sg.length ≤ 4 ∧ d = encS sg ∧ Go n st st' := by
  rw [r__law_signs]
  refine ok_fn rfl ?_
  unfold b__law_signs
  try simp only [ok_ok, ok_no, ok_bind, ok_of_some, ok_var, ok_cst, ok_nil, ok_cons, ok_tup, ok_lst, ok_lstM, ok_op2, ok_op1, ok_blt, ok_listM, ok_chain, ok_and, ok_or, ok_not, ok_tval, ok_band, ok_bor, ok_bnot, ok_yes, ok_mif, ok_callM, ok_call, ok_lm, ok_optN, ok_optS, ok_slice, ok_ival, ok_range1, ok_range2, ok_zip, ok_comp, ok_compM, s_skip, s_seq, s_expr, s_asg, s_put, s_ret, s_retN, s_brk, s_cnt, s_if, s_for, s_while, List.map_cons, List.map_nil, List.cons_append, List.nil_append, List.replicate, List.getElem?_cons_zero, List.getElem?_cons_succ, List.set_cons_zero, List.set_cons_succ, Option.some.injEq, exists_eq_left', exists_eq_left, Nat.reduceSub, Nat.reduceAdd, Nat.reduceMul, wipeE, gNm, gNms, gTp, D.int.injEq, true_and, and_true, List.length_cons, List.length_nil, Option.bind_some, idx_ref, ixC_lst, idx_lst, idx_tup, idx_frz, at0, at1, at2, at3, add_int, sub_int, mod_int, fdiv_int, pow18, lt_int, le_int, gt_int, ge_int, tru_bl, tru_int, eq_int, ne_int, eq_str, ne_str, eq_bl, ne_bl, put_ref, putC_lst, ix0, ix1, ix2, ix3, len_lst, len_tup, len_frz, len_ref, lenC_lst, un1_one, tuple_lst, tuple_tup, list_lst, list_tup, slice_tup, slice_lst, it_tup, it_lst, cut_from1, Option.map_some, List.set_set, Nat.reduceLT, Int.reduceLT, if_true, Int.toNat_natCast, mul_mod, mulL, mulR, Int.reduceNeg]
  refine draw_call h (by decide) (by decide) fun r st1 r0 r1 g1 => ?_
  obtain ⟨m, rfl⟩ := Int.eq_ofNat_of_zero_le r0
  try simp only [ok_ok, ok_no, ok_bind, ok_of_some, ok_var, ok_cst, ok_nil, ok_cons, ok_tup, ok_lst, ok_lstM, ok_op2, ok_op1, ok_blt, ok_listM, ok_chain, ok_and, ok_or, ok_not, ok_tval, ok_band, ok_bor, ok_bnot, ok_yes, ok_mif, ok_callM, ok_call, ok_lm, ok_optN, ok_optS, ok_slice, ok_ival, ok_range1, ok_range2, ok_zip, ok_comp, ok_compM, s_skip, s_seq, s_expr, s_asg, s_put, s_ret, s_retN, s_brk, s_cnt, s_if, s_for, s_while, List.map_cons, List.map_nil, List.cons_append, List.nil_append, List.replicate, List.getElem?_cons_zero, List.getElem?_cons_succ, List.set_cons_zero, List.set_cons_succ, Option.some.injEq, exists_eq_left', exists_eq_left, Nat.reduceSub, Nat.reduceAdd, Nat.reduceMul, wipeE, gNm, gNms, gTp, D.int.injEq, true_and, and_true, List.length_cons, List.length_nil, Option.bind_some, idx_ref, ixC_lst, idx_lst, idx_tup, idx_frz, at0, at1, at2, at3, add_int, sub_int, mod_int, fdiv_int, pow18, lt_int, le_int, gt_int, ge_int, tru_bl, tru_int, eq_int, ne_int, eq_str, ne_str, eq_bl, ne_bl, put_ref, putC_lst, ix0, ix1, ix2, ix3, len_lst, len_tup, len_frz, len_ref, lenC_lst, un1_one, tuple_lst, tuple_tup, list_lst, list_tup, slice_tup, slice_lst, it_tup, it_lst, cut_from1, Option.map_some, List.set_set, Nat.reduceLT, Int.reduceLT, if_true, Int.toNat_natCast, mul_mod, mulL, mulR, Int.reduceNeg]
  have hm : m < 3 := by omega
  rw [show (2 + (m : Int)) = ((2 + m : Nat) : Int) by omega]
  refine ok_ice_val ((names_ok (j := j) (g1.fd h.lt) (by omega : 2 + m ≤ 10)).mono ?_)
  rintro d st2 ⟨a, b, a0, a1, hb, rfl, g2⟩
  refine ⟨rfl, ?_⟩
  try simp only [ok_ok, ok_no, ok_bind, ok_of_some, ok_var, ok_cst, ok_nil, ok_cons, ok_tup, ok_lst, ok_lstM, ok_op2, ok_op1, ok_blt, ok_listM, ok_chain, ok_and, ok_or, ok_not, ok_tval, ok_band, ok_bor, ok_bnot, ok_yes, ok_mif, ok_callM, ok_call, ok_lm, ok_optN, ok_optS, ok_slice, ok_ival, ok_range1, ok_range2, ok_zip, ok_comp, ok_compM, s_skip, s_seq, s_expr, s_asg, s_put, s_ret, s_retN, s_brk, s_cnt, s_if, s_for, s_while, List.map_cons, List.map_nil, List.cons_append, List.nil_append, List.replicate, List.getElem?_cons_zero, List.getElem?_cons_succ, List.set_cons_zero, List.set_cons_succ, Option.some.injEq, exists_eq_left', exists_eq_left, Nat.reduceSub, Nat.reduceAdd, Nat.reduceMul, wipeE, gNm, gNms, gTp, D.int.injEq, true_and, and_true, List.length_cons, List.length_nil, Option.bind_some, idx_ref, ixC_lst, idx_lst, idx_tup, idx_frz, at0, at1, at2, at3, add_int, sub_int, mod_int, fdiv_int, pow18, lt_int, le_int, gt_int, ge_int, tru_bl, tru_int, eq_int, ne_int, eq_str, ne_str, eq_bl, ne_bl, put_ref, putC_lst, ix0, ix1, ix2, ix3, len_lst, len_tup, len_frz, len_ref, lenC_lst, un1_one, tuple_lst, tuple_tup, list_lst, list_tup, slice_tup, slice_lst, it_tup, it_lst, cut_from1, Option.map_some, List.set_set, Nat.reduceLT, Int.reduceLT, if_true, Int.toNat_natCast, mul_mod, mulL, mulR, Int.reduceNeg]
  have g12 := g1.go h.lt g2
  refine comp_go (fun done ys st' => Go n st st' ∧ ∃ ks : List Nat, ys = ks.map (fun (k : Nat) => D.int k) ∧ ks.length = done.length ∧ ∀ k ∈ ks, k ≤ 3) rfl ⟨g12, [], rfl, rfl, by simp⟩ ?_ ?_
  · rintro x done ys st' hx ⟨g, ks, rfl, hl, hk⟩
    try simp only [ok_ok, ok_no, ok_bind, ok_of_some, ok_var, ok_cst, ok_nil, ok_cons, ok_tup, ok_lst, ok_lstM, ok_op2, ok_op1, ok_blt, ok_listM, ok_chain, ok_and, ok_or, ok_not, ok_tval, ok_band, ok_bor, ok_bnot, ok_yes, ok_mif, ok_callM, ok_call, ok_lm, ok_optN, ok_optS, ok_slice, ok_ival, ok_range1, ok_range2, ok_zip, ok_comp, ok_compM, s_skip, s_seq, s_expr, s_asg, s_put, s_ret, s_retN, s_brk, s_cnt, s_if, s_for, s_while, List.map_cons, List.map_nil, List.cons_append, List.nil_append, List.replicate, List.getElem?_cons_zero, List.getElem?_cons_succ, List.set_cons_zero, List.set_cons_succ, Option.some.injEq, exists_eq_left', exists_eq_left, Nat.reduceSub, Nat.reduceAdd, Nat.reduceMul, wipeE, gNm, gNms, gTp, D.int.injEq, true_and, and_true, List.length_cons, List.length_nil, Option.bind_some, idx_ref, ixC_lst, idx_lst, idx_tup, idx_frz, at0, at1, at2, at3, add_int, sub_int, mod_int, fdiv_int, pow18, lt_int, le_int, gt_int, ge_int, tru_bl, tru_int, eq_int, ne_int, eq_str, ne_str, eq_bl, ne_bl, put_ref, putC_lst, ix0, ix1, ix2, ix3, len_lst, len_tup, len_frz, len_ref, lenC_lst, un1_one, tuple_lst, tuple_tup, list_lst, list_tup, slice_tup, slice_lst, it_tup, it_lst, cut_from1, Option.map_some, List.set_set, Nat.reduceLT, Int.reduceLT, if_true, Int.toNat_natCast, mul_mod, mulL, mulR, Int.reduceNeg]
    refine draw_call (g.fd h.lt) (by decide) (by decide) fun i st3 i0 i1 g3 => ?_
    obtain ⟨x, hx, _, hx2⟩ := at_get (xs := [D.int 1, .int 2, .int 0, .int 1, .int 2, .int 3]) i0 (by simpa using i1)
    obtain ⟨k, hk3, rfl⟩ : ∃ k : Nat, k ≤ 3 ∧ x = .int k := by
      simp at hx
      rcases hx with rfl | rfl | rfl | rfl | rfl | rfl
      · exact ⟨1, by decide, rfl⟩
      · exact ⟨2, by decide, rfl⟩
      · exact ⟨0, by decide, rfl⟩
      · exact ⟨1, by decide, rfl⟩
      · exact ⟨2, by decide, rfl⟩
      · exact ⟨3, by decide, rfl⟩
    try simp only [ok_ok, ok_no, ok_bind, ok_of_some, ok_var, ok_cst, ok_nil, ok_cons, ok_tup, ok_lst, ok_lstM, ok_op2, ok_op1, ok_blt, ok_listM, ok_chain, ok_and, ok_or, ok_not, ok_tval, ok_band, ok_bor, ok_bnot, ok_yes, ok_mif, ok_callM, ok_call, ok_lm, ok_optN, ok_optS, ok_slice, ok_ival, ok_range1, ok_range2, ok_zip, ok_comp, ok_compM, s_skip, s_seq, s_expr, s_asg, s_put, s_ret, s_retN, s_brk, s_cnt, s_if, s_for, s_while, List.map_cons, List.map_nil, List.cons_append, List.nil_append, List.replicate, List.getElem?_cons_zero, List.getElem?_cons_succ, List.set_cons_zero, List.set_cons_succ, Option.some.injEq, exists_eq_left', exists_eq_left, Nat.reduceSub, Nat.reduceAdd, Nat.reduceMul, wipeE, gNm, gNms, gTp, D.int.injEq, true_and, and_true, List.length_cons, List.length_nil, Option.bind_some, idx_ref, ixC_lst, idx_lst, idx_tup, idx_frz, at0, at1, at2, at3, add_int, sub_int, mod_int, fdiv_int, pow18, lt_int, le_int, gt_int, ge_int, tru_bl, tru_int, eq_int, ne_int, eq_str, ne_str, eq_bl, ne_bl, put_ref, putC_lst, ix0, ix1, ix2, ix3, len_lst, len_tup, len_frz, len_ref, lenC_lst, un1_one, tuple_lst, tuple_tup, list_lst, list_tup, slice_tup, slice_lst, it_tup, it_lst, cut_from1, Option.map_some, List.set_set, Nat.reduceLT, Int.reduceLT, if_true, Int.toNat_natCast, mul_mod, mulL, mulR, Int.reduceNeg, hx2]
    refine ⟨g.go h.lt g3, ks ++ [k], by simp, by simp [hl], fun q hq => ?_⟩
    rcases List.mem_append.mp hq with z | z
    · exact hk q z
    · rw [List.mem_singleton.mp z]; exact hk3
  · rintro ys st3 ⟨g, ks, rfl, hl, hk⟩
    generalize hN : (List.range (2 + m)).map (nameAt a b) = nms at hl ⊢
    have hnd : nms.Nodup := by rw [← hN]; exact names_nodup a0 a1 hb (by omega)
    have hnl : nms.length = 2 + m := by rw [← hN]; simp
    rw [List.length_map, hnl] at hl
    have hs3 : st3.length = st.length := by simpa using g.len
    simp only [List.length_map, hnl, idx_ref, ixC_lst, idx_lst, idx_tup, idx_frz, at0, at1, at2, at3, add_int, sub_int, mod_int, fdiv_int, pow18, lt_int, le_int, gt_int, ge_int, tru_bl, tru_int, eq_int, ne_int, eq_str, ne_str, eq_bl, ne_bl, put_ref, putC_lst, ix0, ix1, ix2, ix3, len_lst, len_tup, len_frz, len_ref, lenC_lst, un1_one, tuple_lst, tuple_tup, list_lst, list_tup, slice_tup, slice_lst, it_tup, it_lst, cut_from1, Option.map_some, List.set_set, Nat.reduceLT, Int.reduceLT, if_true, Int.toNat_natCast, mul_mod, mulL, mulR, Int.reduceNeg]
    have g' := g.push (.lst (ks.map fun (k : Nat) => D.int k))
    refine draw_call (g'.fd h.lt) (by omega) (by omega) fun r st4 r0 r1 g4 => ?_
    have g4' := g'.go h.lt g4
    have e4 : st4[st.length]? = some (.lst (ks.map fun (k : Nat) => D.int k)) := by simpa using g4'.at 0
    obtain ⟨q, rfl⟩ := Int.eq_ofNat_of_zero_le r0
    have hq : q < ks.length := by omega
    rw [hs3, e4, putC_lst, ix_nat (by rw [List.length_map]; exact hq)]
    simp only [List.map_cons, List.map_nil, List.cons_append, List.nil_append, List.replicate, List.getElem?_cons_zero, List.getElem?_cons_succ, List.set_cons_zero, List.set_cons_succ, Option.some.injEq, exists_eq_left', exists_eq_left, Nat.reduceSub, Nat.reduceAdd, Nat.reduceMul, wipeE, gNm, gNms, gTp, D.int.injEq, true_and, and_true, List.length_cons, List.length_nil, Option.bind_some, idx_ref, ixC_lst, idx_lst, idx_tup, idx_frz, at0, at1, at2, at3, add_int, sub_int, mod_int, fdiv_int, pow18, lt_int, le_int, gt_int, ge_int, tru_bl, tru_int, eq_int, ne_int, eq_str, ne_str, eq_bl, ne_bl, put_ref, putC_lst, ix0, ix1, ix2, ix3, len_lst, len_tup, len_frz, len_ref, lenC_lst, un1_one, tuple_lst, tuple_tup, list_lst, list_tup, slice_tup, slice_lst, it_tup, it_lst, cut_from1, Option.map_some, List.set_set, Nat.reduceLT, Int.reduceLT, if_true, Int.toNat_natCast, mul_mod, mulL, mulR, Int.reduceNeg]
    refine ⟨by unfold big; omega, ?_⟩
    have g5 := g4'.put 0 (.lst ((ks.map fun (k : Nat) => D.int k).set q (.int 0)))
    have e5 := g5.at 0
    have eset : ((ks.map fun (k : Nat) => D.int k).set q (.int 0)) = (ks.set q 0).map fun (k : Nat) => D.int k := by
      rw [List.map_set]; rfl
    rw [eset] at g5 e5 ⊢
    simp only [Nat.add_zero, List.nil_append, List.set_cons_zero, List.getElem?_cons_zero] at g5 e5
    generalize st4.set st.length _ = st5 at g5 e5 ⊢
    have hkl : (ks.set q 0).length = 2 + m := by simpa using hl
    have hk2 : ∀ k ∈ ks.set q 0, k ≤ 3 := fun k hk' => by
      rcases List.mem_or_eq_of_mem_set hk' with z | z
      · exact hk k z
      · omega
    have hbare : ∃ p ∈ nms.zip (ks.set q 0), p.2 = 0 := by
      have h1 : nms[q]? = some (nms[q]'(by omega)) := by simp
      have h2 : (ks.set q 0)[q]? = some 0 := List.getElem?_set_self hq
      exact ⟨(nms[q]'(by omega), 0), List.mem_of_getElem? (i := q) (by rw [List.getElem?_zip_eq_some]; exact ⟨h1, h2⟩), rfl⟩
    generalize ks.set q 0 = kk at *
    refine comp_rng (fun k => (fun (x : Str) (k : Nat) => D.tup [.str x, .int k]) (nms.getD k "") (kk.getD k 0)) (by simp) rfl ?_ ?_
    · intro k hk
      have e1 : nms[k]? = some (nms[k]'(by omega)) := by simp
      have e2 : kk[k]? = some (kk[k]'(by omega)) := by simp
      have e6 : (st5 : St)[st.length]? = some (.lst (kk.map fun (k : Nat) => D.int k)) := e5
      simp only [ok_ok, ok_no, ok_bind, ok_of_some, ok_var, ok_cst, ok_nil, ok_cons, ok_tup, ok_lst, ok_lstM, ok_op2, ok_op1, ok_blt, ok_listM, ok_chain, ok_and, ok_or, ok_not, ok_tval, ok_band, ok_bor, ok_bnot, ok_yes, ok_mif, ok_callM, ok_call, ok_lm, ok_optN, ok_optS, ok_slice, ok_ival, ok_range1, ok_range2, ok_zip, ok_comp, ok_compM, s_skip, s_seq, s_expr, s_asg, s_put, s_ret, s_retN, s_brk, s_cnt, s_if, s_for, s_while, List.map_cons, List.map_nil, List.cons_append, List.nil_append, List.replicate, List.getElem?_cons_zero, List.getElem?_cons_succ, List.set_cons_zero, List.set_cons_succ, Option.some.injEq, exists_eq_left', exists_eq_left, Nat.reduceSub, Nat.reduceAdd, Nat.reduceMul, wipeE, gNm, gNms, gTp, D.int.injEq, true_and, and_true, List.length_cons, List.length_nil, Option.bind_some, idx_ref, ixC_lst, idx_lst, idx_tup, idx_frz, at0, at1, at2, at3, add_int, sub_int, mod_int, fdiv_int, pow18, lt_int, le_int, gt_int, ge_int, tru_bl, tru_int, eq_int, ne_int, eq_str, ne_str, eq_bl, ne_bl, put_ref, putC_lst, ix0, ix1, ix2, ix3, len_lst, len_tup, len_frz, len_ref, lenC_lst, un1_one, tuple_lst, tuple_tup, list_lst, list_tup, slice_tup, slice_lst, it_tup, it_lst, cut_from1, Option.map_some, List.set_set, Nat.reduceLT, Int.reduceLT, if_true, Int.toNat_natCast, mul_mod, mulL, mulR, Int.reduceNeg, e6, at_nat, List.getElem?_map, e1, e2, List.getD, Option.getD_some]
    · rw [range_zip (fun (x : Str) (k : Nat) => D.tup [.str x, .int k]) hnl hkl]
      refine Fr.ok fcB g5 ?_ fun S' g6 => ?_
      · rw [bel]
        generalize nms.zip kk = l
        induction l with
        | nil => rfl
        | cons p l ih => simp [bels, bel, ih]
      · have hzl : (nms.zip kk).length = 2 + m := by simp; omega
        refine ⟨nms.zip kk, ⟨⟨fun a k k' h1 h2 => zip_one hnd h1 h2, fun p hp => hk2 p.2 (List.of_mem_zip hp).2⟩, ?_, by omega, by omega, hbare⟩, by omega, rfl, g6⟩
        rw [List.map_fst_zip (by omega)]
        exact hnd
end RP
end
section
set_option Elab.async false
set_option linter.all false
set_option maxRecDepth 100000
set_option maxHeartbeats 4000000
namespace RP
open PySem
abbrev encE (e : Str × List Row) : D := D.tup [.str e.1, .tup (e.2.map encR)]
theorem nodup_ins {α : Type} {l : List α} {x : α} (h : l.Nodup) (hx : x ∉ l) (i : Nat) : (l.take i ++ [x] ++ l.drop i).Nodup := by
  rw [List.append_assoc]
  have : (l.take i ++ ([x] ++ l.drop i)).Perm (x :: l) := by
    rw [List.singleton_append]
    refine List.perm_middle.trans ?_
    rw [List.take_append_drop]
  exact this.nodup_iff.mpr (List.nodup_cons.mpr ⟨hx, h⟩)
theorem mem_ins {α : Type} {l : List α} {x y : α} {i : Nat} (h : y ∈ l.take i ++ [x] ++ l.drop i) : y = x ∨ y ∈ l := by
  rcases List.mem_append.mp h with h | h
  · rcases List.mem_append.mp h with h | h
    · exact .inr (List.mem_of_mem_take h)
    · exact .inl (List.mem_singleton.mp h)
  · exact .inr (List.mem_of_mem_drop h)
theorem table_ok {n j : Nat} {st : St} {sg : Sg} {mo : Nat} (hs : Sgn sg) (h : Fd FC n st) (m0 : 0 < mo) (m4 : mo ≤ 4) : Ok (CC (j + 3) "_law_table" [.ref n, encS sg, .int mo] st) fun d st' => ∃ tb, d = encTb tb ∧ TabOk sg tb ∧ tb.length ≤ mo ∧ Go n st st' := by
  rw [r__law_table]
  refine ok_fn rfl ?_
  unfold b__law_table encS
  try simp only [ok_ok, ok_no, ok_bind, ok_of_some, ok_var, ok_cst, ok_nil, ok_cons, ok_tup, ok_lst, ok_lstM, ok_op2, ok_op1, ok_blt, ok_listM, ok_chain, ok_and, ok_or, ok_not, ok_tval, ok_band, ok_bor, ok_bnot, ok_yes, ok_mif, ok_callM, ok_call, ok_lm, ok_optN, ok_optS, ok_slice, ok_ival, ok_range1, ok_range2, ok_zip, ok_comp, ok_compM, s_skip, s_seq, s_expr, s_asg, s_put, s_ret, s_retN, s_brk, s_cnt, s_if, s_for, s_while, List.map_cons, List.map_nil, List.cons_append, List.nil_append, List.replicate, List.getElem?_cons_zero, List.getElem?_cons_succ, List.set_cons_zero, List.set_cons_succ, Option.some.injEq, exists_eq_left', exists_eq_left, Nat.reduceSub, Nat.reduceAdd, Nat.reduceMul, wipeE, gNm, gNms, gTp, D.int.injEq, true_and, and_true, List.length_cons, List.length_nil, Option.bind_some, idx_ref, ixC_lst, idx_lst, idx_tup, idx_frz, at0, at1, at2, at3, add_int, sub_int, mod_int, fdiv_int, pow18, lt_int, le_int, gt_int, ge_int, tru_bl, tru_int, eq_int, ne_int, eq_str, ne_str, eq_bl, ne_bl, put_ref, putC_lst, ix0, ix1, ix2, ix3, len_lst, len_tup, len_frz, len_ref, lenC_lst, un1_one, tuple_lst, tuple_tup, list_lst, list_tup, slice_tup, slice_lst, it_tup, it_lst, cut_from1, Option.map_some, List.set_set, Nat.reduceLT, Int.reduceLT, if_true, Int.toNat_natCast, mul_mod, mulL, mulR, Int.reduceNeg]
  refine draw_call h (by omega) (by omega) fun r st1 r0 r1 g1 => ?_
  obtain ⟨m, rfl⟩ := Int.eq_ofNat_of_zero_le r0
  try simp only [ok_ok, ok_no, ok_bind, ok_of_some, ok_var, ok_cst, ok_nil, ok_cons, ok_tup, ok_lst, ok_lstM, ok_op2, ok_op1, ok_blt, ok_listM, ok_chain, ok_and, ok_or, ok_not, ok_tval, ok_band, ok_bor, ok_bnot, ok_yes, ok_mif, ok_callM, ok_call, ok_lm, ok_optN, ok_optS, ok_slice, ok_ival, ok_range1, ok_range2, ok_zip, ok_comp, ok_compM, s_skip, s_seq, s_expr, s_asg, s_put, s_ret, s_retN, s_brk, s_cnt, s_if, s_for, s_while, List.map_cons, List.map_nil, List.cons_append, List.nil_append, List.replicate, List.getElem?_cons_zero, List.getElem?_cons_succ, List.set_cons_zero, List.set_cons_succ, Option.some.injEq, exists_eq_left', exists_eq_left, Nat.reduceSub, Nat.reduceAdd, Nat.reduceMul, wipeE, gNm, gNms, gTp, D.int.injEq, true_and, and_true, List.length_cons, List.length_nil, Option.bind_some, idx_ref, ixC_lst, idx_lst, idx_tup, idx_frz, at0, at1, at2, at3, add_int, sub_int, mod_int, fdiv_int, pow18, lt_int, le_int, gt_int, ge_int, tru_bl, tru_int, eq_int, ne_int, eq_str, ne_str, eq_bl, ne_bl, put_ref, putC_lst, ix0, ix1, ix2, ix3, len_lst, len_tup, len_frz, len_ref, lenC_lst, un1_one, tuple_lst, tuple_tup, list_lst, list_tup, slice_tup, slice_lst, it_tup, it_lst, cut_from1, Option.map_some, List.set_set, Nat.reduceLT, Int.reduceLT, if_true, Int.toNat_natCast, mul_mod, mulL, mulR, Int.reduceNeg]
  have hm : m < mo := by omega
  rw [show (1 + (m : Int)) = ((1 + m : Nat) : Int) by omega]
  refine ok_ice_val ((names_ok (j := j) (g1.fd h.lt) (by omega : 1 + m ≤ 10)).mono ?_)
  rintro d st2 ⟨a, b, a0, a1, hb, rfl, g2⟩
  refine ⟨rfl, ?_⟩
  try simp only [ok_ok, ok_no, ok_bind, ok_of_some, ok_var, ok_cst, ok_nil, ok_cons, ok_tup, ok_lst, ok_lstM, ok_op2, ok_op1, ok_blt, ok_listM, ok_chain, ok_and, ok_or, ok_not, ok_tval, ok_band, ok_bor, ok_bnot, ok_yes, ok_mif, ok_callM, ok_call, ok_lm, ok_optN, ok_optS, ok_slice, ok_ival, ok_range1, ok_range2, ok_zip, ok_comp, ok_compM, s_skip, s_seq, s_expr, s_asg, s_put, s_ret, s_retN, s_brk, s_cnt, s_if, s_for, s_while, List.map_cons, List.map_nil, List.cons_append, List.nil_append, List.replicate, List.getElem?_cons_zero, List.getElem?_cons_succ, List.set_cons_zero, List.set_cons_succ, Option.some.injEq, exists_eq_left', exists_eq_left, Nat.reduceSub, Nat.reduceAdd, Nat.reduceMul, wipeE, gNm, gNms, gTp, D.int.injEq, true_and, and_true, List.length_cons, List.length_nil, Option.bind_some, idx_ref, ixC_lst, idx_lst, idx_tup, idx_frz, at0, at1, at2, at3, add_int, sub_int, mod_int, fdiv_int, pow18, lt_int, le_int, gt_int, ge_int, tru_bl, tru_int, eq_int, ne_int, eq_str, ne_str, eq_bl, ne_bl, put_ref, putC_lst, ix0, ix1, ix2, ix3, len_lst, len_tup, len_frz, len_ref, lenC_lst, un1_one, tuple_lst, tuple_tup, list_lst, list_tup, slice_tup, slice_lst, it_tup, it_lst, cut_from1, Option.map_some, List.set_set, Nat.reduceLT, Int.reduceLT, if_true, Int.toNat_natCast, mul_mod, mulL, mulR, Int.reduceNeg]
  have g12 := g1.go h.lt g2
  have hs2 : st2.length = st.length := by simpa using g12.len
  rw [hs2]
  have hnl : ((List.range (1 + m)).map (nameAt a b)).length = 1 + m := by simp
  have hnd : ((List.range (1 + m)).map (nameAt a b)).Nodup := names_nodup a0 a1 hb (by omega)
  generalize (List.range (1 + m)).map (nameAt a b) = sts at hnl hnd ⊢
  have g3 := g12.push (.lst [])
  refine for_inv (fun done env S => ∃ (x5 x6 x7 x8 x9 x10 : Option D) (tb : Tb) (more : St), env = [some (.ref n), some (.tup (sg.map fun p => D.tup [.str p.1, .int p.2])), some (.int mo), some (.lst (sts.map D.str)), some (.ref st.length), x5, x6, x7, x8, x9, x10, none] ∧ Fr FC n st (.lst (tb.map encE) :: more) S ∧ done = (tb.map (·.1)).map D.str ∧
      (∀ e ∈ tb, (∀ r ∈ e.2, (r.1, r.2.length) ∈ sg ∧ ∀ s ∈ r.2, s ∈ sts) ∧ e.2.length ≤ 8 ∧ e.2.Nodup))
    (sts.map D.str) [] _ _ ⟨_, _, _, _, _, _, [], [], rfl, g3, rfl, by simp⟩ ?_ (fun _ _ _ _ n h => by cases h) rfl ?_
  · rintro e rest done env S he ⟨x5, x6, x7, x8, x9, x10, tb, more, rfl, g, hdone, hfnd⟩
    have hmem : e ∈ sts.map D.str := by rw [← he]; simp
    obtain ⟨s, hs', rfl⟩ := List.mem_map.mp hmem
    have hdl : tb.length ≤ 10 := by
      have : done.length ≤ (sts.map D.str).length := by rw [← he]; simp
      rw [List.length_map, hdone] at this
      simp at this
      omega
    try simp only [ok_ok, ok_no, ok_bind, ok_of_some, ok_var, ok_cst, ok_nil, ok_cons, ok_tup, ok_lst, ok_lstM, ok_op2, ok_op1, ok_blt, ok_listM, ok_chain, ok_and, ok_or, ok_not, ok_tval, ok_band, ok_bor, ok_bnot, ok_yes, ok_mif, ok_callM, ok_call, ok_lm, ok_optN, ok_optS, ok_slice, ok_ival, ok_range1, ok_range2, ok_zip, ok_comp, ok_compM, s_skip, s_seq, s_expr, s_asg, s_put, s_ret, s_retN, s_brk, s_cnt, s_if, s_for, s_while, List.map_cons, List.map_nil, List.cons_append, List.nil_append, List.replicate, List.getElem?_cons_zero, List.getElem?_cons_succ, List.set_cons_zero, List.set_cons_succ, Option.some.injEq, exists_eq_left', exists_eq_left, Nat.reduceSub, Nat.reduceAdd, Nat.reduceMul, wipeE, gNm, gNms, gTp, D.int.injEq, true_and, and_true, List.length_cons, List.length_nil, Option.bind_some, idx_ref, ixC_lst, idx_lst, idx_tup, idx_frz, at0, at1, at2, at3, add_int, sub_int, mod_int, fdiv_int, pow18, lt_int, le_int, gt_int, ge_int, tru_bl, tru_int, eq_int, ne_int, eq_str, ne_str, eq_bl, ne_bl, put_ref, putC_lst, ix0, ix1, ix2, ix3, len_lst, len_tup, len_frz, len_ref, lenC_lst, un1_one, tuple_lst, tuple_tup, list_lst, list_tup, slice_tup, slice_lst, it_tup, it_lst, cut_from1, Option.map_some, List.set_set, Nat.reduceLT, Int.reduceLT, if_true, Int.toNat_natCast, mul_mod, mulL, mulR, Int.reduceNeg]
    have hSl : S.length = st.length + (more.length + 1) := by have := g.len; simp at this; omega
    rw [hSl]
    have gp := g.push (.lst [])
    refine for_inv (fun dn env S => ∃ (x7 x8 x9 x10 : Option D) (rows : List Row), env = [some (.ref n), some (.tup (sg.map fun p => D.tup [.str p.1, .int p.2])), some (.int mo), some (.lst (sts.map D.str)), some (.ref st.length), some (.str s), some (.ref (st.length + (more.length + 1))), x7, x8, x9, x10, none] ∧ Fr FC n st (.lst (tb.map encE) :: (more ++ [Cell.lst (rows.map encR)])) S ∧ rows.length ≤ 2 * dn.length ∧ (∀ r ∈ rows, (r.1, r.2.length) ∈ sg ∧ ∀ s ∈ r.2, s ∈ sts) ∧ rows.Nodup)
      _ [] _ _ ⟨_, _, _, _, [], rfl, gp, Nat.le_refl _, by simp, by simp⟩ ?_ (fun _ _ _ _ n h => by cases h) rfl ?_
    · rintro e rest2 dn env S2 he2 ⟨y7, y8, y9, y10, rows, rfl, g2, hrl, hrows, hrn⟩
      have hmem2 : e ∈ sg.map fun p => D.tup [.str p.1, .int p.2] := by rw [← he2]; simp
      obtain ⟨⟨nm, ar⟩, hp, rfl⟩ := List.mem_map.mp hmem2
      have hdl2 : dn.length ≤ 6 := by
        have : dn.length ≤ (sg.map fun p => D.tup [.str p.1, .int p.2]).length := by rw [← he2]; simp
        rw [List.length_map] at this
        have := hs.hi
        omega
      have har : ar ≤ 3 := hs.one.le _ hp
      try simp only [ok_ok, ok_no, ok_bind, ok_of_some, ok_var, ok_cst, ok_nil, ok_cons, ok_tup, ok_lst, ok_lstM, ok_op2, ok_op1, ok_blt, ok_listM, ok_chain, ok_and, ok_or, ok_not, ok_tval, ok_band, ok_bor, ok_bnot, ok_yes, ok_mif, ok_callM, ok_call, ok_lm, ok_optN, ok_optS, ok_slice, ok_ival, ok_range1, ok_range2, ok_zip, ok_comp, ok_compM, s_skip, s_seq, s_expr, s_asg, s_put, s_ret, s_retN, s_brk, s_cnt, s_if, s_for, s_while, List.map_cons, List.map_nil, List.cons_append, List.nil_append, List.replicate, List.getElem?_cons_zero, List.getElem?_cons_succ, List.set_cons_zero, List.set_cons_succ, Option.some.injEq, exists_eq_left', exists_eq_left, Nat.reduceSub, Nat.reduceAdd, Nat.reduceMul, wipeE, gNm, gNms, gTp, D.int.injEq, true_and, and_true, List.length_cons, List.length_nil, Option.bind_some, idx_ref, ixC_lst, idx_lst, idx_tup, idx_frz, at0, at1, at2, at3, add_int, sub_int, mod_int, fdiv_int, pow18, lt_int, le_int, gt_int, ge_int, tru_bl, tru_int, eq_int, ne_int, eq_str, ne_str, eq_bl, ne_bl, put_ref, putC_lst, ix0, ix1, ix2, ix3, len_lst, len_tup, len_frz, len_ref, lenC_lst, un1_one, tuple_lst, tuple_tup, list_lst, list_tup, slice_tup, slice_lst, it_tup, it_lst, cut_from1, Option.map_some, List.set_set, Nat.reduceLT, Int.reduceLT, if_true, Int.toNat_natCast, mul_mod, mulL, mulR, Int.reduceNeg]
      refine draw_call (g2.fd h.lt) (by decide) (by decide) fun i S3 i0 i1 g3 => ?_
      have g23 := g2.go h.lt g3
      obtain ⟨x, hx, _, hx2⟩ := at_get (xs := [D.int 1, .int 1, .int 0, .int 2]) i0 (by simpa using i1)
      obtain ⟨k, hk3, rfl⟩ : ∃ k : Nat, k ≤ 2 ∧ x = .int k := by
        simp at hx
        rcases hx with rfl | rfl | rfl
        · exact ⟨1, by decide, rfl⟩
        · exact ⟨0, by decide, rfl⟩
        · exact ⟨2, by decide, rfl⟩
      try simp only [ok_ok, ok_no, ok_bind, ok_of_some, ok_var, ok_cst, ok_nil, ok_cons, ok_tup, ok_lst, ok_lstM, ok_op2, ok_op1, ok_blt, ok_listM, ok_chain, ok_and, ok_or, ok_not, ok_tval, ok_band, ok_bor, ok_bnot, ok_yes, ok_mif, ok_callM, ok_call, ok_lm, ok_optN, ok_optS, ok_slice, ok_ival, ok_range1, ok_range2, ok_zip, ok_comp, ok_compM, s_skip, s_seq, s_expr, s_asg, s_put, s_ret, s_retN, s_brk, s_cnt, s_if, s_for, s_while, List.map_cons, List.map_nil, List.cons_append, List.nil_append, List.replicate, List.getElem?_cons_zero, List.getElem?_cons_succ, List.set_cons_zero, List.set_cons_succ, Option.some.injEq, exists_eq_left', exists_eq_left, Nat.reduceSub, Nat.reduceAdd, Nat.reduceMul, wipeE, gNm, gNms, gTp, D.int.injEq, true_and, and_true, List.length_cons, List.length_nil, Option.bind_some, idx_ref, ixC_lst, idx_lst, idx_tup, idx_frz, at0, at1, at2, at3, add_int, sub_int, mod_int, fdiv_int, pow18, lt_int, le_int, gt_int, ge_int, tru_bl, tru_int, eq_int, ne_int, eq_str, ne_str, eq_bl, ne_bl, put_ref, putC_lst, ix0, ix1, ix2, ix3, len_lst, len_tup, len_frz, len_ref, lenC_lst, un1_one, tuple_lst, tuple_tup, list_lst, list_tup, slice_tup, slice_lst, it_tup, it_lst, cut_from1, Option.map_some, List.set_set, Nat.reduceLT, Int.reduceLT, if_true, Int.toNat_natCast, mul_mod, mulL, mulR, Int.reduceNeg, hx2]
      refine ⟨by unfold big; omega, ?_⟩
      refine for_inv (fun d3 env S => ∃ (x9 x10 : Option D) (rows' : List Row), env = [some (.ref n), some (.tup (sg.map fun p => D.tup [.str p.1, .int p.2])), some (.int mo), some (.lst (sts.map D.str)), some (.ref st.length), some (.str s), some (.ref (st.length + (more.length + 1))), some (.str nm), some (.int ar), x9, x10, none] ∧ Fr FC n st (.lst (tb.map encE) :: (more ++ [Cell.lst (rows'.map encR)])) S ∧ rows'.length ≤ rows.length + d3.length ∧ (∀ r ∈ rows', (r.1, r.2.length) ∈ sg ∧ ∀ s ∈ r.2, s ∈ sts) ∧ rows'.Nodup)
        _ [] _ _ ⟨_, _, rows, rfl, g23, Nat.le_refl _, hrows, hrn⟩ ?_ (fun _ _ _ _ n h => by cases h) rfl ?_
      · rintro e rest3 d3 env S4 he3 ⟨z9, z10, rows', rfl, g4, hrl', hrows', hrn'⟩
        have hd3 : d3.length ≤ 2 := by
          have : d3.length ≤ ((List.range k).map fun (k : Nat) => D.int k).length := by rw [← he3]; simp
          simp at this
          omega
        try simp only [ok_ok, ok_no, ok_bind, ok_of_some, ok_var, ok_cst, ok_nil, ok_cons, ok_tup, ok_lst, ok_lstM, ok_op2, ok_op1, ok_blt, ok_listM, ok_chain, ok_and, ok_or, ok_not, ok_tval, ok_band, ok_bor, ok_bnot, ok_yes, ok_mif, ok_callM, ok_call, ok_lm, ok_optN, ok_optS, ok_slice, ok_ival, ok_range1, ok_range2, ok_zip, ok_comp, ok_compM, s_skip, s_seq, s_expr, s_asg, s_put, s_ret, s_retN, s_brk, s_cnt, s_if, s_for, s_while, List.map_cons, List.map_nil, List.cons_append, List.nil_append, List.replicate, List.getElem?_cons_zero, List.getElem?_cons_succ, List.set_cons_zero, List.set_cons_succ, Option.some.injEq, exists_eq_left', exists_eq_left, Nat.reduceSub, Nat.reduceAdd, Nat.reduceMul, wipeE, gNm, gNms, gTp, D.int.injEq, true_and, and_true, List.length_cons, List.length_nil, Option.bind_some, idx_ref, ixC_lst, idx_lst, idx_tup, idx_frz, at0, at1, at2, at3, add_int, sub_int, mod_int, fdiv_int, pow18, lt_int, le_int, gt_int, ge_int, tru_bl, tru_int, eq_int, ne_int, eq_str, ne_str, eq_bl, ne_bl, put_ref, putC_lst, ix0, ix1, ix2, ix3, len_lst, len_tup, len_frz, len_ref, lenC_lst, un1_one, tuple_lst, tuple_tup, list_lst, list_tup, slice_tup, slice_lst, it_tup, it_lst, cut_from1, Option.map_some, List.set_set, Nat.reduceLT, Int.reduceLT, if_true, Int.toNat_natCast, mul_mod, mulL, mulR, Int.reduceNeg]
        refine ⟨by unfold big; omega, ?_⟩
        refine comp_go (fun done ys S => Fr FC n st (.lst (tb.map encE) :: (more ++ [Cell.lst (rows'.map encR)])) S ∧ ∃ zs : List Str, ys = zs.map D.str ∧ zs.length = done.length ∧ ∀ z ∈ zs, z ∈ sts) rfl ⟨g4, [], rfl, rfl, by simp⟩ ?_ ?_
        · rintro x done ys S5 hx ⟨g5, zs, rfl, hzl, hzs⟩
          try simp only [ok_ok, ok_no, ok_bind, ok_of_some, ok_var, ok_cst, ok_nil, ok_cons, ok_tup, ok_lst, ok_lstM, ok_op2, ok_op1, ok_blt, ok_listM, ok_chain, ok_and, ok_or, ok_not, ok_tval, ok_band, ok_bor, ok_bnot, ok_yes, ok_mif, ok_callM, ok_call, ok_lm, ok_optN, ok_optS, ok_slice, ok_ival, ok_range1, ok_range2, ok_zip, ok_comp, ok_compM, s_skip, s_seq, s_expr, s_asg, s_put, s_ret, s_retN, s_brk, s_cnt, s_if, s_for, s_while, List.map_cons, List.map_nil, List.cons_append, List.nil_append, List.replicate, List.getElem?_cons_zero, List.getElem?_cons_succ, List.set_cons_zero, List.set_cons_succ, Option.some.injEq, exists_eq_left', exists_eq_left, Nat.reduceSub, Nat.reduceAdd, Nat.reduceMul, wipeE, gNm, gNms, gTp, D.int.injEq, true_and, and_true, List.length_cons, List.length_nil, Option.bind_some, idx_ref, ixC_lst, idx_lst, idx_tup, idx_frz, at0, at1, at2, at3, add_int, sub_int, mod_int, fdiv_int, pow18, lt_int, le_int, gt_int, ge_int, tru_bl, tru_int, eq_int, ne_int, eq_str, ne_str, eq_bl, ne_bl, put_ref, putC_lst, ix0, ix1, ix2, ix3, len_lst, len_tup, len_frz, len_ref, lenC_lst, un1_one, tuple_lst, tuple_tup, list_lst, list_tup, slice_tup, slice_lst, it_tup, it_lst, cut_from1, Option.map_some, List.set_set, Nat.reduceLT, Int.reduceLT, if_true, Int.toNat_natCast, mul_mod, mulL, mulR, Int.reduceNeg]
          rw [List.length_map, hnl]
          refine draw_call (g5.fd h.lt) (by omega) (by omega) fun i S6 i0 i1 g6 => ?_
          obtain ⟨x, hx, _, hx2⟩ := at_get (xs := sts.map D.str) i0 (by simp [hnl]; omega)
          obtain ⟨z, hz, rfl⟩ := List.mem_map.mp hx
          try simp only [ok_ok, ok_no, ok_bind, ok_of_some, ok_var, ok_cst, ok_nil, ok_cons, ok_tup, ok_lst, ok_lstM, ok_op2, ok_op1, ok_blt, ok_listM, ok_chain, ok_and, ok_or, ok_not, ok_tval, ok_band, ok_bor, ok_bnot, ok_yes, ok_mif, ok_callM, ok_call, ok_lm, ok_optN, ok_optS, ok_slice, ok_ival, ok_range1, ok_range2, ok_zip, ok_comp, ok_compM, s_skip, s_seq, s_expr, s_asg, s_put, s_ret, s_retN, s_brk, s_cnt, s_if, s_for, s_while, List.map_cons, List.map_nil, List.cons_append, List.nil_append, List.replicate, List.getElem?_cons_zero, List.getElem?_cons_succ, List.set_cons_zero, List.set_cons_succ, Option.some.injEq, exists_eq_left', exists_eq_left, Nat.reduceSub, Nat.reduceAdd, Nat.reduceMul, wipeE, gNm, gNms, gTp, D.int.injEq, true_and, and_true, List.length_cons, List.length_nil, Option.bind_some, idx_ref, ixC_lst, idx_lst, idx_tup, idx_frz, at0, at1, at2, at3, add_int, sub_int, mod_int, fdiv_int, pow18, lt_int, le_int, gt_int, ge_int, tru_bl, tru_int, eq_int, ne_int, eq_str, ne_str, eq_bl, ne_bl, put_ref, putC_lst, ix0, ix1, ix2, ix3, len_lst, len_tup, len_frz, len_ref, lenC_lst, un1_one, tuple_lst, tuple_tup, list_lst, list_tup, slice_tup, slice_lst, it_tup, it_lst, cut_from1, Option.map_some, List.set_set, Nat.reduceLT, Int.reduceLT, if_true, Int.toNat_natCast, mul_mod, mulL, mulR, Int.reduceNeg, hx2]
          refine ⟨g5.go h.lt g6, zs ++ [z], by simp, by simp [hzl], fun q hq => ?_⟩
          rcases List.mem_append.mp hq with w | w
          · exact hzs q w
          · rw [List.mem_singleton.mp w]; exact hz
        · rintro ys S5 ⟨g5, zs, rfl, hzl, hzs⟩
          have hzl' : zs.length = ar := by simpa using hzl
          try simp only [ok_ok, ok_no, ok_bind, ok_of_some, ok_var, ok_cst, ok_nil, ok_cons, ok_tup, ok_lst, ok_lstM, ok_op2, ok_op1, ok_blt, ok_listM, ok_chain, ok_and, ok_or, ok_not, ok_tval, ok_band, ok_bor, ok_bnot, ok_yes, ok_mif, ok_callM, ok_call, ok_lm, ok_optN, ok_optS, ok_slice, ok_ival, ok_range1, ok_range2, ok_zip, ok_comp, ok_compM, s_skip, s_seq, s_expr, s_asg, s_put, s_ret, s_retN, s_brk, s_cnt, s_if, s_for, s_while, List.map_cons, List.map_nil, List.cons_append, List.nil_append, List.replicate, List.getElem?_cons_zero, List.getElem?_cons_succ, List.set_cons_zero, List.set_cons_succ, Option.some.injEq, exists_eq_left', exists_eq_left, Nat.reduceSub, Nat.reduceAdd, Nat.reduceMul, wipeE, gNm, gNms, gTp, D.int.injEq, true_and, and_true, List.length_cons, List.length_nil, Option.bind_some, idx_ref, ixC_lst, idx_lst, idx_tup, idx_frz, at0, at1, at2, at3, add_int, sub_int, mod_int, fdiv_int, pow18, lt_int, le_int, gt_int, ge_int, tru_bl, tru_int, eq_int, ne_int, eq_str, ne_str, eq_bl, ne_bl, put_ref, putC_lst, ix0, ix1, ix2, ix3, len_lst, len_tup, len_frz, len_ref, lenC_lst, un1_one, tuple_lst, tuple_tup, list_lst, list_tup, slice_tup, slice_lst, it_tup, it_lst, cut_from1, Option.map_some, List.set_set, Nat.reduceLT, Int.reduceLT, if_true, Int.toNat_natCast, mul_mod, mulL, mulR, Int.reduceNeg]
          rw [add_tup (by simp; unfold big; omega)]
          try simp only [ok_ok, ok_no, ok_bind, ok_of_some, ok_var, ok_cst, ok_nil, ok_cons, ok_tup, ok_lst, ok_lstM, ok_op2, ok_op1, ok_blt, ok_listM, ok_chain, ok_and, ok_or, ok_not, ok_tval, ok_band, ok_bor, ok_bnot, ok_yes, ok_mif, ok_callM, ok_call, ok_lm, ok_optN, ok_optS, ok_slice, ok_ival, ok_range1, ok_range2, ok_zip, ok_comp, ok_compM, s_skip, s_seq, s_expr, s_asg, s_put, s_ret, s_retN, s_brk, s_cnt, s_if, s_for, s_while, List.map_cons, List.map_nil, List.cons_append, List.nil_append, List.replicate, List.getElem?_cons_zero, List.getElem?_cons_succ, List.set_cons_zero, List.set_cons_succ, Option.some.injEq, exists_eq_left', exists_eq_left, Nat.reduceSub, Nat.reduceAdd, Nat.reduceMul, wipeE, gNm, gNms, gTp, D.int.injEq, true_and, and_true, List.length_cons, List.length_nil, Option.bind_some, idx_ref, ixC_lst, idx_lst, idx_tup, idx_frz, at0, at1, at2, at3, add_int, sub_int, mod_int, fdiv_int, pow18, lt_int, le_int, gt_int, ge_int, tru_bl, tru_int, eq_int, ne_int, eq_str, ne_str, eq_bl, ne_bl, put_ref, putC_lst, ix0, ix1, ix2, ix3, len_lst, len_tup, len_frz, len_ref, lenC_lst, un1_one, tuple_lst, tuple_tup, list_lst, list_tup, slice_tup, slice_lst, it_tup, it_lst, cut_from1, Option.map_some, List.set_set, Nat.reduceLT, Int.reduceLT, if_true, Int.toNat_natCast, mul_mod, mulL, mulR, Int.reduceNeg]
          have e5 : S5[st.length + (more.length + 1)]? = some (.lst (rows'.map encR)) := by rw [g5.at]; simp
          change ∃ d, ninB S5 (encR (nm, zs)) _ = some d ∧ _
          rw [nin_refl e5 (nob_R _) nob_Rs (by rw [dep_R]; omega)]
          try simp only [ok_ok, ok_no, ok_bind, ok_of_some, ok_var, ok_cst, ok_nil, ok_cons, ok_tup, ok_lst, ok_lstM, ok_op2, ok_op1, ok_blt, ok_listM, ok_chain, ok_and, ok_or, ok_not, ok_tval, ok_band, ok_bor, ok_bnot, ok_yes, ok_mif, ok_callM, ok_call, ok_lm, ok_optN, ok_optS, ok_slice, ok_ival, ok_range1, ok_range2, ok_zip, ok_comp, ok_compM, s_skip, s_seq, s_expr, s_asg, s_put, s_ret, s_retN, s_brk, s_cnt, s_if, s_for, s_while, List.map_cons, List.map_nil, List.cons_append, List.nil_append, List.replicate, List.getElem?_cons_zero, List.getElem?_cons_succ, List.set_cons_zero, List.set_cons_succ, Option.some.injEq, exists_eq_left', exists_eq_left, Nat.reduceSub, Nat.reduceAdd, Nat.reduceMul, wipeE, gNm, gNms, gTp, D.int.injEq, true_and, and_true, List.length_cons, List.length_nil, Option.bind_some, idx_ref, ixC_lst, idx_lst, idx_tup, idx_frz, at0, at1, at2, at3, add_int, sub_int, mod_int, fdiv_int, pow18, lt_int, le_int, gt_int, ge_int, tru_bl, tru_int, eq_int, ne_int, eq_str, ne_str, eq_bl, ne_bl, put_ref, putC_lst, ix0, ix1, ix2, ix3, len_lst, len_tup, len_frz, len_ref, lenC_lst, un1_one, tuple_lst, tuple_tup, list_lst, list_tup, slice_tup, slice_lst, it_tup, it_lst, cut_from1, Option.map_some, List.set_set, Nat.reduceLT, Int.reduceLT, if_true, Int.toNat_natCast, mul_mod, mulL, mulR, Int.reduceNeg]
          by_cases hin : (nm, zs) ∈ rows'
          · rw [if_neg (by simp only [mem_map_inj (fun _ _ => encR_inj), hin, decide_true]; decide)]
            exact ⟨_, _, rows', rfl, g5, by simp; omega, hrows', hrn'⟩
          · rw [if_pos (by simp only [mem_map_inj (fun _ _ => encR_inj), hin, decide_false]; decide)]
            refine ⟨isL_ref e5, ?_⟩
            rw [e5]
            try simp only [ok_ok, ok_no, ok_bind, ok_of_some, ok_var, ok_cst, ok_nil, ok_cons, ok_tup, ok_lst, ok_lstM, ok_op2, ok_op1, ok_blt, ok_listM, ok_chain, ok_and, ok_or, ok_not, ok_tval, ok_band, ok_bor, ok_bnot, ok_yes, ok_mif, ok_callM, ok_call, ok_lm, ok_optN, ok_optS, ok_slice, ok_ival, ok_range1, ok_range2, ok_zip, ok_comp, ok_compM, s_skip, s_seq, s_expr, s_asg, s_put, s_ret, s_retN, s_brk, s_cnt, s_if, s_for, s_while, List.map_cons, List.map_nil, List.cons_append, List.nil_append, List.replicate, List.getElem?_cons_zero, List.getElem?_cons_succ, List.set_cons_zero, List.set_cons_succ, Option.some.injEq, exists_eq_left', exists_eq_left, Nat.reduceSub, Nat.reduceAdd, Nat.reduceMul, wipeE, gNm, gNms, gTp, D.int.injEq, true_and, and_true, List.length_cons, List.length_nil, Option.bind_some, idx_ref, ixC_lst, idx_lst, idx_tup, idx_frz, at0, at1, at2, at3, add_int, sub_int, mod_int, fdiv_int, pow18, lt_int, le_int, gt_int, ge_int, tru_bl, tru_int, eq_int, ne_int, eq_str, ne_str, eq_bl, ne_bl, put_ref, putC_lst, ix0, ix1, ix2, ix3, len_lst, len_tup, len_frz, len_ref, lenC_lst, un1_one, tuple_lst, tuple_tup, list_lst, list_tup, slice_tup, slice_lst, it_tup, it_lst, cut_from1, Option.map_some, List.set_set, Nat.reduceLT, Int.reduceLT, if_true, Int.toNat_natCast, mul_mod, mulL, mulR, Int.reduceNeg]
            rw [List.length_map]
            refine draw_call (g5.fd h.lt) (by omega) (by omega) fun i S6 i0 i1 g6 => ?_
            have g56 := g5.go h.lt g6
            have e6 : S6[st.length + (more.length + 1)]? = some (.lst (rows'.map encR)) := by rw [g56.at]; simp
            rw [insert_ref e6 (by rw [List.length_map]; unfold big; omega) i0 (by unfold big; omega)]
            have eins : (rows'.map encR).take i.toNat ++ [encR (nm, zs)] ++ (rows'.map encR).drop i.toNat = (rows'.take i.toNat ++ [(nm, zs)] ++ rows'.drop i.toNat).map encR := by simp
            have g7 := g56.put (more.length + 1) (.lst ((rows'.take i.toNat ++ [(nm, zs)] ++ rows'.drop i.toNat).map encR))
            rw [List.set_cons_succ, List.set_append_right _ _ (by simp)] at g7
            simp only [Nat.sub_self, List.set_cons_zero] at g7
            rw [← eins] at g7
            refine ⟨_, _, rfl, _, _, rows'.take i.toNat ++ [(nm, zs)] ++ rows'.drop i.toNat, rfl, by rw [← eins]; exact g7, by simp; omega, fun r hr => ?_, nodup_ins hrn' hin _⟩
            rcases mem_ins hr with rfl | hr
            · exact ⟨by rw [hzl']; exact hp, hzs⟩
            · exact hrows' r hr
      · rintro env S4 ⟨z9, z10, rows', rfl, g4, hrl', hrows', hrn'⟩
        exact ⟨_, _, _, _, rows', rfl, g4, by simp at hrl' ⊢; omega, hrows', hrn'⟩
    · rintro env S2 ⟨y7, y8, y9, y10, rows, rfl, g2, hrl, hrows, hrn⟩
      try simp only [ok_ok, ok_no, ok_bind, ok_of_some, ok_var, ok_cst, ok_nil, ok_cons, ok_tup, ok_lst, ok_lstM, ok_op2, ok_op1, ok_blt, ok_listM, ok_chain, ok_and, ok_or, ok_not, ok_tval, ok_band, ok_bor, ok_bnot, ok_yes, ok_mif, ok_callM, ok_call, ok_lm, ok_optN, ok_optS, ok_slice, ok_ival, ok_range1, ok_range2, ok_zip, ok_comp, ok_compM, s_skip, s_seq, s_expr, s_asg, s_put, s_ret, s_retN, s_brk, s_cnt, s_if, s_for, s_while, List.map_cons, List.map_nil, List.cons_append, List.nil_append, List.replicate, List.getElem?_cons_zero, List.getElem?_cons_succ, List.set_cons_zero, List.set_cons_succ, Option.some.injEq, exists_eq_left', exists_eq_left, Nat.reduceSub, Nat.reduceAdd, Nat.reduceMul, wipeE, gNm, gNms, gTp, D.int.injEq, true_and, and_true, List.length_cons, List.length_nil, Option.bind_some, idx_ref, ixC_lst, idx_lst, idx_tup, idx_frz, at0, at1, at2, at3, add_int, sub_int, mod_int, fdiv_int, pow18, lt_int, le_int, gt_int, ge_int, tru_bl, tru_int, eq_int, ne_int, eq_str, ne_str, eq_bl, ne_bl, put_ref, putC_lst, ix0, ix1, ix2, ix3, len_lst, len_tup, len_frz, len_ref, lenC_lst, un1_one, tuple_lst, tuple_tup, list_lst, list_tup, slice_tup, slice_lst, it_tup, it_lst, cut_from1, Option.map_some, List.set_set, Nat.reduceLT, Int.reduceLT, if_true, Int.toNat_natCast, mul_mod, mulL, mulR, Int.reduceNeg]
      have e0 : S2[st.length]? = some (.lst (tb.map encE)) := by simpa using g2.at 0
      have e1 : S2[st.length + (more.length + 1)]? = some (.lst (rows.map encR)) := by rw [g2.at]; simp
      refine ⟨isL_ref e0, ?_⟩
      have e2 : sliceD S2 (.ref (st.length + (more.length + 1))) none (some 8) = some (.lst ((rows.take 8).map encR)) := by
        unfold sliceD
        rw [see_ref, e1]
        simp only [seeC_lst]
        rw [show (8 : Int) = ((8 : Nat) : Int) from rfl, cut_to, List.map_take]
      rw [e2]
      try simp only [ok_ok, ok_no, ok_bind, ok_of_some, ok_var, ok_cst, ok_nil, ok_cons, ok_tup, ok_lst, ok_lstM, ok_op2, ok_op1, ok_blt, ok_listM, ok_chain, ok_and, ok_or, ok_not, ok_tval, ok_band, ok_bor, ok_bnot, ok_yes, ok_mif, ok_callM, ok_call, ok_lm, ok_optN, ok_optS, ok_slice, ok_ival, ok_range1, ok_range2, ok_zip, ok_comp, ok_compM, s_skip, s_seq, s_expr, s_asg, s_put, s_ret, s_retN, s_brk, s_cnt, s_if, s_for, s_while, List.map_cons, List.map_nil, List.cons_append, List.nil_append, List.replicate, List.getElem?_cons_zero, List.getElem?_cons_succ, List.set_cons_zero, List.set_cons_succ, Option.some.injEq, exists_eq_left', exists_eq_left, Nat.reduceSub, Nat.reduceAdd, Nat.reduceMul, wipeE, gNm, gNms, gTp, D.int.injEq, true_and, and_true, List.length_cons, List.length_nil, Option.bind_some, idx_ref, ixC_lst, idx_lst, idx_tup, idx_frz, at0, at1, at2, at3, add_int, sub_int, mod_int, fdiv_int, pow18, lt_int, le_int, gt_int, ge_int, tru_bl, tru_int, eq_int, ne_int, eq_str, ne_str, eq_bl, ne_bl, put_ref, putC_lst, ix0, ix1, ix2, ix3, len_lst, len_tup, len_frz, len_ref, lenC_lst, un1_one, tuple_lst, tuple_tup, list_lst, list_tup, slice_tup, slice_lst, it_tup, it_lst, cut_from1, Option.map_some, List.set_set, Nat.reduceLT, Int.reduceLT, if_true, Int.toNat_natCast, mul_mod, mulL, mulR, Int.reduceNeg]
      rw [append_ref e0 (by rw [List.length_map]; unfold big; omega)]
      have g3 := g2.put 0 (.lst (tb.map encE ++ [encE (s, rows.take 8)]))
      simp only [Nat.add_zero, List.set_cons_zero] at g3
      refine ⟨_, _, rfl, _, _, _, _, _, _, tb ++ [(s, rows.take 8)], more ++ [Cell.lst (rows.map encR)], rfl, (by rw [List.map_append]; exact g3), by simp [hdone], fun e he => ?_⟩
      rcases List.mem_append.mp he with he | he
      · exact hfnd e he
      · rw [List.mem_singleton.mp he]
        exact ⟨fun r hr => hrows r (List.mem_of_mem_take hr), by simp; omega, hrn.sublist (List.take_sublist _ _)⟩
  · rintro env S ⟨x5, x6, x7, x8, x9, x10, tb, more, rfl, g, hdone, hfnd⟩
    try simp only [ok_ok, ok_no, ok_bind, ok_of_some, ok_var, ok_cst, ok_nil, ok_cons, ok_tup, ok_lst, ok_lstM, ok_op2, ok_op1, ok_blt, ok_listM, ok_chain, ok_and, ok_or, ok_not, ok_tval, ok_band, ok_bor, ok_bnot, ok_yes, ok_mif, ok_callM, ok_call, ok_lm, ok_optN, ok_optS, ok_slice, ok_ival, ok_range1, ok_range2, ok_zip, ok_comp, ok_compM, s_skip, s_seq, s_expr, s_asg, s_put, s_ret, s_retN, s_brk, s_cnt, s_if, s_for, s_while, List.map_cons, List.map_nil, List.cons_append, List.nil_append, List.replicate, List.getElem?_cons_zero, List.getElem?_cons_succ, List.set_cons_zero, List.set_cons_succ, Option.some.injEq, exists_eq_left', exists_eq_left, Nat.reduceSub, Nat.reduceAdd, Nat.reduceMul, wipeE, gNm, gNms, gTp, D.int.injEq, true_and, and_true, List.length_cons, List.length_nil, Option.bind_some, idx_ref, ixC_lst, idx_lst, idx_tup, idx_frz, at0, at1, at2, at3, add_int, sub_int, mod_int, fdiv_int, pow18, lt_int, le_int, gt_int, ge_int, tru_bl, tru_int, eq_int, ne_int, eq_str, ne_str, eq_bl, ne_bl, put_ref, putC_lst, ix0, ix1, ix2, ix3, len_lst, len_tup, len_frz, len_ref, lenC_lst, un1_one, tuple_lst, tuple_tup, list_lst, list_tup, slice_tup, slice_lst, it_tup, it_lst, cut_from1, Option.map_some, List.set_set, Nat.reduceLT, Int.reduceLT, if_true, Int.toNat_natCast, mul_mod, mulL, mulR, Int.reduceNeg]
    have e0 : S[st.length]? = some (.lst (tb.map encE)) := by simpa using g.at 0
    rw [tuple_ref e0]
    have hsts : tb.map (·.1) = sts := (strs_inj hdone).symm
    have hlen : tb.length = 1 + m := by rw [← hnl, ← hsts]; simp
    refine ⟨_, rfl, Fr.ok fcB g (bel_pln (pln_nob (nob_Tb tb))) fun S' g' => ⟨tb, rfl, ⟨by rw [hsts]; exact hnd, by omega, by omega, fun e he r hr => ((hfnd e he).1 r hr).1, fun e he r hr => by rw [hsts]; exact ((hfnd e he).1 r hr).2, fun e he => (hfnd e he).2.1, fun e he => (hfnd e he).2.2⟩, by omega, g'⟩⟩
end RP
end
section
set_option Elab.async false
set_option linter.all false
set_option maxRecDepth 100000
set_option maxHeartbeats 4000000
namespace RP
open PySem
theorem o_sorts {n : Nat} {x t : D} {st : St} {Q : D → St → Prop} (h : OkS (b_sorts_of (CC n) [some x, some t, none, none, none, none, none, none, none] st) (fun _ st1 => Ok (gc st .non st1) Q) (fun d st1 => Ok (gc st d st1) Q) (fun _ _ => False) fun _ _ => False) : Ok (CC (n + 1) "sorts_of" [x, t] st) Q := by
  rw [r_sorts_of]
  exact ok_fn rfl h
theorem sorts_ok {sg : Sg} {tb : Tb} (one : One sg) (htb : TabOk sg tb) : ∀ (t : Pt) (j : Nat) (st : St), TreeOf sg t →
    Ok (CC (hgt t + j) "sorts_of" [encTb tb, encT t] st) fun d st' => ∃ xs, d = .ref st.length ∧ st' = st ++ [.lst xs] ∧ bels st.length xs = true ∧ xs = (sortsOf tb t).map D.str
  | .unk x, j, st, ht => by cases ht
  | .nd f ks, j, st, .mk hn hk => by
    rw [hgt, show hgts ks + 1 + j = (hgts ks + j) + 1 by omega]
    have hks3 : ks.length ≤ 3 := one.le _ hn
    refine o_sorts ?_
    unfold b_sorts_of
    rw [encT_nd]
    try simp only [ok_ok, ok_no, ok_bind, ok_of_some, ok_var, ok_cst, ok_nil, ok_cons, ok_tup, ok_lst, ok_lstM, ok_op2, ok_op1, ok_blt, ok_listM, ok_chain, ok_and, ok_or, ok_not, ok_tval, ok_band, ok_bor, ok_bnot, ok_yes, ok_mif, ok_callM, ok_call, ok_lm, ok_optN, ok_optS, ok_slice, ok_ival, ok_range1, ok_range2, ok_zip, ok_comp, ok_compM, s_skip, s_seq, s_expr, s_asg, s_put, s_ret, s_retN, s_brk, s_cnt, s_if, s_for, s_while, List.map_cons, List.map_nil, List.cons_append, List.nil_append, List.replicate, List.getElem?_cons_zero, List.getElem?_cons_succ, List.set_cons_zero, List.set_cons_succ, Option.some.injEq, exists_eq_left', exists_eq_left, Nat.reduceSub, Nat.reduceAdd, Nat.reduceMul, wipeE, gNm, gNms, gTp, D.int.injEq, true_and, and_true, List.length_cons, List.length_nil, Option.bind_some, idx_ref, ixC_lst, idx_lst, idx_tup, idx_frz, at0, at1, at2, at3, add_int, sub_int, mod_int, fdiv_int, pow18, lt_int, le_int, gt_int, ge_int, tru_bl, tru_int, eq_int, ne_int, eq_str, ne_str, eq_bl, ne_bl, put_ref, putC_lst, ix0, ix1, ix2, ix3, len_lst, len_tup, len_frz, len_ref, lenC_lst, un1_one, tuple_lst, tuple_tup, list_lst, list_tup, slice_tup, slice_lst, it_tup, it_lst, cut_from1, Option.map_some, List.set_set, Nat.reduceLT, Int.reduceLT, if_true, Int.toNat_natCast, mul_mod, mulL, mulR, Int.reduceNeg]
    refine comp_enc ks (fun t => .lst ((sortsOf tb t).map D.str)) rfl gNone ?_ ?_
    · intro t ht
      refine ⟨_, rfl, ?_⟩
      try simp only [ok_ok, ok_no, ok_bind, ok_of_some, ok_var, ok_cst, ok_nil, ok_cons, ok_tup, ok_lst, ok_lstM, ok_op2, ok_op1, ok_blt, ok_listM, ok_chain, ok_and, ok_or, ok_not, ok_tval, ok_band, ok_bor, ok_bnot, ok_yes, ok_mif, ok_callM, ok_call, ok_lm, ok_optN, ok_optS, ok_slice, ok_ival, ok_range1, ok_range2, ok_zip, ok_comp, ok_compM, s_skip, s_seq, s_expr, s_asg, s_put, s_ret, s_retN, s_brk, s_cnt, s_if, s_for, s_while, List.map_cons, List.map_nil, List.cons_append, List.nil_append, List.replicate, List.getElem?_cons_zero, List.getElem?_cons_succ, List.set_cons_zero, List.set_cons_succ, Option.some.injEq, exists_eq_left', exists_eq_left, Nat.reduceSub, Nat.reduceAdd, Nat.reduceMul, wipeE, gNm, gNms, gTp, D.int.injEq, true_and, and_true, List.length_cons, List.length_nil, Option.bind_some, idx_ref, ixC_lst, idx_lst, idx_tup, idx_frz, at0, at1, at2, at3, add_int, sub_int, mod_int, fdiv_int, pow18, lt_int, le_int, gt_int, ge_int, tru_bl, tru_int, eq_int, ne_int, eq_str, ne_str, eq_bl, ne_bl, put_ref, putC_lst, ix0, ix1, ix2, ix3, len_lst, len_tup, len_frz, len_ref, lenC_lst, un1_one, tuple_lst, tuple_tup, list_lst, list_tup, slice_tup, slice_lst, it_tup, it_lst, cut_from1, Option.map_some, List.set_set, Nat.reduceLT, Int.reduceLT, if_true, Int.toNat_natCast, mul_mod, mulL, mulR, Int.reduceNeg]
      have hh := hgt_mem ht
      rw [show hgts ks + j = hgt t + (hgts ks - hgt t + j) by omega]
      refine ok_ice_new (sorts_ok one htb t _ st (hk t ht)) ?_
      rintro xs rfl
      exact ⟨rfl, rfl⟩
    · unfold encTb
      try simp only [ok_ok, ok_no, ok_bind, ok_of_some, ok_var, ok_cst, ok_nil, ok_cons, ok_tup, ok_lst, ok_lstM, ok_op2, ok_op1, ok_blt, ok_listM, ok_chain, ok_and, ok_or, ok_not, ok_tval, ok_band, ok_bor, ok_bnot, ok_yes, ok_mif, ok_callM, ok_call, ok_lm, ok_optN, ok_optS, ok_slice, ok_ival, ok_range1, ok_range2, ok_zip, ok_comp, ok_compM, s_skip, s_seq, s_expr, s_asg, s_put, s_ret, s_retN, s_brk, s_cnt, s_if, s_for, s_while, List.map_cons, List.map_nil, List.cons_append, List.nil_append, List.replicate, List.getElem?_cons_zero, List.getElem?_cons_succ, List.set_cons_zero, List.set_cons_succ, Option.some.injEq, exists_eq_left', exists_eq_left, Nat.reduceSub, Nat.reduceAdd, Nat.reduceMul, wipeE, gNm, gNms, gTp, D.int.injEq, true_and, and_true, List.length_cons, List.length_nil, Option.bind_some, idx_ref, ixC_lst, idx_lst, idx_tup, idx_frz, at0, at1, at2, at3, add_int, sub_int, mod_int, fdiv_int, pow18, lt_int, le_int, gt_int, ge_int, tru_bl, tru_int, eq_int, ne_int, eq_str, ne_str, eq_bl, ne_bl, put_ref, putC_lst, ix0, ix1, ix2, ix3, len_lst, len_tup, len_frz, len_ref, lenC_lst, un1_one, tuple_lst, tuple_tup, list_lst, list_tup, slice_tup, slice_lst, it_tup, it_lst, cut_from1, Option.map_some, List.set_set, Nat.reduceLT, Int.reduceLT, if_true, Int.toNat_natCast, mul_mod, mulL, mulR, Int.reduceNeg]
      have egs : ks.map (fun t => D.lst ((sortsOf tb t).map D.str)) = (sortsOfs tb ks).map fun g => D.lst (g.map D.str) := by rw [sortsOfs_map, List.map_map]; rfl
      rw [egs]
      have hgl : (sortsOfs tb ks).length = ks.length := by rw [sortsOfs_map, List.length_map]
      rw [sortsOf]
      generalize sortsOfs tb ks = gs at hgl ⊢
      refine for_gen tb (fun done env S => ∃ x4 x5 x6, env = [some (.tup (tb.map encE)), some (.tup (.str f :: ks.map encT)), some (.lst (gs.map fun g => D.lst (g.map D.str))), some (.ref st.length), x4, x5, x6, none, none] ∧ S = st ++ [.lst ((rowsSorts done f gs).map D.str)]) rfl ⟨none, none, none, rfl, rfl⟩ ?_ (fun _ _ _ _ => gNone) ?_
      · rintro ⟨s, rows⟩ rest done env S he ⟨x4, x5, x6, rfl, rfl⟩
        have hmem : (s, rows) ∈ tb := by rw [he]; simp
        have hdl : done.length ≤ 4 := by
          have := htb.hi
          rw [he] at this
          simp at this
          omega
        have hfl : (rowsSorts done f gs).length ≤ 4 := by
          unfold rowsSorts
          rw [List.length_map]
          exact Nat.le_trans (List.length_filter_le _ _) hdl
        try simp only [ok_ok, ok_no, ok_bind, ok_of_some, ok_var, ok_cst, ok_nil, ok_cons, ok_tup, ok_lst, ok_lstM, ok_op2, ok_op1, ok_blt, ok_listM, ok_chain, ok_and, ok_or, ok_not, ok_tval, ok_band, ok_bor, ok_bnot, ok_yes, ok_mif, ok_callM, ok_call, ok_lm, ok_optN, ok_optS, ok_slice, ok_ival, ok_range1, ok_range2, ok_zip, ok_comp, ok_compM, s_skip, s_seq, s_expr, s_asg, s_put, s_ret, s_retN, s_brk, s_cnt, s_if, s_for, s_while, List.map_cons, List.map_nil, List.cons_append, List.nil_append, List.replicate, List.getElem?_cons_zero, List.getElem?_cons_succ, List.set_cons_zero, List.set_cons_succ, Option.some.injEq, exists_eq_left', exists_eq_left, Nat.reduceSub, Nat.reduceAdd, Nat.reduceMul, wipeE, gNm, gNms, gTp, D.int.injEq, true_and, and_true, List.length_cons, List.length_nil, Option.bind_some, idx_ref, ixC_lst, idx_lst, idx_tup, idx_frz, at0, at1, at2, at3, add_int, sub_int, mod_int, fdiv_int, pow18, lt_int, le_int, gt_int, ge_int, tru_bl, tru_int, eq_int, ne_int, eq_str, ne_str, eq_bl, ne_bl, put_ref, putC_lst, ix0, ix1, ix2, ix3, len_lst, len_tup, len_frz, len_ref, lenC_lst, un1_one, tuple_lst, tuple_tup, list_lst, list_tup, slice_tup, slice_lst, it_tup, it_lst, cut_from1, Option.map_some, List.set_set, Nat.reduceLT, Int.reduceLT, if_true, Int.toNat_natCast, mul_mod, mulL, mulR, Int.reduceNeg]
        refine for_gen rows (fun dn env S => ∃ x6, env = [some (.tup (tb.map encE)), some (.tup (.str f :: ks.map encT)), some (.lst (gs.map fun g => D.lst (g.map D.str))), some (.ref st.length), some (.str s), some (.tup (rows.map encR)), x6, none, none] ∧ S = st ++ [.lst ((rowsSorts done f gs).map D.str)] ∧ ∀ r ∈ dn, rowFits f gs r = false) rfl ⟨_, rfl, rfl, by simp⟩ ?_ (fun _ _ _ _ => gNone) ?_
        · rintro ⟨nm, ss⟩ rs dn env S hr ⟨y6, rfl, rfl, hno⟩
          have hrm : (nm, ss) ∈ rows := by rw [hr]; simp
          have hsg := htb.row _ hmem _ hrm
          unfold encR
          try simp only [ok_ok, ok_no, ok_bind, ok_of_some, ok_var, ok_cst, ok_nil, ok_cons, ok_tup, ok_lst, ok_lstM, ok_op2, ok_op1, ok_blt, ok_listM, ok_chain, ok_and, ok_or, ok_not, ok_tval, ok_band, ok_bor, ok_bnot, ok_yes, ok_mif, ok_callM, ok_call, ok_lm, ok_optN, ok_optS, ok_slice, ok_ival, ok_range1, ok_range2, ok_zip, ok_comp, ok_compM, s_skip, s_seq, s_expr, s_asg, s_put, s_ret, s_retN, s_brk, s_cnt, s_if, s_for, s_while, List.map_cons, List.map_nil, List.cons_append, List.nil_append, List.replicate, List.getElem?_cons_zero, List.getElem?_cons_succ, List.set_cons_zero, List.set_cons_succ, Option.some.injEq, exists_eq_left', exists_eq_left, Nat.reduceSub, Nat.reduceAdd, Nat.reduceMul, wipeE, gNm, gNms, gTp, D.int.injEq, true_and, and_true, List.length_cons, List.length_nil, Option.bind_some, idx_ref, ixC_lst, idx_lst, idx_tup, idx_frz, at0, at1, at2, at3, add_int, sub_int, mod_int, fdiv_int, pow18, lt_int, le_int, gt_int, ge_int, tru_bl, tru_int, eq_int, ne_int, eq_str, ne_str, eq_bl, ne_bl, put_ref, putC_lst, ix0, ix1, ix2, ix3, len_lst, len_tup, len_frz, len_ref, lenC_lst, un1_one, tuple_lst, tuple_tup, list_lst, list_tup, slice_tup, slice_lst, it_tup, it_lst, cut_from1, Option.map_some, List.set_set, Nat.reduceLT, Int.reduceLT, if_true, Int.toNat_natCast, mul_mod, mulL, mulR, Int.reduceNeg]
          by_cases hnm : nm = f
          · subst hnm
            have hss : ss.length = gs.length := by rw [hgl]; exact one.one _ _ _ hsg hn
            simp only [beq_self_eq_true, if_true, List.length_map]
            refine ⟨⟨by unfold big; omega, by unfold big; omega⟩, ?_⟩
            try simp only [Int.toNat_natCast]
            refine comp_rng (fun k => .bl (inAt gs ss k)) (by simp) rfl ?_ ?_
            · intro k hk
              have e1 : gs[k]? = some (gs[k]'(by omega)) := by simp
              have e2 : ss[k]? = some (ss[k]'(by omega)) := by simp
              have b1 : L2.atI (D.str nm :: ss.map D.str) ((k : Int) + 1) = some (.str (ss[k]'(by omega))) := by
                rw [show ((k : Int) + 1) = ((k + 1 : Nat) : Int) by omega, at_nat]
                simp [e2]
              have b2 : L2.atI (gs.map fun fs => D.lst (fs.map D.str)) (k : Int) = some (.lst ((gs[k]'(by omega)).map D.str)) := by
                rw [at_nat]
                simp [e1]
              simp only [ok_ok, ok_no, ok_bind, ok_of_some, ok_var, ok_cst, ok_nil, ok_cons, ok_tup, ok_lst, ok_lstM, ok_op2, ok_op1, ok_blt, ok_listM, ok_chain, ok_and, ok_or, ok_not, ok_tval, ok_band, ok_bor, ok_bnot, ok_yes, ok_mif, ok_callM, ok_call, ok_lm, ok_optN, ok_optS, ok_slice, ok_ival, ok_range1, ok_range2, ok_zip, ok_comp, ok_compM, s_skip, s_seq, s_expr, s_asg, s_put, s_ret, s_retN, s_brk, s_cnt, s_if, s_for, s_while, List.map_cons, List.map_nil, List.cons_append, List.nil_append, List.replicate, List.getElem?_cons_zero, List.getElem?_cons_succ, List.set_cons_zero, List.set_cons_succ, Option.some.injEq, exists_eq_left', exists_eq_left, Nat.reduceSub, Nat.reduceAdd, Nat.reduceMul, wipeE, gNm, gNms, gTp, D.int.injEq, true_and, and_true, List.length_cons, List.length_nil, Option.bind_some, idx_ref, ixC_lst, idx_lst, idx_tup, idx_frz, at0, at1, at2, at3, add_int, sub_int, mod_int, fdiv_int, pow18, lt_int, le_int, gt_int, ge_int, tru_bl, tru_int, eq_int, ne_int, eq_str, ne_str, eq_bl, ne_bl, put_ref, putC_lst, ix0, ix1, ix2, ix3, len_lst, len_tup, len_frz, len_ref, lenC_lst, un1_one, tuple_lst, tuple_tup, list_lst, list_tup, slice_tup, slice_lst, it_tup, it_lst, cut_from1, Option.map_some, List.set_set, Nat.reduceLT, Int.reduceLT, if_true, Int.toNat_natCast, mul_mod, mulL, mulR, Int.reduceNeg, b1, b2, in_strs, inAt_eq e1 e2, and_self]
            · have eb : (List.range gs.length).map (fun k => D.bl (inAt gs ss k)) = ((List.range gs.length).map (inAt gs ss)).map D.bl := by rw [List.map_map]; rfl
              rw [eb]
              simp only [all_bls, idx_ref, ixC_lst, idx_lst, idx_tup, idx_frz, at0, at1, at2, at3, add_int, sub_int, mod_int, fdiv_int, pow18, lt_int, le_int, gt_int, ge_int, tru_bl, tru_int, eq_int, ne_int, eq_str, ne_str, eq_bl, ne_bl, put_ref, putC_lst, ix0, ix1, ix2, ix3, len_lst, len_tup, len_frz, len_ref, lenC_lst, un1_one, tuple_lst, tuple_tup, list_lst, list_tup, slice_tup, slice_lst, it_tup, it_lst, cut_from1, Option.map_some, List.set_set, Nat.reduceLT, Int.reduceLT, if_true, Int.toNat_natCast, mul_mod, mulL, mulR, Int.reduceNeg, List.map_cons, List.map_nil, List.cons_append, List.nil_append, List.replicate, List.getElem?_cons_zero, List.getElem?_cons_succ, List.set_cons_zero, List.set_cons_succ, Option.some.injEq, exists_eq_left', exists_eq_left, Nat.reduceSub, Nat.reduceAdd, Nat.reduceMul, wipeE, gNm, gNms, gTp, D.int.injEq, true_and, and_true, List.length_cons, List.length_nil, Option.bind_some, List.all_map, Function.id_comp]
              have ef : ((List.range gs.length).all (inAt gs ss)) = rowFits nm gs (nm, ss) := by simp [rowFits]
              rw [ef]
              by_cases hall : rowFits nm gs (nm, ss) = true
              · rw [if_pos hall]
                refine ⟨isL_ref at_new, _, _, append_ref at_new (by rw [List.length_map]; unfold big; omega), _, _, _, rfl, ?_⟩
                rw [set_new]
                have : rowsSorts (done ++ [(s, rows)]) nm gs = rowsSorts done nm gs ++ [s] := by
                  unfold rowsSorts
                  rw [List.filter_append, List.map_append]
                  congr 1
                  have hany : rows.any (rowFits nm gs) = true := List.any_eq_true.mpr ⟨_, hrm, hall⟩
                  simp [List.filter, hany]
                rw [this]
                simp
              · rw [if_neg hall]
                refine ⟨_, rfl, fun r hr => ?_⟩
                rcases List.mem_append.mp hr with z | z
                · exact hno r z
                · rw [List.mem_singleton.mp z]; simpa using hall
          · have hb : (nm == f) = false := by simpa using hnm
            simp only [hb, Bool.false_eq_true, if_false]
            refine ⟨_, rfl, fun r hr => ?_⟩
            rcases List.mem_append.mp hr with z | z
            · exact hno r z
            · rw [List.mem_singleton.mp z]
              simp [rowFits, hb]
        · rintro env S ⟨y6, rfl, rfl, hno⟩
          refine ⟨_, _, _, rfl, ?_⟩
          have : rowsSorts (done ++ [(s, rows)]) f gs = rowsSorts done f gs := by
            unfold rowsSorts
            rw [List.filter_append, List.map_append, List.filter_cons_of_neg]
            · simp
            · intro h
              obtain ⟨r, hr, hf⟩ := List.any_eq_true.mp h
              rw [hno r hr] at hf
              cases hf
          rw [this]
      · rintro env S ⟨x4, x5, x6, rfl, rfl⟩
        refine ⟨.ref st.length, rfl, ?_⟩
        rw [gc_new bels_strs]
        exact ⟨_, rfl, rfl, bels_strs, rfl⟩
theorem isof_ok {sg : Sg} {tb : Tb} (one : One sg) (htb : TabOk sg tb) {t : Pt} {j : Nat} {st : St} {s : Str} (ht : TreeOf sg t) : Ok (CC (hgt t + j + 1) "is_of" [encTb tb, encT t, .str s] st) fun d st' => d = .bl (decide (s ∈ sortsOf tb t)) ∧ st' = st := by
  rw [r_is_of]
  refine ok_fn rfl ?_
  unfold b_is_of
  try simp only [ok_ok, ok_no, ok_bind, ok_of_some, ok_var, ok_cst, ok_nil, ok_cons, ok_tup, ok_lst, ok_lstM, ok_op2, ok_op1, ok_blt, ok_listM, ok_chain, ok_and, ok_or, ok_not, ok_tval, ok_band, ok_bor, ok_bnot, ok_yes, ok_mif, ok_callM, ok_call, ok_lm, ok_optN, ok_optS, ok_slice, ok_ival, ok_range1, ok_range2, ok_zip, ok_comp, ok_compM, s_skip, s_seq, s_expr, s_asg, s_put, s_ret, s_retN, s_brk, s_cnt, s_if, s_for, s_while, List.map_cons, List.map_nil, List.cons_append, List.nil_append, List.replicate, List.getElem?_cons_zero, List.getElem?_cons_succ, List.set_cons_zero, List.set_cons_succ, Option.some.injEq, exists_eq_left', exists_eq_left, Nat.reduceSub, Nat.reduceAdd, Nat.reduceMul, wipeE, gNm, gNms, gTp, D.int.injEq, true_and, and_true, List.length_cons, List.length_nil, Option.bind_some, idx_ref, ixC_lst, idx_lst, idx_tup, idx_frz, at0, at1, at2, at3, add_int, sub_int, mod_int, fdiv_int, pow18, lt_int, le_int, gt_int, ge_int, tru_bl, tru_int, eq_int, ne_int, eq_str, ne_str, eq_bl, ne_bl, put_ref, putC_lst, ix0, ix1, ix2, ix3, len_lst, len_tup, len_frz, len_ref, lenC_lst, un1_one, tuple_lst, tuple_tup, list_lst, list_tup, slice_tup, slice_lst, it_tup, it_lst, cut_from1, Option.map_some, List.set_set, Nat.reduceLT, Int.reduceLT, if_true, Int.toNat_natCast, mul_mod, mulL, mulR, Int.reduceNeg]
  refine ok_ice_new (sorts_ok one htb t j _ ht) ?_
  rintro xs rfl
  rw [in_strs]
  refine ⟨_, rfl, ?_⟩
  rw [gc_same rfl]
  exact ⟨rfl, rfl⟩
end RP
end
section
set_option Elab.async false
set_option linter.all false
set_option maxRecDepth 100000
set_option maxHeartbeats 4000000
namespace RP
open PySem
theorem zipW_strs : ∀ {xs ys : List Str}, List.zipWith (fun x y => D.tup [x, y]) (xs.map D.str) (ys.map D.str) = (xs.zip ys).map encPr
  | [], _ => by simp
  | _ :: _, [] => by simp
  | x :: xs, y :: ys => by simp [zipW_strs, encPr]
theorem hasrow_ok {j : Nat} {st : St} {n : Nat} {rel : Rel} {r : Row} {rows : List Row} (hn : st[n]? = some (.lst (rel.map encPr))) : Ok (CC (j + 1) "has_row_for" [.ref n, encR r, .tup (rows.map encR)] st) fun d st' => d = .bl (hasRow rel r rows) ∧ st' = st := by
  obtain ⟨nm, ss⟩ := r
  rw [r_has_row_for]
  refine ok_fn rfl ?_
  unfold b_has_row_for
  try simp only [ok_ok, ok_no, ok_bind, ok_of_some, ok_var, ok_cst, ok_nil, ok_cons, ok_tup, ok_lst, ok_lstM, ok_op2, ok_op1, ok_blt, ok_listM, ok_chain, ok_and, ok_or, ok_not, ok_tval, ok_band, ok_bor, ok_bnot, ok_yes, ok_mif, ok_callM, ok_call, ok_lm, ok_optN, ok_optS, ok_slice, ok_ival, ok_range1, ok_range2, ok_zip, ok_comp, ok_compM, s_skip, s_seq, s_expr, s_asg, s_put, s_ret, s_retN, s_brk, s_cnt, s_if, s_for, s_while, List.map_cons, List.map_nil, List.cons_append, List.nil_append, List.replicate, List.getElem?_cons_zero, List.getElem?_cons_succ, List.set_cons_zero, List.set_cons_succ, Option.some.injEq, exists_eq_left', exists_eq_left, Nat.reduceSub, Nat.reduceAdd, Nat.reduceMul, wipeE, gNm, gNms, gTp, D.int.injEq, true_and, and_true, List.length_cons, List.length_nil, Option.bind_some, idx_ref, ixC_lst, idx_lst, idx_tup, idx_frz, at0, at1, at2, at3, add_int, sub_int, mod_int, fdiv_int, pow18, lt_int, le_int, gt_int, ge_int, tru_bl, tru_int, eq_int, ne_int, eq_str, ne_str, eq_bl, ne_bl, put_ref, putC_lst, ix0, ix1, ix2, ix3, len_lst, len_tup, len_frz, len_ref, lenC_lst, un1_one, tuple_lst, tuple_tup, list_lst, list_tup, slice_tup, slice_lst, it_tup, it_lst, cut_from1, Option.map_some, List.set_set, Nat.reduceLT, Int.reduceLT, if_true, Int.toNat_natCast, mul_mod, mulL, mulR, Int.reduceNeg]
  refine for_gen rows (fun dn env S => S = st ∧ (∃ x3, env = [some (.ref n), some (encR (nm, ss)), some (.tup (rows.map encR)), x3, none]) ∧ ∀ q ∈ dn, rowIn rel (nm, ss) q = false) rfl ⟨rfl, ⟨_, rfl⟩, by simp⟩ ?_ (fun _ _ _ _ => gNone) ?_
  · rintro ⟨mm, zs⟩ rest dn env S he ⟨eS, ⟨x3, rfl⟩, hno⟩
    subst S
    unfold encR
    try simp only [ok_ok, ok_no, ok_bind, ok_of_some, ok_var, ok_cst, ok_nil, ok_cons, ok_tup, ok_lst, ok_lstM, ok_op2, ok_op1, ok_blt, ok_listM, ok_chain, ok_and, ok_or, ok_not, ok_tval, ok_band, ok_bor, ok_bnot, ok_yes, ok_mif, ok_callM, ok_call, ok_lm, ok_optN, ok_optS, ok_slice, ok_ival, ok_range1, ok_range2, ok_zip, ok_comp, ok_compM, s_skip, s_seq, s_expr, s_asg, s_put, s_ret, s_retN, s_brk, s_cnt, s_if, s_for, s_while, List.map_cons, List.map_nil, List.cons_append, List.nil_append, List.replicate, List.getElem?_cons_zero, List.getElem?_cons_succ, List.set_cons_zero, List.set_cons_succ, Option.some.injEq, exists_eq_left', exists_eq_left, Nat.reduceSub, Nat.reduceAdd, Nat.reduceMul, wipeE, gNm, gNms, gTp, D.int.injEq, true_and, and_true, List.length_cons, List.length_nil, Option.bind_some, idx_ref, ixC_lst, idx_lst, idx_tup, idx_frz, at0, at1, at2, at3, add_int, sub_int, mod_int, fdiv_int, pow18, lt_int, le_int, gt_int, ge_int, tru_bl, tru_int, eq_int, ne_int, eq_str, ne_str, eq_bl, ne_bl, put_ref, putC_lst, ix0, ix1, ix2, ix3, len_lst, len_tup, len_frz, len_ref, lenC_lst, un1_one, tuple_lst, tuple_tup, list_lst, list_tup, slice_tup, slice_lst, it_tup, it_lst, cut_from1, Option.map_some, List.set_set, Nat.reduceLT, Int.reduceLT, if_true, Int.toNat_natCast, mul_mod, mulL, mulR, Int.reduceNeg]
    by_cases hm : mm = nm
    · subst hm
      simp only [beq_self_eq_true, if_true]
      refine ⟨_, _, rfl, rfl, ?_⟩
      rw [zipW_strs]
      refine comp_enc (ss.zip zs) (fun p => .bl (decide (p ∈ rel))) rfl gNone ?_ ?_
      · rintro p hp
        refine ⟨_, rfl, ?_⟩
        try simp only [ok_ok, ok_no, ok_bind, ok_of_some, ok_var, ok_cst, ok_nil, ok_cons, ok_tup, ok_lst, ok_lstM, ok_op2, ok_op1, ok_blt, ok_listM, ok_chain, ok_and, ok_or, ok_not, ok_tval, ok_band, ok_bor, ok_bnot, ok_yes, ok_mif, ok_callM, ok_call, ok_lm, ok_optN, ok_optS, ok_slice, ok_ival, ok_range1, ok_range2, ok_zip, ok_comp, ok_compM, s_skip, s_seq, s_expr, s_asg, s_put, s_ret, s_retN, s_brk, s_cnt, s_if, s_for, s_while, List.map_cons, List.map_nil, List.cons_append, List.nil_append, List.replicate, List.getElem?_cons_zero, List.getElem?_cons_succ, List.set_cons_zero, List.set_cons_succ, Option.some.injEq, exists_eq_left', exists_eq_left, Nat.reduceSub, Nat.reduceAdd, Nat.reduceMul, wipeE, gNm, gNms, gTp, D.int.injEq, true_and, and_true, List.length_cons, List.length_nil, Option.bind_some, idx_ref, ixC_lst, idx_lst, idx_tup, idx_frz, at0, at1, at2, at3, add_int, sub_int, mod_int, fdiv_int, pow18, lt_int, le_int, gt_int, ge_int, tru_bl, tru_int, eq_int, ne_int, eq_str, ne_str, eq_bl, ne_bl, put_ref, putC_lst, ix0, ix1, ix2, ix3, len_lst, len_tup, len_frz, len_ref, lenC_lst, un1_one, tuple_lst, tuple_tup, list_lst, list_tup, slice_tup, slice_lst, it_tup, it_lst, cut_from1, Option.map_some, List.set_set, Nat.reduceLT, Int.reduceLT, if_true, Int.toNat_natCast, mul_mod, mulL, mulR, Int.reduceNeg]
        rw [in_refl hn (nob_Pr p) nob_Prs (by rw [dep_Pr]; omega)]
        refine ⟨_, rfl, ?_⟩
        simp only [mem_map_inj (fun _ _ => encPr_inj)]
      · have eb : (ss.zip zs).map (fun p => D.bl (decide (p ∈ rel))) = ((ss.zip zs).map fun p => decide (p ∈ rel)).map D.bl := by rw [List.map_map]; rfl
        rw [eb]
        simp only [all_bls, idx_ref, ixC_lst, idx_lst, idx_tup, idx_frz, at0, at1, at2, at3, add_int, sub_int, mod_int, fdiv_int, pow18, lt_int, le_int, gt_int, ge_int, tru_bl, tru_int, eq_int, ne_int, eq_str, ne_str, eq_bl, ne_bl, put_ref, putC_lst, ix0, ix1, ix2, ix3, len_lst, len_tup, len_frz, len_ref, lenC_lst, un1_one, tuple_lst, tuple_tup, list_lst, list_tup, slice_tup, slice_lst, it_tup, it_lst, cut_from1, Option.map_some, List.set_set, Nat.reduceLT, Int.reduceLT, if_true, Int.toNat_natCast, mul_mod, mulL, mulR, Int.reduceNeg, List.map_cons, List.map_nil, List.cons_append, List.nil_append, List.replicate, List.getElem?_cons_zero, List.getElem?_cons_succ, List.set_cons_zero, List.set_cons_succ, Option.some.injEq, exists_eq_left', exists_eq_left, Nat.reduceSub, Nat.reduceAdd, Nat.reduceMul, wipeE, gNm, gNms, gTp, D.int.injEq, true_and, and_true, List.length_cons, List.length_nil, Option.bind_some, List.all_map, Function.id_comp]
        have ef : ((ss.zip zs).all fun p => decide (p ∈ rel)) = rowIn rel (mm, ss) (mm, zs) := by simp [rowIn]
        rw [ef]
        by_cases hall : rowIn rel (mm, ss) (mm, zs) = true
        · rw [if_pos hall, gc_same rfl]
          refine ⟨?_, rfl⟩
          rw [show hasRow rel (mm, ss) rows = true from List.any_eq_true.mpr ⟨(mm, zs), by rw [he]; simp, hall⟩]
        · rw [if_neg hall]
          refine ⟨⟨_, rfl⟩, fun q hq => ?_⟩
          rcases List.mem_append.mp hq with z | z
          · exact hno q z
          · rw [List.mem_singleton.mp z]; simpa using hall
    · have hb : (mm == nm) = false := by simpa using hm
      simp only [hb, Bool.false_eq_true, if_false]
      refine ⟨⟨_, rfl⟩, fun q hq => ?_⟩
      rcases List.mem_append.mp hq with z | z
      · exact hno q z
      · rw [List.mem_singleton.mp z]; simp [rowIn, hb]
  · rintro env S ⟨eS, ⟨x3, rfl⟩, hno⟩
    subst S
    rw [gc_same rfl]
    refine ⟨?_, rfl⟩
    have : hasRow rel (nm, ss) rows = false := by
      cases q : hasRow rel (nm, ss) rows with
      | false => rfl
      | true =>
        obtain ⟨x, hx, hf⟩ := List.any_eq_true.mp q
        rw [hno x hx] at hf
        cases hf
    rw [this]
theorem relAll_app {tb : Tb} {l : Tb} {e : Str × List Row} : ((l ++ [e]).flatMap fun e => tb.map fun f => (e.1, f.1)) = (l.flatMap fun e => tb.map fun f => (e.1, f.1)) ++ tb.map fun f => (e.1, f.1) := by simp
theorem withins_ok {sg : Sg} {tb : Tb} (htb : TabOk sg tb) {j : Nat} {st : St} : Ok (CC (j + 2) "withins" [encTb tb] st) fun d st' => ∃ xs, d = .ref st.length ∧ st' = st ++ [.lst xs] ∧ bels st.length xs = true ∧ xs = (withinR tb).map encPr := by
  have hl4 := htb.hi
  rw [r_withins]
  refine ok_fn rfl ?_
  unfold b_withins
  try simp only [ok_ok, ok_no, ok_bind, ok_of_some, ok_var, ok_cst, ok_nil, ok_cons, ok_tup, ok_lst, ok_lstM, ok_op2, ok_op1, ok_blt, ok_listM, ok_chain, ok_and, ok_or, ok_not, ok_tval, ok_band, ok_bor, ok_bnot, ok_yes, ok_mif, ok_callM, ok_call, ok_lm, ok_optN, ok_optS, ok_slice, ok_ival, ok_range1, ok_range2, ok_zip, ok_comp, ok_compM, s_skip, s_seq, s_expr, s_asg, s_put, s_ret, s_retN, s_brk, s_cnt, s_if, s_for, s_while, List.map_cons, List.map_nil, List.cons_append, List.nil_append, List.replicate, List.getElem?_cons_zero, List.getElem?_cons_succ, List.set_cons_zero, List.set_cons_succ, Option.some.injEq, exists_eq_left', exists_eq_left, Nat.reduceSub, Nat.reduceAdd, Nat.reduceMul, wipeE, gNm, gNms, gTp, D.int.injEq, true_and, and_true, List.length_cons, List.length_nil, Option.bind_some, idx_ref, ixC_lst, idx_lst, idx_tup, idx_frz, at0, at1, at2, at3, add_int, sub_int, mod_int, fdiv_int, pow18, lt_int, le_int, gt_int, ge_int, tru_bl, tru_int, eq_int, ne_int, eq_str, ne_str, eq_bl, ne_bl, put_ref, putC_lst, ix0, ix1, ix2, ix3, len_lst, len_tup, len_frz, len_ref, lenC_lst, un1_one, tuple_lst, tuple_tup, list_lst, list_tup, slice_tup, slice_lst, it_tup, it_lst, cut_from1, Option.map_some, List.set_set, Nat.reduceLT, Int.reduceLT, if_true, Int.toNat_natCast, mul_mod, mulL, mulR, Int.reduceNeg]
  rw [dict_tb htb.nd]
  refine ⟨_, rfl, ?_⟩
  try simp only [ok_ok, ok_no, ok_bind, ok_of_some, ok_var, ok_cst, ok_nil, ok_cons, ok_tup, ok_lst, ok_lstM, ok_op2, ok_op1, ok_blt, ok_listM, ok_chain, ok_and, ok_or, ok_not, ok_tval, ok_band, ok_bor, ok_bnot, ok_yes, ok_mif, ok_callM, ok_call, ok_lm, ok_optN, ok_optS, ok_slice, ok_ival, ok_range1, ok_range2, ok_zip, ok_comp, ok_compM, s_skip, s_seq, s_expr, s_asg, s_put, s_ret, s_retN, s_brk, s_cnt, s_if, s_for, s_while, List.map_cons, List.map_nil, List.cons_append, List.nil_append, List.replicate, List.getElem?_cons_zero, List.getElem?_cons_succ, List.set_cons_zero, List.set_cons_succ, Option.some.injEq, exists_eq_left', exists_eq_left, Nat.reduceSub, Nat.reduceAdd, Nat.reduceMul, wipeE, gNm, gNms, gTp, D.int.injEq, true_and, and_true, List.length_cons, List.length_nil, Option.bind_some, idx_ref, ixC_lst, idx_lst, idx_tup, idx_frz, at0, at1, at2, at3, add_int, sub_int, mod_int, fdiv_int, pow18, lt_int, le_int, gt_int, ge_int, tru_bl, tru_int, eq_int, ne_int, eq_str, ne_str, eq_bl, ne_bl, put_ref, putC_lst, ix0, ix1, ix2, ix3, len_lst, len_tup, len_frz, len_ref, lenC_lst, un1_one, tuple_lst, tuple_tup, list_lst, list_tup, slice_tup, slice_lst, it_tup, it_lst, cut_from1, Option.map_some, List.set_set, Nat.reduceLT, Int.reduceLT, if_true, Int.toNat_natCast, mul_mod, mulL, mulR, Int.reduceNeg]
  unfold encTb
  try simp only [ok_ok, ok_no, ok_bind, ok_of_some, ok_var, ok_cst, ok_nil, ok_cons, ok_tup, ok_lst, ok_lstM, ok_op2, ok_op1, ok_blt, ok_listM, ok_chain, ok_and, ok_or, ok_not, ok_tval, ok_band, ok_bor, ok_bnot, ok_yes, ok_mif, ok_callM, ok_call, ok_lm, ok_optN, ok_optS, ok_slice, ok_ival, ok_range1, ok_range2, ok_zip, ok_comp, ok_compM, s_skip, s_seq, s_expr, s_asg, s_put, s_ret, s_retN, s_brk, s_cnt, s_if, s_for, s_while, List.map_cons, List.map_nil, List.cons_append, List.nil_append, List.replicate, List.getElem?_cons_zero, List.getElem?_cons_succ, List.set_cons_zero, List.set_cons_succ, Option.some.injEq, exists_eq_left', exists_eq_left, Nat.reduceSub, Nat.reduceAdd, Nat.reduceMul, wipeE, gNm, gNms, gTp, D.int.injEq, true_and, and_true, List.length_cons, List.length_nil, Option.bind_some, idx_ref, ixC_lst, idx_lst, idx_tup, idx_frz, at0, at1, at2, at3, add_int, sub_int, mod_int, fdiv_int, pow18, lt_int, le_int, gt_int, ge_int, tru_bl, tru_int, eq_int, ne_int, eq_str, ne_str, eq_bl, ne_bl, put_ref, putC_lst, ix0, ix1, ix2, ix3, len_lst, len_tup, len_frz, len_ref, lenC_lst, un1_one, tuple_lst, tuple_tup, list_lst, list_tup, slice_tup, slice_lst, it_tup, it_lst, cut_from1, Option.map_some, List.set_set, Nat.reduceLT, Int.reduceLT, if_true, Int.toNat_natCast, mul_mod, mulL, mulR, Int.reduceNeg]
  have hall16 := relAll_len hl4
  refine for_gen tb (fun done env S => ∃ x3 x4, env = [some (.tup (tb.map encE)), some (.dct (tb.map fun e => D.str e.1) (tb.map fun e => D.tup (e.2.map encR))), some (.ref st.length), x3, x4, none, none, none, none] ∧ S = st ++ [.lst ((done.flatMap fun e => tb.map fun f => (e.1, f.1)).map encPr)]) rfl ⟨none, none, rfl, rfl⟩ ?_ (fun _ _ _ _ => gNone) ?_
  · rintro ⟨s, rows⟩ rest done env S he ⟨x3, x4, rfl, rfl⟩
    try simp only [ok_ok, ok_no, ok_bind, ok_of_some, ok_var, ok_cst, ok_nil, ok_cons, ok_tup, ok_lst, ok_lstM, ok_op2, ok_op1, ok_blt, ok_listM, ok_chain, ok_and, ok_or, ok_not, ok_tval, ok_band, ok_bor, ok_bnot, ok_yes, ok_mif, ok_callM, ok_call, ok_lm, ok_optN, ok_optS, ok_slice, ok_ival, ok_range1, ok_range2, ok_zip, ok_comp, ok_compM, s_skip, s_seq, s_expr, s_asg, s_put, s_ret, s_retN, s_brk, s_cnt, s_if, s_for, s_while, List.map_cons, List.map_nil, List.cons_append, List.nil_append, List.replicate, List.getElem?_cons_zero, List.getElem?_cons_succ, List.set_cons_zero, List.set_cons_succ, Option.some.injEq, exists_eq_left', exists_eq_left, Nat.reduceSub, Nat.reduceAdd, Nat.reduceMul, wipeE, gNm, gNms, gTp, D.int.injEq, true_and, and_true, List.length_cons, List.length_nil, Option.bind_some, idx_ref, ixC_lst, idx_lst, idx_tup, idx_frz, at0, at1, at2, at3, add_int, sub_int, mod_int, fdiv_int, pow18, lt_int, le_int, gt_int, ge_int, tru_bl, tru_int, eq_int, ne_int, eq_str, ne_str, eq_bl, ne_bl, put_ref, putC_lst, ix0, ix1, ix2, ix3, len_lst, len_tup, len_frz, len_ref, lenC_lst, un1_one, tuple_lst, tuple_tup, list_lst, list_tup, slice_tup, slice_lst, it_tup, it_lst, cut_from1, Option.map_some, List.set_set, Nat.reduceLT, Int.reduceLT, if_true, Int.toNat_natCast, mul_mod, mulL, mulR, Int.reduceNeg]
    refine ⟨isL_ref at_new, ?_⟩
    refine comp_enc tb (fun f => encPr (s, f.1)) rfl gNone ?_ ?_
    · rintro ⟨z, zr⟩ hz
      refine ⟨_, rfl, ?_⟩
      simp only [ok_ok, ok_no, ok_bind, ok_of_some, ok_var, ok_cst, ok_nil, ok_cons, ok_tup, ok_lst, ok_lstM, ok_op2, ok_op1, ok_blt, ok_listM, ok_chain, ok_and, ok_or, ok_not, ok_tval, ok_band, ok_bor, ok_bnot, ok_yes, ok_mif, ok_callM, ok_call, ok_lm, ok_optN, ok_optS, ok_slice, ok_ival, ok_range1, ok_range2, ok_zip, ok_comp, ok_compM, s_skip, s_seq, s_expr, s_asg, s_put, s_ret, s_retN, s_brk, s_cnt, s_if, s_for, s_while, List.map_cons, List.map_nil, List.cons_append, List.nil_append, List.replicate, List.getElem?_cons_zero, List.getElem?_cons_succ, List.set_cons_zero, List.set_cons_succ, Option.some.injEq, exists_eq_left', exists_eq_left, Nat.reduceSub, Nat.reduceAdd, Nat.reduceMul, wipeE, gNm, gNms, gTp, D.int.injEq, true_and, and_true, List.length_cons, List.length_nil, Option.bind_some, idx_ref, ixC_lst, idx_lst, idx_tup, idx_frz, at0, at1, at2, at3, add_int, sub_int, mod_int, fdiv_int, pow18, lt_int, le_int, gt_int, ge_int, tru_bl, tru_int, eq_int, ne_int, eq_str, ne_str, eq_bl, ne_bl, put_ref, putC_lst, ix0, ix1, ix2, ix3, len_lst, len_tup, len_frz, len_ref, lenC_lst, un1_one, tuple_lst, tuple_tup, list_lst, list_tup, slice_tup, slice_lst, it_tup, it_lst, cut_from1, Option.map_some, List.set_set, Nat.reduceLT, Int.reduceLT, if_true, Int.toNat_natCast, mul_mod, mulL, mulR, Int.reduceNeg, encPr, and_self]
    · have hlen : (done.flatMap fun e => tb.map fun f => (e.1, f.1)).length + tb.length ≤ 16 := by
        have : relAll tb = (done.flatMap fun e => tb.map fun f => (e.1, f.1)) ++ (((s, rows) :: rest).flatMap fun e => tb.map fun f => (e.1, f.1)) := by
          unfold relAll
          conv => lhs; arg 2; rw [he]
          rw [List.flatMap_append]
        rw [this, List.length_append, List.flatMap_cons, List.length_append, List.length_map] at hall16
        omega
      rw [extend_ref at_new (by simp only [List.length_map]; unfold big; omega), set_new]
      refine ⟨_, _, rfl, _, _, rfl, ?_⟩
      rw [relAll_app, List.map_append, List.map_map]
      rfl
  · rintro env S ⟨x3, x4, rfl, rfl⟩
    try simp only [ok_ok, ok_no, ok_bind, ok_of_some, ok_var, ok_cst, ok_nil, ok_cons, ok_tup, ok_lst, ok_lstM, ok_op2, ok_op1, ok_blt, ok_listM, ok_chain, ok_and, ok_or, ok_not, ok_tval, ok_band, ok_bor, ok_bnot, ok_yes, ok_mif, ok_callM, ok_call, ok_lm, ok_optN, ok_optS, ok_slice, ok_ival, ok_range1, ok_range2, ok_zip, ok_comp, ok_compM, s_skip, s_seq, s_expr, s_asg, s_put, s_ret, s_retN, s_brk, s_cnt, s_if, s_for, s_while, List.map_cons, List.map_nil, List.cons_append, List.nil_append, List.replicate, List.getElem?_cons_zero, List.getElem?_cons_succ, List.set_cons_zero, List.set_cons_succ, Option.some.injEq, exists_eq_left', exists_eq_left, Nat.reduceSub, Nat.reduceAdd, Nat.reduceMul, wipeE, gNm, gNms, gTp, D.int.injEq, true_and, and_true, List.length_cons, List.length_nil, Option.bind_some, idx_ref, ixC_lst, idx_lst, idx_tup, idx_frz, at0, at1, at2, at3, add_int, sub_int, mod_int, fdiv_int, pow18, lt_int, le_int, gt_int, ge_int, tru_bl, tru_int, eq_int, ne_int, eq_str, ne_str, eq_bl, ne_bl, put_ref, putC_lst, ix0, ix1, ix2, ix3, len_lst, len_tup, len_frz, len_ref, lenC_lst, un1_one, tuple_lst, tuple_tup, list_lst, list_tup, slice_tup, slice_lst, it_tup, it_lst, cut_from1, Option.map_some, List.set_set, Nat.reduceLT, Int.reduceLT, if_true, Int.toNat_natCast, mul_mod, mulL, mulR, Int.reduceNeg]
    refine while_inv (fun n env S => ∃ (r : Nat) (rel : Rel) (more : St) (x3 x4 x6 x7 : Option D) (x5 : D), env = [some (.tup (tb.map encE)), some (.dct (tb.map fun e => D.str e.1) (tb.map fun e => D.tup (e.2.map encR))), some (.ref (st.length + r)), x3, x4, some x5, x6, x7, none] ∧ S = st ++ more ∧ more[r]? = some (.lst (rel.map encPr)) ∧ (∃ k, rel = chain tb k) ∧
        ((x5 = .non ∧ rel.length + 1 ≤ n) ∨ (∃ (l : Nat) (rel0 : Rel), x5 = .ref (st.length + l) ∧ more[l]? = some (.lst (rel0.map encPr)) ∧ rel = relStep tb rel0 ∧ rel0.length ≤ n))) ?_ _ 20 _ _ ⟨0, relAll tb, _, _, _, _, _, _, rfl, rfl, rfl, ⟨0, rfl⟩, .inl ⟨rfl, by omega⟩⟩ (by unfold wMost; omega)
    rintro n env S ⟨r, rel, more, x3, x4, x6, x7, x5, rfl, rfl, hr, ⟨k, hk⟩, hcase⟩
    have hrlt : r < more.length := (List.getElem?_eq_some_iff.mp hr).1
    have hrS : (st ++ more)[st.length + r]? = some (.lst (rel.map encPr)) := by rw [List.getElem?_append_right (by omega)]; simpa using hr
    have hsub : ∀ p ∈ rel, p.1 ∈ tb.map (·.1) ∧ p.2 ∈ tb.map (·.1) := fun p hp => mem_relAll.mp (chain_sub (k := k) (by rw [← hk]; exact hp))
    have hrl : rel.length ≤ 16 := by
      have : ∀ k, (chain tb k).length ≤ (relAll tb).length := by
        intro k
        induction k with
        | zero => exact Nat.le_refl _
        | succ k ih => exact Nat.le_trans relStep_len ih
      have := this k
      rw [← hk] at this
      omega
    have hdl : ∀ q : Rel, dep (.lst (q.map encPr)) ≤ 100 := fun q => by
      rw [dep]
      have := deps_le (xs := q.map encPr) (n := 1) fun x hx => by
        obtain ⟨p, _, rfl⟩ := List.mem_map.mp hx
        rw [dep_Pr]; omega
      omega
    have hnl : ∀ q : Rel, nob (.lst (q.map encPr)) = true := fun q => by rw [nob]; exact nob_Prs
    try simp only [ok_ok, ok_no, ok_bind, ok_of_some, ok_var, ok_cst, ok_nil, ok_cons, ok_tup, ok_lst, ok_lstM, ok_op2, ok_op1, ok_blt, ok_listM, ok_chain, ok_and, ok_or, ok_not, ok_tval, ok_band, ok_bor, ok_bnot, ok_yes, ok_mif, ok_callM, ok_call, ok_lm, ok_optN, ok_optS, ok_slice, ok_ival, ok_range1, ok_range2, ok_zip, ok_comp, ok_compM, s_skip, s_seq, s_expr, s_asg, s_put, s_ret, s_retN, s_brk, s_cnt, s_if, s_for, s_while, List.map_cons, List.map_nil, List.cons_append, List.nil_append, List.replicate, List.getElem?_cons_zero, List.getElem?_cons_succ, List.set_cons_zero, List.set_cons_succ, Option.some.injEq, exists_eq_left', exists_eq_left, Nat.reduceSub, Nat.reduceAdd, Nat.reduceMul, wipeE, gNm, gNms, gTp, D.int.injEq, true_and, and_true, List.length_cons, List.length_nil, Option.bind_some, idx_ref, ixC_lst, idx_lst, idx_tup, idx_frz, at0, at1, at2, at3, add_int, sub_int, mod_int, fdiv_int, pow18, lt_int, le_int, gt_int, ge_int, tru_bl, tru_int, eq_int, ne_int, eq_str, ne_str, eq_bl, ne_bl, put_ref, putC_lst, ix0, ix1, ix2, ix3, len_lst, len_tup, len_frz, len_ref, lenC_lst, un1_one, tuple_lst, tuple_tup, list_lst, list_tup, slice_tup, slice_lst, it_tup, it_lst, cut_from1, Option.map_some, List.set_set, Nat.reduceLT, Int.reduceLT, if_true, Int.toNat_natCast, mul_mod, mulL, mulR, Int.reduceNeg]
    have htest : ∃ b : Bool, neB (st ++ more) (.ref (st.length + r)) x5 = some (.bl b) ∧ (b = false → IsW tb rel) ∧ (b = true → rel.length < n) := by
      rcases hcase with ⟨rfl, hn⟩ | ⟨l, rel0, rfl, hl, h0, hn⟩
      · rw [neB_see (e' := .non) (see_cell hrS) rfl (pln_nob (hnl rel)) rfl, ne_nob (hnl rel) rfl (hdl rel)]
        refine ⟨_, rfl, fun h => ?_, fun _ => by omega⟩
        simp at h
      · have hlS : (st ++ more)[st.length + l]? = some (.lst (rel0.map encPr)) := by rw [List.getElem?_append_right (by omega)]; simpa using hl
        rw [neB_see (see_cell hrS) (see_cell hlS) (pln_nob (hnl rel)) (pln_nob (hnl rel0)), ne_nob (hnl rel) (hnl rel0) (hdl rel)]
        refine ⟨_, rfl, fun h => ?_, fun h => ?_⟩
        · have e : rel = rel0 := by
            have : D.lst (rel.map encPr) = .lst (rel0.map encPr) := by simpa using h
            simp only [D.lst.injEq] at this
            exact map_inj (fun _ _ => encPr_inj) this
          subst e
          exact ⟨⟨k, hk⟩, h0.symm⟩
        · have hne : rel ≠ rel0 := fun e => by subst e; simp at h
          have h1 := relStep_len (tb := tb) (rel := rel0)
          rw [← h0] at h1
          by_cases hq : rel.length = rel0.length
          · exact (hne (by rw [h0]; exact relStep_eq (by rw [← h0]; exact hq))).elim
          · omega
    obtain ⟨b, hb, hb0, hb1⟩ := htest
    rw [hb]
    refine ⟨_, rfl, b, rfl, ?_⟩
    cases b with
    | false =>
      rw [if_neg Bool.false_ne_true]
      have hW := (hb0 rfl).eq
      subst hW
      rw [gc_ref (by omega) hrS old_app (by rw [belC]; exact bels_pln (plns_nob nob_Prs))]
      rw [List.take_append_of_le_length (Nat.le_refl _), List.take_length]
      exact ⟨_, rfl, rfl, bels_pln (plns_nob nob_Prs), rfl⟩
    | true =>
      rw [if_pos rfl]
      have hn := hb1 rfl
      refine ⟨by omega, ?_⟩
      try simp only [ok_ok, ok_no, ok_bind, ok_of_some, ok_var, ok_cst, ok_nil, ok_cons, ok_tup, ok_lst, ok_lstM, ok_op2, ok_op1, ok_blt, ok_listM, ok_chain, ok_and, ok_or, ok_not, ok_tval, ok_band, ok_bor, ok_bnot, ok_yes, ok_mif, ok_callM, ok_call, ok_lm, ok_optN, ok_optS, ok_slice, ok_ival, ok_range1, ok_range2, ok_zip, ok_comp, ok_compM, s_skip, s_seq, s_expr, s_asg, s_put, s_ret, s_retN, s_brk, s_cnt, s_if, s_for, s_while, List.map_cons, List.map_nil, List.cons_append, List.nil_append, List.replicate, List.getElem?_cons_zero, List.getElem?_cons_succ, List.set_cons_zero, List.set_cons_succ, Option.some.injEq, exists_eq_left', exists_eq_left, Nat.reduceSub, Nat.reduceAdd, Nat.reduceMul, wipeE, gNm, gNms, gTp, D.int.injEq, true_and, and_true, List.length_cons, List.length_nil, Option.bind_some, idx_ref, ixC_lst, idx_lst, idx_tup, idx_frz, at0, at1, at2, at3, add_int, sub_int, mod_int, fdiv_int, pow18, lt_int, le_int, gt_int, ge_int, tru_bl, tru_int, eq_int, ne_int, eq_str, ne_str, eq_bl, ne_bl, put_ref, putC_lst, ix0, ix1, ix2, ix3, len_lst, len_tup, len_frz, len_ref, lenC_lst, un1_one, tuple_lst, tuple_tup, list_lst, list_tup, slice_tup, slice_lst, it_tup, it_lst, cut_from1, Option.map_some, List.set_set, Nat.reduceLT, Int.reduceLT, if_true, Int.toNat_natCast, mul_mod, mulL, mulR, Int.reduceNeg]
      rw [it_ref (show (st ++ more ++ [Cell.lst []])[st.length + r]? = some (.lst (rel.map encPr)) by rw [List.getElem?_append_left (by simp; omega)]; exact hrS)]
      refine ⟨_, rfl, ?_⟩
      have hcl : ∀ acc : List D, (st ++ more ++ [Cell.lst acc])[st.length + r]? = some (.lst (rel.map encPr)) := fun acc => by rw [List.getElem?_append_left (by simp; omega)]; exact hrS
      refine for_gen rel (fun done env S => ∃ (y3 y6 : Option D), env = [some (.tup (tb.map encE)), some (.dct (tb.map fun e => D.str e.1) (tb.map fun e => D.tup (e.2.map encR))), some (.ref (st.length + more.length)), y3, x4, some (.ref (st.length + r)), y6, x7, none] ∧ S = st ++ more ++ [.lst ((done.filter (relOk tb rel)).map encPr)]) rfl ⟨x3, x6, by simp, rfl⟩ ?_ ?_ ?_
      · rintro ⟨p1, p2⟩ rest done env S he ⟨y3, y6, rfl, rfl⟩
        obtain ⟨m1, m2⟩ := hsub (p1, p2) (by rw [he]; simp)
        unfold encPr
        try simp only [ok_ok, ok_no, ok_bind, ok_of_some, ok_var, ok_cst, ok_nil, ok_cons, ok_tup, ok_lst, ok_lstM, ok_op2, ok_op1, ok_blt, ok_listM, ok_chain, ok_and, ok_or, ok_not, ok_tval, ok_band, ok_bor, ok_bnot, ok_yes, ok_mif, ok_callM, ok_call, ok_lm, ok_optN, ok_optS, ok_slice, ok_ival, ok_range1, ok_range2, ok_zip, ok_comp, ok_compM, s_skip, s_seq, s_expr, s_asg, s_put, s_ret, s_retN, s_brk, s_cnt, s_if, s_for, s_while, List.map_cons, List.map_nil, List.cons_append, List.nil_append, List.replicate, List.getElem?_cons_zero, List.getElem?_cons_succ, List.set_cons_zero, List.set_cons_succ, Option.some.injEq, exists_eq_left', exists_eq_left, Nat.reduceSub, Nat.reduceAdd, Nat.reduceMul, wipeE, gNm, gNms, gTp, D.int.injEq, true_and, and_true, List.length_cons, List.length_nil, Option.bind_some, idx_ref, ixC_lst, idx_lst, idx_tup, idx_frz, at0, at1, at2, at3, add_int, sub_int, mod_int, fdiv_int, pow18, lt_int, le_int, gt_int, ge_int, tru_bl, tru_int, eq_int, ne_int, eq_str, ne_str, eq_bl, ne_bl, put_ref, putC_lst, ix0, ix1, ix2, ix3, len_lst, len_tup, len_frz, len_ref, lenC_lst, un1_one, tuple_lst, tuple_tup, list_lst, list_tup, slice_tup, slice_lst, it_tup, it_lst, cut_from1, Option.map_some, List.set_set, Nat.reduceLT, Int.reduceLT, if_true, Int.toNat_natCast, mul_mod, mulL, mulR, Int.reduceNeg]
        change ∃ d, idxD _ _ (D.str p1) = some d ∧ _
        rw [idx_tb htb.nd m1]
        refine ⟨_, rfl, _, rfl, ?_⟩
        refine comp_enc (rowsAt tb p1) (fun q => .bl (hasRow rel q (rowsAt tb p2))) rfl gNone ?_ ?_
        · intro q hq
          refine ⟨_, rfl, ?_⟩
          try simp only [ok_ok, ok_no, ok_bind, ok_of_some, ok_var, ok_cst, ok_nil, ok_cons, ok_tup, ok_lst, ok_lstM, ok_op2, ok_op1, ok_blt, ok_listM, ok_chain, ok_and, ok_or, ok_not, ok_tval, ok_band, ok_bor, ok_bnot, ok_yes, ok_mif, ok_callM, ok_call, ok_lm, ok_optN, ok_optS, ok_slice, ok_ival, ok_range1, ok_range2, ok_zip, ok_comp, ok_compM, s_skip, s_seq, s_expr, s_asg, s_put, s_ret, s_retN, s_brk, s_cnt, s_if, s_for, s_while, List.map_cons, List.map_nil, List.cons_append, List.nil_append, List.replicate, List.getElem?_cons_zero, List.getElem?_cons_succ, List.set_cons_zero, List.set_cons_succ, Option.some.injEq, exists_eq_left', exists_eq_left, Nat.reduceSub, Nat.reduceAdd, Nat.reduceMul, wipeE, gNm, gNms, gTp, D.int.injEq, true_and, and_true, List.length_cons, List.length_nil, Option.bind_some, idx_ref, ixC_lst, idx_lst, idx_tup, idx_frz, at0, at1, at2, at3, add_int, sub_int, mod_int, fdiv_int, pow18, lt_int, le_int, gt_int, ge_int, tru_bl, tru_int, eq_int, ne_int, eq_str, ne_str, eq_bl, ne_bl, put_ref, putC_lst, ix0, ix1, ix2, ix3, len_lst, len_tup, len_frz, len_ref, lenC_lst, un1_one, tuple_lst, tuple_tup, list_lst, list_tup, slice_tup, slice_lst, it_tup, it_lst, cut_from1, Option.map_some, List.set_set, Nat.reduceLT, Int.reduceLT, if_true, Int.toNat_natCast, mul_mod, mulL, mulR, Int.reduceNeg]
          rw [idx_tb htb.nd m2]
          refine ⟨_, rfl, ?_⟩
          refine ok_ice_val ((hasrow_ok (rel := rel) (hcl _)).mono ?_)
          rintro d st' ⟨rfl, rfl⟩
          exact ⟨rfl, rfl, rfl⟩
        · have eb : (rowsAt tb p1).map (fun q => D.bl (hasRow rel q (rowsAt tb p2))) = ((rowsAt tb p1).map fun q => hasRow rel q (rowsAt tb p2)).map D.bl := by rw [List.map_map]; rfl
          rw [eb]
          simp only [all_bls, idx_ref, ixC_lst, idx_lst, idx_tup, idx_frz, at0, at1, at2, at3, add_int, sub_int, mod_int, fdiv_int, pow18, lt_int, le_int, gt_int, ge_int, tru_bl, tru_int, eq_int, ne_int, eq_str, ne_str, eq_bl, ne_bl, put_ref, putC_lst, ix0, ix1, ix2, ix3, len_lst, len_tup, len_frz, len_ref, lenC_lst, un1_one, tuple_lst, tuple_tup, list_lst, list_tup, slice_tup, slice_lst, it_tup, it_lst, cut_from1, Option.map_some, List.set_set, Nat.reduceLT, Int.reduceLT, if_true, Int.toNat_natCast, mul_mod, mulL, mulR, Int.reduceNeg, List.map_cons, List.map_nil, List.cons_append, List.nil_append, List.replicate, List.getElem?_cons_zero, List.getElem?_cons_succ, List.set_cons_zero, List.set_cons_succ, Option.some.injEq, exists_eq_left', exists_eq_left, Nat.reduceSub, Nat.reduceAdd, Nat.reduceMul, wipeE, gNm, gNms, gTp, D.int.injEq, true_and, and_true, List.length_cons, List.length_nil, Option.bind_some, List.all_map, Function.id_comp]
          change (if relOk tb rel (p1, p2) = true then _ else _)
          by_cases hok : relOk tb rel (p1, p2) = true
          · rw [if_pos hok]
            have hcell : (st ++ more ++ [Cell.lst ((done.filter (relOk tb rel)).map encPr)])[st.length + more.length]? = some (.lst ((done.filter (relOk tb rel)).map encPr)) := by rw [← List.length_append]; exact at_new
            refine ⟨isL_ref hcell, ?_⟩
            have hfl : (done.filter (relOk tb rel)).length ≤ 16 := by
              have := List.length_filter_le (relOk tb rel) done
              rw [he] at hrl
              simp at hrl
              omega
            refine ⟨_, _, append_ref hcell (by rw [List.length_map]; unfold big; omega), _, _, rfl, ?_⟩
            rw [← List.length_append, set_new]
            simp [hok, encPr]
          · rw [if_neg hok]
            refine ⟨_, _, rfl, ?_⟩
            simp [hok]
      · rintro done env S ⟨y3, y6, rfl, rfl⟩ n' hn'
        cases hn'
        exact hcl _
      · rintro env S ⟨y3, y6, rfl, rfl⟩
        refine ⟨rel.length, hn, more.length, relStep tb rel, more ++ [.lst ((relStep tb rel).map encPr)], y3, x4, y6, x7, .ref (st.length + r), rfl, by rw [List.append_assoc]; rfl, at_new, ⟨k + 1, by rw [hk]; rfl⟩, .inr ⟨r, rel, rfl, ?_, rfl, Nat.le_refl _⟩⟩
        rw [List.getElem?_append_left hrlt]
        exact hr
end RP
end
section
set_option Elab.async false
set_option linter.all false
set_option maxRecDepth 100000
set_option maxHeartbeats 4000000
namespace RP
open PySem
theorem rowsof_ok {sg : Sg} {tb : Tb} (htb : TabOk sg tb) {j : Nat} {st : St} {s f : Str} (hs : s ∈ tb.map (·.1)) : Ok (CC (j + 1) "_law_rows_of" [encTb tb, .str s, .str f] st) fun d st' => d = .lst (((rowsAt tb s).filter fun q => q.1 == f).map encR) ∧ st' = st := by
  rw [r__law_rows_of]
  refine ok_fn rfl ?_
  unfold b__law_rows_of
  try simp only [ok_ok, ok_no, ok_bind, ok_of_some, ok_var, ok_cst, ok_nil, ok_cons, ok_tup, ok_lst, ok_lstM, ok_op2, ok_op1, ok_blt, ok_listM, ok_chain, ok_and, ok_or, ok_not, ok_tval, ok_band, ok_bor, ok_bnot, ok_yes, ok_mif, ok_callM, ok_call, ok_lm, ok_optN, ok_optS, ok_slice, ok_ival, ok_range1, ok_range2, ok_zip, ok_comp, ok_compM, s_skip, s_seq, s_expr, s_asg, s_put, s_ret, s_retN, s_brk, s_cnt, s_if, s_for, s_while, List.map_cons, List.map_nil, List.cons_append, List.nil_append, List.replicate, List.getElem?_cons_zero, List.getElem?_cons_succ, List.set_cons_zero, List.set_cons_succ, Option.some.injEq, exists_eq_left', exists_eq_left, Nat.reduceSub, Nat.reduceAdd, Nat.reduceMul, wipeE, gNm, gNms, gTp, D.int.injEq, true_and, and_true, List.length_cons, List.length_nil, Option.bind_some, idx_ref, ixC_lst, idx_lst, idx_tup, idx_frz, at0, at1, at2, at3, add_int, sub_int, mod_int, fdiv_int, pow18, lt_int, le_int, gt_int, ge_int, tru_bl, tru_int, eq_int, ne_int, eq_str, ne_str, eq_bl, ne_bl, put_ref, putC_lst, ix0, ix1, ix2, ix3, len_lst, len_tup, len_frz, len_ref, lenC_lst, un1_one, tuple_lst, tuple_tup, list_lst, list_tup, slice_tup, slice_lst, it_tup, it_lst, cut_from1, Option.map_some, List.set_set, Nat.reduceLT, Int.reduceLT, if_true, Int.toNat_natCast, mul_mod, mulL, mulR, Int.reduceNeg]
  rw [dict_tb htb.nd]
  refine ⟨_, rfl, _, idx_tb htb.nd hs, _, rfl, ?_⟩
  refine comp_encF (rowsAt tb s) (fun q => q.1 == f) encR rfl gNone ?_ ?_
  · rintro ⟨a, zs⟩ hq
    refine ⟨_, rfl, ?_, fun _ => ⟨rfl, rfl⟩⟩
    unfold encR
    simp only [ok_ok, ok_no, ok_bind, ok_of_some, ok_var, ok_cst, ok_nil, ok_cons, ok_tup, ok_lst, ok_lstM, ok_op2, ok_op1, ok_blt, ok_listM, ok_chain, ok_and, ok_or, ok_not, ok_tval, ok_band, ok_bor, ok_bnot, ok_yes, ok_mif, ok_callM, ok_call, ok_lm, ok_optN, ok_optS, ok_slice, ok_ival, ok_range1, ok_range2, ok_zip, ok_comp, ok_compM, s_skip, s_seq, s_expr, s_asg, s_put, s_ret, s_retN, s_brk, s_cnt, s_if, s_for, s_while, List.map_cons, List.map_nil, List.cons_append, List.nil_append, List.replicate, List.getElem?_cons_zero, List.getElem?_cons_succ, List.set_cons_zero, List.set_cons_succ, Option.some.injEq, exists_eq_left', exists_eq_left, Nat.reduceSub, Nat.reduceAdd, Nat.reduceMul, wipeE, gNm, gNms, gTp, D.int.injEq, true_and, and_true, List.length_cons, List.length_nil, Option.bind_some, idx_ref, ixC_lst, idx_lst, idx_tup, idx_frz, at0, at1, at2, at3, add_int, sub_int, mod_int, fdiv_int, pow18, lt_int, le_int, gt_int, ge_int, tru_bl, tru_int, eq_int, ne_int, eq_str, ne_str, eq_bl, ne_bl, put_ref, putC_lst, ix0, ix1, ix2, ix3, len_lst, len_tup, len_frz, len_ref, lenC_lst, un1_one, tuple_lst, tuple_tup, list_lst, list_tup, slice_tup, slice_lst, it_tup, it_lst, cut_from1, Option.map_some, List.set_set, Nat.reduceLT, Int.reduceLT, if_true, Int.toNat_natCast, mul_mod, mulL, mulR, Int.reduceNeg]
  · rw [gc_same rfl]
    exact ⟨rfl, rfl⟩
theorem zip_range {xs ys : List Str} {rel : Rel} (h : xs.length = ys.length) : (List.zip xs ys).all (fun p => decide (p ∈ rel)) = (List.range xs.length).all fun k => decide ((xs.getD k "", ys.getD k "") ∈ rel) := by
  have e := range_zip (fun (a b : Str) => (a, b)) (a := ("" : Str)) (b := ("" : Str)) (xs := xs) (ys := ys) rfl h.symm
  have e2 : (xs.zip ys).map (fun p => (p.1, p.2)) = xs.zip ys := by simp
  rw [← e2, ← e, List.all_map]
  rfl
theorem hasrows_ok {sg : Sg} {tb : Tb} (one : One sg) (htb : TabOk sg tb) {j : Nat} {st : St} {n : Nat} {rel : Rel} {p : Str × Str} (hn : st[n]? = some (.lst (rel.map encPr))) (h1 : p.1 ∈ tb.map (·.1)) (h2 : p.2 ∈ tb.map (·.1)) :
    Ok (CC (j + 2) "_law_has_rows" [encTb tb, .ref n, encPr p] st) fun d st' => d = .bl (relOk tb rel p) ∧ st' = st := by
  obtain ⟨p1, p2⟩ := p
  have hnl : n < st.length := (List.getElem?_eq_some_iff.mp hn).1
  rw [r__law_has_rows]
  refine ok_fn rfl ?_
  unfold b__law_has_rows encPr
  try simp only [ok_ok, ok_no, ok_bind, ok_of_some, ok_var, ok_cst, ok_nil, ok_cons, ok_tup, ok_lst, ok_lstM, ok_op2, ok_op1, ok_blt, ok_listM, ok_chain, ok_and, ok_or, ok_not, ok_tval, ok_band, ok_bor, ok_bnot, ok_yes, ok_mif, ok_callM, ok_call, ok_lm, ok_optN, ok_optS, ok_slice, ok_ival, ok_range1, ok_range2, ok_zip, ok_comp, ok_compM, s_skip, s_seq, s_expr, s_asg, s_put, s_ret, s_retN, s_brk, s_cnt, s_if, s_for, s_while, List.map_cons, List.map_nil, List.cons_append, List.nil_append, List.replicate, List.getElem?_cons_zero, List.getElem?_cons_succ, List.set_cons_zero, List.set_cons_succ, Option.some.injEq, exists_eq_left', exists_eq_left, Nat.reduceSub, Nat.reduceAdd, Nat.reduceMul, wipeE, gNm, gNms, gTp, D.int.injEq, true_and, and_true, List.length_cons, List.length_nil, Option.bind_some, idx_ref, ixC_lst, idx_lst, idx_tup, idx_frz, at0, at1, at2, at3, add_int, sub_int, mod_int, fdiv_int, pow18, lt_int, le_int, gt_int, ge_int, tru_bl, tru_int, eq_int, ne_int, eq_str, ne_str, eq_bl, ne_bl, put_ref, putC_lst, ix0, ix1, ix2, ix3, len_lst, len_tup, len_frz, len_ref, lenC_lst, un1_one, tuple_lst, tuple_tup, list_lst, list_tup, slice_tup, slice_lst, it_tup, it_lst, cut_from1, Option.map_some, List.set_set, Nat.reduceLT, Int.reduceLT, if_true, Int.toNat_natCast, mul_mod, mulL, mulR, Int.reduceNeg]
  rw [dict_tb htb.nd]
  refine ⟨_, rfl, _, idx_tb htb.nd h1, _, rfl, ?_⟩
  refine for_gen (rowsAt tb p1) (fun done env S => ∃ (x3 x4 x5 : Option D) (more : St), env = [some (encTb tb), some (.ref n), some (.tup [.str p1, .str p2]), x3, x4, x5, none] ∧ S = st ++ more ∧ ∀ q ∈ done, hasRow rel q (rowsAt tb p2) = true) rfl ⟨none, none, none, [], rfl, by simp, by simp⟩ ?_ (fun _ _ _ _ => gNone) ?_
  · rintro ⟨nm, ss⟩ rest done env S he ⟨x3, x4, x5, more, rfl, rfl, hdn⟩
    have hmem : (nm, ss) ∈ rowsAt tb p1 := by rw [he]; simp
    have hsg := htb.row _ (mem_at htb.nd h1) _ hmem
    have hs3 : ss.length ≤ 3 := one.le _ hsg
    have e8 : (rowsAt tb p2).length ≤ 8 := htb.few _ (mem_at htb.nd h2)
    try simp only [ok_ok, ok_no, ok_bind, ok_of_some, ok_var, ok_cst, ok_nil, ok_cons, ok_tup, ok_lst, ok_lstM, ok_op2, ok_op1, ok_blt, ok_listM, ok_chain, ok_and, ok_or, ok_not, ok_tval, ok_band, ok_bor, ok_bnot, ok_yes, ok_mif, ok_callM, ok_call, ok_lm, ok_optN, ok_optS, ok_slice, ok_ival, ok_range1, ok_range2, ok_zip, ok_comp, ok_compM, s_skip, s_seq, s_expr, s_asg, s_put, s_ret, s_retN, s_brk, s_cnt, s_if, s_for, s_while, List.map_cons, List.map_nil, List.cons_append, List.nil_append, List.replicate, List.getElem?_cons_zero, List.getElem?_cons_succ, List.set_cons_zero, List.set_cons_succ, Option.some.injEq, exists_eq_left', exists_eq_left, Nat.reduceSub, Nat.reduceAdd, Nat.reduceMul, wipeE, gNm, gNms, gTp, D.int.injEq, true_and, and_true, List.length_cons, List.length_nil, Option.bind_some, idx_ref, ixC_lst, idx_lst, idx_tup, idx_frz, at0, at1, at2, at3, add_int, sub_int, mod_int, fdiv_int, pow18, lt_int, le_int, gt_int, ge_int, tru_bl, tru_int, eq_int, ne_int, eq_str, ne_str, eq_bl, ne_bl, put_ref, putC_lst, ix0, ix1, ix2, ix3, len_lst, len_tup, len_frz, len_ref, lenC_lst, un1_one, tuple_lst, tuple_tup, list_lst, list_tup, slice_tup, slice_lst, it_tup, it_lst, cut_from1, Option.map_some, List.set_set, Nat.reduceLT, Int.reduceLT, if_true, Int.toNat_natCast, mul_mod, mulL, mulR, Int.reduceNeg]
    change ∃ d, idxD _ (D.tup (.str nm :: ss.map D.str)) _ = some d ∧ _
    try simp only [ok_ok, ok_no, ok_bind, ok_of_some, ok_var, ok_cst, ok_nil, ok_cons, ok_tup, ok_lst, ok_lstM, ok_op2, ok_op1, ok_blt, ok_listM, ok_chain, ok_and, ok_or, ok_not, ok_tval, ok_band, ok_bor, ok_bnot, ok_yes, ok_mif, ok_callM, ok_call, ok_lm, ok_optN, ok_optS, ok_slice, ok_ival, ok_range1, ok_range2, ok_zip, ok_comp, ok_compM, s_skip, s_seq, s_expr, s_asg, s_put, s_ret, s_retN, s_brk, s_cnt, s_if, s_for, s_while, List.map_cons, List.map_nil, List.cons_append, List.nil_append, List.replicate, List.getElem?_cons_zero, List.getElem?_cons_succ, List.set_cons_zero, List.set_cons_succ, Option.some.injEq, exists_eq_left', exists_eq_left, Nat.reduceSub, Nat.reduceAdd, Nat.reduceMul, wipeE, gNm, gNms, gTp, D.int.injEq, true_and, and_true, List.length_cons, List.length_nil, Option.bind_some, idx_ref, ixC_lst, idx_lst, idx_tup, idx_frz, at0, at1, at2, at3, add_int, sub_int, mod_int, fdiv_int, pow18, lt_int, le_int, gt_int, ge_int, tru_bl, tru_int, eq_int, ne_int, eq_str, ne_str, eq_bl, ne_bl, put_ref, putC_lst, ix0, ix1, ix2, ix3, len_lst, len_tup, len_frz, len_ref, lenC_lst, un1_one, tuple_lst, tuple_tup, list_lst, list_tup, slice_tup, slice_lst, it_tup, it_lst, cut_from1, Option.map_some, List.set_set, Nat.reduceLT, Int.reduceLT, if_true, Int.toNat_natCast, mul_mod, mulL, mulR, Int.reduceNeg]
    refine ok_ice_val ((rowsof_ok (j := j) htb h2).mono ?_)
    rintro _ _ ⟨rfl, rfl⟩
    refine ⟨rfl, ?_⟩
    try simp only [ok_ok, ok_no, ok_bind, ok_of_some, ok_var, ok_cst, ok_nil, ok_cons, ok_tup, ok_lst, ok_lstM, ok_op2, ok_op1, ok_blt, ok_listM, ok_chain, ok_and, ok_or, ok_not, ok_tval, ok_band, ok_bor, ok_bnot, ok_yes, ok_mif, ok_callM, ok_call, ok_lm, ok_optN, ok_optS, ok_slice, ok_ival, ok_range1, ok_range2, ok_zip, ok_comp, ok_compM, s_skip, s_seq, s_expr, s_asg, s_put, s_ret, s_retN, s_brk, s_cnt, s_if, s_for, s_while, List.map_cons, List.map_nil, List.cons_append, List.nil_append, List.replicate, List.getElem?_cons_zero, List.getElem?_cons_succ, List.set_cons_zero, List.set_cons_succ, Option.some.injEq, exists_eq_left', exists_eq_left, Nat.reduceSub, Nat.reduceAdd, Nat.reduceMul, wipeE, gNm, gNms, gTp, D.int.injEq, true_and, and_true, List.length_cons, List.length_nil, Option.bind_some, idx_ref, ixC_lst, idx_lst, idx_tup, idx_frz, at0, at1, at2, at3, add_int, sub_int, mod_int, fdiv_int, pow18, lt_int, le_int, gt_int, ge_int, tru_bl, tru_int, eq_int, ne_int, eq_str, ne_str, eq_bl, ne_bl, put_ref, putC_lst, ix0, ix1, ix2, ix3, len_lst, len_tup, len_frz, len_ref, lenC_lst, un1_one, tuple_lst, tuple_tup, list_lst, list_tup, slice_tup, slice_lst, it_tup, it_lst, cut_from1, Option.map_some, List.set_set, Nat.reduceLT, Int.reduceLT, if_true, Int.toNat_natCast, mul_mod, mulL, mulR, Int.reduceNeg]
    refine for_gen ((rowsAt tb p2).filter fun q => q.1 == nm) (fun dn env S => ∃ (y5 : Option D), env = [some (encTb tb), some (.ref n), some (.tup [.str p1, .str p2]), some (encR (nm, ss)), some (.ref (st ++ more).length), y5, none] ∧ S = st ++ more ++ [.lst ((dn.map fun q => rowIn rel (nm, ss) q).map D.bl)]) rfl ⟨_, rfl, rfl⟩ ?_ (fun _ _ _ _ => gNone) ?_
    · rintro ⟨mm, zs⟩ rest2 dn env S he2 ⟨y5, rfl, rfl⟩
      have hm2 : (mm, zs) ∈ (rowsAt tb p2).filter fun q => q.1 == nm := by rw [he2]; simp
      obtain ⟨hm3, hm4⟩ := List.mem_filter.mp hm2
      have hmm : mm = nm := by simpa using hm4
      subst hmm
      have hzl : ss.length = zs.length := one.one _ _ _ hsg (htb.row _ (mem_at htb.nd h2) _ hm3)
      have hdl : dn.length ≤ 8 := by
        have h3 := List.length_filter_le (fun q : Row => q.1 == mm) (rowsAt tb p2)
        rw [he2, List.length_append] at h3
        omega
      have hcell : (st ++ more ++ [Cell.lst ((dn.map fun q => rowIn rel (mm, ss) q).map D.bl)])[(st ++ more).length]? = some (.lst ((dn.map fun q => rowIn rel (mm, ss) q).map D.bl)) := at_new
      have hrel : (st ++ more ++ [Cell.lst ((dn.map fun q => rowIn rel (mm, ss) q).map D.bl)])[n]? = some (.lst (rel.map encPr)) := by
        rw [List.getElem?_append_left (by simp; omega), List.getElem?_append_left hnl]
        exact hn
      unfold encR
      try simp only [ok_ok, ok_no, ok_bind, ok_of_some, ok_var, ok_cst, ok_nil, ok_cons, ok_tup, ok_lst, ok_lstM, ok_op2, ok_op1, ok_blt, ok_listM, ok_chain, ok_and, ok_or, ok_not, ok_tval, ok_band, ok_bor, ok_bnot, ok_yes, ok_mif, ok_callM, ok_call, ok_lm, ok_optN, ok_optS, ok_slice, ok_ival, ok_range1, ok_range2, ok_zip, ok_comp, ok_compM, s_skip, s_seq, s_expr, s_asg, s_put, s_ret, s_retN, s_brk, s_cnt, s_if, s_for, s_while, List.map_cons, List.map_nil, List.cons_append, List.nil_append, List.replicate, List.getElem?_cons_zero, List.getElem?_cons_succ, List.set_cons_zero, List.set_cons_succ, Option.some.injEq, exists_eq_left', exists_eq_left, Nat.reduceSub, Nat.reduceAdd, Nat.reduceMul, wipeE, gNm, gNms, gTp, D.int.injEq, true_and, and_true, List.length_cons, List.length_nil, Option.bind_some, idx_ref, ixC_lst, idx_lst, idx_tup, idx_frz, at0, at1, at2, at3, add_int, sub_int, mod_int, fdiv_int, pow18, lt_int, le_int, gt_int, ge_int, tru_bl, tru_int, eq_int, ne_int, eq_str, ne_str, eq_bl, ne_bl, put_ref, putC_lst, ix0, ix1, ix2, ix3, len_lst, len_tup, len_frz, len_ref, lenC_lst, un1_one, tuple_lst, tuple_tup, list_lst, list_tup, slice_tup, slice_lst, it_tup, it_lst, cut_from1, Option.map_some, List.set_set, Nat.reduceLT, Int.reduceLT, if_true, Int.toNat_natCast, mul_mod, mulL, mulR, Int.reduceNeg]
      refine ⟨isL_ref hcell, ?_⟩
      refine ⟨1, _, rfl, rfl, by simp; unfold big; omega, ?_⟩
      rw [show ((((ss.map D.str).length + 1 : Nat) : Int) - 1).toNat = ss.length by simp]
      refine comp_enc (List.range ss.length) (fun k => .bl (decide ((ss.getD k "", zs.getD k "") ∈ rel))) (by rfl) gNone ?_ ?_
      · intro k hk
        have hk' : k < ss.length := by simpa using hk
        refine ⟨_, rfl, ?_⟩
        have b1 : ∀ (a : Str) (l : List Str), k < l.length → L2.atI (D.str a :: l.map D.str) (1 + (k : Int)) = some (.str (l.getD k "")) := fun a l hl => by
          rw [show (1 + (k : Int)) = ((k + 1 : Nat) : Int) by omega, at_nat]
          simp [List.getD, hl]
        simp only [ok_ok, ok_no, ok_bind, ok_of_some, ok_var, ok_cst, ok_nil, ok_cons, ok_tup, ok_lst, ok_lstM, ok_op2, ok_op1, ok_blt, ok_listM, ok_chain, ok_and, ok_or, ok_not, ok_tval, ok_band, ok_bor, ok_bnot, ok_yes, ok_mif, ok_callM, ok_call, ok_lm, ok_optN, ok_optS, ok_slice, ok_ival, ok_range1, ok_range2, ok_zip, ok_comp, ok_compM, s_skip, s_seq, s_expr, s_asg, s_put, s_ret, s_retN, s_brk, s_cnt, s_if, s_for, s_while, List.map_cons, List.map_nil, List.cons_append, List.nil_append, List.replicate, List.getElem?_cons_zero, List.getElem?_cons_succ, List.set_cons_zero, List.set_cons_succ, Option.some.injEq, exists_eq_left', exists_eq_left, Nat.reduceSub, Nat.reduceAdd, Nat.reduceMul, wipeE, gNm, gNms, gTp, D.int.injEq, true_and, and_true, List.length_cons, List.length_nil, Option.bind_some, idx_ref, ixC_lst, idx_lst, idx_tup, idx_frz, at0, at1, at2, at3, add_int, sub_int, mod_int, fdiv_int, pow18, lt_int, le_int, gt_int, ge_int, tru_bl, tru_int, eq_int, ne_int, eq_str, ne_str, eq_bl, ne_bl, put_ref, putC_lst, ix0, ix1, ix2, ix3, len_lst, len_tup, len_frz, len_ref, lenC_lst, un1_one, tuple_lst, tuple_tup, list_lst, list_tup, slice_tup, slice_lst, it_tup, it_lst, cut_from1, Option.map_some, List.set_set, Nat.reduceLT, Int.reduceLT, if_true, Int.toNat_natCast, mul_mod, mulL, mulR, Int.reduceNeg, b1 _ _ hk', b1 mm zs (by omega)]
        change ∃ d, inB _ (encPr (ss.getD k "", zs.getD k "")) _ = some d ∧ _
        rw [in_refl hrel (nob_Pr _) nob_Prs (by rw [dep_Pr]; omega)]
        refine ⟨_, rfl, ?_⟩
        simp only [mem_map_inj (fun _ _ => encPr_inj)]
      · have eb : (List.range ss.length).map (fun k => D.bl (decide ((ss.getD k "", zs.getD k "") ∈ rel))) = ((List.range ss.length).map fun k => decide ((ss.getD k "", zs.getD k "") ∈ rel)).map D.bl := by rw [List.map_map]; rfl
        rw [eb, nin_bls]
        refine ⟨_, rfl, ?_⟩
        have ei : (!((List.range ss.length).map fun k => decide ((ss.getD k "", zs.getD k "") ∈ rel)).any (· == false)) = rowIn rel (mm, ss) (mm, zs) := by
          unfold rowIn
          simp only [beq_self_eq_true, Bool.true_and]
          rw [zip_range hzl]
          generalize List.range ss.length = l
          induction l with
          | nil => rfl
          | cons a l ih =>
            simp only [List.map_cons, List.any_cons, List.all_cons, Bool.not_or, ih]
            cases decide ((ss.getD a "", zs.getD a "") ∈ rel) <;> rfl
        rw [ei]
        refine ⟨_, _, append_ref hcell (by simp; unfold big; omega), _, rfl, ?_⟩
        rw [set_new]
        simp
    · rintro env S ⟨y5, rfl, rfl⟩
      have hcell : ∀ x : List D, (st ++ more ++ [Cell.lst x])[(st ++ more).length]? = some (.lst x) := fun _ => at_new
      try simp only [ok_ok, ok_no, ok_bind, ok_of_some, ok_var, ok_cst, ok_nil, ok_cons, ok_tup, ok_lst, ok_lstM, ok_op2, ok_op1, ok_blt, ok_listM, ok_chain, ok_and, ok_or, ok_not, ok_tval, ok_band, ok_bor, ok_bnot, ok_yes, ok_mif, ok_callM, ok_call, ok_lm, ok_optN, ok_optS, ok_slice, ok_ival, ok_range1, ok_range2, ok_zip, ok_comp, ok_compM, s_skip, s_seq, s_expr, s_asg, s_put, s_ret, s_retN, s_brk, s_cnt, s_if, s_for, s_while, List.map_cons, List.map_nil, List.cons_append, List.nil_append, List.replicate, List.getElem?_cons_zero, List.getElem?_cons_succ, List.set_cons_zero, List.set_cons_succ, Option.some.injEq, exists_eq_left', exists_eq_left, Nat.reduceSub, Nat.reduceAdd, Nat.reduceMul, wipeE, gNm, gNms, gTp, D.int.injEq, true_and, and_true, List.length_cons, List.length_nil, Option.bind_some, idx_ref, ixC_lst, idx_lst, idx_tup, idx_frz, at0, at1, at2, at3, add_int, sub_int, mod_int, fdiv_int, pow18, lt_int, le_int, gt_int, ge_int, tru_bl, tru_int, eq_int, ne_int, eq_str, ne_str, eq_bl, ne_bl, put_ref, putC_lst, ix0, ix1, ix2, ix3, len_lst, len_tup, len_frz, len_ref, lenC_lst, un1_one, tuple_lst, tuple_tup, list_lst, list_tup, slice_tup, slice_lst, it_tup, it_lst, cut_from1, Option.map_some, List.set_set, Nat.reduceLT, Int.reduceLT, if_true, Int.toNat_natCast, mul_mod, mulL, mulR, Int.reduceNeg]
      rw [nin_ref (hcell _), nin_bls]
      refine ⟨_, rfl, _, rfl, ?_⟩
      have ei : ((((rowsAt tb p2).filter fun q => q.1 == nm).map fun q => rowIn rel (nm, ss) q).any (· == true)) = hasRow rel (nm, ss) (rowsAt tb p2) := by
        unfold hasRow
        generalize rowsAt tb p2 = l
        induction l with
        | nil => rfl
        | cons a l ih =>
          rw [List.filter_cons]
          by_cases h : (a.1 == nm) = true
          · rw [if_pos h, List.map_cons, List.any_cons, List.any_cons, ih]
            simp
          · rw [if_neg h, List.any_cons, ih]
            have : rowIn rel (nm, ss) a = false := by
              unfold rowIn
              simp only [Bool.not_eq_true] at h
              rw [h]; rfl
            rw [this]; rfl
      rw [ei]
      by_cases hr : hasRow rel (nm, ss) (rowsAt tb p2) = true
      · rw [hr, if_neg (by decide)]
        refine ⟨_, _, _, more ++ [_], rfl, by rw [List.append_assoc], fun q hq => ?_⟩
        rcases List.mem_append.mp hq with z | z
        · exact hdn q z
        · rw [List.mem_singleton.mp z]; exact hr
      · rw [if_pos (by simpa using hr)]
        have : relOk tb rel (p1, p2) = false := by
          cases q : relOk tb rel (p1, p2) with
          | false => rfl
          | true => exact (hr (List.all_eq_true.mp q _ hmem)).elim
        rw [this, List.append_assoc, gc_val (by simp) old_app rfl]
        exact ⟨rfl, by simp⟩
  · rintro env S ⟨x3, x4, x5, more, rfl, rfl, hdn⟩
    have : relOk tb rel (p1, p2) = true := List.all_eq_true.mpr hdn
    rw [this, gc_val (by simp) old_app rfl]
    exact ⟨rfl, by simp⟩
theorem within_ok {sg : Sg} {tb : Tb} (one : One sg) (htb : TabOk sg tb) {j : Nat} {st : St} : Ok (CC (j + 3) "_law_within" [encTb tb] st) fun d st' => ∃ xs, d = .ref st.length ∧ st' = st ++ [.lst xs] ∧ bels st.length xs = true ∧ xs = (withinR tb).map encPr := by
  have hl4 := htb.hi
  rw [r__law_within]
  refine ok_fn rfl ?_
  unfold b__law_within
  try simp only [ok_ok, ok_no, ok_bind, ok_of_some, ok_var, ok_cst, ok_nil, ok_cons, ok_tup, ok_lst, ok_lstM, ok_op2, ok_op1, ok_blt, ok_listM, ok_chain, ok_and, ok_or, ok_not, ok_tval, ok_band, ok_bor, ok_bnot, ok_yes, ok_mif, ok_callM, ok_call, ok_lm, ok_optN, ok_optS, ok_slice, ok_ival, ok_range1, ok_range2, ok_zip, ok_comp, ok_compM, s_skip, s_seq, s_expr, s_asg, s_put, s_ret, s_retN, s_brk, s_cnt, s_if, s_for, s_while, List.map_cons, List.map_nil, List.cons_append, List.nil_append, List.replicate, List.getElem?_cons_zero, List.getElem?_cons_succ, List.set_cons_zero, List.set_cons_succ, Option.some.injEq, exists_eq_left', exists_eq_left, Nat.reduceSub, Nat.reduceAdd, Nat.reduceMul, wipeE, gNm, gNms, gTp, D.int.injEq, true_and, and_true, List.length_cons, List.length_nil, Option.bind_some, idx_ref, ixC_lst, idx_lst, idx_tup, idx_frz, at0, at1, at2, at3, add_int, sub_int, mod_int, fdiv_int, pow18, lt_int, le_int, gt_int, ge_int, tru_bl, tru_int, eq_int, ne_int, eq_str, ne_str, eq_bl, ne_bl, put_ref, putC_lst, ix0, ix1, ix2, ix3, len_lst, len_tup, len_frz, len_ref, lenC_lst, un1_one, tuple_lst, tuple_tup, list_lst, list_tup, slice_tup, slice_lst, it_tup, it_lst, cut_from1, Option.map_some, List.set_set, Nat.reduceLT, Int.reduceLT, if_true, Int.toNat_natCast, mul_mod, mulL, mulR, Int.reduceNeg]
  rw [show itD st (encTb tb) = some (tb.map encE, none) from rfl]
  refine ⟨_, rfl, ?_⟩
  have hall16 := relAll_len hl4
  refine comp_enc tb (fun e => D.str e.1) rfl gNone ?_ ?_
  · rintro ⟨z, zr⟩ hz
    refine ⟨_, rfl, ?_⟩
    simp only [ok_ok, ok_no, ok_bind, ok_of_some, ok_var, ok_cst, ok_nil, ok_cons, ok_tup, ok_lst, ok_lstM, ok_op2, ok_op1, ok_blt, ok_listM, ok_chain, ok_and, ok_or, ok_not, ok_tval, ok_band, ok_bor, ok_bnot, ok_yes, ok_mif, ok_callM, ok_call, ok_lm, ok_optN, ok_optS, ok_slice, ok_ival, ok_range1, ok_range2, ok_zip, ok_comp, ok_compM, s_skip, s_seq, s_expr, s_asg, s_put, s_ret, s_retN, s_brk, s_cnt, s_if, s_for, s_while, List.map_cons, List.map_nil, List.cons_append, List.nil_append, List.replicate, List.getElem?_cons_zero, List.getElem?_cons_succ, List.set_cons_zero, List.set_cons_succ, Option.some.injEq, exists_eq_left', exists_eq_left, Nat.reduceSub, Nat.reduceAdd, Nat.reduceMul, wipeE, gNm, gNms, gTp, D.int.injEq, true_and, and_true, List.length_cons, List.length_nil, Option.bind_some, idx_ref, ixC_lst, idx_lst, idx_tup, idx_frz, at0, at1, at2, at3, add_int, sub_int, mod_int, fdiv_int, pow18, lt_int, le_int, gt_int, ge_int, tru_bl, tru_int, eq_int, ne_int, eq_str, ne_str, eq_bl, ne_bl, put_ref, putC_lst, ix0, ix1, ix2, ix3, len_lst, len_tup, len_frz, len_ref, lenC_lst, un1_one, tuple_lst, tuple_tup, list_lst, list_tup, slice_tup, slice_lst, it_tup, it_lst, cut_from1, Option.map_some, List.set_set, Nat.reduceLT, Int.reduceLT, if_true, Int.toNat_natCast, mul_mod, mulL, mulR, Int.reduceNeg]
  try simp only [ok_ok, ok_no, ok_bind, ok_of_some, ok_var, ok_cst, ok_nil, ok_cons, ok_tup, ok_lst, ok_lstM, ok_op2, ok_op1, ok_blt, ok_listM, ok_chain, ok_and, ok_or, ok_not, ok_tval, ok_band, ok_bor, ok_bnot, ok_yes, ok_mif, ok_callM, ok_call, ok_lm, ok_optN, ok_optS, ok_slice, ok_ival, ok_range1, ok_range2, ok_zip, ok_comp, ok_compM, s_skip, s_seq, s_expr, s_asg, s_put, s_ret, s_retN, s_brk, s_cnt, s_if, s_for, s_while, List.map_cons, List.map_nil, List.cons_append, List.nil_append, List.replicate, List.getElem?_cons_zero, List.getElem?_cons_succ, List.set_cons_zero, List.set_cons_succ, Option.some.injEq, exists_eq_left', exists_eq_left, Nat.reduceSub, Nat.reduceAdd, Nat.reduceMul, wipeE, gNm, gNms, gTp, D.int.injEq, true_and, and_true, List.length_cons, List.length_nil, Option.bind_some, idx_ref, ixC_lst, idx_lst, idx_tup, idx_frz, at0, at1, at2, at3, add_int, sub_int, mod_int, fdiv_int, pow18, lt_int, le_int, gt_int, ge_int, tru_bl, tru_int, eq_int, ne_int, eq_str, ne_str, eq_bl, ne_bl, put_ref, putC_lst, ix0, ix1, ix2, ix3, len_lst, len_tup, len_frz, len_ref, lenC_lst, un1_one, tuple_lst, tuple_tup, list_lst, list_tup, slice_tup, slice_lst, it_tup, it_lst, cut_from1, Option.map_some, List.set_set, Nat.reduceLT, Int.reduceLT, if_true, Int.toNat_natCast, mul_mod, mulL, mulR, Int.reduceNeg]
  refine for_gen (e := fun e : Str × List Row => D.str e.1) tb (fun done env S => ∃ x3, env = [some (encTb tb), some (.lst (tb.map fun e => D.str e.1)), some (.ref st.length), x3, none, none, none, none, none] ∧ S = st ++ [.lst ((done.flatMap fun e => tb.map fun f => (e.1, f.1)).map encPr)]) rfl ⟨none, rfl, rfl⟩ ?_ (fun _ _ _ _ => gNone) ?_
  · rintro ⟨s, rows⟩ rest done env S he ⟨x3, rfl, rfl⟩
    try simp only [ok_ok, ok_no, ok_bind, ok_of_some, ok_var, ok_cst, ok_nil, ok_cons, ok_tup, ok_lst, ok_lstM, ok_op2, ok_op1, ok_blt, ok_listM, ok_chain, ok_and, ok_or, ok_not, ok_tval, ok_band, ok_bor, ok_bnot, ok_yes, ok_mif, ok_callM, ok_call, ok_lm, ok_optN, ok_optS, ok_slice, ok_ival, ok_range1, ok_range2, ok_zip, ok_comp, ok_compM, s_skip, s_seq, s_expr, s_asg, s_put, s_ret, s_retN, s_brk, s_cnt, s_if, s_for, s_while, List.map_cons, List.map_nil, List.cons_append, List.nil_append, List.replicate, List.getElem?_cons_zero, List.getElem?_cons_succ, List.set_cons_zero, List.set_cons_succ, Option.some.injEq, exists_eq_left', exists_eq_left, Nat.reduceSub, Nat.reduceAdd, Nat.reduceMul, wipeE, gNm, gNms, gTp, D.int.injEq, true_and, and_true, List.length_cons, List.length_nil, Option.bind_some, idx_ref, ixC_lst, idx_lst, idx_tup, idx_frz, at0, at1, at2, at3, add_int, sub_int, mod_int, fdiv_int, pow18, lt_int, le_int, gt_int, ge_int, tru_bl, tru_int, eq_int, ne_int, eq_str, ne_str, eq_bl, ne_bl, put_ref, putC_lst, ix0, ix1, ix2, ix3, len_lst, len_tup, len_frz, len_ref, lenC_lst, un1_one, tuple_lst, tuple_tup, list_lst, list_tup, slice_tup, slice_lst, it_tup, it_lst, cut_from1, Option.map_some, List.set_set, Nat.reduceLT, Int.reduceLT, if_true, Int.toNat_natCast, mul_mod, mulL, mulR, Int.reduceNeg]
    refine ⟨isL_ref at_new, ?_⟩
    refine comp_enc (e := fun e : Str × List Row => D.str e.1) tb (fun f => encPr (s, f.1)) rfl gNone ?_ ?_
    · rintro ⟨z, zr⟩ hz
      refine ⟨_, rfl, ?_⟩
      simp only [ok_ok, ok_no, ok_bind, ok_of_some, ok_var, ok_cst, ok_nil, ok_cons, ok_tup, ok_lst, ok_lstM, ok_op2, ok_op1, ok_blt, ok_listM, ok_chain, ok_and, ok_or, ok_not, ok_tval, ok_band, ok_bor, ok_bnot, ok_yes, ok_mif, ok_callM, ok_call, ok_lm, ok_optN, ok_optS, ok_slice, ok_ival, ok_range1, ok_range2, ok_zip, ok_comp, ok_compM, s_skip, s_seq, s_expr, s_asg, s_put, s_ret, s_retN, s_brk, s_cnt, s_if, s_for, s_while, List.map_cons, List.map_nil, List.cons_append, List.nil_append, List.replicate, List.getElem?_cons_zero, List.getElem?_cons_succ, List.set_cons_zero, List.set_cons_succ, Option.some.injEq, exists_eq_left', exists_eq_left, Nat.reduceSub, Nat.reduceAdd, Nat.reduceMul, wipeE, gNm, gNms, gTp, D.int.injEq, true_and, and_true, List.length_cons, List.length_nil, Option.bind_some, idx_ref, ixC_lst, idx_lst, idx_tup, idx_frz, at0, at1, at2, at3, add_int, sub_int, mod_int, fdiv_int, pow18, lt_int, le_int, gt_int, ge_int, tru_bl, tru_int, eq_int, ne_int, eq_str, ne_str, eq_bl, ne_bl, put_ref, putC_lst, ix0, ix1, ix2, ix3, len_lst, len_tup, len_frz, len_ref, lenC_lst, un1_one, tuple_lst, tuple_tup, list_lst, list_tup, slice_tup, slice_lst, it_tup, it_lst, cut_from1, Option.map_some, List.set_set, Nat.reduceLT, Int.reduceLT, if_true, Int.toNat_natCast, mul_mod, mulL, mulR, Int.reduceNeg, encPr, and_self]
    · have hlen : (done.flatMap fun e => tb.map fun f => (e.1, f.1)).length + tb.length ≤ 16 := by
        have : relAll tb = (done.flatMap fun e => tb.map fun f => (e.1, f.1)) ++ (((s, rows) :: rest).flatMap fun e => tb.map fun f => (e.1, f.1)) := by
          unfold relAll
          conv => lhs; arg 2; rw [he]
          rw [List.flatMap_append]
        rw [this, List.length_append, List.flatMap_cons, List.length_append, List.length_map] at hall16
        omega
      rw [extend_ref at_new (by simp only [List.length_map]; unfold big; omega), set_new]
      refine ⟨_, _, rfl, _, rfl, ?_⟩
      rw [relAll_app, List.map_append, List.map_map]
      rfl
  · rintro env S ⟨x3, rfl, rfl⟩
    try simp only [ok_ok, ok_no, ok_bind, ok_of_some, ok_var, ok_cst, ok_nil, ok_cons, ok_tup, ok_lst, ok_lstM, ok_op2, ok_op1, ok_blt, ok_listM, ok_chain, ok_and, ok_or, ok_not, ok_tval, ok_band, ok_bor, ok_bnot, ok_yes, ok_mif, ok_callM, ok_call, ok_lm, ok_optN, ok_optS, ok_slice, ok_ival, ok_range1, ok_range2, ok_zip, ok_comp, ok_compM, s_skip, s_seq, s_expr, s_asg, s_put, s_ret, s_retN, s_brk, s_cnt, s_if, s_for, s_while, List.map_cons, List.map_nil, List.cons_append, List.nil_append, List.replicate, List.getElem?_cons_zero, List.getElem?_cons_succ, List.set_cons_zero, List.set_cons_succ, Option.some.injEq, exists_eq_left', exists_eq_left, Nat.reduceSub, Nat.reduceAdd, Nat.reduceMul, wipeE, gNm, gNms, gTp, D.int.injEq, true_and, and_true, List.length_cons, List.length_nil, Option.bind_some, idx_ref, ixC_lst, idx_lst, idx_tup, idx_frz, at0, at1, at2, at3, add_int, sub_int, mod_int, fdiv_int, pow18, lt_int, le_int, gt_int, ge_int, tru_bl, tru_int, eq_int, ne_int, eq_str, ne_str, eq_bl, ne_bl, put_ref, putC_lst, ix0, ix1, ix2, ix3, len_lst, len_tup, len_frz, len_ref, lenC_lst, un1_one, tuple_lst, tuple_tup, list_lst, list_tup, slice_tup, slice_lst, it_tup, it_lst, cut_from1, Option.map_some, List.set_set, Nat.reduceLT, Int.reduceLT, if_true, Int.toNat_natCast, mul_mod, mulL, mulR, Int.reduceNeg]
    have hlen1 : lenD (st ++ [Cell.lst ((tb.flatMap fun e => tb.map fun f => (e.1, f.1)).map encPr)]) (.ref st.length) = some (.int (relAll tb).length) := by
      rw [len_ref, at_new, lenC_lst, List.length_map]
      rfl
    rw [at_new, lenC_lst]
    try simp only [ok_ok, ok_no, ok_bind, ok_of_some, ok_var, ok_cst, ok_nil, ok_cons, ok_tup, ok_lst, ok_lstM, ok_op2, ok_op1, ok_blt, ok_listM, ok_chain, ok_and, ok_or, ok_not, ok_tval, ok_band, ok_bor, ok_bnot, ok_yes, ok_mif, ok_callM, ok_call, ok_lm, ok_optN, ok_optS, ok_slice, ok_ival, ok_range1, ok_range2, ok_zip, ok_comp, ok_compM, s_skip, s_seq, s_expr, s_asg, s_put, s_ret, s_retN, s_brk, s_cnt, s_if, s_for, s_while, List.map_cons, List.map_nil, List.cons_append, List.nil_append, List.replicate, List.getElem?_cons_zero, List.getElem?_cons_succ, List.set_cons_zero, List.set_cons_succ, Option.some.injEq, exists_eq_left', exists_eq_left, Nat.reduceSub, Nat.reduceAdd, Nat.reduceMul, wipeE, gNm, gNms, gTp, D.int.injEq, true_and, and_true, List.length_cons, List.length_nil, Option.bind_some, idx_ref, ixC_lst, idx_lst, idx_tup, idx_frz, at0, at1, at2, at3, add_int, sub_int, mod_int, fdiv_int, pow18, lt_int, le_int, gt_int, ge_int, tru_bl, tru_int, eq_int, ne_int, eq_str, ne_str, eq_bl, ne_bl, put_ref, putC_lst, ix0, ix1, ix2, ix3, len_lst, len_tup, len_frz, len_ref, lenC_lst, un1_one, tuple_lst, tuple_tup, list_lst, list_tup, slice_tup, slice_lst, it_tup, it_lst, cut_from1, Option.map_some, List.set_set, Nat.reduceLT, Int.reduceLT, if_true, Int.toNat_natCast, mul_mod, mulL, mulR, Int.reduceNeg]
    refine while_inv (fun n env S => ∃ (r : Nat) (rel : Rel) (more : St) (x3 : Option D) (m : Int), env = [some (encTb tb), some (.lst (tb.map fun e => D.str e.1)), some (.ref (st.length + r)), x3, some (.int m), none, none, none, none] ∧ S = st ++ more ∧ more[r]? = some (.lst (rel.map encPr)) ∧ (∃ k, rel = chain tb k) ∧
        ((rel.length < m ∧ rel.length + 1 ≤ n) ∨ (∃ rel0 : Rel, m = rel0.length ∧ rel = relStep tb rel0 ∧ rel0.length ≤ n))) ?_ _ 20 _ _ ⟨0, relAll tb, _, _, _, rfl, rfl, rfl, ⟨0, rfl⟩, .inl ⟨?_, by omega⟩⟩ (by unfold wMost; omega)
    · rintro n env S ⟨r, rel, more, x3, m, rfl, rfl, hr, ⟨k, hk⟩, hcase⟩
      have hrlt : r < more.length := (List.getElem?_eq_some_iff.mp hr).1
      have hrS : (st ++ more)[st.length + r]? = some (.lst (rel.map encPr)) := by rw [List.getElem?_append_right (by omega)]; simpa using hr
      have hsub : ∀ p ∈ rel, p.1 ∈ tb.map (·.1) ∧ p.2 ∈ tb.map (·.1) := fun p hp => mem_relAll.mp (chain_sub (k := k) (by rw [← hk]; exact hp))
      try simp only [ok_ok, ok_no, ok_bind, ok_of_some, ok_var, ok_cst, ok_nil, ok_cons, ok_tup, ok_lst, ok_lstM, ok_op2, ok_op1, ok_blt, ok_listM, ok_chain, ok_and, ok_or, ok_not, ok_tval, ok_band, ok_bor, ok_bnot, ok_yes, ok_mif, ok_callM, ok_call, ok_lm, ok_optN, ok_optS, ok_slice, ok_ival, ok_range1, ok_range2, ok_zip, ok_comp, ok_compM, s_skip, s_seq, s_expr, s_asg, s_put, s_ret, s_retN, s_brk, s_cnt, s_if, s_for, s_while, List.map_cons, List.map_nil, List.cons_append, List.nil_append, List.replicate, List.getElem?_cons_zero, List.getElem?_cons_succ, List.set_cons_zero, List.set_cons_succ, Option.some.injEq, exists_eq_left', exists_eq_left, Nat.reduceSub, Nat.reduceAdd, Nat.reduceMul, wipeE, gNm, gNms, gTp, D.int.injEq, true_and, and_true, List.length_cons, List.length_nil, Option.bind_some, idx_ref, ixC_lst, idx_lst, idx_tup, idx_frz, at0, at1, at2, at3, add_int, sub_int, mod_int, fdiv_int, pow18, lt_int, le_int, gt_int, ge_int, tru_bl, tru_int, eq_int, ne_int, eq_str, ne_str, eq_bl, ne_bl, put_ref, putC_lst, ix0, ix1, ix2, ix3, len_lst, len_tup, len_frz, len_ref, lenC_lst, un1_one, tuple_lst, tuple_tup, list_lst, list_tup, slice_tup, slice_lst, it_tup, it_lst, cut_from1, Option.map_some, List.set_set, Nat.reduceLT, Int.reduceLT, if_true, Int.toNat_natCast, mul_mod, mulL, mulR, Int.reduceNeg]
      rw [hrS, lenC_lst]
      try simp only [ok_ok, ok_no, ok_bind, ok_of_some, ok_var, ok_cst, ok_nil, ok_cons, ok_tup, ok_lst, ok_lstM, ok_op2, ok_op1, ok_blt, ok_listM, ok_chain, ok_and, ok_or, ok_not, ok_tval, ok_band, ok_bor, ok_bnot, ok_yes, ok_mif, ok_callM, ok_call, ok_lm, ok_optN, ok_optS, ok_slice, ok_ival, ok_range1, ok_range2, ok_zip, ok_comp, ok_compM, s_skip, s_seq, s_expr, s_asg, s_put, s_ret, s_retN, s_brk, s_cnt, s_if, s_for, s_while, List.map_cons, List.map_nil, List.cons_append, List.nil_append, List.replicate, List.getElem?_cons_zero, List.getElem?_cons_succ, List.set_cons_zero, List.set_cons_succ, Option.some.injEq, exists_eq_left', exists_eq_left, Nat.reduceSub, Nat.reduceAdd, Nat.reduceMul, wipeE, gNm, gNms, gTp, D.int.injEq, true_and, and_true, List.length_cons, List.length_nil, Option.bind_some, idx_ref, ixC_lst, idx_lst, idx_tup, idx_frz, at0, at1, at2, at3, add_int, sub_int, mod_int, fdiv_int, pow18, lt_int, le_int, gt_int, ge_int, tru_bl, tru_int, eq_int, ne_int, eq_str, ne_str, eq_bl, ne_bl, put_ref, putC_lst, ix0, ix1, ix2, ix3, len_lst, len_tup, len_frz, len_ref, lenC_lst, un1_one, tuple_lst, tuple_tup, list_lst, list_tup, slice_tup, slice_lst, it_tup, it_lst, cut_from1, Option.map_some, List.set_set, Nat.reduceLT, Int.reduceLT, if_true, Int.toNat_natCast, mul_mod, mulL, mulR, Int.reduceNeg]
      rw [List.length_map]
      by_cases hlt : (rel.length : Int) < m
      · rw [if_pos (by simpa using hlt)]
        have hn : rel.length < n := by
          rcases hcase with ⟨_, hn⟩ | ⟨rel0, h0, _, hn⟩
          · omega
          · omega
        refine ⟨by omega, ?_⟩
        try simp only [ok_ok, ok_no, ok_bind, ok_of_some, ok_var, ok_cst, ok_nil, ok_cons, ok_tup, ok_lst, ok_lstM, ok_op2, ok_op1, ok_blt, ok_listM, ok_chain, ok_and, ok_or, ok_not, ok_tval, ok_band, ok_bor, ok_bnot, ok_yes, ok_mif, ok_callM, ok_call, ok_lm, ok_optN, ok_optS, ok_slice, ok_ival, ok_range1, ok_range2, ok_zip, ok_comp, ok_compM, s_skip, s_seq, s_expr, s_asg, s_put, s_ret, s_retN, s_brk, s_cnt, s_if, s_for, s_while, List.map_cons, List.map_nil, List.cons_append, List.nil_append, List.replicate, List.getElem?_cons_zero, List.getElem?_cons_succ, List.set_cons_zero, List.set_cons_succ, Option.some.injEq, exists_eq_left', exists_eq_left, Nat.reduceSub, Nat.reduceAdd, Nat.reduceMul, wipeE, gNm, gNms, gTp, D.int.injEq, true_and, and_true, List.length_cons, List.length_nil, Option.bind_some, idx_ref, ixC_lst, idx_lst, idx_tup, idx_frz, at0, at1, at2, at3, add_int, sub_int, mod_int, fdiv_int, pow18, lt_int, le_int, gt_int, ge_int, tru_bl, tru_int, eq_int, ne_int, eq_str, ne_str, eq_bl, ne_bl, put_ref, putC_lst, ix0, ix1, ix2, ix3, len_lst, len_tup, len_frz, len_ref, lenC_lst, un1_one, tuple_lst, tuple_tup, list_lst, list_tup, slice_tup, slice_lst, it_tup, it_lst, cut_from1, Option.map_some, List.set_set, Nat.reduceLT, Int.reduceLT, if_true, Int.toNat_natCast, mul_mod, mulL, mulR, Int.reduceNeg]
        rw [it_ref hrS]
        refine ⟨_, rfl, ?_⟩
        refine comp_gen rel (fun done ys S => S = st ++ more ∧ ys = (done.filter (relOk tb rel)).map encPr) rfl ⟨rfl, rfl⟩ ?_ ?_ ?_
        · rintro p rest done ys S he ⟨rfl, rfl⟩
          obtain ⟨m1, m2⟩ := hsub p (by rw [he]; simp)
          refine ⟨_, rfl, ?_⟩
          try simp only [ok_ok, ok_no, ok_bind, ok_of_some, ok_var, ok_cst, ok_nil, ok_cons, ok_tup, ok_lst, ok_lstM, ok_op2, ok_op1, ok_blt, ok_listM, ok_chain, ok_and, ok_or, ok_not, ok_tval, ok_band, ok_bor, ok_bnot, ok_yes, ok_mif, ok_callM, ok_call, ok_lm, ok_optN, ok_optS, ok_slice, ok_ival, ok_range1, ok_range2, ok_zip, ok_comp, ok_compM, s_skip, s_seq, s_expr, s_asg, s_put, s_ret, s_retN, s_brk, s_cnt, s_if, s_for, s_while, List.map_cons, List.map_nil, List.cons_append, List.nil_append, List.replicate, List.getElem?_cons_zero, List.getElem?_cons_succ, List.set_cons_zero, List.set_cons_succ, Option.some.injEq, exists_eq_left', exists_eq_left, Nat.reduceSub, Nat.reduceAdd, Nat.reduceMul, wipeE, gNm, gNms, gTp, D.int.injEq, true_and, and_true, List.length_cons, List.length_nil, Option.bind_some, idx_ref, ixC_lst, idx_lst, idx_tup, idx_frz, at0, at1, at2, at3, add_int, sub_int, mod_int, fdiv_int, pow18, lt_int, le_int, gt_int, ge_int, tru_bl, tru_int, eq_int, ne_int, eq_str, ne_str, eq_bl, ne_bl, put_ref, putC_lst, ix0, ix1, ix2, ix3, len_lst, len_tup, len_frz, len_ref, lenC_lst, un1_one, tuple_lst, tuple_tup, list_lst, list_tup, slice_tup, slice_lst, it_tup, it_lst, cut_from1, Option.map_some, List.set_set, Nat.reduceLT, Int.reduceLT, if_true, Int.toNat_natCast, mul_mod, mulL, mulR, Int.reduceNeg]
          refine ok_ice_val ((hasrows_ok (j := j) one htb hrS m1 m2).mono ?_)
          rintro _ _ ⟨rfl, rfl⟩
          refine ⟨rfl, ?_⟩
          try simp only [ok_ok, ok_no, ok_bind, ok_of_some, ok_var, ok_cst, ok_nil, ok_cons, ok_tup, ok_lst, ok_lstM, ok_op2, ok_op1, ok_blt, ok_listM, ok_chain, ok_and, ok_or, ok_not, ok_tval, ok_band, ok_bor, ok_bnot, ok_yes, ok_mif, ok_callM, ok_call, ok_lm, ok_optN, ok_optS, ok_slice, ok_ival, ok_range1, ok_range2, ok_zip, ok_comp, ok_compM, s_skip, s_seq, s_expr, s_asg, s_put, s_ret, s_retN, s_brk, s_cnt, s_if, s_for, s_while, List.map_cons, List.map_nil, List.cons_append, List.nil_append, List.replicate, List.getElem?_cons_zero, List.getElem?_cons_succ, List.set_cons_zero, List.set_cons_succ, Option.some.injEq, exists_eq_left', exists_eq_left, Nat.reduceSub, Nat.reduceAdd, Nat.reduceMul, wipeE, gNm, gNms, gTp, D.int.injEq, true_and, and_true, List.length_cons, List.length_nil, Option.bind_some, idx_ref, ixC_lst, idx_lst, idx_tup, idx_frz, at0, at1, at2, at3, add_int, sub_int, mod_int, fdiv_int, pow18, lt_int, le_int, gt_int, ge_int, tru_bl, tru_int, eq_int, ne_int, eq_str, ne_str, eq_bl, ne_bl, put_ref, putC_lst, ix0, ix1, ix2, ix3, len_lst, len_tup, len_frz, len_ref, lenC_lst, un1_one, tuple_lst, tuple_tup, list_lst, list_tup, slice_tup, slice_lst, it_tup, it_lst, cut_from1, Option.map_some, List.set_set, Nat.reduceLT, Int.reduceLT, if_true, Int.toNat_natCast, mul_mod, mulL, mulR, Int.reduceNeg]
          by_cases hok : relOk tb rel p = true
          · rw [if_pos hok]
            simp [hok]
          · rw [if_neg hok]
            simp [hok]
        · rintro done ys S ⟨rfl, rfl⟩ n' hn'
          cases hn'
          exact hrS
        · rintro ys S ⟨rfl, rfl⟩
          refine ⟨rel.length, hn, more.length, relStep tb rel, more ++ [.lst ((relStep tb rel).map encPr)], x3, _, by simp, by rw [List.append_assoc]; rfl, at_new, ⟨k + 1, by rw [hk]; rfl⟩, .inr ⟨rel, rfl, rfl, Nat.le_refl _⟩⟩
      · rw [if_neg (by simpa using hlt)]
        have hW : rel = withinR tb := by
          rcases hcase with ⟨h, _⟩ | ⟨rel0, h0, h1, hn⟩
          · exact (hlt h).elim
          · have h2 := relStep_len (tb := tb) (rel := rel0)
            rw [← h1] at h2
            have h3 : rel.length = rel0.length := by omega
            have h4 : rel = rel0 := by rw [h1]; exact relStep_eq (by rw [← h1]; exact h3)
            subst h4
            exact (IsW.mk ⟨k, hk⟩ h1.symm).eq
        subst hW
        rw [gc_ref (by omega) hrS old_app (by rw [belC]; exact bels_pln (plns_nob nob_Prs))]
        rw [List.take_append_of_le_length (Nat.le_refl _), List.take_length]
        exact ⟨_, rfl, rfl, bels_pln (plns_nob nob_Prs), rfl⟩
    · rw [List.length_map]
      show ((relAll tb).length : Int) < ((relAll tb).length : Int) + 1
      omega
end RP
end
section
set_option Elab.async false
set_option linter.all false
set_option maxRecDepth 100000
set_option maxHeartbeats 4000000
namespace RP
open PySem
theorem tree_go {n : Nat} {sg : Sg} (hs : Sgn sg) (d j : Nat) (st : St) (h : Fd FC n st) (ih : ∀ d', d = d' + 1 → ∀ (j : Nat) (st : St), Fd FC n st → Ok (CC (d' + j + 2) "_law_tree" [.ref n, encS sg, .int d'] st) fun x st' => ∃ t, x = encT t ∧ TreeOf sg t ∧ hgt t ≤ d' + 1 ∧ Go n st st') : Ok (CC (d + j + 2) "_law_tree" [.ref n, encS sg, .int d] st) fun x st' => ∃ t, x = encT t ∧ TreeOf sg t ∧ hgt t ≤ d + 1 ∧ Go n st st' := by
  have hsl := hs.lo
  have hsh := hs.hi
  rw [r__law_tree]
  refine ok_fn rfl ?_
  unfold b__law_tree encS
  try simp only [ok_ok, ok_no, ok_bind, ok_of_some, ok_var, ok_cst, ok_nil, ok_cons, ok_tup, ok_lst, ok_lstM, ok_op2, ok_op1, ok_blt, ok_listM, ok_chain, ok_and, ok_or, ok_not, ok_tval, ok_band, ok_bor, ok_bnot, ok_yes, ok_mif, ok_callM, ok_call, ok_lm, ok_optN, ok_optS, ok_slice, ok_ival, ok_range1, ok_range2, ok_zip, ok_comp, ok_compM, s_skip, s_seq, s_expr, s_asg, s_put, s_ret, s_retN, s_brk, s_cnt, s_if, s_for, s_while, List.map_cons, List.map_nil, List.cons_append, List.nil_append, List.replicate, List.getElem?_cons_zero, List.getElem?_cons_succ, List.set_cons_zero, List.set_cons_succ, Option.some.injEq, exists_eq_left', exists_eq_left, Nat.reduceSub, Nat.reduceAdd, Nat.reduceMul, wipeE, gNm, gNms, gTp, D.int.injEq, true_and, and_true, List.length_cons, List.length_nil, Option.bind_some, idx_ref, ixC_lst, idx_lst, idx_tup, idx_frz, at0, at1, at2, at3, add_int, sub_int, mod_int, fdiv_int, pow18, lt_int, le_int, gt_int, ge_int, tru_bl, tru_int, eq_int, ne_int, eq_str, ne_str, eq_bl, ne_bl, put_ref, putC_lst, ix0, ix1, ix2, ix3, len_lst, len_tup, len_frz, len_ref, lenC_lst, un1_one, tuple_lst, tuple_tup, list_lst, list_tup, slice_tup, slice_lst, it_tup, it_lst, cut_from1, Option.map_some, List.set_set, Nat.reduceLT, Int.reduceLT, if_true, Int.toNat_natCast, mul_mod, mulL, mulR, Int.reduceNeg]
  refine comp_encF sg (fun p => p.2 == 0) (fun p => .str p.1) rfl gNone ?_ ?_
  · rintro ⟨a, k⟩ hp
    refine ⟨_, rfl, ?_, fun _ => ?_⟩
    · simp only [ok_ok, ok_no, ok_bind, ok_of_some, ok_var, ok_cst, ok_nil, ok_cons, ok_tup, ok_lst, ok_lstM, ok_op2, ok_op1, ok_blt, ok_listM, ok_chain, ok_and, ok_or, ok_not, ok_tval, ok_band, ok_bor, ok_bnot, ok_yes, ok_mif, ok_callM, ok_call, ok_lm, ok_optN, ok_optS, ok_slice, ok_ival, ok_range1, ok_range2, ok_zip, ok_comp, ok_compM, s_skip, s_seq, s_expr, s_asg, s_put, s_ret, s_retN, s_brk, s_cnt, s_if, s_for, s_while, List.map_cons, List.map_nil, List.cons_append, List.nil_append, List.replicate, List.getElem?_cons_zero, List.getElem?_cons_succ, List.set_cons_zero, List.set_cons_succ, Option.some.injEq, exists_eq_left', exists_eq_left, Nat.reduceSub, Nat.reduceAdd, Nat.reduceMul, wipeE, gNm, gNms, gTp, D.int.injEq, true_and, and_true, List.length_cons, List.length_nil, Option.bind_some, idx_ref, ixC_lst, idx_lst, idx_tup, idx_frz, at0, at1, at2, at3, add_int, sub_int, mod_int, fdiv_int, pow18, lt_int, le_int, gt_int, ge_int, tru_bl, tru_int, eq_int, ne_int, eq_str, ne_str, eq_bl, ne_bl, put_ref, putC_lst, ix0, ix1, ix2, ix3, len_lst, len_tup, len_frz, len_ref, lenC_lst, un1_one, tuple_lst, tuple_tup, list_lst, list_tup, slice_tup, slice_lst, it_tup, it_lst, cut_from1, Option.map_some, List.set_set, Nat.reduceLT, Int.reduceLT, if_true, Int.toNat_natCast, mul_mod, mulL, mulR, Int.reduceNeg]
      rw [Bool.eq_iff_iff]
      simp
    · simp only [ok_ok, ok_no, ok_bind, ok_of_some, ok_var, ok_cst, ok_nil, ok_cons, ok_tup, ok_lst, ok_lstM, ok_op2, ok_op1, ok_blt, ok_listM, ok_chain, ok_and, ok_or, ok_not, ok_tval, ok_band, ok_bor, ok_bnot, ok_yes, ok_mif, ok_callM, ok_call, ok_lm, ok_optN, ok_optS, ok_slice, ok_ival, ok_range1, ok_range2, ok_zip, ok_comp, ok_compM, s_skip, s_seq, s_expr, s_asg, s_put, s_ret, s_retN, s_brk, s_cnt, s_if, s_for, s_while, List.map_cons, List.map_nil, List.cons_append, List.nil_append, List.replicate, List.getElem?_cons_zero, List.getElem?_cons_succ, List.set_cons_zero, List.set_cons_succ, Option.some.injEq, exists_eq_left', exists_eq_left, Nat.reduceSub, Nat.reduceAdd, Nat.reduceMul, wipeE, gNm, gNms, gTp, D.int.injEq, true_and, and_true, List.length_cons, List.length_nil, Option.bind_some, idx_ref, ixC_lst, idx_lst, idx_tup, idx_frz, at0, at1, at2, at3, add_int, sub_int, mod_int, fdiv_int, pow18, lt_int, le_int, gt_int, ge_int, tru_bl, tru_int, eq_int, ne_int, eq_str, ne_str, eq_bl, ne_bl, put_ref, putC_lst, ix0, ix1, ix2, ix3, len_lst, len_tup, len_frz, len_ref, lenC_lst, un1_one, tuple_lst, tuple_tup, list_lst, list_tup, slice_tup, slice_lst, it_tup, it_lst, cut_from1, Option.map_some, List.set_set, Nat.reduceLT, Int.reduceLT, if_true, Int.toNat_natCast, mul_mod, mulL, mulR, Int.reduceNeg]
  · generalize hB : (sg.filter fun p => p.2 == 0) = bare
    have hbl : bare.length ≤ 6 := by
      rw [← hB]
      exact Nat.le_trans (List.length_filter_le _ _) hsh
    have hbm : ∀ p ∈ bare, (p.1, 0) ∈ sg := fun p hp => by
      rw [← hB] at hp
      obtain ⟨h1, h2⟩ := List.mem_filter.mp hp
      obtain ⟨a, k⟩ := p
      have hk : k = 0 := by simpa using h2
      subst hk
      exact h1
    have hb0 : 0 < bare.length := by
      obtain ⟨p, hp, hk⟩ := hs.bare
      rw [← hB]
      exact List.length_pos_of_mem (List.mem_filter.mpr ⟨hp, by simp [hk]⟩)
    try simp only [ok_ok, ok_no, ok_bind, ok_of_some, ok_var, ok_cst, ok_nil, ok_cons, ok_tup, ok_lst, ok_lstM, ok_op2, ok_op1, ok_blt, ok_listM, ok_chain, ok_and, ok_or, ok_not, ok_tval, ok_band, ok_bor, ok_bnot, ok_yes, ok_mif, ok_callM, ok_call, ok_lm, ok_optN, ok_optS, ok_slice, ok_ival, ok_range1, ok_range2, ok_zip, ok_comp, ok_compM, s_skip, s_seq, s_expr, s_asg, s_put, s_ret, s_retN, s_brk, s_cnt, s_if, s_for, s_while, List.map_cons, List.map_nil, List.cons_append, List.nil_append, List.replicate, List.getElem?_cons_zero, List.getElem?_cons_succ, List.set_cons_zero, List.set_cons_succ, Option.some.injEq, exists_eq_left', exists_eq_left, Nat.reduceSub, Nat.reduceAdd, Nat.reduceMul, wipeE, gNm, gNms, gTp, D.int.injEq, true_and, and_true, List.length_cons, List.length_nil, Option.bind_some, idx_ref, ixC_lst, idx_lst, idx_tup, idx_frz, at0, at1, at2, at3, add_int, sub_int, mod_int, fdiv_int, pow18, lt_int, le_int, gt_int, ge_int, tru_bl, tru_int, eq_int, ne_int, eq_str, ne_str, eq_bl, ne_bl, put_ref, putC_lst, ix0, ix1, ix2, ix3, len_lst, len_tup, len_frz, len_ref, lenC_lst, un1_one, tuple_lst, tuple_tup, list_lst, list_tup, slice_tup, slice_lst, it_tup, it_lst, cut_from1, Option.map_some, List.set_set, Nat.reduceLT, Int.reduceLT, if_true, Int.toNat_natCast, mul_mod, mulL, mulR, Int.reduceNeg]
    refine draw_call h (by simp; omega) (by simp; omega) fun i st1 i0 i1 g1 => ?_
    obtain ⟨x, hx, _, hx2⟩ := at_get (xs := sg.map fun p => D.tup [.str p.1, .int p.2]) i0 (by simpa using i1)
    obtain ⟨⟨nm, ar⟩, hp, rfl⟩ := List.mem_map.mp hx
    have har : ar ≤ 3 := hs.one.le _ hp
    try simp only [ok_ok, ok_no, ok_bind, ok_of_some, ok_var, ok_cst, ok_nil, ok_cons, ok_tup, ok_lst, ok_lstM, ok_op2, ok_op1, ok_blt, ok_listM, ok_chain, ok_and, ok_or, ok_not, ok_tval, ok_band, ok_bor, ok_bnot, ok_yes, ok_mif, ok_callM, ok_call, ok_lm, ok_optN, ok_optS, ok_slice, ok_ival, ok_range1, ok_range2, ok_zip, ok_comp, ok_compM, s_skip, s_seq, s_expr, s_asg, s_put, s_ret, s_retN, s_brk, s_cnt, s_if, s_for, s_while, List.map_cons, List.map_nil, List.cons_append, List.nil_append, List.replicate, List.getElem?_cons_zero, List.getElem?_cons_succ, List.set_cons_zero, List.set_cons_succ, Option.some.injEq, exists_eq_left', exists_eq_left, Nat.reduceSub, Nat.reduceAdd, Nat.reduceMul, wipeE, gNm, gNms, gTp, D.int.injEq, true_and, and_true, List.length_cons, List.length_nil, Option.bind_some, idx_ref, ixC_lst, idx_lst, idx_tup, idx_frz, at0, at1, at2, at3, add_int, sub_int, mod_int, fdiv_int, pow18, lt_int, le_int, gt_int, ge_int, tru_bl, tru_int, eq_int, ne_int, eq_str, ne_str, eq_bl, ne_bl, put_ref, putC_lst, ix0, ix1, ix2, ix3, len_lst, len_tup, len_frz, len_ref, lenC_lst, un1_one, tuple_lst, tuple_tup, list_lst, list_tup, slice_tup, slice_lst, it_tup, it_lst, cut_from1, Option.map_some, List.set_set, Nat.reduceLT, Int.reduceLT, if_true, Int.toNat_natCast, mul_mod, mulL, mulR, Int.reduceNeg, hx2]
    cases d with
    | zero =>
      rw [if_pos (show (((0 : Nat) : Int) == 0) = true from rfl)]
      rw [List.length_map]
      refine draw_call (g1.fd h.lt) (by omega) (by omega) fun i st2 i0 i1 g2 => ?_
      obtain ⟨x, hx, _, hx2⟩ := at_get (xs := bare.map fun p => D.str p.1) i0 (by simpa using i1)
      obtain ⟨⟨a, k⟩, ha, rfl⟩ := List.mem_map.mp hx
      try simp only [ok_ok, ok_no, ok_bind, ok_of_some, ok_var, ok_cst, ok_nil, ok_cons, ok_tup, ok_lst, ok_lstM, ok_op2, ok_op1, ok_blt, ok_listM, ok_chain, ok_and, ok_or, ok_not, ok_tval, ok_band, ok_bor, ok_bnot, ok_yes, ok_mif, ok_callM, ok_call, ok_lm, ok_optN, ok_optS, ok_slice, ok_ival, ok_range1, ok_range2, ok_zip, ok_comp, ok_compM, s_skip, s_seq, s_expr, s_asg, s_put, s_ret, s_retN, s_brk, s_cnt, s_if, s_for, s_while, List.map_cons, List.map_nil, List.cons_append, List.nil_append, List.replicate, List.getElem?_cons_zero, List.getElem?_cons_succ, List.set_cons_zero, List.set_cons_succ, Option.some.injEq, exists_eq_left', exists_eq_left, Nat.reduceSub, Nat.reduceAdd, Nat.reduceMul, wipeE, gNm, gNms, gTp, D.int.injEq, true_and, and_true, List.length_cons, List.length_nil, Option.bind_some, idx_ref, ixC_lst, idx_lst, idx_tup, idx_frz, at0, at1, at2, at3, add_int, sub_int, mod_int, fdiv_int, pow18, lt_int, le_int, gt_int, ge_int, tru_bl, tru_int, eq_int, ne_int, eq_str, ne_str, eq_bl, ne_bl, put_ref, putC_lst, ix0, ix1, ix2, ix3, len_lst, len_tup, len_frz, len_ref, lenC_lst, un1_one, tuple_lst, tuple_tup, list_lst, list_tup, slice_tup, slice_lst, it_tup, it_lst, cut_from1, Option.map_some, List.set_set, Nat.reduceLT, Int.reduceLT, if_true, Int.toNat_natCast, mul_mod, mulL, mulR, Int.reduceNeg, hx2]
      have ht : TreeOf sg (.nd a []) := .mk (hbm _ ha) (by simp)
      exact Fr.ok fcB (g1.go h.lt g2) rfl fun S' g => ⟨.nd a [], by rw [encT_nd]; rfl, ht, by simp [hgt, hgts], g⟩
    | succ d =>
      rw [if_neg (by simp; omega)]
      refine ⟨by unfold big; omega, ?_⟩
      refine comp_go (fun done ys S => Go n st S ∧ ∃ ts : List Pt, ys = ts.map encT ∧ ts.length = done.length ∧ ∀ t ∈ ts, TreeOf sg t ∧ hgt t ≤ d + 1) rfl ⟨g1, [], rfl, rfl, by simp⟩ ?_ ?_
      · rintro x done ys S hx ⟨g, ts, rfl, hl, hy⟩
        try simp only [ok_ok, ok_no, ok_bind, ok_of_some, ok_var, ok_cst, ok_nil, ok_cons, ok_tup, ok_lst, ok_lstM, ok_op2, ok_op1, ok_blt, ok_listM, ok_chain, ok_and, ok_or, ok_not, ok_tval, ok_band, ok_bor, ok_bnot, ok_yes, ok_mif, ok_callM, ok_call, ok_lm, ok_optN, ok_optS, ok_slice, ok_ival, ok_range1, ok_range2, ok_zip, ok_comp, ok_compM, s_skip, s_seq, s_expr, s_asg, s_put, s_ret, s_retN, s_brk, s_cnt, s_if, s_for, s_while, List.map_cons, List.map_nil, List.cons_append, List.nil_append, List.replicate, List.getElem?_cons_zero, List.getElem?_cons_succ, List.set_cons_zero, List.set_cons_succ, Option.some.injEq, exists_eq_left', exists_eq_left, Nat.reduceSub, Nat.reduceAdd, Nat.reduceMul, wipeE, gNm, gNms, gTp, D.int.injEq, true_and, and_true, List.length_cons, List.length_nil, Option.bind_some, idx_ref, ixC_lst, idx_lst, idx_tup, idx_frz, at0, at1, at2, at3, add_int, sub_int, mod_int, fdiv_int, pow18, lt_int, le_int, gt_int, ge_int, tru_bl, tru_int, eq_int, ne_int, eq_str, ne_str, eq_bl, ne_bl, put_ref, putC_lst, ix0, ix1, ix2, ix3, len_lst, len_tup, len_frz, len_ref, lenC_lst, un1_one, tuple_lst, tuple_tup, list_lst, list_tup, slice_tup, slice_lst, it_tup, it_lst, cut_from1, Option.map_some, List.set_set, Nat.reduceLT, Int.reduceLT, if_true, Int.toNat_natCast, mul_mod, mulL, mulR, Int.reduceNeg]
        rw [show ((d + 1 : Nat) : Int) - 1 = (d : Int) by omega, show d + 1 + j + 1 = d + j + 2 by omega]
        refine ok_ice_val ((ih d rfl j S (g.fd h.lt)).mono ?_)
        rintro _ S' ⟨t, rfl, ht, hh, g'⟩
        refine ⟨isRef_T t, g.go h.lt g', ts ++ [t], by simp, by simp [hl], fun y hy' => ?_⟩
        rcases List.mem_append.mp hy' with z | z
        · exact hy y z
        · rw [List.mem_singleton.mp z]; exact ⟨ht, hh⟩
      · rintro ys S ⟨g, ts, rfl, hl, hy⟩
        have hl' : ts.length = ar := by simpa using hl
        try simp only [ok_ok, ok_no, ok_bind, ok_of_some, ok_var, ok_cst, ok_nil, ok_cons, ok_tup, ok_lst, ok_lstM, ok_op2, ok_op1, ok_blt, ok_listM, ok_chain, ok_and, ok_or, ok_not, ok_tval, ok_band, ok_bor, ok_bnot, ok_yes, ok_mif, ok_callM, ok_call, ok_lm, ok_optN, ok_optS, ok_slice, ok_ival, ok_range1, ok_range2, ok_zip, ok_comp, ok_compM, s_skip, s_seq, s_expr, s_asg, s_put, s_ret, s_retN, s_brk, s_cnt, s_if, s_for, s_while, List.map_cons, List.map_nil, List.cons_append, List.nil_append, List.replicate, List.getElem?_cons_zero, List.getElem?_cons_succ, List.set_cons_zero, List.set_cons_succ, Option.some.injEq, exists_eq_left', exists_eq_left, Nat.reduceSub, Nat.reduceAdd, Nat.reduceMul, wipeE, gNm, gNms, gTp, D.int.injEq, true_and, and_true, List.length_cons, List.length_nil, Option.bind_some, idx_ref, ixC_lst, idx_lst, idx_tup, idx_frz, at0, at1, at2, at3, add_int, sub_int, mod_int, fdiv_int, pow18, lt_int, le_int, gt_int, ge_int, tru_bl, tru_int, eq_int, ne_int, eq_str, ne_str, eq_bl, ne_bl, put_ref, putC_lst, ix0, ix1, ix2, ix3, len_lst, len_tup, len_frz, len_ref, lenC_lst, un1_one, tuple_lst, tuple_tup, list_lst, list_tup, slice_tup, slice_lst, it_tup, it_lst, cut_from1, Option.map_some, List.set_set, Nat.reduceLT, Int.reduceLT, if_true, Int.toNat_natCast, mul_mod, mulL, mulR, Int.reduceNeg]
        rw [add_tup (by simp; unfold big; omega)]
        have ht : TreeOf sg (.nd nm ts) := .mk (by rw [hl']; exact hp) fun t ht => (hy t ht).1
        have e : D.tup (.str nm :: ts.map encT) = encT (.nd nm ts) := encT_nd.symm
        refine ⟨_, rfl, Fr.ok fcB g ?_ fun S' g' => ⟨.nd nm ts, e, ht, ?_, g'⟩⟩
        · show bel _ (D.tup (.str nm :: ts.map encT)) = true
          rw [e]; exact bel_T _
        · rw [hgt]
          have := (hgts_le (ts := ts) (n := d + 1)).mpr fun t ht => (hy t ht).2
          omega
theorem tree_ok {n : Nat} {sg : Sg} (hs : Sgn sg) : ∀ (d j : Nat) (st : St), Fd FC n st → Ok (CC (d + j + 2) "_law_tree" [.ref n, encS sg, .int d] st) fun x st' => ∃ t, x = encT t ∧ TreeOf sg t ∧ hgt t ≤ d + 1 ∧ Go n st st'
  | 0, j, st, h => tree_go hs 0 j st h fun d' e => by omega
  | d + 1, j, st, h => tree_go hs (d + 1) j st h fun d' e j' st' h' => by
    have e' : d' = d := by omega
    subst e'
    exact tree_ok hs d' j' st' h'
end RP
end
section
set_option Elab.async false
set_option linter.all false
set_option maxRecDepth 100000
set_option maxHeartbeats 600000
namespace RP
open PySem
theorem gc_bl (st S : St) (b : Bool) : Ok (gc st (.bl b) S) fun d _ => d = .bl b := by
  unfold gc
  split
  · exact rfl
  · split
    · rw [if_pos (show bel st.length (.bl b) = true from rfl)]
      exact rfl
    · exact rfl
theorem clear_ref {st : St} {n : Nat} {xs : List D} (h : st[n]? = some (.lst xs)) : xClear st (.ref n) [] = some (.non, st.set n (.lst [])) := by
  unfold xClear
  simp only [h]
theorem law_true (m : Nat) (ns : List Int) : Ok (CC (m + 40) "law" [.frz ns] []) fun d _ => d = .bl true := by
  rw [r_law]
  refine ok_fn rfl ?_
  unfold b_law
  try simp only [ok_ok, ok_no, ok_bind, ok_of_some, ok_var, ok_cst, ok_nil, ok_cons, ok_tup, ok_lst, ok_lstM, ok_op2, ok_op1, ok_blt, ok_listM, ok_chain, ok_and, ok_or, ok_not, ok_tval, ok_band, ok_bor, ok_bnot, ok_yes, ok_mif, ok_callM, ok_call, ok_lm, ok_optN, ok_optS, ok_slice, ok_ival, ok_range1, ok_range2, ok_zip, ok_comp, ok_compM, s_skip, s_seq, s_expr, s_asg, s_put, s_ret, s_retN, s_brk, s_cnt, s_if, s_for, s_while, List.map_cons, List.map_nil, List.cons_append, List.nil_append, List.replicate, List.getElem?_cons_zero, List.getElem?_cons_succ, List.set_cons_zero, List.set_cons_succ, Option.some.injEq, exists_eq_left', exists_eq_left, Nat.reduceSub, Nat.reduceAdd, Nat.reduceMul, wipeE, gNm, gNms, gTp, D.int.injEq, true_and, and_true, List.length_cons, List.length_nil, Option.bind_some, idx_ref, ixC_lst, idx_lst, idx_tup, idx_frz, at0, at1, at2, at3, add_int, sub_int, mod_int, fdiv_int, pow18, lt_int, le_int, gt_int, ge_int, tru_bl, tru_int, eq_int, ne_int, eq_str, ne_str, eq_bl, ne_bl, put_ref, putC_lst, ix0, ix1, ix2, ix3, len_lst, len_tup, len_frz, len_ref, lenC_lst, un1_one, tuple_lst, tuple_tup, list_lst, list_tup, slice_tup, slice_lst, it_tup, it_lst, cut_from1, Option.map_some, List.set_set, Nat.reduceLT, Int.reduceLT, if_true, Int.toNat_natCast, mul_mod, mulL, mulR, Int.reduceNeg]
  refine ⟨by unfold big; omega, ?_⟩
  refine for_gen (e := fun k : Nat => D.int k) (List.range 4) (fun _ env S => ∃ (x1 x2 x3 x4 x5 x6 x7 x8 x9 : Option D), env = [some (.frz ns), x1, x2, x3, x4, x5, x6, x7, x8, x9]) rfl ⟨_, _, _, _, _, _, _, _, _, rfl⟩ ?_ (fun _ _ _ _ => gNone) ?_
  · rintro k rest done env S he ⟨x1, x2, x3, x4, x5, x6, x7, x8, x9, rfl⟩
    try simp only [ok_ok, ok_no, ok_bind, ok_of_some, ok_var, ok_cst, ok_nil, ok_cons, ok_tup, ok_lst, ok_lstM, ok_op2, ok_op1, ok_blt, ok_listM, ok_chain, ok_and, ok_or, ok_not, ok_tval, ok_band, ok_bor, ok_bnot, ok_yes, ok_mif, ok_callM, ok_call, ok_lm, ok_optN, ok_optS, ok_slice, ok_ival, ok_range1, ok_range2, ok_zip, ok_comp, ok_compM, s_skip, s_seq, s_expr, s_asg, s_put, s_ret, s_retN, s_brk, s_cnt, s_if, s_for, s_while, List.map_cons, List.map_nil, List.cons_append, List.nil_append, List.replicate, List.getElem?_cons_zero, List.getElem?_cons_succ, List.set_cons_zero, List.set_cons_succ, Option.some.injEq, exists_eq_left', exists_eq_left, Nat.reduceSub, Nat.reduceAdd, Nat.reduceMul, wipeE, gNm, gNms, gTp, D.int.injEq, true_and, and_true, List.length_cons, List.length_nil, Option.bind_some, idx_ref, ixC_lst, idx_lst, idx_tup, idx_frz, at0, at1, at2, at3, add_int, sub_int, mod_int, fdiv_int, pow18, lt_int, le_int, gt_int, ge_int, tru_bl, tru_int, eq_int, ne_int, eq_str, ne_str, eq_bl, ne_bl, put_ref, putC_lst, ix0, ix1, ix2, ix3, len_lst, len_tup, len_frz, len_ref, lenC_lst, un1_one, tuple_lst, tuple_tup, list_lst, list_tup, slice_tup, slice_lst, it_tup, it_lst, cut_from1, Option.map_some, List.set_set, Nat.reduceLT, Int.reduceLT, if_true, Int.toNat_natCast, mul_mod, mulL, mulR, Int.reduceNeg]
    refine (feed_ok (ns := ns) (k := k) (j := m + 38) (st := S)).mono ?_
    rintro _ _ ⟨c, rfl, rfl, hc⟩
    try simp only [ok_ok, ok_no, ok_bind, ok_of_some, ok_var, ok_cst, ok_nil, ok_cons, ok_tup, ok_lst, ok_lstM, ok_op2, ok_op1, ok_blt, ok_listM, ok_chain, ok_and, ok_or, ok_not, ok_tval, ok_band, ok_bor, ok_bnot, ok_yes, ok_mif, ok_callM, ok_call, ok_lm, ok_optN, ok_optS, ok_slice, ok_ival, ok_range1, ok_range2, ok_zip, ok_comp, ok_compM, s_skip, s_seq, s_expr, s_asg, s_put, s_ret, s_retN, s_brk, s_cnt, s_if, s_for, s_while, List.map_cons, List.map_nil, List.cons_append, List.nil_append, List.replicate, List.getElem?_cons_zero, List.getElem?_cons_succ, List.set_cons_zero, List.set_cons_succ, Option.some.injEq, exists_eq_left', exists_eq_left, Nat.reduceSub, Nat.reduceAdd, Nat.reduceMul, wipeE, gNm, gNms, gTp, D.int.injEq, true_and, and_true, List.length_cons, List.length_nil, Option.bind_some, idx_ref, ixC_lst, idx_lst, idx_tup, idx_frz, at0, at1, at2, at3, add_int, sub_int, mod_int, fdiv_int, pow18, lt_int, le_int, gt_int, ge_int, tru_bl, tru_int, eq_int, ne_int, eq_str, ne_str, eq_bl, ne_bl, put_ref, putC_lst, ix0, ix1, ix2, ix3, len_lst, len_tup, len_frz, len_ref, lenC_lst, un1_one, tuple_lst, tuple_tup, list_lst, list_tup, slice_tup, slice_lst, it_tup, it_lst, cut_from1, Option.map_some, List.set_set, Nat.reduceLT, Int.reduceLT, if_true, Int.toNat_natCast, mul_mod, mulL, mulR, Int.reduceNeg]
    have F0 : Fd FC S.length (S ++ [c]) := ⟨c, at_new, hc⟩
    generalize S ++ [c] = S1 at F0 ⊢
    generalize S.length = n at F0 ⊢
    refine ok_ice_val ((signs_ok (j := m + 36) F0).mono ?_)
    rintro _ S2 ⟨sg, hs, _, rfl, g2⟩
    refine ⟨rfl, ?_⟩
    try simp only [ok_ok, ok_no, ok_bind, ok_of_some, ok_var, ok_cst, ok_nil, ok_cons, ok_tup, ok_lst, ok_lstM, ok_op2, ok_op1, ok_blt, ok_listM, ok_chain, ok_and, ok_or, ok_not, ok_tval, ok_band, ok_bor, ok_bnot, ok_yes, ok_mif, ok_callM, ok_call, ok_lm, ok_optN, ok_optS, ok_slice, ok_ival, ok_range1, ok_range2, ok_zip, ok_comp, ok_compM, s_skip, s_seq, s_expr, s_asg, s_put, s_ret, s_retN, s_brk, s_cnt, s_if, s_for, s_while, List.map_cons, List.map_nil, List.cons_append, List.nil_append, List.replicate, List.getElem?_cons_zero, List.getElem?_cons_succ, List.set_cons_zero, List.set_cons_succ, Option.some.injEq, exists_eq_left', exists_eq_left, Nat.reduceSub, Nat.reduceAdd, Nat.reduceMul, wipeE, gNm, gNms, gTp, D.int.injEq, true_and, and_true, List.length_cons, List.length_nil, Option.bind_some, idx_ref, ixC_lst, idx_lst, idx_tup, idx_frz, at0, at1, at2, at3, add_int, sub_int, mod_int, fdiv_int, pow18, lt_int, le_int, gt_int, ge_int, tru_bl, tru_int, eq_int, ne_int, eq_str, ne_str, eq_bl, ne_bl, put_ref, putC_lst, ix0, ix1, ix2, ix3, len_lst, len_tup, len_frz, len_ref, lenC_lst, un1_one, tuple_lst, tuple_tup, list_lst, list_tup, slice_tup, slice_lst, it_tup, it_lst, cut_from1, Option.map_some, List.set_set, Nat.reduceLT, Int.reduceLT, if_true, Int.toNat_natCast, mul_mod, mulL, mulR, Int.reduceNeg]
    have F2 := g2.fd F0.lt
    refine ok_ice_val ((table_ok (mo := 4) (j := m + 36) hs F2 (by omega) (by omega)).mono ?_)
    rintro _ S3 ⟨tb, rfl, htb, _, g3⟩
    refine ⟨rfl, ?_⟩
    try simp only [ok_ok, ok_no, ok_bind, ok_of_some, ok_var, ok_cst, ok_nil, ok_cons, ok_tup, ok_lst, ok_lstM, ok_op2, ok_op1, ok_blt, ok_listM, ok_chain, ok_and, ok_or, ok_not, ok_tval, ok_band, ok_bor, ok_bnot, ok_yes, ok_mif, ok_callM, ok_call, ok_lm, ok_optN, ok_optS, ok_slice, ok_ival, ok_range1, ok_range2, ok_zip, ok_comp, ok_compM, s_skip, s_seq, s_expr, s_asg, s_put, s_ret, s_retN, s_brk, s_cnt, s_if, s_for, s_while, List.map_cons, List.map_nil, List.cons_append, List.nil_append, List.replicate, List.getElem?_cons_zero, List.getElem?_cons_succ, List.set_cons_zero, List.set_cons_succ, Option.some.injEq, exists_eq_left', exists_eq_left, Nat.reduceSub, Nat.reduceAdd, Nat.reduceMul, wipeE, gNm, gNms, gTp, D.int.injEq, true_and, and_true, List.length_cons, List.length_nil, Option.bind_some, idx_ref, ixC_lst, idx_lst, idx_tup, idx_frz, at0, at1, at2, at3, add_int, sub_int, mod_int, fdiv_int, pow18, lt_int, le_int, gt_int, ge_int, tru_bl, tru_int, eq_int, ne_int, eq_str, ne_str, eq_bl, ne_bl, put_ref, putC_lst, ix0, ix1, ix2, ix3, len_lst, len_tup, len_frz, len_ref, lenC_lst, un1_one, tuple_lst, tuple_tup, list_lst, list_tup, slice_tup, slice_lst, it_tup, it_lst, cut_from1, Option.map_some, List.set_set, Nat.reduceLT, Int.reduceLT, if_true, Int.toNat_natCast, mul_mod, mulL, mulR, Int.reduceNeg]
    have F3 := g3.fd F2.lt
    refine ⟨by unfold big; omega, ?_⟩
    refine for_gen (e := fun k : Nat => D.int k) (List.range 2) (fun _ env S => Fd FC n S ∧ ∃ (x5 x6 x7 x8 x9 : Option D), env = [some (.frz ns), some (.int k), some (.ref n), some (encS sg), some (encTb tb), x5, x6, x7, x8, x9]) rfl ⟨F3, _, _, _, _, _, rfl⟩ ?_ (fun _ _ _ _ => gNone) ?_
    · rintro q rest2 dn env S he2 ⟨F, y5, y6, y7, y8, y9, rfl⟩
      try simp only [ok_ok, ok_no, ok_bind, ok_of_some, ok_var, ok_cst, ok_nil, ok_cons, ok_tup, ok_lst, ok_lstM, ok_op2, ok_op1, ok_blt, ok_listM, ok_chain, ok_and, ok_or, ok_not, ok_tval, ok_band, ok_bor, ok_bnot, ok_yes, ok_mif, ok_callM, ok_call, ok_lm, ok_optN, ok_optS, ok_slice, ok_ival, ok_range1, ok_range2, ok_zip, ok_comp, ok_compM, s_skip, s_seq, s_expr, s_asg, s_put, s_ret, s_retN, s_brk, s_cnt, s_if, s_for, s_while, List.map_cons, List.map_nil, List.cons_append, List.nil_append, List.replicate, List.getElem?_cons_zero, List.getElem?_cons_succ, List.set_cons_zero, List.set_cons_succ, Option.some.injEq, exists_eq_left', exists_eq_left, Nat.reduceSub, Nat.reduceAdd, Nat.reduceMul, wipeE, gNm, gNms, gTp, D.int.injEq, true_and, and_true, List.length_cons, List.length_nil, Option.bind_some, idx_ref, ixC_lst, idx_lst, idx_tup, idx_frz, at0, at1, at2, at3, add_int, sub_int, mod_int, fdiv_int, pow18, lt_int, le_int, gt_int, ge_int, tru_bl, tru_int, eq_int, ne_int, eq_str, ne_str, eq_bl, ne_bl, put_ref, putC_lst, ix0, ix1, ix2, ix3, len_lst, len_tup, len_frz, len_ref, lenC_lst, un1_one, tuple_lst, tuple_tup, list_lst, list_tup, slice_tup, slice_lst, it_tup, it_lst, cut_from1, Option.map_some, List.set_set, Nat.reduceLT, Int.reduceLT, if_true, Int.toNat_natCast, mul_mod, mulL, mulR, Int.reduceNeg]
      refine (withins_ok (j := m + 37) htb).mono ?_
      rintro _ _ ⟨xs, rfl, rfl, _, rfl⟩
      try simp only [ok_ok, ok_no, ok_bind, ok_of_some, ok_var, ok_cst, ok_nil, ok_cons, ok_tup, ok_lst, ok_lstM, ok_op2, ok_op1, ok_blt, ok_listM, ok_chain, ok_and, ok_or, ok_not, ok_tval, ok_band, ok_bor, ok_bnot, ok_yes, ok_mif, ok_callM, ok_call, ok_lm, ok_optN, ok_optS, ok_slice, ok_ival, ok_range1, ok_range2, ok_zip, ok_comp, ok_compM, s_skip, s_seq, s_expr, s_asg, s_put, s_ret, s_retN, s_brk, s_cnt, s_if, s_for, s_while, List.map_cons, List.map_nil, List.cons_append, List.nil_append, List.replicate, List.getElem?_cons_zero, List.getElem?_cons_succ, List.set_cons_zero, List.set_cons_succ, Option.some.injEq, exists_eq_left', exists_eq_left, Nat.reduceSub, Nat.reduceAdd, Nat.reduceMul, wipeE, gNm, gNms, gTp, D.int.injEq, true_and, and_true, List.length_cons, List.length_nil, Option.bind_some, idx_ref, ixC_lst, idx_lst, idx_tup, idx_frz, at0, at1, at2, at3, add_int, sub_int, mod_int, fdiv_int, pow18, lt_int, le_int, gt_int, ge_int, tru_bl, tru_int, eq_int, ne_int, eq_str, ne_str, eq_bl, ne_bl, put_ref, putC_lst, ix0, ix1, ix2, ix3, len_lst, len_tup, len_frz, len_ref, lenC_lst, un1_one, tuple_lst, tuple_tup, list_lst, list_tup, slice_tup, slice_lst, it_tup, it_lst, cut_from1, Option.map_some, List.set_set, Nat.reduceLT, Int.reduceLT, if_true, Int.toNat_natCast, mul_mod, mulL, mulR, Int.reduceNeg]
      have hcell : (S ++ [Cell.lst ((withinR tb).map encPr)])[S.length]? = some (.lst ((withinR tb).map encPr)) := at_new
      have F4 : Fd FC n (S ++ [Cell.lst ((withinR tb).map encPr)]) := by
        obtain ⟨c', h1, h2⟩ := F
        exact ⟨c', by rw [List.getElem?_append_left (List.getElem?_eq_some_iff.mp h1).1]; exact h1, h2⟩
      have hnS : S.length ≠ n := by have := F.lt; omega
      generalize hS4 : S ++ [Cell.lst ((withinR tb).map encPr)] = S4 at hcell F4 ⊢
      have hl4 : S.length < S4.length := (List.getElem?_eq_some_iff.mp hcell).1
      have hisi : isiD .list S4 (.ref S.length) = some (.bl true) := by
        unfold isiD
        rw [see_cell hcell]
      rw [hisi]
      refine ⟨_, rfl, _, rfl, ?_⟩
      rw [if_neg (by decide)]
      try simp only [ok_ok, ok_no, ok_bind, ok_of_some, ok_var, ok_cst, ok_nil, ok_cons, ok_tup, ok_lst, ok_lstM, ok_op2, ok_op1, ok_blt, ok_listM, ok_chain, ok_and, ok_or, ok_not, ok_tval, ok_band, ok_bor, ok_bnot, ok_yes, ok_mif, ok_callM, ok_call, ok_lm, ok_optN, ok_optS, ok_slice, ok_ival, ok_range1, ok_range2, ok_zip, ok_comp, ok_compM, s_skip, s_seq, s_expr, s_asg, s_put, s_ret, s_retN, s_brk, s_cnt, s_if, s_for, s_while, List.map_cons, List.map_nil, List.cons_append, List.nil_append, List.replicate, List.getElem?_cons_zero, List.getElem?_cons_succ, List.set_cons_zero, List.set_cons_succ, Option.some.injEq, exists_eq_left', exists_eq_left, Nat.reduceSub, Nat.reduceAdd, Nat.reduceMul, wipeE, gNm, gNms, gTp, D.int.injEq, true_and, and_true, List.length_cons, List.length_nil, Option.bind_some, idx_ref, ixC_lst, idx_lst, idx_tup, idx_frz, at0, at1, at2, at3, add_int, sub_int, mod_int, fdiv_int, pow18, lt_int, le_int, gt_int, ge_int, tru_bl, tru_int, eq_int, ne_int, eq_str, ne_str, eq_bl, ne_bl, put_ref, putC_lst, ix0, ix1, ix2, ix3, len_lst, len_tup, len_frz, len_ref, lenC_lst, un1_one, tuple_lst, tuple_tup, list_lst, list_tup, slice_tup, slice_lst, it_tup, it_lst, cut_from1, Option.map_some, List.set_set, Nat.reduceLT, Int.reduceLT, if_true, Int.toNat_natCast, mul_mod, mulL, mulR, Int.reduceNeg]
      refine ok_ice_new (within_ok (j := m + 36) hs.one htb) ?_
      rintro xs rfl
      have hnl : nob (.lst ((withinR tb).map encPr)) = true := by rw [nob]; exact nob_Prs
      have hdl : dep (.lst ((withinR tb).map encPr)) ≤ 100 := by
        rw [dep]
        have := deps_le (xs := (withinR tb).map encPr) (n := 1) fun x hx => by
          obtain ⟨p, _, rfl⟩ := List.mem_map.mp hx
          rw [dep_Pr]; omega
        omega
      rw [neB_see (e' := .lst ((withinR tb).map encPr)) (see_cell hcell) rfl (pln_nob hnl) (pln_nob hnl), ne_nob hnl hnl hdl]
      refine ⟨_, rfl, _, rfl, ?_⟩
      rw [if_neg (by simp)]
      try simp only [ok_ok, ok_no, ok_bind, ok_of_some, ok_var, ok_cst, ok_nil, ok_cons, ok_tup, ok_lst, ok_lstM, ok_op2, ok_op1, ok_blt, ok_listM, ok_chain, ok_and, ok_or, ok_not, ok_tval, ok_band, ok_bor, ok_bnot, ok_yes, ok_mif, ok_callM, ok_call, ok_lm, ok_optN, ok_optS, ok_slice, ok_ival, ok_range1, ok_range2, ok_zip, ok_comp, ok_compM, s_skip, s_seq, s_expr, s_asg, s_put, s_ret, s_retN, s_brk, s_cnt, s_if, s_for, s_while, List.map_cons, List.map_nil, List.cons_append, List.nil_append, List.replicate, List.getElem?_cons_zero, List.getElem?_cons_succ, List.set_cons_zero, List.set_cons_succ, Option.some.injEq, exists_eq_left', exists_eq_left, Nat.reduceSub, Nat.reduceAdd, Nat.reduceMul, wipeE, gNm, gNms, gTp, D.int.injEq, true_and, and_true, List.length_cons, List.length_nil, Option.bind_some, idx_ref, ixC_lst, idx_lst, idx_tup, idx_frz, at0, at1, at2, at3, add_int, sub_int, mod_int, fdiv_int, pow18, lt_int, le_int, gt_int, ge_int, tru_bl, tru_int, eq_int, ne_int, eq_str, ne_str, eq_bl, ne_bl, put_ref, putC_lst, ix0, ix1, ix2, ix3, len_lst, len_tup, len_frz, len_ref, lenC_lst, un1_one, tuple_lst, tuple_tup, list_lst, list_tup, slice_tup, slice_lst, it_tup, it_lst, cut_from1, Option.map_some, List.set_set, Nat.reduceLT, Int.reduceLT, if_true, Int.toNat_natCast, mul_mod, mulL, mulR, Int.reduceNeg]
      rw [it_ref hcell]
      refine ⟨_, rfl, ?_⟩
      refine for_gen (withinR tb) (fun _ env S' => Go n S4 S' ∧ ∃ (z7 z8 z9 : Option D), env = [some (.frz ns), some (.int k), some (.ref n), some (encS sg), some (encTb tb), some (.int q), some (.ref S.length), z7, z8, z9]) rfl ⟨Fr.refl F4, _, _, _, rfl⟩ ?_ ?_ ?_
      · rintro ⟨p1, p2⟩ rest3 d3 env S5 he3 ⟨g5, z7, z8, z9, rfl⟩
        have hp : (p1, p2) ∈ withinR tb := by rw [he3]; simp
        unfold encPr
        try simp only [ok_ok, ok_no, ok_bind, ok_of_some, ok_var, ok_cst, ok_nil, ok_cons, ok_tup, ok_lst, ok_lstM, ok_op2, ok_op1, ok_blt, ok_listM, ok_chain, ok_and, ok_or, ok_not, ok_tval, ok_band, ok_bor, ok_bnot, ok_yes, ok_mif, ok_callM, ok_call, ok_lm, ok_optN, ok_optS, ok_slice, ok_ival, ok_range1, ok_range2, ok_zip, ok_comp, ok_compM, s_skip, s_seq, s_expr, s_asg, s_put, s_ret, s_retN, s_brk, s_cnt, s_if, s_for, s_while, List.map_cons, List.map_nil, List.cons_append, List.nil_append, List.replicate, List.getElem?_cons_zero, List.getElem?_cons_succ, List.set_cons_zero, List.set_cons_succ, Option.some.injEq, exists_eq_left', exists_eq_left, Nat.reduceSub, Nat.reduceAdd, Nat.reduceMul, wipeE, gNm, gNms, gTp, D.int.injEq, true_and, and_true, List.length_cons, List.length_nil, Option.bind_some, idx_ref, ixC_lst, idx_lst, idx_tup, idx_frz, at0, at1, at2, at3, add_int, sub_int, mod_int, fdiv_int, pow18, lt_int, le_int, gt_int, ge_int, tru_bl, tru_int, eq_int, ne_int, eq_str, ne_str, eq_bl, ne_bl, put_ref, putC_lst, ix0, ix1, ix2, ix3, len_lst, len_tup, len_frz, len_ref, lenC_lst, un1_one, tuple_lst, tuple_tup, list_lst, list_tup, slice_tup, slice_lst, it_tup, it_lst, cut_from1, Option.map_some, List.set_set, Nat.reduceLT, Int.reduceLT, if_true, Int.toNat_natCast, mul_mod, mulL, mulR, Int.reduceNeg]
        rw [show m + 39 = 2 + (m + 35) + 2 by omega]
        refine ok_ice_val ((tree_ok hs 2 (m + 35) S5 (g5.fd F4.lt)).mono ?_)
        rintro _ S6 ⟨t, rfl, ht, hh, g6⟩
        refine ⟨isRef_T t, ?_⟩
        rw [show 2 + (m + 35) + 2 = m + 39 by omega]
        have g56 := g5.go F4.lt g6
        try simp only [ok_ok, ok_no, ok_bind, ok_of_some, ok_var, ok_cst, ok_nil, ok_cons, ok_tup, ok_lst, ok_lstM, ok_op2, ok_op1, ok_blt, ok_listM, ok_chain, ok_and, ok_or, ok_not, ok_tval, ok_band, ok_bor, ok_bnot, ok_yes, ok_mif, ok_callM, ok_call, ok_lm, ok_optN, ok_optS, ok_slice, ok_ival, ok_range1, ok_range2, ok_zip, ok_comp, ok_compM, s_skip, s_seq, s_expr, s_asg, s_put, s_ret, s_retN, s_brk, s_cnt, s_if, s_for, s_while, List.map_cons, List.map_nil, List.cons_append, List.nil_append, List.replicate, List.getElem?_cons_zero, List.getElem?_cons_succ, List.set_cons_zero, List.set_cons_succ, Option.some.injEq, exists_eq_left', exists_eq_left, Nat.reduceSub, Nat.reduceAdd, Nat.reduceMul, wipeE, gNm, gNms, gTp, D.int.injEq, true_and, and_true, List.length_cons, List.length_nil, Option.bind_some, idx_ref, ixC_lst, idx_lst, idx_tup, idx_frz, at0, at1, at2, at3, add_int, sub_int, mod_int, fdiv_int, pow18, lt_int, le_int, gt_int, ge_int, tru_bl, tru_int, eq_int, ne_int, eq_str, ne_str, eq_bl, ne_bl, put_ref, putC_lst, ix0, ix1, ix2, ix3, len_lst, len_tup, len_frz, len_ref, lenC_lst, un1_one, tuple_lst, tuple_tup, list_lst, list_tup, slice_tup, slice_lst, it_tup, it_lst, cut_from1, Option.map_some, List.set_set, Nat.reduceLT, Int.reduceLT, if_true, Int.toNat_natCast, mul_mod, mulL, mulR, Int.reduceNeg]
        rw [show m + 39 = hgt t + (m + 38 - hgt t) + 1 by omega]
        refine ok_ice_val ((isof_ok hs.one htb ht).mono ?_)
        rintro _ _ ⟨rfl, rfl⟩
        refine ⟨rfl, ?_⟩
        try simp only [ok_ok, ok_no, ok_bind, ok_of_some, ok_var, ok_cst, ok_nil, ok_cons, ok_tup, ok_lst, ok_lstM, ok_op2, ok_op1, ok_blt, ok_listM, ok_chain, ok_and, ok_or, ok_not, ok_tval, ok_band, ok_bor, ok_bnot, ok_yes, ok_mif, ok_callM, ok_call, ok_lm, ok_optN, ok_optS, ok_slice, ok_ival, ok_range1, ok_range2, ok_zip, ok_comp, ok_compM, s_skip, s_seq, s_expr, s_asg, s_put, s_ret, s_retN, s_brk, s_cnt, s_if, s_for, s_while, List.map_cons, List.map_nil, List.cons_append, List.nil_append, List.replicate, List.getElem?_cons_zero, List.getElem?_cons_succ, List.set_cons_zero, List.set_cons_succ, Option.some.injEq, exists_eq_left', exists_eq_left, Nat.reduceSub, Nat.reduceAdd, Nat.reduceMul, wipeE, gNm, gNms, gTp, D.int.injEq, true_and, and_true, List.length_cons, List.length_nil, Option.bind_some, idx_ref, ixC_lst, idx_lst, idx_tup, idx_frz, at0, at1, at2, at3, add_int, sub_int, mod_int, fdiv_int, pow18, lt_int, le_int, gt_int, ge_int, tru_bl, tru_int, eq_int, ne_int, eq_str, ne_str, eq_bl, ne_bl, put_ref, putC_lst, ix0, ix1, ix2, ix3, len_lst, len_tup, len_frz, len_ref, lenC_lst, un1_one, tuple_lst, tuple_tup, list_lst, list_tup, slice_tup, slice_lst, it_tup, it_lst, cut_from1, Option.map_some, List.set_set, Nat.reduceLT, Int.reduceLT, if_true, Int.toNat_natCast, mul_mod, mulL, mulR, Int.reduceNeg]
        by_cases h1 : p1 ∈ sortsOf tb t
        · rw [if_pos (decide_eq_true h1)]
          refine ok_ice_val ((isof_ok hs.one htb ht).mono ?_)
          rintro _ _ ⟨rfl, rfl⟩
          refine ⟨rfl, ?_⟩
          try simp only [ok_ok, ok_no, ok_bind, ok_of_some, ok_var, ok_cst, ok_nil, ok_cons, ok_tup, ok_lst, ok_lstM, ok_op2, ok_op1, ok_blt, ok_listM, ok_chain, ok_and, ok_or, ok_not, ok_tval, ok_band, ok_bor, ok_bnot, ok_yes, ok_mif, ok_callM, ok_call, ok_lm, ok_optN, ok_optS, ok_slice, ok_ival, ok_range1, ok_range2, ok_zip, ok_comp, ok_compM, s_skip, s_seq, s_expr, s_asg, s_put, s_ret, s_retN, s_brk, s_cnt, s_if, s_for, s_while, List.map_cons, List.map_nil, List.cons_append, List.nil_append, List.replicate, List.getElem?_cons_zero, List.getElem?_cons_succ, List.set_cons_zero, List.set_cons_succ, Option.some.injEq, exists_eq_left', exists_eq_left, Nat.reduceSub, Nat.reduceAdd, Nat.reduceMul, wipeE, gNm, gNms, gTp, D.int.injEq, true_and, and_true, List.length_cons, List.length_nil, Option.bind_some, idx_ref, ixC_lst, idx_lst, idx_tup, idx_frz, at0, at1, at2, at3, add_int, sub_int, mod_int, fdiv_int, pow18, lt_int, le_int, gt_int, ge_int, tru_bl, tru_int, eq_int, ne_int, eq_str, ne_str, eq_bl, ne_bl, put_ref, putC_lst, ix0, ix1, ix2, ix3, len_lst, len_tup, len_frz, len_ref, lenC_lst, un1_one, tuple_lst, tuple_tup, list_lst, list_tup, slice_tup, slice_lst, it_tup, it_lst, cut_from1, Option.map_some, List.set_set, Nat.reduceLT, Int.reduceLT, if_true, Int.toNat_natCast, mul_mod, mulL, mulR, Int.reduceNeg]
          have h2 : p2 ∈ sortsOf tb t := within_sound hs.one htb (withinR_is tb) t ht _ hp h1
          rw [if_neg (by simp [h2])]
          exact ⟨g56, _, _, _, rfl⟩
        · rw [if_neg (by simp [h1])]
          exact ⟨g56, _, _, _, rfl⟩
      · rintro done env S5 ⟨g5, z7, z8, z9, rfl⟩ n' hn'
        cases hn'
        rw [g5.old hl4 hnS]
        exact hcell
      · rintro env S5 ⟨g5, z7, z8, z9, rfl⟩
        try simp only [ok_ok, ok_no, ok_bind, ok_of_some, ok_var, ok_cst, ok_nil, ok_cons, ok_tup, ok_lst, ok_lstM, ok_op2, ok_op1, ok_blt, ok_listM, ok_chain, ok_and, ok_or, ok_not, ok_tval, ok_band, ok_bor, ok_bnot, ok_yes, ok_mif, ok_callM, ok_call, ok_lm, ok_optN, ok_optS, ok_slice, ok_ival, ok_range1, ok_range2, ok_zip, ok_comp, ok_compM, s_skip, s_seq, s_expr, s_asg, s_put, s_ret, s_retN, s_brk, s_cnt, s_if, s_for, s_while, List.map_cons, List.map_nil, List.cons_append, List.nil_append, List.replicate, List.getElem?_cons_zero, List.getElem?_cons_succ, List.set_cons_zero, List.set_cons_succ, Option.some.injEq, exists_eq_left', exists_eq_left, Nat.reduceSub, Nat.reduceAdd, Nat.reduceMul, wipeE, gNm, gNms, gTp, D.int.injEq, true_and, and_true, List.length_cons, List.length_nil, Option.bind_some, idx_ref, ixC_lst, idx_lst, idx_tup, idx_frz, at0, at1, at2, at3, add_int, sub_int, mod_int, fdiv_int, pow18, lt_int, le_int, gt_int, ge_int, tru_bl, tru_int, eq_int, ne_int, eq_str, ne_str, eq_bl, ne_bl, put_ref, putC_lst, ix0, ix1, ix2, ix3, len_lst, len_tup, len_frz, len_ref, lenC_lst, un1_one, tuple_lst, tuple_tup, list_lst, list_tup, slice_tup, slice_lst, it_tup, it_lst, cut_from1, Option.map_some, List.set_set, Nat.reduceLT, Int.reduceLT, if_true, Int.toNat_natCast, mul_mod, mulL, mulR, Int.reduceNeg]
        have hc5 : S5[S.length]? = some (.lst ((withinR tb).map encPr)) := by rw [g5.old hl4 hnS]; exact hcell
        refine ⟨isL_ref hc5, _, _, clear_ref hc5, ?_, _, _, _, _, _, rfl⟩
        obtain ⟨c', h1, h2⟩ := g5.fd F4.lt
        exact ⟨c', by rw [List.getElem?_set_ne hnS]; exact h1, h2⟩
    · rintro env S5 ⟨F, y5, y6, y7, y8, y9, rfl⟩
      exact ⟨_, _, _, _, _, _, _, _, _, rfl⟩
  · rintro env S ⟨x1, x2, x3, x4, x5, x6, x7, x8, x9, rfl⟩
    exact gc_bl _ _ _
end RP
open PySem
theorem PySem.Challenge.cw_ruleplans_k33_sorts_within_holds : PySem.Challenge.rw_ruleplans_k33_sorts_within.Holds := by
  refine holds_of 39 ⟨rfl, by decide, by decide⟩ fun ns _ => ?_
  obtain ⟨d, st, e, rfl⟩ := (RP.law_true 0 ns).ex
  exact ⟨st, (congrArg (fun n => RP.run (RP.tabOf RP.LL) n "law" [.frz ns] []) (Nat.zero_add 40)).symm.trans e⟩
end
