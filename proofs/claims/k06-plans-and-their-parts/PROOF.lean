import PyProof.Rows.All
import Wide.All
import OpenK.AllK
import Wide.FinOn
import HandS.ForMost
import HandS.ForExc
import HandS.HeadHook1
import HandS.TupAny
import HandS.TupMul
import HandS.Style
import HandS.Wide
import HandS.IsInst
import KE.KDictPairs
import KE.KRevSl
import HandS.More
import HandS.Zip
import HandS.Flow
import HandS.Small
import KE.KStateDown
import HandS.Words
import HandS.WordsExc
import HandS.Defaults
import HandS.Ends
import HandS.Head0
import HandS.Head1
import HandS.Head2
import HandS.HeadEnd
import HandS.HeadHook2
import HandS.Strs
import HandS.HeadHook4
import HandS.RaiseMore
import PyProof.Rows.StrMul
import PyProof.ReprBulk
import PySem.Challenge.RW_ruleplans_k06_plans_and_their_parts
section
set_option Elab.async false
set_option linter.all false
set_option maxRecDepth 100000
/-! Values by value, cells for what is changed, a result monad, and the words (denotations) of the program's text. -/
namespace RP
open PySem

inductive D where
  | non | bl (b : Bool) | int (i : Int) | str (x : Str) | tup (xs : List D) | lst (xs : List D) | dct (ks vs : List D) | set (xs : List D) | frz (ns : List Int) | ref (n : Nat)
  deriving Inhabited

inductive Cell where
  | lst (xs : List D) | dct (ks vs : List D) | ins (c : Str) (fs : List (Str × D))
  deriving Inhabited
abbrev St := List Cell
abbrev Env := List (Option D)
/-- what is raised: the class's name, the arguments that it keeps -/
structure Xc where
  cls : Str
  fs : List (Str × D)
inductive R (α : Type) where
  | ok (a : α) (st : St)
  | er (x : Xc) (st : St)
  | no
inductive RS where
  | nx (env : Env) (st : St)
  | rt (d : D) (st : St)
  | bk (env : Env) (st : St)
  | ct (env : Env) (st : St)
  | er (x : Xc) (env : Env) (st : St)
  | no
def R.bind {α β : Type} (r : R α) (k : α → St → R β) : R β := match r with
  | .ok a st => k a st
  | .er x st => .er x st
  | .no => .no
def R.of {α : Type} (o : Option α) (st : St) : R α := match o with
  | some a => .ok a st
  | none => .no

def big : Nat := 1000000
/-! ### depth, equality, truth -/
mutual
def dep : D → Nat
  | .tup xs => deps xs + 1
  | .lst xs => deps xs + 1
  | _ => 0
def deps : List D → Nat
  | [] => 0
  | x :: xs => max (dep x) (deps xs)
end
mutual
/-- plain data: nothing but None, truths, asInts, texts, tuples, lists -/
def pln : D → Bool
  | .tup xs => plns xs
  | .lst xs => plns xs
  | .dct _ _ => false
  | .set _ => false
  | .ref _ => false
  | .frz _ => false
  | _ => true
def plns : List D → Bool
  | [] => true
  | x :: xs => pln x && plns xs
end
mutual
/-- Python's == on plain data -/
def eqD : D → D → Bool
  | .non, .non => true
  | .bl a, .bl b => a == b
  | .bl a, .int j => (if a then 1 else 0) == j
  | .int i, .bl b => i == (if b then 1 else 0)
  | .int i, .int j => i == j
  | .str x, .str y => x == y
  | .lst xs, .lst ys => eqDs xs ys
  | .tup xs, .tup ys => eqDs xs ys
  | _, _ => false
def eqDs : List D → List D → Bool
  | [], [] => true
  | x :: xs, y :: ys => eqD x y && eqDs xs ys
  | _, _ => false
end
/-- a list cell read as its value -/
def see (st : St) : D → D
  | .ref n => match st[n]? with
    | some (.lst xs) => .lst xs
    | some (.dct ks vs) => .dct ks vs
    | _ => .ref n
  | d => d
def tru (st : St) (d : D) : Option Bool := match see st d with
  | .non => some false
  | .bl b => some b
  | .int i => some (i != 0)
  | .str x => if x.length ≤ big then some ((x.length : Int) != 0) else none
  | .tup xs => some (!xs.isEmpty)
  | .lst xs => some (!xs.isEmpty)
  | _ => none
def eqO (st : St) (x y : D) : Option Bool :=
  if (pln (see st x) && pln (see st y)) && decide (min (dep (see st x)) (dep (see st y)) ≤ 100) then some (eqD (see st x) (see st y)) else none

/-! ### operators -/
def slen (x : Str) : Nat := x.length
def addD (st : St) (x y : D) : Option D := match see st x, see st y with
  | .int i, .int j => some (.int (i + j))
  | .str a, .str b => if a.length + b.length ≤ big then some (.str (a ++ b)) else none
  | .tup a, .tup b => if a.length + b.length ≤ big then some (.tup (a ++ b)) else none
  | .lst a, .lst b => if a.length + b.length ≤ big then some (.lst (a ++ b)) else none
  | _, _ => none
def subD (st : St) (x y : D) : Option D := match x, y with
  | .int i, .int j => some (.int (i - j))
  | _, _ => none
def mulD (st : St) (x y : D) : Option D := match see st x, y with
  | .int i, .int j => if (decide (-(2 ^ 64) < i) && decide (i < 2 ^ 64)) || (decide (-(2 ^ 64) < j) && decide (j < 2 ^ 64)) then some (.int (i * j)) else none
  | .tup a, .int j => if decide (0 ≤ j) && decide (j ≤ 1000) && decide (a.length ≤ 1000) then some (.tup (List.replicate j.toNat a).flatten) else none
  | .lst a, .int j => if decide (0 ≤ j) && decide (j ≤ 1000) && decide (a.length ≤ 1000) then some (.lst (List.replicate j.toNat a).flatten) else none
  | _, _ => none
def modD (st : St) (x y : D) : Option D := match x, y with
  | .int i, .int j => if 0 < j then some (.int (i % j)) else none
  | _, _ => none
def fdivD (st : St) (x y : D) : Option D := match x, y with
  | .int i, .int j => if decide (0 < j) && decide (j < 2 ^ 64) then some (.int (i / j)) else none
  | _, _ => none
def powD (st : St) (x y : D) : Option D := match x, y with
  | .int i, .int j => if decide (0 ≤ i) && decide (i ≤ 10) && decide (0 ≤ j) && decide (j ≤ 20) then some (.int (i ^ j.toNat)) else none
  | _, _ => none
def bD (o : Option Bool) : Option D := o.map D.bl
def eqB (st : St) (x y : D) : Option D := bD (eqO st x y)
def neB (st : St) (x y : D) : Option D := bD ((eqO st x y).map not)
def ltB (st : St) (x y : D) : Option D := match x, y with
  | .int i, .int j => some (.bl (decide (i < j)))
  | _, _ => none
def leB (st : St) (x y : D) : Option D := match x, y with
  | .int i, .int j => some (.bl (decide (i ≤ j)))
  | _, _ => none
def gtB (st : St) (x y : D) : Option D := match x, y with
  | .int i, .int j => some (.bl (decide (j < i)))
  | _, _ => none
def geB (st : St) (x y : D) : Option D := match x, y with
  | .int i, .int j => some (.bl (decide (j ≤ i)))
  | _, _ => none
def isNon : D → Bool
  | .non => true
  | _ => false
/-- is None, is True, is False -/
def isB (st : St) (x y : D) : Option D := match x, y with
  | x, .non => some (.bl (isNon x))
  | .bl c, .bl b => some (.bl (decide (c = b)))
  | _, _ => none
def isnB (st : St) (x y : D) : Option D := match x, y with
  | x, .non => some (.bl (!isNon x))
  | .bl c, .bl b => some (.bl (!decide (c = b)))
  | _, _ => none
/-- a key that a dict may have here: a text or an int -/
def keyish : D → Bool
  | .int _ => true
  | .str _ => true
  | _ => false
def look : List D → List D → D → Option D
  | k :: ks, v :: vs, x => if eqD k x then some v else look ks vs x
  | _, _, _ => none
def inO (st : St) (x y : D) : Option Bool := match see st y with
  | .tup ys => if (pln (see st x) && plns ys) && decide (min (dep (see st x)) (deps ys) ≤ 100) then some (ys.any fun z => eqD z (see st x)) else none
  | .lst ys => if (pln (see st x) && plns ys) && decide (min (dep (see st x)) (deps ys) ≤ 100) then some (ys.any fun z => eqD z (see st x)) else none
  | .str z => match x with
    | .str a => match a.cps.toList with
      | [c] => some (decide (c ∈ z.cps.toList))
      | _ => none
    | _ => none
  | .dct ks vs => if keyish x then some (look ks vs x).isSome else none
  | _ => none
def inB (st : St) (x y : D) : Option D := bD (inO st x y)
def ninB (st : St) (x y : D) : Option D := bD ((inO st x y).map not)
def negD (st : St) (x : D) : Option D := match x with
  | .int i => some (.int (-i))
  | _ => none

/-! ### subscripts -/
def idxD (st : St) (x y : D) : Option D := match see st x, y with
  | .tup xs, .int i => L2.atI xs i
  | .lst xs, .int i => L2.atI xs i
  | .frz ns, .int i => (L2.atI ns i).map D.int
  | .str z, .int i => if z.length ≤ big then (L2.atI z.cps.toList i).map fun c => .str ⟨#[c]⟩ else none
  | .dct ks vs, k => if keyish k then look ks vs k else none
  | _, _ => none
def cut {α : Type} (xs : List α) (lo hi : Option Int) : List α := (xs.drop (HT.sIx xs.length 0 lo)).take (HT.sIx xs.length xs.length hi - HT.sIx xs.length 0 lo)
def sliceD (st : St) (x : D) (lo hi : Option Int) : Option D := match see st x with
  | .tup xs => some (.tup (cut xs lo hi))
  | .lst xs => some (.lst (cut xs lo hi))
  | .str z => if z.length ≤ big then some (.str ⟨(cut z.cps.toList lo hi).toArray⟩) else none
  | _ => none
def revD (st : St) (x : D) : Option D := match see st x with
  | .tup xs => some (.tup xs.reverse)
  | .lst xs => some (.lst xs.reverse)
  | _ => none

/-! ### built-in functions -/
def lenD (st : St) (x : D) : Option D := match see st x with
  | .tup xs => some (.int xs.length)
  | .lst xs => some (.int xs.length)
  | .frz ns => some (.int ns.length)
  | .str z => if z.length ≤ big then some (.int z.length) else none
  | .set xs => some (.int xs.length)
  | .dct ks _ => some (.int ks.length)
  | _ => none
def asBools : List D → Option (List Bool)
  | [] => some []
  | .bl b :: xs => (asBools xs).map (b :: ·)
  | _ :: _ => none
def asInts : List D → Option (List Int)
  | [] => some []
  | .int i :: xs => (asInts xs).map (i :: ·)
  | _ :: _ => none
def asStrs : List D → Option (List Str)
  | [] => some []
  | .str i :: xs => (asStrs xs).map (i :: ·)
  | _ :: _ => none
def allD (st : St) (x : D) : Option D := match see st x with
  | .lst xs => (asBools xs).map fun bs => .bl (bs.all id)
  | _ => none
def anyD (st : St) (x : D) : Option D := match see st x with
  | .lst xs => (asBools xs).map fun bs => .bl (bs.any id)
  | _ => none
def sumD (st : St) (x : D) : Option D := match see st x with
  | .lst xs => (asInts xs).map fun ns => .int ns.sum
  | _ => none
def absD (st : St) (x : D) : Option D := match x with
  | .int i => some (.int (if i < 0 then -i else i))
  | _ => none
def tupleD (st : St) (x : D) : Option D := match see st x with
  | .lst xs => some (.tup xs)
  | .tup xs => some (.tup xs)
  | _ => none
def listD (st : St) (x : D) : Option D := match see st x with
  | .lst xs => some (.lst xs)
  | .tup xs => some (.lst xs)
  | _ => none
/-- the first of each -/
def firsts : List D → List D → List D
  | acc, [] => acc
  | acc, x :: xs => if acc.any (fun z => eqD z x) then firsts acc xs else firsts (acc ++ [x]) xs
def dPut (ks vs : List D) (x y : D) : List D × List D :=
  if ks.any (fun k => eqD k x) then (ks, List.zipWith (fun k v => if eqD k x then y else v) ks vs) else (ks ++ [x], vs ++ [y])
def dPuts : List D → List D → List (D × D) → List D × List D
  | ks, vs, [] => (ks, vs)
  | ks, vs, (x, y) :: r => dPuts (dPut ks vs x y).1 (dPut ks vs x y).2 r
/-- pairs of a key and a value -/
def prs : List D → Option (List (D × D))
  | [] => some []
  | .tup [k, v] :: xs => if keyish k then (prs xs).map ((k, v) :: ·) else none
  | _ :: _ => none
def dictD (st : St) (x : D) : Option D := match see st x with
  | .tup xs => (prs xs).map fun ps => .dct (dPuts [] [] ps).1 (dPuts [] [] ps).2
  | .lst xs => (prs xs).map fun ps => .dct (dPuts [] [] ps).1 (dPuts [] [] ps).2
  | .dct ks vs => some (.dct ks vs)
  | _ => none
/-- isinstance's kinds -/
inductive Kd where
  | str | int | bool | tuple | list | dict
def isiD (k : Kd) (st : St) (x : D) : Option D := match k, see st x with
  | .str, .str _ => some (.bl true)
  | .int, .int _ => some (.bl true)
  | .int, .bl _ => some (.bl true)
  | .bool, .bl _ => some (.bl true)
  | .tuple, .tup _ => some (.bl true)
  | .list, .lst _ => some (.bl true)
  | .list, .frz _ => some (.bl true)
  | .dict, .dct _ _ => some (.bl true)
  | _, .ref _ => none
  | _, .set _ => none
  | _, _ => some (.bl false)

/-! ### what is left behind a call -/
mutual
/-- every cell that is named lies below n -/
def bel (n : Nat) : D → Bool
  | .tup xs => bels n xs
  | .lst xs => bels n xs
  | .dct ks vs => bels n ks && bels n vs
  | .set xs => bels n xs
  | .ref k => decide (k < n)
  | _ => true
def bels (n : Nat) : List D → Bool
  | [] => true
  | x :: xs => bel n x && bels n xs
end
def belC (n : Nat) : Cell → Bool
  | .lst xs => bels n xs
  | .dct ks vs => bels n ks && bels n vs
  | .ins _ fs => bels n (fs.map (·.2))
/-- the elder cells are as they were, or name elder cells alone -/
def Old (st st' : St) : Prop := ∀ (i : Nat) (c : Cell), i < st.length → st'[i]? = some c → st[i]? = some c ∨ belC st.length c = true
def isRef : D → Option Nat
  | .ref k => some k
  | _ => none
open Classical in
/-- cells that nothing names any more are dropped -/
noncomputable def gc (st : St) (d : D) (st' : St) : R D :=
  if st'.length = st.length then .ok d st'
  else if st.length ≤ st'.length ∧ Old st st' then
    (if bel st.length d = true then .ok d (st'.take st.length)
    else match (isRef d).bind (st'[·]?) with
      | some c => if belC st.length c = true then .ok (.ref st.length) (st'.take st.length ++ [c]) else .ok d st'
      | none => .ok d st')
  else .ok d st'
open Classical in
/-- a list or dict that a call hands back, from now on a value -/
noncomputable def ice (st : St) (r : R D) : R D := match r with
  | .ok (.ref k) st' => if k = st.length ∧ st'.length = st.length + 1 ∧ Old st st' then
      (match st'[k]? with
      | some (.lst xs) => if bels k xs = true then .ok (.lst xs) (st'.take k) else .ok (.ref k) st'
      | some (.dct ks vs) => if (bels k ks && bels k vs) = true then .ok (.dct ks vs) (st'.take k) else .ok (.ref k) st'
      | _ => .ok (.ref k) st')
    else .ok (.ref k) st'
  | r => r

/-! ### expressions -/
abbrev Call := Str → List D → St → R D
abbrev ME := Call → Env → St → R D
abbrev MA := Call → Env → St → R (List D)
abbrev MT := Call → Env → St → R Bool
abbrev MS := Call → Env → St → RS
abbrev MG := D → Env → Option Env
abbrev MI := Call → Env → St → R (List D × Option Nat)
def mVar (i : Nat) : ME := fun _ env st => match env[i]? with
  | some (some d) => .ok d st
  | _ => .no
def mCst (d : D) : ME := fun _ _ st => .ok d st
def mArgs : List ME → MA
  | [] => fun _ _ st => .ok [] st
  | m :: ms => fun c env st => (m c env st).bind fun d st1 => (mArgs ms c env st1).bind fun ds st2 => .ok (d :: ds) st2
def mTup (ms : List ME) : ME := fun c env st => (mArgs ms c env st).bind fun ds st1 => .ok (.tup ds) st1
def mLst (ms : List ME) : ME := fun c env st => (mArgs ms c env st).bind fun ds st1 => .ok (.lst ds) st1
/-- a list that will be changed -/
def mLstM (ms : List ME) : ME := fun c env st => (mArgs ms c env st).bind fun ds st1 => .ok (.ref st1.length) (st1 ++ [.lst ds])
def mOp2 (f : St → D → D → Option D) (a b : ME) : ME := fun c env st => (a c env st).bind fun x st1 => (b c env st1).bind fun y st2 => R.of (f st2 x y) st2
def mOp1 (f : St → D → Option D) (a : ME) : ME := fun c env st => (a c env st).bind fun x st1 => R.of (f st1 x) st1
def mChain (f g : St → D → D → Option D) (a b e : ME) : ME := fun c env st => (a c env st).bind fun x st1 => (b c env st1).bind fun y st2 => match f st2 x y with
  | some (.bl true) => (e c env st2).bind fun z st3 => R.of (g st3 y z) st3
  | some (.bl false) => .ok (.bl false) st2
  | _ => .no
def mAnd (a b : ME) : ME := fun c env st => (a c env st).bind fun x st1 => match tru st1 x with
  | some true => b c env st1
  | some false => .ok x st1
  | none => .no
def mOr (a b : ME) : ME := fun c env st => (a c env st).bind fun x st1 => match tru st1 x with
  | some true => .ok x st1
  | some false => b c env st1
  | none => .no
def mNot (a : ME) : ME := fun c env st => (a c env st).bind fun x st1 => R.of ((tru st1 x).map fun b => .bl (!b)) st1
def tVal (a : ME) : MT := fun c env st => (a c env st).bind fun x st1 => R.of (tru st1 x) st1
def bAnd (a b : MT) : MT := fun c env st => (a c env st).bind fun x st1 => if x = true then b c env st1 else .ok false st1
def bOr (a b : MT) : MT := fun c env st => (a c env st).bind fun x st1 => if x = true then .ok true st1 else b c env st1
def bNot (a : MT) : MT := fun c env st => (a c env st).bind fun x st1 => .ok (!x) st1
def mIf (t : MT) (a b : ME) : ME := fun c env st => (t c env st).bind fun x st1 => if x = true then a c env st1 else b c env st1
noncomputable def mCall (f : Str) (ms : List ME) : ME := fun c env st => (mArgs ms c env st).bind fun ds st1 => ice st1 (c f ds st1)
/-- .. what comes back will be changed -/
def mCallM (f : Str) (ms : List ME) : ME := fun c env st => (mArgs ms c env st).bind fun ds st1 => c f ds st1
/-- a bound of a slice -/
def optI (o : Option ME) : Call → Env → St → R (Option Int) := fun c env st => match o with
  | none => .ok none st
  | some e => (e c env st).bind fun d st1 => match d with
    | .int i => .ok (some i) st1
    | _ => .no
def mSlice (a : ME) (lo hi : Option ME) : ME := fun c env st => (a c env st).bind fun x st1 => (optI lo c env st1).bind fun i st2 => (optI hi c env st2).bind fun j st3 => R.of (sliceD st3 x i j) st3

/-! ### what is walked -/
def itD (st : St) (d : D) : Option (List D × Option Nat) := match d with
  | .tup xs => some (xs, none)
  | .lst xs => some (xs, none)
  | .str z => if z.length ≤ big then some (z.cps.toList.map fun c => .str ⟨#[c]⟩, none) else none
  | .ref n => match st[n]? with
    | some (.lst xs) => some (xs, some n)
    | _ => none
  | _ => none
def iVal (a : ME) : MI := fun c env st => (a c env st).bind fun x st1 => R.of (itD st1 x) st1
def iRange1 (a : ME) : MI := fun c env st => (a c env st).bind fun x st1 => match x with
  | .int n => if decide (-(big : Int) ≤ n) && decide (n ≤ (big : Int)) then .ok ((List.range n.toNat).map fun (k : Nat) => .int k, none) st1 else .no
  | _ => .no
def iRange2 (a b : ME) : MI := fun c env st => (a c env st).bind fun x st1 => (b c env st1).bind fun y st2 => match x, y with
  | .int m, .int n => if decide (-(big : Int) ≤ m) && decide (m ≤ (big : Int)) && decide (-(big : Int) ≤ n) && decide (n ≤ (big : Int)) then .ok ((List.range (n - m).toNat).map fun (k : Nat) => .int (m + k), none) st2 else .no
  | _, _ => .no
def iZip (a b : ME) : MI := fun c env st => (mArgs [a, b] c env st).bind fun ds st1 => match ds with
  | [.tup xs, .tup ys] => .ok (List.zipWith (fun x y => D.tup [x, y]) xs ys, none) st1
  | _ => .no
def gOk (g : Option Nat) (xs : List D) (st : St) : Prop := ∀ n, g = some n → st[n]? = some (.lst xs)
/-- R without what is raised (a comprehension lets nothing out here) -/
def R.calm {α : Type} : R α → R α
  | .er _ _ => .no
  | r => r
open Classical in
noncomputable def compL (c : Call) (gd : Option Nat) (all : List D) (g : MG) (ts : MT) (elt : ME) (env : Env) : List D → St → R (List D)
  | [], st => if gOk gd all st then .ok [] st else .no
  | x :: xs, st => if gOk gd all st then
      (match g x env with
      | none => .no
      | some env1 => (ts c env1 st).calm.bind fun b st1 =>
        if b = true then (elt c env1 st1).calm.bind fun y st2 => (compL c gd all g ts elt env xs st2).bind fun ys st3 => .ok (y :: ys) st3
        else compL c gd all g ts elt env xs st1)
    else .no
/-- the block's own names are forgotten -/
def wipeE (env : Env) : List Nat → Env
  | [] => env
  | v :: vs => (wipeE env vs).set v none
noncomputable def mComp (own : List Nat) (it : MI) (g : MG) (ts : MT) (elt : ME) : ME := fun c env st => (it c env st).bind fun p st1 => (compL c p.2 p.1 g ts elt (wipeE env own) p.1 st1).bind fun ys st2 => .ok (.lst ys) st2
noncomputable def mCompM (own : List Nat) (it : MI) (g : MG) (ts : MT) (elt : ME) : ME := fun c env st => (it c env st).bind fun p st1 => (compL c p.2 p.1 g ts elt (wipeE env own) p.1 st1).bind fun ys st2 => .ok (.ref st2.length) (st2 ++ [.lst ys])
def tYesM : MT := fun _ _ st => .ok true st
def gNm (i : Nat) : MG := fun d env => if i < env.length then some (env.set i (some d)) else none
def gNms : List Nat → List D → Env → Option Env
  | [], [], env => some env
  | i :: is, d :: ds, env => (gNm i d env).bind (gNms is ds)
  | _, _, _ => none
def gTp (is : List Nat) : MG := fun d env => match d with
  | .tup ds => gNms is ds env
  | _ => none

/-! ### statements -/
def RS.bind (r : RS) (k : Env → St → RS) : RS := match r with
  | .nx env st => k env st
  | r => r
def RS.ofR {α : Type} (r : R α) (env : Env) (k : α → St → RS) : RS := match r with
  | .ok a st => k a st
  | .er x st => .er x env st
  | .no => .no
def sSkip : MS := fun _ env st => .nx env st
def sSeq (a b : MS) : MS := fun c env st => (a c env st).bind fun env1 st1 => b c env1 st1
def sExpr (e : ME) : MS := fun c env st => RS.ofR (e c env st) env fun _ st1 => .nx env st1
def sAsg (g : MG) (e : ME) : MS := fun c env st => RS.ofR (e c env st) env fun d st1 => match g d env with
  | some env1 => .nx env1 st1
  | none => .no
/-- o[i] = e -/
def putIx (st : St) (o i d : D) : Option St := match o with
  | .ref n => match st[n]?, i with
    | some (.lst xs), .int k => (L2.ixN xs.length k).map fun j => st.set n (.lst (xs.set j d))
    | some (.dct ks vs), k => if keyish k && decide (ks.length ≤ big) then some (st.set n (.dct (dPut ks vs k d).1 (dPut ks vs k d).2)) else none
    | _, _ => none
  | _ => none
def sPut (o i e : ME) : MS := fun c env st => RS.ofR (e c env st) env fun d st1 => RS.ofR (o c env st1) env fun x st2 => RS.ofR (i c env st2) env fun y st3 => match putIx st3 x y d with
  | some st4 => .nx env st4
  | none => .no
def sRet (e : ME) : MS := fun c env st => RS.ofR (e c env st) env fun d st1 => .rt d st1
def sRetN : MS := fun _ env st => .rt .non st
def sIf (t : MT) (a b : MS) : MS := fun c env st => RS.ofR (t c env st) env fun x st1 => if x = true then a c env st1 else b c env st1
def sBrk : MS := fun _ env st => .bk env st
def sCnt : MS := fun _ env st => .ct env st
open Classical in
noncomputable def forL (c : Call) (gd : Option Nat) (all : List D) (g : MG) (body : MS) : List D → Env → St → RS
  | [], env, st => if gOk gd all st then .nx env st else .no
  | x :: xs, env, st => if gOk gd all st then
      (match g x env with
      | none => .no
      | some env1 => match body c env1 st with
        | .nx env2 st2 => forL c gd all g body xs env2 st2
        | .ct env2 st2 => forL c gd all g body xs env2 st2
        | .bk env2 st2 => .nx env2 st2
        | r => r)
    else .no
noncomputable def sFor (it : MI) (g : MG) (body : MS) : MS := fun c env st => RS.ofR (it c env st) env fun p st1 => forL c p.2 p.1 g body p.1 env st1
def whileN (c : Call) (t : MT) (body : MS) : Nat → Env → St → RS
  | 0, _, _ => .no
  | n + 1, env, st => RS.ofR (t c env st) env fun b st1 => if b = true then
      (match body c env st1 with
        | .nx env2 st2 => whileN c t body n env2 st2
        | .ct env2 st2 => whileN c t body n env2 st2
        | .bk env2 st2 => .nx env2 st2
        | r => r)
    else .nx env st1
def wMost : Nat := 1000000
def sWhile (t : MT) (body : MS) : MS := fun c env st => whileN c t body wMost env st

/-! ### methods of lists -/
/-- what a method gives and leaves -/
abbrev Meth := St → D → List D → Option (D × St)
def mMeth (f : Meth) (o : ME) (ms : List ME) : ME := fun c env st => (o c env st).bind fun x st1 => (mArgs ms c env st1).bind fun ds st2 => match f st2 x ds with
  | some (d, st3) => .ok d st3
  | none => .no
def xAppend : Meth := fun st o ds => match o, ds with
  | .ref n, [d] => match st[n]? with
    | some (.lst xs) => if xs.length < big then some (.non, st.set n (.lst (xs ++ [d]))) else none
    | _ => none
  | _, _ => none
def xExtend : Meth := fun st o ds => match o, ds with
  | .ref n, [d] => match st[n]?, see st d with
    | some (.lst xs), .lst ys => if xs.length + ys.length ≤ big then some (.non, st.set n (.lst (xs ++ ys))) else none
    | _, _ => none
  | _, _ => none

/-! ### functions -/
structure Fn where
  np : Nat
  ns : Nat
  body : MS
abbrev Tab := Str → Option Fn
noncomputable def runFn (c : Call) (f : Fn) (ds : List D) (st : St) : R D :=
  if ds.length = f.np then
    (match f.body c (ds.map some ++ List.replicate (f.ns - f.np) none) st with
    | .nx _ st1 => gc st .non st1
    | .rt d st1 => gc st d st1
    | .er x _ st1 => .er x st1
    | _ => .no)
  else .no
noncomputable def run (T : Tab) : Nat → Call
  | 0 => fun _ _ _ => .no
  | n + 1 => fun f ds st => match T f with
    | some fn => runFn (run T n) fn ds st
    | none => .no
end RP
end
section
set_option Elab.async false
set_option linter.all false
set_option maxRecDepth 100000
/-! What the values and cells are in the hand layer's abstract heap. -/
namespace RP
open PySem L2

/-- the cells' addresses; those that the machine is at work on -/
structure Wd where
  rho : List Addr
  B : List Addr
/-- a list of the written part -/
def KL (K : PySem.W.Frag) (a : Addr) (xs : List V) : Prop :=
  ∃ (o : Obj) (its : Array Value) (n : Nat), K.lookup a = some o ∧ o.cls = .type "list" ∧ o.dict = none ∧ o.data = .seq its n ∧ its.size ≤ sizeLine ∧ Vals xs its.toList
/-- a tuple that is known to the object, or one of the written part -/
def Tp (K : PySem.W.Frag) (H : Hp) (a : Addr) (xs : List V) : Prop := (∃ o, H a = some (.frz o (.tup xs)) ∧ o.dict = none) ∨
  ∃ (o : Obj) (its : Array Value) (n : Nat), K.lookup a = some o ∧ o.cls = .type "tuple" ∧ o.dict = none ∧ o.data = .seq its n ∧ its.size ≤ sizeLine ∧ Vals xs its.toList
theorem Tp.sq {K : PySem.W.Frag} {H : Hp} {a : Addr} {xs : List V} (h : Tp K H a xs) : SqT K H a xs := by
  rcases h with ⟨o, h, _⟩ | ⟨o, its, n, h1, h2, _, h3⟩
  · exact .inl (.inr ⟨o, h⟩)
  · exact .inr ⟨o, its, n, h1, h2, h3⟩

mutual
inductive Rep (K : PySem.W.Frag) (H : Hp) (W : Wd) : V → D → Prop
  | non : Rep K H W .non .non
  | bl (b : Bool) : Rep K H W (.bl b) (.bl b)
  | int (i : Int) : Rep K H W (.int i) (.int i)
  | str (x : Str) : Rep K H W (.str x) (.str x)
  | tup {a : Addr} {xs : List V} {ds : List D} : Tp K H a xs → Reps K H W xs ds → Rep K H W (.ref a) (.tup ds)
  | lst {a : Addr} {xs : List V} {ds : List D} : H a = some (.lst xs) → a ∉ W.rho → a ∉ W.B → Reps K H W xs ds → Rep K H W (.ref a) (.lst ds)
  | dct {a : Addr} {kvs : List (Key × V)} {ks vs : List D} : Rd H a (.dK kvs) → a ∉ W.rho → a ∉ W.B → Reps K H W (kvs.map fun kv => kV kv.1) ks → Reps K H W (kvs.map (·.2)) vs → Rep K H W (.ref a) (.dct ks vs)
  | frz {a : Addr} {ns : List Int} : (∃ o, H a = some (.frz o (.lst (ns.map V.int)))) ∨ KL K a (ns.map V.int) → Rep K H W (.ref a) (.frz ns)
  | ref {a : Addr} {n : Nat} : W.rho[n]? = some a → Rep K H W (.ref a) (.ref n)
inductive Reps (K : PySem.W.Frag) (H : Hp) (W : Wd) : List V → List D → Prop
  | nil : Reps K H W [] []
  | cons {v : V} {vs : List V} {d : D} {ds : List D} : Rep K H W v d → Reps K H W vs ds → Reps K H W (v :: vs) (d :: ds)
end

def CellOk (K : PySem.W.Frag) (H : Hp) (W : Wd) (a : Addr) : Cell → Prop
  | .lst ds => ∃ xs, H a = some (.lst xs) ∧ Reps K H W xs ds
  | .dct ks vs => ∃ kvs : List (Key × V), H a = some (.dK kvs) ∧ Reps K H W (kvs.map fun kv => kV kv.1) ks ∧ Reps K H W (kvs.map (·.2)) vs
  | .ins c fs => ∃ dx fs', H a = some (.ins (He.ga K c) dx fs') ∧ fs'.map (·.1) = fs.map (·.1) ∧ Reps K H W (fs'.map (·.2)) (fs.map (·.2))

structure Sim (K : PySem.W.Frag) (H : Hp) (W : Wd) (st : St) : Prop where
  len : W.rho.length = st.length
  nd : W.rho.Nodup
  bt : ∀ a ∈ W.B, ∃ o, H a = some o
  dis : ∀ a ∈ W.rho, a ∉ W.B
  cell : ∀ (i : Nat) (a : Addr) (c : Cell), W.rho[i]? = some a → st[i]? = some c → CellOk K H W a c

structure Step (H : Hp) (W : Wd) (H' : Hp) (W' : Wd) : Prop where
  pre : ∃ more, W'.rho = W.rho ++ more
  B : ∀ a ∈ W'.B, a ∈ W.B ∨ (H a = none ∧ a ∉ W.rho)
  sub : ∀ a ∈ W.B, a ∈ W'.B
  keep : ∀ a o, H a = some o → a ∉ W.rho → H' a = some o ∧ a ∉ W'.rho
theorem Step.refl (H : Hp) (W : Wd) : Step H W H W := ⟨⟨[], by simp⟩, fun _ h => .inl h, fun _ h => h, fun a o h n => ⟨h, n⟩⟩
theorem Step.trans {H H1 H2 : Hp} {W W1 W2 : Wd} (a : Step H W H1 W1) (b : Step H1 W1 H2 W2) : Step H W H2 W2 := by
  have hr : ∀ c, c ∉ W1.rho → c ∉ W.rho := fun c h hc => by
    obtain ⟨m, e⟩ := a.pre
    exact h (by rw [e]; exact List.mem_append_left _ hc)
  refine ⟨?_, fun c hc => ?_, fun c hc => b.sub c (a.sub c hc), fun c o h n => ?_⟩
  · obtain ⟨m, e⟩ := a.pre
    obtain ⟨m', e'⟩ := b.pre
    exact ⟨m ++ m', by rw [e', e, List.append_assoc]⟩
  · rcases b.B c hc with h | ⟨h, n⟩
    · exact a.B c h
    · refine .inr ⟨?_, hr c n⟩
      cases q : H c with
      | none => rfl
      | some o =>
        rw [(a.keep c o q (hr c n)).1] at h
        cases h
  · obtain ⟨h1, n1⟩ := a.keep c o h n
    exact b.keep c o h1 n1
theorem CellOk.obj {K : PySem.W.Frag} {H : Hp} {W : Wd} {a : Addr} {c : Cell} (h : CellOk K H W a c) : ∃ o, H a = some o ∧ Mut (some o) := by
  cases c with
  | lst ds => obtain ⟨xs, h, _⟩ := h; exact ⟨_, h, trivial⟩
  | dct ks vs => obtain ⟨xs, h, _⟩ := h; exact ⟨_, h, trivial⟩
  | ins c fs => obtain ⟨dx, xs, h, _⟩ := h; exact ⟨_, h, trivial⟩
section
variable {K : PySem.W.Frag} {H H' : Hp} {W W' : Wd} {st : St}
theorem Sim.at (S : Sim K H W st) {a : Addr} (ha : a ∈ W.rho) : ∃ (i : Nat) (c : Cell), W.rho[i]? = some a ∧ st[i]? = some c ∧ CellOk K H W a c := by
  obtain ⟨i, hi, e⟩ := List.getElem_of_mem ha
  have h1 : W.rho[i]? = some a := by rw [List.getElem?_eq_getElem hi, e]
  have hi2 : i < st.length := by rw [← S.len]; exact hi
  have h2 : st[i]? = some (st[i]) := List.getElem?_eq_getElem hi2
  exact ⟨i, _, h1, h2, S.cell i a _ h1 h2⟩
theorem Sim.obj (S : Sim K H W st) {a : Addr} (ha : a ∈ W.rho) : ∃ o, H a = some o ∧ Mut (some o) := by
  obtain ⟨_, _, _, _, h⟩ := S.at ha
  exact h.obj
/-- what may not be written is no cell -/
theorem Sim.notin (S : Sim K H W st) {a : Addr} {o : HO} (h : H a = some o) (hm : ¬ Mut (some o)) : a ∉ W.rho := fun ha => by
  obtain ⟨o', h', m⟩ := S.obj ha
  rw [h] at h'; cases h'
  exact hm m
theorem Sim.fresh (S : Sim K H W st) {a : Addr} (h : H a = none) : a ∉ W.rho := fun ha => by
  obtain ⟨o', h', m⟩ := S.obj ha
  rw [h] at h'; cases h'
theorem Sim.freshB (S : Sim K H W st) {a : Addr} (h : H a = none) : a ∉ W.B := fun ha => by
  obtain ⟨o', h'⟩ := S.bt a ha
  rw [h] at h'; cases h'
theorem Rd.step (S : Sim K H W st) (T : Step H W H' W') {a : Addr} {u : HO} (h : Rd H a u) (hn : a ∉ W.rho) : Rd H' a u := by
  rcases h with h | ⟨o, h⟩
  · exact .inl (T.keep _ _ h hn).1
  · exact .inr ⟨o, (T.keep _ _ h hn).1⟩
theorem Tp.step (S : Sim K H W st) (T : Step H W H' W') {a : Addr} {xs : List V} (h : Tp K H a xs) : Tp K H' a xs := by
  rcases h with ⟨o, h, d⟩ | h
  · exact .inl ⟨o, (T.keep _ _ h (S.notin h (fun z => z))).1, d⟩
  · exact .inr h
theorem Step.rho (T : Step H W H' W') {n : Nat} {a : Addr} (h : W.rho[n]? = some a) : W'.rho[n]? = some a := by
  obtain ⟨m, e⟩ := T.pre
  rw [e, List.getElem?_append_left (List.getElem?_eq_some_iff.mp h).1]
  exact h
mutual
theorem Rep.step (S : Sim K H W st) (T : Step H W H' W') : ∀ {v : V} (d : D), Rep K H W v d → Rep K H' W' v d
  | _, .non, .non => .non
  | _, .bl b, .bl _ => .bl b
  | _, .int i, .int _ => .int i
  | _, .str x, .str _ => .str x
  | _, .tup ds, .tup h r => .tup (Tp.step S T h) (Reps.step S T ds r)
  | _, .lst ds, .lst h n1 n2 r => .lst (T.keep _ _ h n1).1 (T.keep _ _ h n1).2 (fun z => by
      rcases T.B _ z with z | ⟨z, _⟩
      · exact n2 z
      · rw [h] at z; cases z) (Reps.step S T ds r)
  | _, .dct ks vs, .dct h n1 n2 r1 r2 => .dct (Rd.step S T h n1) (by
      rcases h with h | ⟨o, h⟩
      · exact (T.keep _ _ h n1).2
      · exact (T.keep _ _ h n1).2) (fun z => by
      rcases T.B _ z with z | ⟨z, _⟩
      · exact n2 z
      · rcases h with h | ⟨o, h⟩
        · rw [h] at z; cases z
        · rw [h] at z; cases z) (Reps.step S T ks r1) (Reps.step S T vs r2)
  | _, .frz ns, .frz h => .frz (by
      rcases h with ⟨o, h⟩ | h
      · exact .inl ⟨o, (T.keep _ _ h (S.notin h (fun z => z))).1⟩
      · exact .inr h)
  | _, .ref n, .ref h => .ref (T.rho h)
theorem Reps.step (S : Sim K H W st) (T : Step H W H' W') : ∀ {vs : List V} (ds : List D), Reps K H W vs ds → Reps K H' W' vs ds
  | _, [], .nil => .nil
  | _, d :: ds, .cons h r => .cons (Rep.step S T d h) (Reps.step S T ds r)
end
theorem CellOk.step (S : Sim K H W st) (T : Step H W H' W') {a : Addr} {c : Cell} (e : H' a = H a) (h : CellOk K H W a c) : CellOk K H' W' a c := by
  cases c with
  | lst ds => obtain ⟨xs, h, r⟩ := h; exact ⟨xs, e.trans h, r.step S T⟩
  | dct ks vs => obtain ⟨xs, h, r, r2⟩ := h; exact ⟨xs, e.trans h, r.step S T, r2.step S T⟩
  | ins c fs => obtain ⟨dx, xs, h, q, r⟩ := h; exact ⟨dx, xs, e.trans h, q, r.step S T⟩

/-! ### the ways that a state goes on -/
/-- an object that no cell is -/
theorem Step.temp (S : Sim K H W st) {p : Addr} {o : HO} (h : H p = none) : Step H W (upd H p o) W :=
  ⟨⟨[], by simp⟩, fun _ h => .inl h, fun _ h => h, fun a u e n => ⟨by rw [upd_ne (ne_of_none e h)]; exact e, n⟩⟩
theorem Sim.temp (S : Sim K H W st) {p : Addr} {o : HO} (h : H p = none) : Sim K (upd H p o) W st := by
  refine ⟨S.len, S.nd, fun a ha => ?_, S.dis, fun i a c h1 h2 => ?_⟩
  · obtain ⟨u, e⟩ := S.bt a ha
    exact ⟨u, by rw [upd_ne (ne_of_none e h)]; exact e⟩
  · have q := S.cell i a c h1 h2
    obtain ⟨u, e, _⟩ := q.obj
    exact q.step S (Step.temp S h) (by rw [upd_ne (ne_of_none e h)])
/-- a new cell -/
theorem Step.cell (S : Sim K H W st) {p : Addr} {o : HO} (h : H p = none) : Step H W (upd H p o) ⟨W.rho ++ [p], W.B⟩ := by
  refine ⟨⟨[p], rfl⟩, fun _ h => .inl h, fun _ h => h, fun a u e n => ⟨by rw [upd_ne (ne_of_none e h)]; exact e, fun hm => ?_⟩⟩
  rcases List.mem_append.mp hm with z | z
  · exact n z
  · exact ne_of_none e h (by simpa using z)
theorem Sim.newcell (S : Sim K H W st) {p : Addr} {o : HO} {c : Cell} (h : H p = none) (hc : CellOk K (upd H p o) ⟨W.rho ++ [p], W.B⟩ p c) : Sim K (upd H p o) ⟨W.rho ++ [p], W.B⟩ (st ++ [c]) := by
  have hf := S.fresh h
  refine ⟨by simp [S.len], ?_, fun a ha => ?_, fun a ha => ?_, fun i a c' h1 h2 => ?_⟩
  · show (W.rho ++ [p]).Nodup
    rw [List.nodup_append]
    refine ⟨S.nd, by simp, fun a ha b hb => ?_⟩
    have e : b = p := by simpa using hb
    subst e
    intro z; subst z; exact hf ha
  · obtain ⟨u, e⟩ := S.bt a ha
    exact ⟨u, by rw [upd_ne (ne_of_none e h)]; exact e⟩
  · rcases List.mem_append.mp ha with z | z
    · exact S.dis a z
    · have e : a = p := by simpa using z
      subst e
      exact S.freshB h
  · by_cases hi : i < W.rho.length
    · have h1' : W.rho[i]? = some a := by
        have : (W.rho ++ [p])[i]? = some a := h1
        rw [List.getElem?_append_left hi] at this; exact this
      have h2' : st[i]? = some c' := by rw [List.getElem?_append_left (by rw [← S.len]; exact hi)] at h2; exact h2
      have q := S.cell i a c' h1' h2'
      obtain ⟨u, e, _⟩ := q.obj
      exact q.step S (Step.cell S h) (by rw [upd_ne (ne_of_none e h)])
    · have hi2 : i = W.rho.length := by
        have := (List.getElem?_eq_some_iff.mp h1).1
        simp at this; omega
      subst hi2
      have e1 : p = a := by
        have : (W.rho ++ [p])[W.rho.length]? = some a := h1
        simpa using this
      have e2 : c = c' := by rw [S.len] at h2; simpa using h2
      subst e1 e2
      exact hc
/-- a cell written -/
theorem Step.write (S : Sim K H W st) {i : Nat} {a : Addr} {o : HO} (h : W.rho[i]? = some a) : Step H W (upd H a o) W :=
  ⟨⟨[], by simp⟩, fun _ h => .inl h, fun _ h => h, fun b u e n => ⟨by
    have hne : b ≠ a := fun z => n (by rw [z]; exact List.mem_of_getElem? h)
    rw [upd_ne hne]; exact e, n⟩⟩
theorem Sim.write (S : Sim K H W st) {i : Nat} {a : Addr} {o : HO} {c : Cell} (h : W.rho[i]? = some a) (hc : CellOk K (upd H a o) W a c) : Sim K (upd H a o) W (st.set i c) := by
  refine ⟨by simp [S.len], S.nd, fun b hb => ?_, S.dis, fun j b c' h1 h2 => ?_⟩
  · obtain ⟨u, e⟩ := S.bt b hb
    refine ⟨u, ?_⟩
    have hne : b ≠ a := fun z => S.dis a (List.mem_of_getElem? h) (by rw [← z]; exact hb)
    rw [upd_ne hne]; exact e
  · by_cases hj : j = i
    · subst hj
      have e1 : a = b := by rw [h] at h1; exact Option.some.inj h1
      subst e1
      rw [List.getElem?_set_self (by rw [← S.len]; exact (List.getElem?_eq_some_iff.mp h).1)] at h2
      cases h2
      exact hc
    · rw [List.getElem?_set_ne (Ne.symm hj)] at h2
      have q := S.cell j b c' h1 h2
      refine q.step S (Step.write S h) ?_
      rw [upd_ne (fun z => hj ?_)]
      subst z
      obtain ⟨l1, e1⟩ := List.getElem?_eq_some_iff.mp h
      obtain ⟨l2, e2⟩ := List.getElem?_eq_some_iff.mp h1
      exact (List.getElem_inj S.nd).mp (e2.trans e1.symm)
/-- a new object that the machine is at work on -/
theorem Step.busy (S : Sim K H W st) {p : Addr} {o : HO} (h : H p = none) : Step H W (upd H p o) ⟨W.rho, p :: W.B⟩ :=
  ⟨⟨[], by simp⟩, fun a ha => by
    rcases List.mem_cons.mp ha with z | z
    · subst z; exact .inr ⟨h, S.fresh h⟩
    · exact .inl z, fun a ha => List.mem_cons_of_mem _ ha, fun a u e n => ⟨by rw [upd_ne (ne_of_none e h)]; exact e, n⟩⟩
theorem Sim.busy (S : Sim K H W st) {p : Addr} {o : HO} (h : H p = none) : Sim K (upd H p o) ⟨W.rho, p :: W.B⟩ st := by
  refine ⟨S.len, S.nd, fun a ha => ?_, fun a ha hb => ?_, fun i a c h1 h2 => ?_⟩
  · rcases List.mem_cons.mp ha with z | z
    · subst z; exact ⟨o, upd_same⟩
    · obtain ⟨u, e⟩ := S.bt a z
      exact ⟨u, by rw [upd_ne (ne_of_none e h)]; exact e⟩
  · rcases List.mem_cons.mp hb with z | z
    · subst z; exact S.fresh h ha
    · exact S.dis a ha z
  · have q := S.cell i a c h1 h2
    obtain ⟨u, e, _⟩ := q.obj
    exact q.step S (Step.busy S h) (by rw [upd_ne (ne_of_none e h)])
mutual
/-- fewer that are busy -/
theorem Rep.unB {rho B B' : List Addr} (hb : ∀ a ∈ B', a ∈ B) : ∀ {v : V} (d : D), Rep K H ⟨rho, B⟩ v d → Rep K H ⟨rho, B'⟩ v d
  | _, .non, .non => .non
  | _, .bl b, .bl _ => .bl b
  | _, .int i, .int _ => .int i
  | _, .str x, .str _ => .str x
  | _, .tup ds, .tup h r => .tup h (Reps.unB hb ds r)
  | _, .lst ds, .lst h n1 n2 r => .lst h n1 (fun z => n2 (hb _ z)) (Reps.unB hb ds r)
  | _, .dct ks vs, .dct h n1 n2 r1 r2 => .dct h n1 (fun z => n2 (hb _ z)) (Reps.unB hb ks r1) (Reps.unB hb vs r2)
  | _, .frz ns, .frz h => .frz h
  | _, .ref n, .ref h => .ref h
theorem Reps.unB {rho B B' : List Addr} (hb : ∀ a ∈ B', a ∈ B) : ∀ {vs : List V} (ds : List D), Reps K H ⟨rho, B⟩ vs ds → Reps K H ⟨rho, B'⟩ vs ds
  | _, [], .nil => .nil
  | _, d :: ds, .cons h r => .cons (Rep.unB hb d h) (Reps.unB hb ds r)
end
theorem Sim.unB {rho B B' : List Addr} (hb : ∀ a ∈ B', a ∈ B) (S : Sim K H ⟨rho, B⟩ st) : Sim K H ⟨rho, B'⟩ st := by
  refine ⟨S.len, S.nd, fun a ha => S.bt a (hb a ha), fun a ha hb' => S.dis a ha (hb a hb'), fun i a c h1 h2 => ?_⟩
  have q := S.cell i a c h1 h2
  cases c with
  | lst ds => obtain ⟨xs, h, r⟩ := q; exact ⟨xs, h, r.unB hb⟩
  | dct ks vs => obtain ⟨xs, h, r, r2⟩ := q; exact ⟨xs, h, r.unB hb, r2.unB hb⟩
  | ins c fs => obtain ⟨dx, xs, h, q, r⟩ := q; exact ⟨dx, xs, h, q, r.unB hb⟩
mutual
/-- what is busy is changed -/
theorem Rep.wr {p : Addr} {o u : HO} (hp : p ∈ W.B) (e : H p = some u) (hf : ∀ ob x, u ≠ .frz ob x) : ∀ {v : V} (d : D), Rep K H W v d → Rep K (upd H p o) W v d
  | _, .non, .non => .non
  | _, .bl b, .bl _ => .bl b
  | _, .int i, .int _ => .int i
  | _, .str x, .str _ => .str x
  | _, .tup ds, .tup h r => .tup (by
      rcases h with ⟨ob, h, hd⟩ | h
      · exact .inl ⟨ob, by rw [upd_ne (fun z => by subst z; rw [e] at h; cases h; exact hf _ _ rfl)]; exact h, hd⟩
      · exact .inr h) (Reps.wr hp e hf ds r)
  | _, .lst ds, .lst h n1 n2 r => .lst (by rw [upd_ne (fun z => n2 (by rw [z]; exact hp))]; exact h) n1 n2 (Reps.wr hp e hf ds r)
  | _, .dct ks vs, .dct h n1 n2 r1 r2 => .dct (by
      rcases h with h | ⟨ob, h⟩
      · exact .inl (by rw [upd_ne (fun z => n2 (by rw [z]; exact hp))]; exact h)
      · exact .inr ⟨ob, by rw [upd_ne (fun z => n2 (by rw [z]; exact hp))]; exact h⟩) n1 n2 (Reps.wr hp e hf ks r1) (Reps.wr hp e hf vs r2)
  | _, .frz ns, .frz h => .frz (by
      rcases h with ⟨ob, h⟩ | h
      · exact .inl ⟨ob, by rw [upd_ne (fun z => by subst z; rw [e] at h; cases h; exact hf _ _ rfl)]; exact h⟩
      · exact .inr h)
  | _, .ref n, .ref h => .ref h
theorem Reps.wr {p : Addr} {o u : HO} (hp : p ∈ W.B) (e : H p = some u) (hf : ∀ ob x, u ≠ .frz ob x) : ∀ {vs : List V} (ds : List D), Reps K H W vs ds → Reps K (upd H p o) W vs ds
  | _, [], .nil => .nil
  | _, d :: ds, .cons h r => .cons (Rep.wr hp e hf d h) (Reps.wr hp e hf ds r)
end
theorem Sim.wr (S : Sim K H W st) {p : Addr} {o u : HO} (hp : p ∈ W.B) (e : H p = some u) (hf : ∀ ob x, u ≠ .frz ob x) : Sim K (upd H p o) W st := by
  refine ⟨S.len, S.nd, fun a ha => ?_, S.dis, fun i a c h1 h2 => ?_⟩
  · by_cases h : a = p
    · subst h; exact ⟨o, upd_same⟩
    · obtain ⟨v, q⟩ := S.bt a ha
      exact ⟨v, by rw [upd_ne h]; exact q⟩
  · have q := S.cell i a c h1 h2
    have hne : a ≠ p := fun z => S.dis a (List.mem_of_getElem? h1) (by rw [z]; exact hp)
    cases c with
    | lst ds => obtain ⟨xs, h, r⟩ := q; exact ⟨xs, by rw [upd_ne hne]; exact h, r.wr hp e hf⟩
    | dct ks vs => obtain ⟨xs, h, r, r2⟩ := q; exact ⟨xs, by rw [upd_ne hne]; exact h, r.wr hp e hf, r2.wr hp e hf⟩
    | ins c fs => obtain ⟨dx, xs, h, q, r⟩ := q; exact ⟨dx, xs, by rw [upd_ne hne]; exact h, q, r.wr hp e hf⟩
end

/-! ### lists of values -/
section
variable {K : PySem.W.Frag} {H : Hp} {W : Wd}
theorem Reps.length : ∀ {vs : List V} {ds : List D}, Reps K H W vs ds → vs.length = ds.length
  | _, _, .nil => rfl
  | _, _, .cons _ r => by simp [Reps.length r]
theorem Reps.get : ∀ {vs : List V} {ds : List D} {i : Nat} {d : D}, Reps K H W vs ds → ds[i]? = some d → ∃ v, vs[i]? = some v ∧ Rep K H W v d
  | _, _, _, _, .nil, e => by simp at e
  | _, _, 0, _, .cons h _, e => by simp at e; subst e; exact ⟨_, rfl, h⟩
  | _, _, i + 1, d, .cons _ r, e => by
    obtain ⟨v, h1, h2⟩ := Reps.get (i := i) (d := d) r (by simpa using e)
    exact ⟨v, by simpa using h1, h2⟩
theorem Reps.getV : ∀ {vs : List V} {ds : List D} {i : Nat} {v : V}, Reps K H W vs ds → vs[i]? = some v → ∃ d, ds[i]? = some d ∧ Rep K H W v d
  | _, _, _, _, .nil, e => by simp at e
  | _, _, 0, _, .cons h _, e => by simp at e; subst e; exact ⟨_, rfl, h⟩
  | _, _, i + 1, d, .cons _ r, e => by
    obtain ⟨v, h1, h2⟩ := Reps.getV (i := i) (v := d) r (by simpa using e)
    exact ⟨v, by simpa using h1, h2⟩
theorem Reps.append : ∀ {vs us : List V} {ds es : List D}, Reps K H W vs ds → Reps K H W us es → Reps K H W (vs ++ us) (ds ++ es)
  | _, _, _, _, .nil, s => s
  | _, _, _, _, .cons h r, s => .cons h (Reps.append r s)
theorem Reps.take : ∀ {vs : List V} {ds : List D} (n : Nat), Reps K H W vs ds → Reps K H W (vs.take n) (ds.take n)
  | _, _, 0, _ => .nil
  | _, _, _ + 1, .nil => .nil
  | _, _, n + 1, .cons h r => .cons h (Reps.take n r)
theorem Reps.drop : ∀ {vs : List V} {ds : List D} (n : Nat), Reps K H W vs ds → Reps K H W (vs.drop n) (ds.drop n)
  | _, _, 0, r => r
  | _, _, _ + 1, .nil => .nil
  | _, _, n + 1, .cons _ r => Reps.drop n r
theorem Reps.reverse : ∀ {vs : List V} {ds : List D}, Reps K H W vs ds → Reps K H W vs.reverse ds.reverse
  | _, _, .nil => .nil
  | _, _, .cons h r => by
    rw [List.reverse_cons, List.reverse_cons]
    exact (Reps.reverse r).append (.cons h .nil)
theorem Reps.set {v : V} {d : D} (h : Rep K H W v d) : ∀ {vs : List V} {ds : List D} (i : Nat), Reps K H W vs ds → Reps K H W (vs.set i v) (ds.set i d)
  | _, _, _, .nil => .nil
  | _, _, 0, .cons _ r => .cons h r
  | _, _, i + 1, .cons q r => .cons q (Reps.set h i r)
theorem Reps.replicate {vs : List V} {ds : List D} (h : Reps K H W vs ds) : ∀ n, Reps K H W (List.replicate n vs).flatten (List.replicate n ds).flatten
  | 0 => by simpa using Reps.nil
  | n + 1 => by
    rw [List.replicate_succ, List.replicate_succ, List.flatten_cons, List.flatten_cons]
    exact h.append (Reps.replicate h n)
theorem Reps.asInts : ∀ {vs : List V} {ds : List D} {ns : List Int}, Reps K H W vs ds → asInts ds = some ns → vs = ns.map V.int
  | _, _, _, .nil, e => by cases e; rfl
  | _, d :: ds, ns, .cons h r, e => by
    cases h with
    | int i =>
      unfold RP.asInts at e
      obtain ⟨ms, e1, rfl⟩ := Option.map_eq_some_iff.mp e
      rw [Reps.asInts r e1]; rfl
    | _ => cases e
theorem Reps.asBools : ∀ {vs : List V} {ds : List D} {ns : List Bool}, Reps K H W vs ds → asBools ds = some ns → vs = ns.map V.bl
  | _, _, _, .nil, e => by cases e; rfl
  | _, d :: ds, ns, .cons h r, e => by
    cases h with
    | bl i =>
      unfold RP.asBools at e
      obtain ⟨ms, e1, rfl⟩ := Option.map_eq_some_iff.mp e
      rw [Reps.asBools r e1]; rfl
    | _ => cases e
theorem Reps.asStrs : ∀ {vs : List V} {ds : List D} {ns : List Str}, Reps K H W vs ds → asStrs ds = some ns → vs = ns.map V.str
  | _, _, _, .nil, e => by cases e; rfl
  | _, d :: ds, ns, .cons h r, e => by
    cases h with
    | str i =>
      unfold RP.asStrs at e
      obtain ⟨ms, e1, rfl⟩ := Option.map_eq_some_iff.mp e
      rw [Reps.asStrs r e1]; rfl
    | _ => cases e
end
/-- what see sees -/
inductive Saw (K : PySem.W.Frag) (H : Hp) (W : Wd) : V → D → Prop
  | lst {a : Addr} {xs : List V} {ds : List D} : H a = some (.lst xs) → Reps K H W xs ds → Saw K H W (.ref a) (.lst ds)
  | dct {a : Addr} {kvs : List (Key × V)} {ks vs : List D} : Rd H a (.dK kvs) → Reps K H W (kvs.map fun kv => kV kv.1) ks → Reps K H W (kvs.map (·.2)) vs → Saw K H W (.ref a) (.dct ks vs)
  | rep {v : V} {d : D} : Rep K H W v d → (∀ xs, d ≠ .lst xs) → (∀ ks vs, d ≠ .dct ks vs) → Saw K H W v d
theorem Rep.saw {K : PySem.W.Frag} {H : Hp} {W : Wd} {st : St} (S : Sim K H W st) {v : V} {d : D} (h : Rep K H W v d) : Saw K H W v (see st d) := by
  cases h with
  | lst h n1 n2 r => exact .lst h r
  | dct h n1 n2 r r2 => exact .dct h r r2
  | ref hn =>
    rename_i a n
    cases e : st[n]? with
    | none =>
      have q : see st (.ref n) = .ref n := by simp only [see, e]
      rw [q]
      exact .rep (.ref hn) (fun _ z => nomatch z) (fun _ _ z => nomatch z)
    | some c =>
      have q := S.cell n a c hn e
      cases c with
      | lst ds =>
        obtain ⟨xs, h, r⟩ := q
        have q : see st (.ref n) = .lst ds := by simp only [see, e]
        rw [q]
        exact .lst h r
      | dct ks vs =>
        obtain ⟨kvs, h, r, r2⟩ := q
        have q : see st (.ref n) = .dct ks vs := by simp only [see, e]
        rw [q]
        exact .dct (.inl h) r r2
      | ins c fs =>
        have q : see st (.ref n) = .ref n := by simp only [see, e]
        rw [q]
        exact .rep (.ref hn) (fun _ z => nomatch z) (fun _ _ z => nomatch z)
  | non => exact .rep .non (fun _ z => nomatch z) (fun _ _ z => nomatch z)
  | bl b => exact .rep (.bl b) (fun _ z => nomatch z) (fun _ _ z => nomatch z)
  | int b => exact .rep (.int b) (fun _ z => nomatch z) (fun _ _ z => nomatch z)
  | str b => exact .rep (.str b) (fun _ z => nomatch z) (fun _ _ z => nomatch z)
  | tup h r => exact .rep (.tup h r) (fun _ z => nomatch z) (fun _ _ z => nomatch z)
  | frz h => exact .rep (.frz h) (fun _ z => nomatch z) (fun _ _ z => nomatch z)
end RP
end
section
set_option Elab.async false
set_option linter.all false
set_option maxRecDepth 100000
/-! Equality of plain data; operators by values. -/
namespace RP
open PySem L2 PySem.SeqAt

mutual
inductive Pl (K : PySem.W.Frag) (H : Hp) : V → D → Prop
  | non : Pl K H .non .non
  | bl (b : Bool) : Pl K H (.bl b) (.bl b)
  | int (i : Int) : Pl K H (.int i) (.int i)
  | str (x : Str) : Pl K H (.str x) (.str x)
  | tup {a : Addr} {xs : List V} {ds : List D} : SqT K H a xs → Pls K H xs ds → Pl K H (.ref a) (.tup ds)
  | lst {a : Addr} {xs : List V} {ds : List D} : H a = some (.lst xs) → Pls K H xs ds → Pl K H (.ref a) (.lst ds)
inductive Pls (K : PySem.W.Frag) (H : Hp) : List V → List D → Prop
  | nil : Pls K H [] []
  | cons {v : V} {vs : List V} {d : D} {ds : List D} : Pl K H v d → Pls K H vs ds → Pls K H (v :: vs) (d :: ds)
end
section
variable {K : PySem.W.Frag} {H : Hp} {W : Wd}
mutual
theorem Rep.pl : ∀ {v : V} (d : D), Rep K H W v d → pln d = true → Pl K H v d
  | _, .non, .non, _ => .non
  | _, .bl b, .bl _, _ => .bl b
  | _, .int b, .int _, _ => .int b
  | _, .str b, .str _, _ => .str b
  | _, .tup ds, .tup h r, e => .tup h.sq (Reps.pl ds r (by simpa [pln] using e))
  | _, .lst ds, .lst h _ _ r, e => .lst h (Reps.pl ds r (by simpa [pln] using e))
  | _, .dct _ _, _, e => by simp [pln] at e
  | _, .set _, _, e => by simp [pln] at e
  | _, .frz _, _, e => by simp [pln] at e
  | _, .ref _, _, e => by simp [pln] at e
theorem Reps.pl : ∀ {vs : List V} (ds : List D), Reps K H W vs ds → plns ds = true → Pls K H vs ds
  | _, [], .nil, _ => .nil
  | _, d :: ds, .cons h r, e => by
    have e' : pln d = true ∧ plns ds = true := by simpa [plns] using e
    exact .cons (Rep.pl d h e'.1) (Reps.pl ds r e'.2)
end
theorem Saw.pl {v : V} {d : D} (h : Saw K H W v d) (e : pln d = true) : Pl K H v d := by
  cases h with
  | lst h r => exact .lst h (r.pl _ (by simpa [pln] using e))
  | dct h r r2 => simp [pln] at e
  | rep h _ _ => exact h.pl _ e
theorem Pls.length : ∀ {vs : List V} {ds : List D}, Pls K H vs ds → vs.length = ds.length
  | _, _, .nil => rfl
  | _, _, .cons _ r => by simp [Pls.length r]
mutual
theorem eqD_refl : ∀ d : D, pln d = true → eqD d d = true
  | .non, _ => by simp [eqD]
  | .bl _, _ => by simp [eqD]
  | .int _, _ => by simp [eqD]
  | .str _, _ => by simp [eqD]
  | .tup xs, h => by simpa [eqD] using eqDs_refl xs (by simpa [pln] using h)
  | .lst xs, h => by simpa [eqD] using eqDs_refl xs (by simpa [pln] using h)
  | .dct _ _, e => by simp [pln] at e
  | .set _, e => by simp [pln] at e
  | .frz _, e => by simp [pln] at e
  | .ref _, e => by simp [pln] at e
theorem eqDs_refl : ∀ ds : List D, plns ds = true → eqDs ds ds = true
  | [], _ => by simp [eqDs]
  | d :: ds, h => by
    have e' : pln d = true ∧ plns ds = true := by simpa [plns] using h
    simp [eqDs, eqD_refl d e'.1, eqDs_refl ds e'.2]
end
mutual
theorem Pl.plain : ∀ {v : V} (d : D), Pl K H v d → pln d = true
  | _, .non, _ => rfl
  | _, .bl b, _ => rfl
  | _, .int b, _ => rfl
  | _, .str b, _ => rfl
  | _, .tup ds, .tup h r => by simpa [pln] using Pls.plain ds r
  | _, .lst ds, .lst h r => by simpa [pln] using Pls.plain ds r
theorem Pls.plain : ∀ {vs : List V} (ds : List D), Pls K H vs ds → plns ds = true
  | _, [], .nil => rfl
  | _, d :: ds, .cons h r => by simp [plns, Pl.plain d h, Pls.plain ds r]
end
end
section
variable {X : Cx} {pins : List (Addr × Obj)} {σ : L2.St} {H : Hp} {s : Shared}
theorem lt_ne (I : Inv X pins σ H s) {a : Addr} {xs ys : List V} (h : H a = some (.lst xs)) (h' : SqT X.K H a ys) : False := by
  obtain ⟨its, _, hl, _⟩ := I.list (SqL.of h)
  obtain ⟨its', _, ht, _⟩ := I.tuple h'
  exact ne_of_list_tuple hl.isList ht rfl
mutual
theorem Pl.inj (I : Inv X pins σ H s) : ∀ {v : V} (d e : D), Pl X.K H v d → Pl X.K H v e → d = e
  | _, .non, _, .non, .non => rfl
  | _, .bl _, _, .bl _, .bl _ => rfl
  | _, .int _, _, .int _, .int _ => rfl
  | _, .str _, _, .str _, .str _ => rfl
  | _, .tup ds, _, .tup h r, .tup h' r' => by
    rw [I.tuple_inj h h'] at r
    rw [Pls.inj I _ _ r r']
  | _, .tup ds, _, .tup h r, .lst h' r' => (lt_ne I h' h).elim
  | _, .lst ds, _, .lst h r, .tup h' r' => (lt_ne I h h').elim
  | _, .lst ds, _, .lst h r, .lst h' r' => by
    rw [h] at h'; cases h'
    rw [Pls.inj I _ _ r r']
theorem Pls.inj (I : Inv X pins σ H s) : ∀ {vs : List V} (ds es : List D), Pls X.K H vs ds → Pls X.K H vs es → ds = es
  | _, [], _, .nil, h' => by cases h'; rfl
  | _, d :: ds, _, .cons h r, h' => by
    cases h' with
    | cons h' r' => rw [Pl.inj I d _ h h', Pls.inj I ds _ r r']
end
/-- the place-wise comparison of two lists of values -/
theorem eqDs_at : ∀ (xs ys : List D) , xs.length = ys.length → eqDs xs ys = (List.range xs.length).all fun i => match xs[i]?, ys[i]? with
    | some x, some y => eqD x y
    | _, _ => false
  | [], [], _ => by simp [eqDs]
  | [], _ :: _, h => by simp at h
  | _ :: _, [], h => by simp at h
  | x :: xs, y :: ys, h => by
    have ih := eqDs_at xs ys (by simpa using h)
    rw [eqDs, ih, List.length_cons, List.range_succ_eq_map, List.all_cons, List.all_map]
    rfl
theorem eqDs_len : ∀ (xs ys : List D), xs.length ≠ ys.length → eqDs xs ys = false
  | [], [], h => absurd rfl h
  | [], _ :: _, _ => by simp [eqDs]
  | _ :: _, [], _ => by simp [eqDs]
  | x :: xs, y :: ys, h => by simp [eqDs, eqDs_len xs ys (by simpa using h)]

theorem in1_units (A : Around) : A.in1.units = A.units + 1 := rfl
theorem deps_get : ∀ {xs : List D} {i : Nat} {x : D}, xs[i]? = some x → dep x ≤ deps xs
  | [], _, _, h => by simp at h
  | y :: ys, 0, x, h => by simp at h; subst h; rw [deps]; exact Nat.le_max_left _ _
  | y :: ys, i + 1, x, h => by rw [deps]; exact Nat.le_trans (deps_get (by simpa using h)) (Nat.le_max_right _ _)
theorem Pls.get {K : PySem.W.Frag} : ∀ {vs : List V} {ds : List D} {i : Nat} {v : V}, Pls K H vs ds → vs[i]? = some v → ∃ d, ds[i]? = some d ∧ Pl K H v d
  | _, _, _, _, .nil, e => by simp at e
  | _, _, 0, _, .cons h _, e => by simp at e; subst e; exact ⟨_, rfl, h⟩
  | _, _, i + 1, d, .cons _ r, e => by
    obtain ⟨v, h1, h2⟩ := Pls.get (i := i) (v := d) r (by simpa using e)
    exact ⟨v, by simpa using h1, h2⟩
theorem vals_getV {vs : List V} {us : List Value} (r : Vals vs us) {i : Nat} {u : Value} (h : us[i]? = some u) : ∃ v, vs[i]? = some v ∧ RelV v u := by
  have hl := r.length
  obtain ⟨hi, _⟩ := List.getElem?_eq_some_iff.mp h
  obtain ⟨u', e, q⟩ := r.get (List.getElem?_eq_getElem (show i < vs.length by omega))
  rw [h] at e; cases e
  exact ⟨_, List.getElem?_eq_getElem (show i < vs.length by omega), q⟩
/-- two sequences, item by item -/
theorem seq_all {xs ys : List V} {us ws : List Value} {ds es : List D} {A : Around} (r1 : Vals xs us) (r2 : Vals ys ws) (p1 : Pls X.K H xs ds) (p2 : Pls X.K H ys es)
    (ih : ∀ (x y : D) (v w : V) (u u' : Value), x ∈ ds → y ∈ es → Pl X.K H v x → Pl X.K H w y → RelV v u → RelV w u' → EqAt A s u u' (eqD x y)) :
    ∀ (j : Nat) (h1 : j < us.toArray.size) (h2 : j < ws.toArray.size), EqAt A s us.toArray[j] ws.toArray[j] (match ds[j]?, es[j]? with
    | some x, some y => eqD x y
    | _, _ => false) := by
  intro j h1 h2
  have h1' : j < us.length := by simpa using h1
  have h2' : j < ws.length := by simpa using h2
  obtain ⟨v, e1, q1⟩ := vals_getV r1 (List.getElem?_eq_getElem h1')
  obtain ⟨w, e2, q2⟩ := vals_getV r2 (List.getElem?_eq_getElem h2')
  obtain ⟨d, f1, g1⟩ := p1.get e1
  obtain ⟨d', f2, g2⟩ := p2.get e2
  rw [f1, f2]
  have := ih d d' v w _ _ (List.mem_of_getElem? f1) (List.mem_of_getElem? f2) g1 g2 q1 q2
  simpa using this
theorem plEq (I : Inv X pins σ H s) : ∀ (n : Nat) (A : Around) (x y : D) (v w : V) (u u' : Value), min (dep x) (dep y) ≤ n → A.units + n < cLine → Pl X.K H v x → Pl X.K H w y → RelV v u → RelV w u' → EqAt A s u u' (eqD x y) := by
  intro n
  induction n with
  | zero =>
    intro A x y v w u u' hd hu p q r r'
    have hu0 : A.units < cLine := by omega
    cases p with
    | non =>
      cases r
      cases q with
      | non => cases r'; simpa [eqD] using EqAt.same (A := A) (s := s) Value.none
      | bl b => cases r'; simpa [eqD] using EqAt.none_bool (A := A) (s := s) b
      | int b => obtain ⟨t, rfl⟩ := r'; simpa [eqD] using EqAt.none_int (A := A) (s := s) b t
      | str b => obtain ⟨t, rfl⟩ := r'; simpa [eqD] using EqAt.none_str (A := A) (s := s) b t
      | tup h _ => cases r'; obtain ⟨_, _, ht, _⟩ := I.tuple h; simpa [eqD] using EqAt.none_tuple (A := A) (s := s) ht hu0
      | lst h _ => cases r'; obtain ⟨_, _, ht, _⟩ := I.list (SqL.of h); simpa [eqD] using EqAt.none_list (A := A) (s := s) ht.isList hu0
    | bl a =>
      cases r
      cases q with
      | non => cases r'; simpa [eqD] using EqAt.bool_none (A := A) (s := s) a
      | bl b => cases r'; simpa [eqD] using EqAt.bool_bool (A := A) (s := s) a b
      | int b => obtain ⟨t, rfl⟩ := r'; simpa [eqD] using EqAt.bool_int (A := A) (s := s) a b t
      | str b => obtain ⟨t, rfl⟩ := r'; simpa [eqD] using EqAt.bool_str (A := A) (s := s) a b t
      | tup h _ => cases r'; obtain ⟨_, _, ht, _⟩ := I.tuple h; simpa [eqD] using EqAt.bool_tuple (A := A) (s := s) a ht hu0
      | lst h _ => cases r'; obtain ⟨_, _, ht, _⟩ := I.list (SqL.of h); simpa [eqD] using EqAt.bool_list (A := A) (s := s) a ht.isList hu0
    | int a =>
      obtain ⟨ta, rfl⟩ := r
      cases q with
      | non => cases r'; simpa [eqD] using EqAt.int_none (A := A) (s := s) a ta
      | bl b => cases r'; simpa [eqD] using EqAt.int_bool (A := A) (s := s) a ta b
      | int b => obtain ⟨t, rfl⟩ := r'; simpa [eqD] using EqAt.int_int (A := A) (s := s) a ta b t
      | str b => obtain ⟨t, rfl⟩ := r'; simpa [eqD] using EqAt.int_str (A := A) (s := s) a ta b t
      | tup h _ => cases r'; obtain ⟨_, _, ht, _⟩ := I.tuple h; simpa [eqD] using EqAt.int_tuple (A := A) (s := s) a ta ht hu0
      | lst h _ => cases r'; obtain ⟨_, _, ht, _⟩ := I.list (SqL.of h); simpa [eqD] using EqAt.int_list (A := A) (s := s) a ta ht.isList hu0
    | str a =>
      obtain ⟨ta, rfl⟩ := r
      cases q with
      | non => cases r'; simpa [eqD] using EqAt.str_none (A := A) (s := s) a ta
      | bl b => cases r'; simpa [eqD] using EqAt.str_bool (A := A) (s := s) a ta b
      | int b => obtain ⟨t, rfl⟩ := r'; simpa [eqD] using EqAt.str_int (A := A) (s := s) a ta b t
      | str b => obtain ⟨t, rfl⟩ := r'; simpa [eqD] using EqAt.str_str (A := A) (s := s) a ta b t
      | tup h _ => cases r'; obtain ⟨_, _, ht, _⟩ := I.tuple h; simpa [eqD] using EqAt.str_tuple (A := A) (s := s) a ta ht hu0
      | lst h _ => cases r'; obtain ⟨_, _, ht, _⟩ := I.list (SqL.of h); simpa [eqD] using EqAt.str_list (A := A) (s := s) a ta ht.isList hu0
    | tup h _ =>
      cases r
      obtain ⟨_, _, ht0, _⟩ := I.tuple h
      cases q with
      | non => cases r'; simpa [eqD] using EqAt.tuple_none (A := A) (s := s) ht0 hu0
      | bl b => cases r'; simpa [eqD] using EqAt.tuple_bool (A := A) (s := s) b ht0 hu0
      | int b => obtain ⟨t, rfl⟩ := r'; simpa [eqD] using EqAt.tuple_int (A := A) (s := s) b t ht0 hu0
      | str b => obtain ⟨t, rfl⟩ := r'; simpa [eqD] using EqAt.tuple_str (A := A) (s := s) b t ht0 hu0
      | tup h _ => simp [dep] at hd
      | lst h _ => simp [dep] at hd
    | lst h _ =>
      cases r
      obtain ⟨_, _, ht0, _⟩ := I.list (SqL.of h)
      cases q with
      | non => cases r'; simpa [eqD] using EqAt.list_none (A := A) (s := s) ht0.isList hu0
      | bl b => cases r'; simpa [eqD] using EqAt.list_bool (A := A) (s := s) b ht0.isList hu0
      | int b => obtain ⟨t, rfl⟩ := r'; simpa [eqD] using EqAt.list_int (A := A) (s := s) b t ht0.isList hu0
      | str b => obtain ⟨t, rfl⟩ := r'; simpa [eqD] using EqAt.list_str (A := A) (s := s) b t ht0.isList hu0
      | tup h _ => simp [dep] at hd
      | lst h _ => simp [dep] at hd
  | succ n ih =>
    intro A x y v w u u' hd hu p q r r'
    have hu0 : A.units < cLine := by omega
    by_cases hz : min (dep x) (dep y) ≤ n
    · exact ih A x y v w u u' hz (by omega) p q r r'
    cases p with
    | tup h p1 =>
      rename_i a xs ds
      cases r
      cases q with
      | tup h' p2 =>
        rename_i b ys es
        cases r'
        by_cases hab : a = b
        · subst hab
          have e := Pl.inj I _ _ (.tup h p1) (.tup h' p2)
          rw [← e, eqD_refl _ (Pl.plain _ (.tup h p1))]
          exact EqAt.same _
        · obtain ⟨us, r1, t1, _⟩ := I.tuple h
          obtain ⟨ws, r2, t2, _⟩ := I.tuple h'
          have hA := seq_all (A := A.in1) (s := s) r1 r2 p1 p2 (fun x y v w u u' hx hy p q r r' => ih A.in1 x y v w u u' (by
            obtain ⟨i, hi⟩ := List.getElem?_of_mem hx
            obtain ⟨j, hj⟩ := List.getElem?_of_mem hy
            have h1 := deps_get hi
            have h2 := deps_get hj
            simp only [dep] at hd
            omega) (by rw [in1_units]; omega) p q r r')
          have R := RcAt.tuples (A := A) (s := s) t1 t2 hu0 hA
          refine EqAt.of_refs hab ?_
          have l1 := r1.length
          have l2 := r2.length
          have m1 := p1.length
          have m2 := p2.length
          rw [eqD]
          by_cases hl : ds.length = es.length
          · rw [eqDs_at _ _ hl]
            have e1 : us.toArray.size = ds.length := by simp; omega
            have e2 : ws.toArray.size = ds.length := by simp; omega
            rw [e1, e2] at R
            simpa using R
          · rw [eqDs_len _ _ hl]
            have e3 : (us.toArray.size == ws.toArray.size) = false := by
              rw [beq_eq_false_iff_ne]; simp; omega
            rw [e3] at R
            simpa using R
      | lst h' p2 =>
        cases r'
        obtain ⟨us, r1, t1, _⟩ := I.tuple h
        obtain ⟨ws, r2, t2, _⟩ := I.list (SqL.of h')
        simpa [eqD] using EqAt.tuple_list (A := A) (s := s) t1 t2.isList hu0
      | _ => simp [dep] at hz
    | lst h p1 =>
      rename_i a xs ds
      cases r
      cases q with
      | lst h' p2 =>
        rename_i b ys es
        cases r'
        by_cases hab : a = b
        · subst hab
          have e := Pl.inj I _ _ (.lst h p1) (.lst h' p2)
          rw [← e, eqD_refl _ (Pl.plain _ (.lst h p1))]
          exact EqAt.same _
        · obtain ⟨us, r1, t1, _⟩ := I.list (SqL.of h)
          obtain ⟨ws, r2, t2, _⟩ := I.list (SqL.of h')
          have hA := seq_all (A := A.in1) (s := s) r1 r2 p1 p2 (fun x y v w u u' hx hy p q r r' => ih A.in1 x y v w u u' (by
            obtain ⟨i, hi⟩ := List.getElem?_of_mem hx
            obtain ⟨j, hj⟩ := List.getElem?_of_mem hy
            have h1 := deps_get hi
            have h2 := deps_get hj
            simp only [dep] at hd
            omega) (by rw [in1_units]; omega) p q r r')
          refine EqAt.of_refs hab ?_
          have l1 := r1.length
          have l2 := r2.length
          have m1 := p1.length
          have m2 := p2.length
          rw [eqD]
          by_cases hl : ds.length = es.length
          · have R := RcAt.lists (A := A) (s := s) t1.isList t2.isList (by simp; omega) hu0 hA
            rw [eqDs_at _ _ hl]
            have e1 : us.toArray.size = ds.length := by simp; omega
            rw [e1] at R
            exact R
          · rw [eqDs_len _ _ hl]
            exact RcAt.lists_lengths (A := A) (s := s) t1.isList t2.isList (by simp; omega) hu0
      | tup h' p2 =>
        cases r'
        obtain ⟨us, r1, t1, _⟩ := I.list (SqL.of h)
        obtain ⟨ws, r2, t2, _⟩ := I.tuple h'
        simpa [eqD] using EqAt.list_tuple (A := A) (s := s) t1.isList t2 hu0
      | _ => simp [dep] at hz
    | _ => simp [dep] at hz
theorem plRc (I : Inv X pins σ H s) (A : Around) (x y : D) (v w : V) (u u' : Value) (hd : min (dep x) (dep y) ≤ 100) (hu : A.units + 101 < cLine) (p : Pl X.K H v x) (q : Pl X.K H w y) (r : RelV v u) (r' : RelV w u') : RcAt A s u u' (eqD x y) := by
  have hu0 : A.units < cLine := by omega
  cases p with
  | non =>
    cases r
    cases q with
    | non => cases r'; simpa [eqD] using RcAt.none_none (A := A) (s := s) 
    | bl b => cases r'; simpa [eqD] using RcAt.none_bool (A := A) (s := s) b
    | int b => obtain ⟨t, rfl⟩ := r'; simpa [eqD] using RcAt.none_int (A := A) (s := s) b t
    | str b => obtain ⟨t, rfl⟩ := r'; simpa [eqD] using RcAt.none_str (A := A) (s := s) b t
    | tup h' p2 =>
      rename_i lb ys es
      cases r'
      obtain ⟨ws, r2, t2, _⟩ := I.tuple h'
      simpa [eqD] using RcAt.none_tuple (A := A) (s := s) t2 hu0
    | lst h' p2 =>
      rename_i lb ys es
      cases r'
      obtain ⟨ws, r2, t2, _⟩ := I.list (SqL.of h')
      simpa [eqD] using RcAt.none_list (A := A) (s := s) t2.isList hu0
  | bl a =>
    cases r
    cases q with
    | non => cases r'; simpa [eqD] using RcAt.bool_none (A := A) (s := s) a
    | bl b => cases r'; simpa [eqD] using RcAt.bool_bool (A := A) (s := s) a b
    | int b => obtain ⟨t, rfl⟩ := r'; simpa [eqD] using RcAt.bool_int (A := A) (s := s) a b t
    | str b => obtain ⟨t, rfl⟩ := r'; simpa [eqD] using RcAt.bool_str (A := A) (s := s) a b t
    | tup h' p2 =>
      rename_i lb ys es
      cases r'
      obtain ⟨ws, r2, t2, _⟩ := I.tuple h'
      simpa [eqD] using RcAt.bool_tuple (A := A) (s := s) a t2 hu0
    | lst h' p2 =>
      rename_i lb ys es
      cases r'
      obtain ⟨ws, r2, t2, _⟩ := I.list (SqL.of h')
      simpa [eqD] using RcAt.bool_list (A := A) (s := s) a t2.isList hu0
  | int a =>
    obtain ⟨ta, rfl⟩ := r
    cases q with
    | non => cases r'; simpa [eqD] using RcAt.int_none (A := A) (s := s) a ta
    | bl b => cases r'; simpa [eqD] using RcAt.int_bool (A := A) (s := s) a ta b
    | int b => obtain ⟨t, rfl⟩ := r'; simpa [eqD] using RcAt.int_int (A := A) (s := s) a ta b t
    | str b => obtain ⟨t, rfl⟩ := r'; simpa [eqD] using RcAt.int_str (A := A) (s := s) a ta b t
    | tup h' p2 =>
      rename_i lb ys es
      cases r'
      obtain ⟨ws, r2, t2, _⟩ := I.tuple h'
      simpa [eqD] using RcAt.int_tuple (A := A) (s := s) a ta t2 hu0
    | lst h' p2 =>
      rename_i lb ys es
      cases r'
      obtain ⟨ws, r2, t2, _⟩ := I.list (SqL.of h')
      simpa [eqD] using RcAt.int_list (A := A) (s := s) a ta t2.isList hu0
  | str a =>
    obtain ⟨ta, rfl⟩ := r
    cases q with
    | non => cases r'; simpa [eqD] using RcAt.str_none (A := A) (s := s) a ta
    | bl b => cases r'; simpa [eqD] using RcAt.str_bool (A := A) (s := s) a ta b
    | int b => obtain ⟨t, rfl⟩ := r'; simpa [eqD] using RcAt.str_int (A := A) (s := s) a ta b t
    | str b => obtain ⟨t, rfl⟩ := r'; simpa [eqD] using RcAt.str_str (A := A) (s := s) a ta b t
    | tup h' p2 =>
      rename_i lb ys es
      cases r'
      obtain ⟨ws, r2, t2, _⟩ := I.tuple h'
      simpa [eqD] using RcAt.str_tuple (A := A) (s := s) a ta t2 hu0
    | lst h' p2 =>
      rename_i lb ys es
      cases r'
      obtain ⟨ws, r2, t2, _⟩ := I.list (SqL.of h')
      simpa [eqD] using RcAt.str_list (A := A) (s := s) a ta t2.isList hu0
  | tup h p1 =>
    rename_i la xs ds
    cases r
    obtain ⟨us, r1, t1, _⟩ := I.tuple h
    cases q with
    | non => cases r'; simpa [eqD] using RcAt.tuple_none (A := A) (s := s) t1 hu0
    | bl b => cases r'; simpa [eqD] using RcAt.tuple_bool (A := A) (s := s) b t1 hu0
    | int b => obtain ⟨t, rfl⟩ := r'; simpa [eqD] using RcAt.tuple_int (A := A) (s := s) b t t1 hu0
    | str b => obtain ⟨t, rfl⟩ := r'; simpa [eqD] using RcAt.tuple_str (A := A) (s := s) b t t1 hu0
    | tup h' p2 =>
      rename_i lb ys es
      cases r'
      obtain ⟨ws, r2, t2, _⟩ := I.tuple h'
      have hA := seq_all (A := A.in1) (s := s) r1 r2 p1 p2 (fun x y v w u u' hx hy p q r r' => plEq I 100 A.in1 x y v w u u' (by
        obtain ⟨i, hi⟩ := List.getElem?_of_mem hx
        obtain ⟨j, hj⟩ := List.getElem?_of_mem hy
        have h1 := deps_get hi
        have h2 := deps_get hj
        simp only [dep] at hd
        omega) (by rw [in1_units]; omega) p q r r')
      have l1 := r1.length
      have l2 := r2.length
      have m1 := p1.length
      have m2 := p2.length
      rw [eqD]
      by_cases hl : ds.length = es.length
      · have R := RcAt.tuples (A := A) (s := s) t1 t2 hu0 hA
        rw [eqDs_at _ _ hl]
        have e1 : us.toArray.size = ds.length := by simp; omega
        have e2 : ws.toArray.size = ds.length := by simp; omega
        rw [e1, e2] at R
        simpa using R
      · have R := RcAt.tuples (A := A) (s := s) t1 t2 hu0 hA
        rw [eqDs_len _ _ hl]
        have e3 : (us.toArray.size == ws.toArray.size) = false := by
          rw [beq_eq_false_iff_ne]; simp; omega
        rw [e3] at R
        simpa using R
    | lst h' p2 =>
      rename_i lb ys es
      cases r'
      obtain ⟨ws, r2, t2, _⟩ := I.list (SqL.of h')
      simpa [eqD] using RcAt.tuple_list (A := A) (s := s) t1 t2.isList hu0
  | lst h p1 =>
    rename_i la xs ds
    cases r
    obtain ⟨us, r1, t1, _⟩ := I.list (SqL.of h)
    cases q with
    | non => cases r'; simpa [eqD] using RcAt.list_none (A := A) (s := s) t1.isList hu0
    | bl b => cases r'; simpa [eqD] using RcAt.list_bool (A := A) (s := s) b t1.isList hu0
    | int b => obtain ⟨t, rfl⟩ := r'; simpa [eqD] using RcAt.list_int (A := A) (s := s) b t t1.isList hu0
    | str b => obtain ⟨t, rfl⟩ := r'; simpa [eqD] using RcAt.list_str (A := A) (s := s) b t t1.isList hu0
    | tup h' p2 =>
      rename_i lb ys es
      cases r'
      obtain ⟨ws, r2, t2, _⟩ := I.tuple h'
      simpa [eqD] using RcAt.list_tuple (A := A) (s := s) t1.isList t2 hu0
    | lst h' p2 =>
      rename_i lb ys es
      cases r'
      obtain ⟨ws, r2, t2, _⟩ := I.list (SqL.of h')
      have hA := seq_all (A := A.in1) (s := s) r1 r2 p1 p2 (fun x y v w u u' hx hy p q r r' => plEq I 100 A.in1 x y v w u u' (by
        obtain ⟨i, hi⟩ := List.getElem?_of_mem hx
        obtain ⟨j, hj⟩ := List.getElem?_of_mem hy
        have h1 := deps_get hi
        have h2 := deps_get hj
        simp only [dep] at hd
        omega) (by rw [in1_units]; omega) p q r r')
      have l1 := r1.length
      have l2 := r2.length
      have m1 := p1.length
      have m2 := p2.length
      rw [eqD]
      by_cases hl : ds.length = es.length
      · have R := RcAt.lists (A := A) (s := s) t1.isList t2.isList (by simp; omega) hu0 hA
        rw [eqDs_at _ _ hl]
        have e1 : us.toArray.size = ds.length := by simp; omega
        rw [e1] at R
        exact R
      · rw [eqDs_len _ _ hl]
        exact RcAt.lists_lengths (A := A) (s := s) t1.isList t2.isList (by simp; omega) hu0
theorem plNe (I : Inv X pins σ H s) (A : Around) (x y : D) (v w : V) (u u' : Value) (hd : min (dep x) (dep y) ≤ 100) (hu : A.units + 101 < cLine) (p : Pl X.K H v x) (q : Pl X.K H w y) (r : RelV v u) (r' : RelV w u') : RcNeAt A s u u' (!eqD x y) := by
  have hu0 : A.units < cLine := by omega
  cases p with
  | non =>
    cases r
    cases q with
    | non => cases r'; simpa [eqD] using RcNeAt.none_none (A := A) (s := s) 
    | bl b => cases r'; simpa [eqD] using RcNeAt.none_bool (A := A) (s := s) b
    | int b => obtain ⟨t, rfl⟩ := r'; simpa [eqD] using RcNeAt.none_int (A := A) (s := s) b t
    | str b => obtain ⟨t, rfl⟩ := r'; simpa [eqD] using RcNeAt.none_str (A := A) (s := s) b t
    | tup h' p2 =>
      rename_i lb ys es
      cases r'
      obtain ⟨ws, r2, t2, _⟩ := I.tuple h'
      simpa [eqD] using RcNeAt.none_tuple (A := A) (s := s) t2 hu0
    | lst h' p2 =>
      rename_i lb ys es
      cases r'
      obtain ⟨ws, r2, t2, _⟩ := I.list (SqL.of h')
      simpa [eqD] using RcNeAt.none_list (A := A) (s := s) t2.isList hu0
  | bl a =>
    cases r
    cases q with
    | non => cases r'; simpa [eqD] using RcNeAt.bool_none (A := A) (s := s) a
    | bl b => cases r'; simpa [eqD] using RcNeAt.bool_bool (A := A) (s := s) a b
    | int b => obtain ⟨t, rfl⟩ := r'; simpa [eqD] using RcNeAt.bool_int (A := A) (s := s) a b t
    | str b => obtain ⟨t, rfl⟩ := r'; simpa [eqD] using RcNeAt.bool_str (A := A) (s := s) a b t
    | tup h' p2 =>
      rename_i lb ys es
      cases r'
      obtain ⟨ws, r2, t2, _⟩ := I.tuple h'
      simpa [eqD] using RcNeAt.bool_tuple (A := A) (s := s) a t2 hu0
    | lst h' p2 =>
      rename_i lb ys es
      cases r'
      obtain ⟨ws, r2, t2, _⟩ := I.list (SqL.of h')
      simpa [eqD] using RcNeAt.bool_list (A := A) (s := s) a t2.isList hu0
  | int a =>
    obtain ⟨ta, rfl⟩ := r
    cases q with
    | non => cases r'; simpa [eqD] using RcNeAt.int_none (A := A) (s := s) a ta
    | bl b => cases r'; simpa [eqD] using RcNeAt.int_bool (A := A) (s := s) a ta b
    | int b => obtain ⟨t, rfl⟩ := r'; simpa [eqD] using RcNeAt.int_int (A := A) (s := s) a ta b t
    | str b => obtain ⟨t, rfl⟩ := r'; simpa [eqD] using RcNeAt.int_str (A := A) (s := s) a ta b t
    | tup h' p2 =>
      rename_i lb ys es
      cases r'
      obtain ⟨ws, r2, t2, _⟩ := I.tuple h'
      simpa [eqD] using RcNeAt.int_tuple (A := A) (s := s) a ta t2 hu0
    | lst h' p2 =>
      rename_i lb ys es
      cases r'
      obtain ⟨ws, r2, t2, _⟩ := I.list (SqL.of h')
      simpa [eqD] using RcNeAt.int_list (A := A) (s := s) a ta t2.isList hu0
  | str a =>
    obtain ⟨ta, rfl⟩ := r
    cases q with
    | non => cases r'; simpa [eqD] using RcNeAt.str_none (A := A) (s := s) a ta
    | bl b => cases r'; simpa [eqD] using RcNeAt.str_bool (A := A) (s := s) a ta b
    | int b => obtain ⟨t, rfl⟩ := r'; simpa [eqD] using RcNeAt.str_int (A := A) (s := s) a ta b t
    | str b => obtain ⟨t, rfl⟩ := r'; simpa [eqD] using RcNeAt.str_str (A := A) (s := s) a ta b t
    | tup h' p2 =>
      rename_i lb ys es
      cases r'
      obtain ⟨ws, r2, t2, _⟩ := I.tuple h'
      simpa [eqD] using RcNeAt.str_tuple (A := A) (s := s) a ta t2 hu0
    | lst h' p2 =>
      rename_i lb ys es
      cases r'
      obtain ⟨ws, r2, t2, _⟩ := I.list (SqL.of h')
      simpa [eqD] using RcNeAt.str_list (A := A) (s := s) a ta t2.isList hu0
  | tup h p1 =>
    rename_i la xs ds
    cases r
    obtain ⟨us, r1, t1, _⟩ := I.tuple h
    cases q with
    | non => cases r'; simpa [eqD] using RcNeAt.tuple_none (A := A) (s := s) t1 hu0
    | bl b => cases r'; simpa [eqD] using RcNeAt.tuple_bool (A := A) (s := s) b t1 hu0
    | int b => obtain ⟨t, rfl⟩ := r'; simpa [eqD] using RcNeAt.tuple_int (A := A) (s := s) b t t1 hu0
    | str b => obtain ⟨t, rfl⟩ := r'; simpa [eqD] using RcNeAt.tuple_str (A := A) (s := s) b t t1 hu0
    | tup h' p2 =>
      rename_i lb ys es
      cases r'
      obtain ⟨ws, r2, t2, _⟩ := I.tuple h'
      have hA := seq_all (A := A.in1) (s := s) r1 r2 p1 p2 (fun x y v w u u' hx hy p q r r' => plEq I 100 A.in1 x y v w u u' (by
        obtain ⟨i, hi⟩ := List.getElem?_of_mem hx
        obtain ⟨j, hj⟩ := List.getElem?_of_mem hy
        have h1 := deps_get hi
        have h2 := deps_get hj
        simp only [dep] at hd
        omega) (by rw [in1_units]; omega) p q r r')
      have l1 := r1.length
      have l2 := r2.length
      have m1 := p1.length
      have m2 := p2.length
      rw [eqD]
      by_cases hl : ds.length = es.length
      · have R := RcNeAt.tuples (A := A) (s := s) t1 t2 hu0 hA
        rw [eqDs_at _ _ hl]
        have e1 : us.toArray.size = ds.length := by simp; omega
        have e2 : ws.toArray.size = ds.length := by simp; omega
        rw [e1, e2] at R
        simpa using R
      · have R := RcNeAt.tuples (A := A) (s := s) t1 t2 hu0 hA
        rw [eqDs_len _ _ hl]
        have e3 : (us.toArray.size == ws.toArray.size) = false := by
          rw [beq_eq_false_iff_ne]; simp; omega
        rw [e3] at R
        simpa using R
    | lst h' p2 =>
      rename_i lb ys es
      cases r'
      obtain ⟨ws, r2, t2, _⟩ := I.list (SqL.of h')
      simpa [eqD] using RcNeAt.tuple_list (A := A) (s := s) t1 t2.isList hu0
  | lst h p1 =>
    rename_i la xs ds
    cases r
    obtain ⟨us, r1, t1, _⟩ := I.list (SqL.of h)
    cases q with
    | non => cases r'; simpa [eqD] using RcNeAt.list_none (A := A) (s := s) t1.isList hu0
    | bl b => cases r'; simpa [eqD] using RcNeAt.list_bool (A := A) (s := s) b t1.isList hu0
    | int b => obtain ⟨t, rfl⟩ := r'; simpa [eqD] using RcNeAt.list_int (A := A) (s := s) b t t1.isList hu0
    | str b => obtain ⟨t, rfl⟩ := r'; simpa [eqD] using RcNeAt.list_str (A := A) (s := s) b t t1.isList hu0
    | tup h' p2 =>
      rename_i lb ys es
      cases r'
      obtain ⟨ws, r2, t2, _⟩ := I.tuple h'
      simpa [eqD] using RcNeAt.list_tuple (A := A) (s := s) t1.isList t2 hu0
    | lst h' p2 =>
      rename_i lb ys es
      cases r'
      obtain ⟨ws, r2, t2, _⟩ := I.list (SqL.of h')
      have hA := seq_all (A := A.in1) (s := s) r1 r2 p1 p2 (fun x y v w u u' hx hy p q r r' => plEq I 100 A.in1 x y v w u u' (by
        obtain ⟨i, hi⟩ := List.getElem?_of_mem hx
        obtain ⟨j, hj⟩ := List.getElem?_of_mem hy
        have h1 := deps_get hi
        have h2 := deps_get hj
        simp only [dep] at hd
        omega) (by rw [in1_units]; omega) p q r r')
      have l1 := r1.length
      have l2 := r2.length
      have m1 := p1.length
      have m2 := p2.length
      rw [eqD]
      by_cases hl : ds.length = es.length
      · have R := RcNeAt.lists (A := A) (s := s) t1.isList t2.isList (by simp; omega) hu0 hA
        rw [eqDs_at _ _ hl]
        have e1 : us.toArray.size = ds.length := by simp; omega
        rw [e1] at R
        exact R
      · rw [eqDs_len _ _ hl]
        exact RcNeAt.lists_lengths (A := A) (s := s) t1.isList t2.isList (by simp; omega) hu0

open Classical in
/-- which value an item is -/
noncomputable def eqAtV (K : PySem.W.Frag) (H : Hp) (x : D) (u : Value) : Bool := if h : ∃ v d, RelV v u ∧ Pl K H v d then eqD (Classical.choose (Classical.choose_spec h)) x else false
theorem eqAtV_of (I : Inv X pins σ H s) {x d : D} {v : V} {u : Value} (r : RelV v u) (p : Pl X.K H v d) : eqAtV X.K H x u = eqD d x := by
  unfold eqAtV
  have h : ∃ v d, RelV v u ∧ Pl X.K H v d := ⟨v, d, r, p⟩
  rw [dif_pos h]
  have q := Classical.choose_spec (Classical.choose_spec h)
  have e : Classical.choose h = v := q.1.inj r
  have p2 := q.2
  generalize Classical.choose (Classical.choose_spec h) = d' at p2 ⊢
  rw [e] at p2
  rw [Pl.inj I _ _ p2 p]
theorem any_eq (I : Inv X pins σ H s) {x : D} : ∀ {vs : List V} {us : List Value} {ds : List D}, Vals vs us → Pls X.K H vs ds → us.any (eqAtV X.K H x) = ds.any fun z => eqD z x
  | _, _, _, .nil, .nil => rfl
  | _, _, _, .cons r rs, .cons p ps => by rw [List.any_cons, List.any_cons, eqAtV_of I r p, any_eq I rs ps]
theorem items_eq (I : Inv X pins σ H s) {A : Around} {x : D} {v : V} {u : Value} {vs : List V} {us : List Value} {ds : List D} (hu : A.units + 101 < cLine) (hd : min (dep x) (deps ds) ≤ 100) (p : Pl X.K H v x) (r : RelV v u) (rs : Vals vs us) (ps : Pls X.K H vs ds) :
    ∀ y, y ∈ us.toArray → EqAt A.in1 s y u (eqAtV X.K H x y) := by
  intro y hy
  have hy' : y ∈ us := by simpa using hy
  obtain ⟨i, hi⟩ := List.getElem?_of_mem hy'
  obtain ⟨w, e1, q1⟩ := vals_getV rs hi
  obtain ⟨d, f1, g1⟩ := ps.get e1
  rw [eqAtV_of I q1 g1]
  have h1 := deps_get f1
  exact plEq I 100 A.in1 d x w v y u (by omega) (by rw [in1_units]; omega) g1 p q1 r
end
end RP
end
section
set_option Elab.async false
set_option linter.all false
set_option maxRecDepth 100000
/-! Operators by values. -/
namespace RP
open PySem L2 PySem.SeqAt

def lift2 (K : PySem.W.Frag) (f : St → D → D → Option D) : R2 := fun x y H Q => ∃ W st dx dy d, Sim K H W st ∧ Rep K H W x dx ∧ Rep K H W y dy ∧ f st dx dy = some d ∧ ∀ v H', Step H W H' W → Sim K H' W st → Rep K H' W v d → Q v H'
def lift1 (K : PySem.W.Frag) (f : St → D → Option D) : V → Hp → VK → Prop := fun x H Q => ∃ W st dx d, Sim K H W st ∧ Rep K H W x dx ∧ f st dx = some d ∧ ∀ v H', Step H W H' W → Sim K H' W st → Rep K H' W v d → Q v H'
def liftN (K : PySem.W.Frag) (f : St → List D → Option D) : List V → Hp → VK → Prop := fun xs H Q => ∃ W st ds d, Sim K H W st ∧ Reps K H W xs ds ∧ f st ds = some d ∧ ∀ v H', Step H W H' W → Sim K H' W st → Rep K H' W v d → Q v H'
section
variable {K : PySem.W.Frag} {H : Hp} {W : Wd} {st : St} {Q : VK}
theorem newT (S : Sim K H W st) {xs : List V} {ds : List D} (rs : Reps K H W xs ds) (q : ∀ v H', Step H W H' W → Sim K H' W st → Rep K H' W v (.tup ds) → Q v H') (p : Addr) (o : Obj) (hp : H p = none) (ho : o.dict = none) : Q (.ref p) (upd H p (.frz o (.tup xs))) :=
  q _ _ (Step.temp S hp) (S.temp hp) (.tup (.inl ⟨o, upd_same, ho⟩) (rs.step S (Step.temp S hp)))
theorem newL (S : Sim K H W st) {xs : List V} {ds : List D} (rs : Reps K H W xs ds) (q : ∀ v H', Step H W H' W → Sim K H' W st → Rep K H' W v (.lst ds) → Q v H') (p : Addr) (hp : H p = none) : Q (.ref p) (upd H p (.lst xs)) :=
  q _ _ (Step.temp S hp) (S.temp hp) (.lst upd_same (S.fresh hp) (S.freshB hp) (rs.step S (Step.temp S hp)))
theorem newD (S : Sim K H W st) {kvs : List (Key × V)} {ks vs : List D} (r1 : Reps K H W (kvs.map fun kv => kV kv.1) ks) (r2 : Reps K H W (kvs.map (·.2)) vs) (q : ∀ v H', Step H W H' W → Sim K H' W st → Rep K H' W v (.dct ks vs) → Q v H') (p : Addr) (hp : H p = none) : Q (.ref p) (upd H p (.dK kvs)) :=
  q _ _ (Step.temp S hp) (S.temp hp) (.dct (.inl upd_same) (S.fresh hp) (S.freshB hp) (r1.step S (Step.temp S hp)) (r2.step S (Step.temp S hp)))
theorem saw_int {v : V} {i : Int} (h : Saw K H W v (.int i)) : v = .int i := by
  cases h with
  | rep h _ _ => cases h; rfl
theorem saw_str {v : V} {i : Str} (h : Saw K H W v (.str i)) : v = .str i := by
  cases h with
  | rep h _ _ => cases h; rfl
theorem saw_bl {v : V} {i : Bool} (h : Saw K H W v (.bl i)) : v = .bl i := by
  cases h with
  | rep h _ _ => cases h; rfl
theorem saw_non {v : V} (h : Saw K H W v .non) : v = .non := by
  cases h with
  | rep h _ _ => cases h; rfl
theorem saw_tup {v : V} {ds : List D} (h : Saw K H W v (.tup ds)) : ∃ a xs, v = .ref a ∧ Tp K H a xs ∧ Reps K H W xs ds := by
  cases h with
  | rep h _ _ => cases h with
    | tup h r => exact ⟨_, _, rfl, h, r⟩
theorem saw_lst {v : V} {ds : List D} (h : Saw K H W v (.lst ds)) : ∃ a xs, v = .ref a ∧ H a = some (.lst xs) ∧ Reps K H W xs ds := by
  cases h with
  | lst h r => exact ⟨_, _, rfl, h, r⟩
  | rep _ n _ => exact absurd rfl (n _)
theorem saw_frz {v : V} {ns : List Int} (h : Saw K H W v (.frz ns)) : ∃ a, v = .ref a ∧ SqL K H a (ns.map V.int) := by
  cases h with
  | rep h _ _ => cases h with
    | frz h =>
      rcases h with ⟨o, h⟩ | h
      · exact ⟨_, rfl, .inl (.inr ⟨o, h⟩)⟩
      · exact ⟨_, rfl, .inr h⟩
theorem saw_dct {v : V} {ks vs : List D} (h : Saw K H W v (.dct ks vs)) : ∃ a kvs, v = .ref a ∧ Rd H a (.dK kvs) ∧ Reps K H W (kvs.map fun kv => kV kv.1) ks ∧ Reps K H W (kvs.map (·.2)) vs := by
  cases h with
  | dct h r r2 => exact ⟨_, _, rfl, h, r, r2⟩
  | rep _ _ n => exact absurd rfl (n _ _)
theorem rep_int {v : V} {i : Int} (h : Rep K H W v (.int i)) : v = .int i := by cases h; rfl
theorem rep_bl {v : V} {i : Bool} (h : Rep K H W v (.bl i)) : v = .bl i := by cases h; rfl
theorem rep_str {v : V} {i : Str} (h : Rep K H W v (.str i)) : v = .str i := by cases h; rfl
theorem rep_non {v : V} (h : Rep K H W v .non) : v = .non := by cases h; rfl
theorem Reps.cut {xs : List V} {ds : List D} (r : Reps K H W xs ds) (lo hi : Option Int) : Reps K H W (cutV xs lo hi) (cut ds lo hi) := by
  have e := r.length
  unfold cutV RP.cut
  rw [e]
  exact (r.drop _).take _
end
section
open PySem.Spec PyProof.Rows
variable {X : Cx}
/-- a new tuple, known to the object -/
theorem laidT {pins : List (Addr × Obj)} {σ : L2.St} {H : Hp} {s : Shared} {xs : List V} {us : List Value} {t' : Nat} (I : Inv X pins σ H s) (hz : xs.length ≤ sizeLine) (r : Vals xs us) :
    Inv X pins σ (upd H s.heap.objs.size (.frz { cls := .type "tuple", data := .seq us.toArray } (.tup xs))) { s with heap := s.heap.push { cls := .type "tuple", data := .seq us.toArray }, toks := t' } :=
  I.laid (fun b ob q => Heap.get?_push_of_some _ q) (Nat.le_refl _) ⟨Heap.get?_push_size _ rfl, hz, us, r, IsTup.new _ _⟩
def tTupF (t : TA) : TE := fun σ H Q => t σ H fun xs H1 => xs.length ≤ sizeLine ∧ ∀ p o, H1 p = none → o.dict = none → Q (.ref p) (upd H1 p (.frz o (.tup xs)))
theorem pe_tupF {es : List Expr} {t : TA} {pos : Pos} {x1} (h : PA X es t) : PE X (.Tuple es x1 pos) (tTupF t) := by
  refine ⟨fun pins s σ H Q I hq => ?_⟩
  refine wpAny_Tuple_spliced (thn (h.run pos pins s σ H _ I hq) fun us s1 ⟨xs, H1, I1, r, z, q⟩ => ⟨by rw [← r.length]; exact z, ?_⟩)
  have hf : H1 s1.heap.objs.size = none := I1.hok.fresh (Nat.le_refl _)
  exact ⟨.ref s1.heap.objs.size, _, laidT (t' := s1.toks) I1 z r, rfl, q _ _ hf rfl⟩
theorem op_catF (pins : List (Addr × Obj)) (s : Shared) (σ : L2.St) (H : Hp) (a b : Addr) (xs ys : List V) (v u : Value) (Q : VK) (I : Inv X pins σ H s) (rx : RelV (.ref a) v) (ry : RelV (.ref b) u)
    (ha : SqT X.K H a xs) (hb : SqT X.K H b ys) (hz : xs.length + ys.length ≤ sizeLine) (q0 : xs = [] → Q (.ref b) H) (q1 : xs ≠ [] → ys = [] → Q (.ref a) H) (q2 : ∀ p o, H p = none → o.dict = none → Q (.ref p) (upd H p (.frz o (.tup (xs ++ ys))))) :
    wpAny (model X.prog X.w) X.A (binaryOp .Add v u) (EP X pins σ Q) X.xe s := by
  cases rx
  cases ry
  obtain ⟨its, r1, p1, _⟩ := I.tuple ha
  obtain ⟨its2, r2, p2, _⟩ := I.tuple hb
  by_cases hx : xs = []
  · subst hx
    cases r1
    exact cat_tup0 p1 p2 ⟨.ref b, H, I, rfl, q0 rfl⟩
  · refine HT.cat_tup p1 p2 (fun z => hx (r1.nil_iff.mp z)) (fun z => ⟨.ref a, H, I, rfl, q1 hx (r2.nil_iff.mp z)⟩) (fun z => ?_) (by rw [← r1.length, ← r2.length]; exact hz)
    exact ⟨.ref s.heap.objs.size, _, laidT (t' := s.toks) I (by rw [List.length_append]; exact hz) (r1.append r2), rfl, q2 _ _ (I.hok.fresh (Nat.le_refl _)) rfl⟩
def rSlF (K : PySem.W.Frag) : V → Option Int → Option Int → Hp → VK → Prop := fun x lo hi H Q => ∃ a xs, x = .ref a ∧ SqT K H a xs ∧
  (HT.sIx xs.length 0 lo = 0 ∧ HT.sIx xs.length xs.length hi = xs.length → Q (.ref a) H) ∧ (∀ p o, H p = none → o.dict = none → Q (.ref p) (upd H p (.frz o (.tup (cutV xs lo hi)))))
theorem sl_tupF : SlR X (rSlF X.K) := by
  intro pins s σ H x v vl vu lo hi sl Q I rx hs pl pu h
  obtain ⟨a, xs, rfl, hx, q1, q2⟩ := h
  cases rx
  obtain ⟨its, r, ht, hz⟩ := I.tuple hx
  have hlen : its.toArray.size = xs.length := by rw [List.size_toArray]; exact r.length.symm
  refine ⟨"tuple", _, PyProof.Rows.slot_tuple_getitem.lookup, ht.typeIs, ?_⟩
  by_cases hw : HT.sIx xs.length 0 lo = 0 ∧ HT.sIx xs.length xs.length hi = xs.length
  · exact getItem_tuple_whole ht hs pl pu (by rw [hlen]; exact hw) ⟨.ref a, H, I, rfl, q1 hw⟩
  · refine HT.getItem_tuple_cut ht hs pl pu (by rw [hlen]; exact hw) ?_ (by rw [hlen]; exact hz)
    rw [hlen]
    exact ⟨.ref s.heap.objs.size, _, laidT (t' := s.toks) I (Nat.le_trans (cutV_length xs lo hi) hz) ((r.drop (HT.sIx xs.length 0 lo)).take (HT.sIx xs.length xs.length hi - HT.sIx xs.length 0 lo)), rfl, q2 _ _ (I.hok.fresh (Nat.le_refl _)) rfl⟩
theorem call_tuple_ofF : CallR X (.type "tuple") (fun xs H Q => ∃ p ys, xs = [.ref p] ∧ ((SqL X.K H p ys ∧ ∀ l o, H l = none → o.dict = none → Q (.ref l) (upd H l (.frz o (.tup ys)))) ∨ (SqT X.K H p ys ∧ Q (.ref p) H))) := by
  intro pins s σ H xs us Q I r h
  obtain ⟨p, ys, rfl, h⟩ := h
  obtain ⟨u, rfl, rx⟩ := vals1 r
  cases rx
  rcases h with ⟨hq, q⟩ | ⟨hq, q⟩
  · obtain ⟨its, r', pl, hz⟩ := I.list hq
    have hlen := r'.length
    refine call_tuple_list pl.isList (fun h' kp => ?_) (by simp only [List.size_toArray] <;> omega)
    have I1 : Inv X pins σ H { s with heap := h' } := I.kept (t' := s.toks) kp
    exact ⟨.ref h'.objs.size, _, laidT (t' := s.toks) I1 hz r', rfl, q _ _ (I1.hok.fresh (Nat.le_refl _)) rfl⟩
  · obtain ⟨its, r', pl, hz⟩ := I.tuple hq
    exact call_tuple_same pl ⟨.ref p, H, I, rfl, q⟩
end
theorem bigLine : big ≤ sizeLine := by decide
section
variable {X : Cx}
theorem op_addL : OpR X (binaryOp .Add) (lift2 X.K addD) := by
  intro pins s σ H x y v u Q I rx ry h
  obtain ⟨W, st, dx, dy, d, S, r1, r2, e, q⟩ := h
  have s1 := r1.saw S
  have s2 := r2.saw S
  have bl := bigLine
  unfold addD at e
  generalize see st dx = ex at s1 e
  generalize see st dy = ey at s2 e
  split at e
  · cases e
    exact op_add pins s σ H x y v u Q I rx ry ⟨_, _, saw_int s1, saw_int s2, q _ H (Step.refl _ _) S (.int _)⟩
  · split at e
    · cases e
      exact op_add_str pins s σ H x y v u Q I rx ry ⟨_, _, saw_str s1, saw_str s2, by omega, q _ H (Step.refl _ _) S (.str _)⟩
    · cases e
  · split at e
    · cases e
      obtain ⟨a, xs, rfl, h1, q1⟩ := saw_tup s1
      obtain ⟨b, ys, rfl, h2, q2⟩ := saw_tup s2
      have l1 := q1.length
      have l2 := q2.length
      refine op_catF pins s σ H a b xs ys v u Q I rx ry h1.sq h2.sq (by omega) (fun e => ?_) (fun _ e => ?_) (newT S (q1.append q2) q)
      · subst e
        cases q1
        exact q _ H (Step.refl _ _) S (.tup h2 q2)
      · subst e
        cases q2
        exact q _ H (Step.refl _ _) S (.tup h1 (by simpa using q1))
    · cases e
  · split at e
    · cases e
      obtain ⟨a, xs, rfl, h1, q1⟩ := saw_lst s1
      obtain ⟨b, ys, rfl, h2, q2⟩ := saw_lst s2
      have l1 := q1.length
      have l2 := q2.length
      exact op_cat pins s σ H _ _ v u Q I rx ry ⟨a, b, xs, ys, rfl, rfl, h1, h2, by omega, newL S (q1.append q2) q⟩
    · cases e
  · cases e
theorem op_subL : OpR X (binaryOp .Sub) (lift2 X.K subD) := by
  intro pins s σ H x y v u Q I rx ry h
  obtain ⟨W, st, dx, dy, d, S, r1, r2, e, q⟩ := h
  unfold subD at e
  split at e
  · cases e
    exact op_sub pins s σ H x y v u Q I rx ry ⟨_, _, rep_int r1, rep_int r2, q _ H (Step.refl _ _) S (.int _)⟩
  · cases e
theorem op_modL : OpR X (binaryOp .Mod) (lift2 X.K modD) := by
  intro pins s σ H x y v u Q I rx ry h
  obtain ⟨W, st, dx, dy, d, S, r1, r2, e, q⟩ := h
  unfold modD at e
  split at e
  · split at e
    · cases e
      exact op_mod pins s σ H x y v u Q I rx ry ⟨_, _, rep_int r1, rep_int r2, by assumption, q _ H (Step.refl _ _) S (.int _)⟩
    · cases e
  · cases e
theorem op_fdivL : OpR X (binaryOp .FloorDiv) (lift2 X.K fdivD) := by
  intro pins s σ H x y v u Q I rx ry h
  obtain ⟨W, st, dx, dy, d, S, r1, r2, e, q⟩ := h
  unfold fdivD at e
  split at e
  · rename_i i j
    split at e
    · rename_i hc
      cases e
      have hc' : 0 < j ∧ j < 2 ^ 64 := by simpa using hc
      refine op_fdivW pins s σ H x y v u Q I rx ry ⟨_, _, rep_int r1, rep_int r2, wide_div (b := 64) hc'.1 (by omega) (by decide) (by decide), q _ H (Step.refl _ _) S (.int _)⟩
    · cases e
  · cases e
theorem op_powL : OpR X (binaryOp .Pow) (lift2 X.K powD) := by
  intro pins s σ H x y v u Q I rx ry h
  obtain ⟨W, st, dx, dy, d, S, r1, r2, e, q⟩ := h
  unfold powD at e
  split at e
  · rename_i i j
    split at e
    · rename_i hc
      cases e
      have hc' : ((0 ≤ i ∧ i ≤ 10) ∧ 0 ≤ j) ∧ j ≤ 20 := by simpa using hc
      exact op_pow pins s σ H x y v u Q I rx ry ⟨_, _, rep_int r1, rep_int r2, ⟨by omega, by omega, by omega⟩, q _ H (Step.refl _ _) S (.int _)⟩
    · cases e
  · cases e
theorem tuple_mul_same (l : Addr) (items : Array Value) (n : Nat) (dd : Option Addr) (sl : Array (Option Value)) (x : Int) (u : Tok) (c0 : (decide (x < -(2 ^ 63)) || decide (x ≥ 2 ^ 63)) = false) (c1 : (items.isEmpty || x == 1) = true) :
    Meets (Builtin.«tuple.__mul__» ⟨[.ref l, .int x u], []⟩) (fun _ R s => s.heap.get? l = some { cls := .type "tuple", dict := dd, data := .seq items n, slots := sl } ∧ R (.ok (.ret (Value.ref l))) s) :=
  .of_wp fun prog w A R s h => by
    obtain ⟨hp, g, d, tk, os⟩ := s
    obtain ⟨hl, h⟩ := h
    have f1 := AutoSeq1.idx_int
    wp_walk using wpAny_loadPart' hl
    repeat (first
      | (refine wpAny_ite_false (decide_eq_false (by rw [c0]; exact Bool.false_ne_true)) ?_; wp_walk using wpAny_loadPart' hl)
      | (refine wpAny_ite_true (decide_eq_true c1) ?_; wp_walk using wpAny_loadPart' hl))
    exact ⟨_, rfl, h⟩
theorem tuple_mul_none (l : Addr) (items : Array Value) (n : Nat) (dd : Option Addr) (sl : Array (Option Value)) (x : Int) (u : Tok) (c0 : (decide (x < -(2 ^ 63)) || decide (x ≥ 2 ^ 63)) = false) (c1 : (items.isEmpty || x == 1) = false) (c2 : (decide (x ≤ 0) || items.isEmpty) = true) :
    Meets (Builtin.«tuple.__mul__» ⟨[.ref l, .int x u], []⟩) (fun _ R s => s.heap.get? l = some { cls := .type "tuple", dict := dd, data := .seq items n, slots := sl } ∧
      R (.ok (.ret (Value.ref s.heap.objs.size))) { s with heap := s.heap.push { cls := Value.type "tuple", data := Data.seq #[] }, toks := s.toks }) :=
  .of_wp fun prog w A R s h => by
    obtain ⟨hp, g, d, tk, os⟩ := s
    obtain ⟨hl, h⟩ := h
    have f1 := AutoSeq1.idx_int
    have hsz : ¬ ((#[] : Array Value).size > sizeLine) := by decide
    wp_walk using wpAny_loadPart' hl
    repeat (first
      | (refine wpAny_ite_false (decide_eq_false (by rw [c0]; exact Bool.false_ne_true)) ?_; wp_walk using wpAny_loadPart' hl)
      | (refine wpAny_ite_false (decide_eq_false (by rw [c1]; exact Bool.false_ne_true)) ?_; wp_walk using wpAny_loadPart' hl)
      | (refine wpAny_ite_true (decide_eq_true c2) ?_; wp_walk using wpAny_loadPart' hl)
      | (refine wpAny_ite_false (decide_eq_false hsz) ?_; wp_walk using wpAny_loadPart' hl))
    exact ⟨_, rfl, h⟩
end
section
open PySem.Spec PyProof.Rows
variable {X : Cx}
theorem tupMul (pins : List (Addr × Obj)) (s : Shared) (σ : L2.St) (H : Hp) (l : Addr) (k : Int) (xs : List V) (v u : Value) (Q : VK) (I : Inv X pins σ H s) (rx : RelV (.ref l) v) (ry : RelV (.int k) u)
    (hT : SqT X.K H l xs) (h0 : 0 ≤ k) (h1 : k ≤ 1000) (hz : xs.length ≤ 1000) (qs : xs = [] ∨ k = 1 → Q (.ref l) H) (q : ∀ p o, H p = none → o.dict = none → Q (.ref p) (upd H p (.frz o (.tup (List.replicate k.toNat xs).flatten)))) :
    wpAny (model X.prog X.w) X.A (binaryOp .Mult v u) (EP X pins σ Q) X.xe s := by
  cases rx
  obtain ⟨t, rfl⟩ := ry
  obtain ⟨its, r, ⟨⟨cls, dd, data, sl⟩, ho, hc, n, hd⟩, hs⟩ := I.tuple hT
  simp only at hc hd
  subst hc hd
  have hle : its.length = xs.length := r.length.symm
  have c0 : (decide (k < -(2 ^ 63)) || decide (k ≥ 2 ^ 63)) = false := by
    rw [decide_eq_false (by omega), decide_eq_false (by omega)] <;> rfl
  by_cases hbig : xs ≠ [] ∧ 2 ≤ k
  · have hn : its ≠ [] := fun e => hbig.1 (by
      rw [e] at hle
      exact List.eq_nil_of_length_eq_zero hle.symm)
    have hi : its.toArray.isEmpty = false := by
      cases its with
      | nil => exact absurd rfl hn
      | cons a b => rfl
    have hsz0 : its.toArray.size = xs.length := by rw [List.size_toArray, hle]
    have hm : ((its.toArray.size : Nat) : Int) * k ≤ 1000000 := by
      rw [hsz0]
      have a1 : ((xs.length : Nat) : Int) * k ≤ 1000 * k := Int.mul_le_mul_of_nonneg_right (by omega) (by omega)
      omega
    have flen : (List.replicate k.toNat its).flatten.length ≤ sizeLine := by
      rw [PyProof.Rows.lm_len_rep_flat, hle, sizeLine_eq]
      have a1 : k.toNat * xs.length ≤ 1000 * 1000 := Nat.mul_le_mul (by omega) hz
      omega
    have c1 : (its.toArray.isEmpty || k == 1) = false := by
      rw [hi, Bool.false_or]
      exact beq_eq_false_iff_ne.mpr (by omega)
    have c2 : (decide (k ≤ 0) || its.toArray.isEmpty) = false := by
      rw [hi, Bool.or_false]
      exact decide_eq_false (by omega)
    have c4 : Builtin.Tuple.tupleTooMany (((its.toArray.size : Nat) : Int) * k) = false := by
      unfold Builtin.Tuple.tupleTooMany
      rw [sizeLine_eq]
      exact decide_eq_false (by omega)
    refine wpAny_binaryOp_repeat_ref (T := "tuple") (U := "int") (by decide) ⟨_, ho, rfl⟩ (fun s' => typeIs_int s' k t) noFill_tuple_mul F.fills_int_mul F.slot_int_rmul repeat_tuple F.slot_int_index.lookup
      (call_meets F.slot_int_rmul (typeIs_int s k t) F.entry_int_rmul (F.args_int_rmul_2 _ _) (int_rmul_tuple k t l its.toArray n dd sl)
        ⟨ho, rfl, ⟨_, ho, rfl⟩, call_meets F.slot_tuple_mul ⟨_, ho, rfl⟩ F.entry_tuple_mul (F.args_tuple_mul_2 _ _) (tuple_mulW l its.toArray n dd sl k t c0 c1 c2 (by omega) c4 (by rw [size_rep, List.size_toArray]; exact flen)) ⟨ho, ?_⟩⟩)
    rw [size_rep]
    exact ⟨.ref s.heap.objs.size, _, laidT (t' := s.toks) I (by rw [PyProof.Rows.lm_len_rep_flat, sizeLine_eq]; have a1 : k.toNat * xs.length ≤ 1000 * 1000 := Nat.mul_le_mul (by omega) hz; omega) (r.rep k.toNat), rfl, q _ _ (I.hok.fresh (Nat.le_refl _)) rfl⟩
  by_cases hsame : xs = [] ∨ k = 1
  · have c1 : (its.toArray.isEmpty || k == 1) = true := by
      rcases hsame with e | e
      · subst e
        have : its = [] := List.eq_nil_of_length_eq_zero (by simpa using hle)
        subst this; rfl
      · subst e; simp
    exact wpAny_binaryOp_repeat_ref (T := "tuple") (U := "int") (by decide) ⟨_, ho, rfl⟩ (fun s' => typeIs_int s' k t) noFill_tuple_mul F.fills_int_mul F.slot_int_rmul repeat_tuple F.slot_int_index.lookup
      (call_meets F.slot_int_rmul (typeIs_int s k t) F.entry_int_rmul (F.args_int_rmul_2 _ _) (int_rmul_tuple k t l its.toArray n dd sl)
        ⟨ho, rfl, ⟨_, ho, rfl⟩, call_meets F.slot_tuple_mul ⟨_, ho, rfl⟩ F.entry_tuple_mul (F.args_tuple_mul_2 _ _) (tuple_mul_same l its.toArray n dd sl k t c0 c1) ⟨ho, ⟨.ref l, H, I, rfl, qs hsame⟩⟩⟩)
  · have hne : xs ≠ [] := fun e => hsame (.inl e)
    have hk : k = 0 := by
      have : ¬ 2 ≤ k := fun e => hbig ⟨hne, e⟩
      have : k ≠ 1 := fun e => hsame (.inr e)
      omega
    subst hk
    have hi : its.toArray.isEmpty = false := by
      cases its with
      | nil => exact absurd (List.eq_nil_of_length_eq_zero (by simpa using hle.symm)) hne
      | cons a b => rfl
    have c1 : (its.toArray.isEmpty || (0 : Int) == 1) = false := by rw [hi]; rfl
    have c2 : (decide ((0 : Int) ≤ 0) || its.toArray.isEmpty) = true := by simp
    refine wpAny_binaryOp_repeat_ref (T := "tuple") (U := "int") (by decide) ⟨_, ho, rfl⟩ (fun s' => typeIs_int s' 0 t) noFill_tuple_mul F.fills_int_mul F.slot_int_rmul repeat_tuple F.slot_int_index.lookup
      (call_meets F.slot_int_rmul (typeIs_int s 0 t) F.entry_int_rmul (F.args_int_rmul_2 _ _) (int_rmul_tuple 0 t l its.toArray n dd sl)
        ⟨ho, rfl, ⟨_, ho, rfl⟩, call_meets F.slot_tuple_mul ⟨_, ho, rfl⟩ F.entry_tuple_mul (F.args_tuple_mul_2 _ _) (tuple_mul_none l its.toArray n dd sl 0 t c0 c1 c2) ⟨ho, ?_⟩⟩)
    exact ⟨.ref s.heap.objs.size, _, laidT (xs := []) (us := []) (t' := s.toks) I (Nat.zero_le _) .nil, rfl, q _ _ (I.hok.fresh (Nat.le_refl _)) rfl⟩
end
section
variable {X : Cx}
theorem op_mulL : OpR X (binaryOp .Mult) (lift2 X.K mulD) := by
  intro pins s σ H x y v u Q I rx ry h
  obtain ⟨W, st, dx, dy, d, S, r1, r2, e, q⟩ := h
  have s1 := r1.saw S
  have bl := bigLine
  unfold mulD at e
  generalize see st dx = ex at s1 e
  split at e
  · split at e
    · rename_i hc
      cases e
      refine op_mul pins s σ H x y v u Q I rx ry ⟨_, _, saw_int s1, rep_int r2, ?_, q _ H (Step.refl _ _) S (.int _)⟩
      unfold CMul
      simpa using hc
    · cases e
  · rename_i a j
    split at e
    · rename_i hc
      cases e
      have hc' : (0 ≤ j ∧ j ≤ 1000) ∧ a.length ≤ 1000 := by simpa using hc
      obtain ⟨p, xs, rfl, h1, q1⟩ := saw_tup s1
      have l1 := q1.length
      have ev := rep_int r2
      subst ev
      refine tupMul pins s σ H p j xs v u Q I rx ry h1.sq hc'.1.1 hc'.1.2 (by omega) (fun hs => ?_) (newT S (q1.replicate _) q)
      rcases hs with hs | hs
      · have ha : a = [] := List.eq_nil_of_length_eq_zero (by rw [← l1, hs]; rfl)
        have e0 : (List.replicate j.toNat a).flatten = [] := by rw [ha]; simp
        rw [e0] at q
        exact q _ H (Step.refl _ _) S (.tup h1 (by rw [hs]; exact .nil))
      · subst hs
        exact q _ H (Step.refl _ _) S (.tup h1 (by simpa using q1))
    · cases e
  · rename_i a j
    split at e
    · rename_i hc
      cases e
      have hc' : (0 ≤ j ∧ j ≤ 1000) ∧ a.length ≤ 1000 := by simpa using hc
      obtain ⟨p, xs, rfl, h1, q1⟩ := saw_lst s1
      have l1 := q1.length
      have ev := rep_int r2
      subst ev
      have hm : xs.length * j.toNat ≤ 1000 * 1000 := Nat.mul_le_mul (by omega) (by omega)
      exact op_rep pins s σ H _ _ v u Q I rx ry ⟨p, j, xs, rfl, rfl, h1, by omega, by omega, by unfold big at bl; omega, newL S (q1.replicate _) q⟩
    · cases e
  · cases e
/-! ### comparisons -/
theorem eqO_pl {K : PySem.W.Frag} {H : Hp} {W : Wd} {st : St} {x y : D} {b : Bool} {v w : V} (S : Sim K H W st) (h : eqO st x y = some b) (r1 : Rep K H W v x) (r2 : Rep K H W w y) :
    Pl K H v (see st x) ∧ Pl K H w (see st y) ∧ min (dep (see st x)) (dep (see st y)) ≤ 100 ∧ b = eqD (see st x) (see st y) := by
  unfold eqO at h
  split at h
  · rename_i hc
    cases h
    have hc' : (pln (see st x) = true ∧ pln (see st y) = true) ∧ min (dep (see st x)) (dep (see st y)) ≤ 100 := by simpa using hc
    exact ⟨(r1.saw S).pl hc'.1.1, (r2.saw S).pl hc'.1.2, hc'.2, rfl⟩
  · cases h
theorem op_eqL (hu : X.A.units + 101 < cLine) : OpR X (compareOp .Eq) (lift2 X.K eqB) := by
  intro pins s σ H x y v u Q I rx ry h
  obtain ⟨W, st, dx, dy, d, S, r1, r2, e, q⟩ := h
  unfold eqB bD at e
  obtain ⟨b, eb, rfl⟩ := Option.map_eq_some_iff.mp e
  obtain ⟨p1, p2, hd, rfl⟩ := eqO_pl S eb r1 r2
  exact plRc I X.A _ _ x y v u hd hu p1 p2 rx ry X.prog X.w X.xe _ ⟨.bl _, H, I, rfl, q _ H (Step.refl _ _) S (.bl _)⟩
theorem op_neL (hu : X.A.units + 101 < cLine) : OpR X (compareOp .NotEq) (lift2 X.K neB) := by
  intro pins s σ H x y v u Q I rx ry h
  obtain ⟨W, st, dx, dy, d, S, r1, r2, e, q⟩ := h
  unfold neB bD at e
  obtain ⟨b, eb, rfl⟩ := Option.map_eq_some_iff.mp e
  obtain ⟨b', eb2, rfl⟩ := Option.map_eq_some_iff.mp eb
  obtain ⟨p1, p2, hd, rfl⟩ := eqO_pl S eb2 r1 r2
  exact plNe I X.A _ _ x y v u hd hu p1 p2 rx ry X.prog X.w X.xe _ ⟨.bl _, H, I, rfl, q _ H (Step.refl _ _) S (.bl _)⟩
theorem op_ltL : OpR X (compareOp .Lt) (lift2 X.K ltB) := by
  intro pins s σ H x y v u Q I rx ry h
  obtain ⟨W, st, dx, dy, d, S, r1, r2, e, q⟩ := h
  unfold ltB at e
  split at e
  · cases e
    exact op_lt pins s σ H x y v u Q I rx ry ⟨_, _, rep_int r1, rep_int r2, q _ H (Step.refl _ _) S (.bl _)⟩
  · cases e
theorem op_leL : OpR X (compareOp .LtE) (lift2 X.K leB) := by
  intro pins s σ H x y v u Q I rx ry h
  obtain ⟨W, st, dx, dy, d, S, r1, r2, e, q⟩ := h
  unfold leB at e
  split at e
  · cases e
    exact op_le pins s σ H x y v u Q I rx ry ⟨_, _, rep_int r1, rep_int r2, q _ H (Step.refl _ _) S (.bl _)⟩
  · cases e
theorem op_gtL : OpR X (compareOp .Gt) (lift2 X.K gtB) := by
  intro pins s σ H x y v u Q I rx ry h
  obtain ⟨W, st, dx, dy, d, S, r1, r2, e, q⟩ := h
  unfold gtB at e
  split at e
  · cases e
    exact op_gt pins s σ H x y v u Q I rx ry ⟨_, _, rep_int r1, rep_int r2, q _ H (Step.refl _ _) S (.bl _)⟩
  · cases e
theorem op_geL : OpR X (compareOp .GtE) (lift2 X.K geB) := by
  intro pins s σ H x y v u Q I rx ry h
  obtain ⟨W, st, dx, dy, d, S, r1, r2, e, q⟩ := h
  unfold geB at e
  split at e
  · cases e
    exact op_ge pins s σ H x y v u Q I rx ry ⟨_, _, rep_int r1, rep_int r2, q _ H (Step.refl _ _) S (.bl _)⟩
  · cases e
theorem rep_isnon {K : PySem.W.Frag} {H : Hp} {W : Wd} {v : V} {d : D} (h : Rep K H W v d) : decide (v = V.non) = isNon d := by
  cases h <;> simp [isNon]
theorem op_isL : OpR X (compareOp .Is) (lift2 X.K isB) := by
  intro pins s σ H x y v u Q I rx ry h
  obtain ⟨W, st, dx, dy, d, S, r1, r2, e, q⟩ := h
  unfold isB at e
  split at e
  · cases e
    refine op_isN pins s σ H x y v u Q I rx ry ⟨rep_non r2, ?_⟩
    rw [rep_isnon r1]
    exact q _ H (Step.refl _ _) S (.bl _)
  · cases e
    exact op_isBl pins s σ H x y v u Q I rx ry ⟨_, _, rep_bl r1, rep_bl r2, q _ H (Step.refl _ _) S (.bl _)⟩
  · cases e
theorem op_isnL : OpR X (compareOp .IsNot) (lift2 X.K isnB) := by
  intro pins s σ H x y v u Q I rx ry h
  obtain ⟨W, st, dx, dy, d, S, r1, r2, e, q⟩ := h
  unfold isnB at e
  split at e
  · cases e
    refine op_notN pins s σ H x y v u Q I rx ry ⟨rep_non r2, ?_⟩
    rw [rep_isnon r1]
    exact q _ H (Step.refl _ _) S (.bl _)
  · cases e
    exact op_notBl pins s σ H x y v u Q I rx ry ⟨_, _, rep_bl r1, rep_bl r2, q _ H (Step.refl _ _) S (.bl _)⟩
  · cases e
theorem un_negL : UnR X (unaryOp .USub) (lift1 X.K negD) := by
  intro pins s σ H x v Q I rx h
  obtain ⟨W, st, dx, d, S, r1, e, q⟩ := h
  unfold negD at e
  split at e
  · cases e
    exact un_neg pins s σ H x v Q I rx ⟨_, rep_int r1, q _ H (Step.refl _ _) S (.int _)⟩
  · cases e
end
end RP
end
section
set_option Elab.async false
set_option linter.all false
set_option maxRecDepth 100000
/-! in, subscripts, built-in functions by values. -/
namespace RP
open PySem L2 PySem.SeqAt

section
variable {K : PySem.W.Frag} {H : Hp} {W : Wd} {st : St}
/-- a key as a value -/
theorem key_rep {v : V} {d : D} (h : Rep K H W v d) (hk : keyish d = true) : ∃ k : Key, v = kV k := by
  cases h with
  | int i => exact ⟨.inl i, rfl⟩
  | str i => exact ⟨.inr i, rfl⟩
  | _ => simp [keyish] at hk
theorem key_eq {k k' : Key} {d e : D} (h : Rep K H W (kV k) d) (h' : Rep K H W (kV k') e) : eqD d e = decide (k = k') := by
  cases k with
  | inl i =>
    cases h
    cases k' with
    | inl j =>
      cases h'
      show (i == j) = _
      rw [key_ll]
    | inr y =>
      cases h'
      simp [eqD]
  | inr x =>
    cases h
    cases k' with
    | inl j => cases h'; simp [eqD]
    | inr y =>
      cases h'
      show (x == y) = _
      rw [key_rr]
      exact Bool.beq_eq_decide_eq x y
theorem look_val : ∀ {kvs : List (Key × V)} {ks vs : List D} {k : Key} {e : D}, Reps K H W (kvs.map fun kv => kV kv.1) ks → Reps K H W (kvs.map (·.2)) vs → Rep K H W (kV k) e →
    (∀ d, look ks vs e = some d → ∃ v, valV kvs k = some v ∧ Rep K H W v d) ∧ (look ks vs e = none → valV kvs k = none)
  | [], _, _, k, e, .nil, .nil, _ => ⟨fun d h => by simp [look] at h, fun _ => rfl⟩
  | (k0, v0) :: r, _, _, k, e, .cons h1 r1, .cons h2 r2, he => by
    have q := key_eq h1 he
    have ih := look_val r1 r2 he
    by_cases hk : k0 = k
    · rw [decide_eq_true hk] at q
      refine ⟨fun d h => ?_, fun h => ?_⟩
      · rw [look, if_pos q] at h
        cases h
        exact ⟨v0, valV_pos hk, h2⟩
      · rw [look, if_pos q] at h
        cases h
    · rw [decide_eq_false hk] at q
      refine ⟨fun d h => ?_, fun h => ?_⟩
      · rw [look, if_neg (by rw [q]; exact Bool.false_ne_true)] at h
        obtain ⟨v, e1, e2⟩ := ih.1 d h
        exact ⟨v, by rw [valV_neg hk]; exact e1, e2⟩
      · rw [look, if_neg (by rw [q]; exact Bool.false_ne_true)] at h
        rw [valV_neg hk]
        exact ih.2 h
theorem look_isSome {kvs : List (Key × V)} {ks vs : List D} {k : Key} {e : D} (r1 : Reps K H W (kvs.map fun kv => kV kv.1) ks) (r2 : Reps K H W (kvs.map (·.2)) vs) (he : Rep K H W (kV k) e) : (valV kvs k).isSome = (look ks vs e).isSome := by
  have q := look_val r1 r2 he
  cases h : look ks vs e with
  | none => rw [q.2 h]; rfl
  | some d =>
    obtain ⟨v, e1, _⟩ := q.1 d h
    rw [e1]; rfl
end
section
variable {X : Cx}
theorem in_core (neg : Bool) (hu : X.A.units + 101 < cLine) (pins : List (Addr × Obj)) (s : Shared) (σ : L2.St) (H : Hp) (x y : V) (v u : Value) (Q : VK) (I : Inv X pins σ H s) (rx : RelV x v) (ry : RelV y u)
    {W : Wd} {st : St} {dx dy : D} {b : Bool} (S : Sim X.K H W st) (r1 : Rep X.K H W x dx) (r2 : Rep X.K H W y dy) (e : inO st dx dy = some b) (q : Q (.bl (if neg then !b else b)) H) :
    wpAny (model X.prog X.w) X.A (compareOp (if neg then .NotIn else .In) v u) (EP X pins σ Q) X.xe s := by
  have s2 := r2.saw S
  unfold inO at e
  generalize see st dy = ey at s2 e
  split at e
  · rename_i ys
    split at e
    · rename_i hc
      cases e
      have hc' : (pln (see st dx) = true ∧ plns ys = true) ∧ min (dep (see st dx)) (deps ys) ≤ 100 := by simpa using hc
      obtain ⟨a, xs, rfl, ht, q1⟩ := saw_tup s2
      cases ry
      obtain ⟨us, rv, hp, _⟩ := I.tuple ht.sq
      have pl := (r1.saw S).pl hc'.1.1
      have pls := q1.pl _ hc'.1.2
      have hI := items_eq I (A := X.A) hu hc'.2 pl rx rv pls
      have ha := any_eq I (x := see st dx) rv pls
      have ha' : us.toArray.any (eqAtV X.K H (see st dx)) = ys.any fun z => eqD z (see st dx) := by rw [← ha]; simp
      cases neg with
      | false => exact in_tupleAt (eqAtV X.K H (see st dx)) hp hI ⟨.bl _, H, I, by rw [ha']; rfl, q⟩
      | true => exact notIn_tupleAt (eqAtV X.K H (see st dx)) hp hI ⟨.bl _, H, I, by rw [ha']; rfl, q⟩
    · cases e
  · rename_i ys
    split at e
    · rename_i hc
      cases e
      have hc' : (pln (see st dx) = true ∧ plns ys = true) ∧ min (dep (see st dx)) (deps ys) ≤ 100 := by simpa using hc
      obtain ⟨a, xs, rfl, ht, q1⟩ := saw_lst s2
      cases ry
      obtain ⟨us, rv, hp, _⟩ := I.list (SqL.of ht)
      have pl := (r1.saw S).pl hc'.1.1
      have pls := q1.pl _ hc'.1.2
      have hI := items_eq I (A := X.A) hu hc'.2 pl rx rv pls
      have ha := any_eq I (x := see st dx) rv pls
      have ha' : us.toArray.any (eqAtV X.K H (see st dx)) = ys.any fun z => eqD z (see st dx) := by rw [← ha]; simp
      cases neg with
      | false => exact in_listAt (eqAtV X.K H (see st dx)) hp.isList hI ⟨.bl _, H, I, by rw [ha']; rfl, q⟩
      | true => exact notIn_listAt (eqAtV X.K H (see st dx)) hp.isList hI ⟨.bl _, H, I, by rw [ha']; rfl, q⟩
    · cases e
  · rename_i z
    have ez := saw_str s2
    subst ez
    split at e
    · rename_i a
      split at e
      · rename_i c hcs
        cases e
        have ea : a = ⟨#[c]⟩ := by
          obtain ⟨cs⟩ := a
          have : cs = #[c] := by
            apply Array.ext'
            simpa using hcs
          rw [this]
        subst ea
        have ex := rep_str r1
        subst ex
        cases neg with
        | false => exact op_in_sign pins s σ H _ _ v u Q I rx ry ⟨c, z, rfl, rfl, q⟩
        | true => exact op_notIn_sign pins s σ H _ _ v u Q I rx ry ⟨c, z, rfl, rfl, q⟩
      · cases e
    · cases e
  · rename_i ks vs
    split at e
    · rename_i hk
      cases e
      obtain ⟨k, rfl⟩ := key_rep r1 hk
      obtain ⟨a, kvs, rfl, hr, q1, q2⟩ := saw_dct s2
      cases ry
      have hs := look_isSome q1 q2 r1
      have g : DGet H a (kV k) (valV kvs k) := .inl ⟨kvs, k, hr, rfl, rfl⟩
      cases neg with
      | false => exact d_in (by omega) I g rx fun s3 I3 => ⟨.bl _, H, I3, by rw [hs]; rfl, q⟩
      | true => exact d_notIn (by omega) I g rx fun s3 I3 => ⟨.bl _, H, I3, by rw [hs]; rfl, q⟩
    · cases e
  · cases e
theorem op_inL (hu : X.A.units + 101 < cLine) : OpR X (compareOp .In) (lift2 X.K inB) := by
  intro pins s σ H x y v u Q I rx ry h
  obtain ⟨W, st, dx, dy, d, S, r1, r2, e, q⟩ := h
  unfold inB bD at e
  obtain ⟨b, eb, rfl⟩ := Option.map_eq_some_iff.mp e
  exact in_core false hu pins s σ H x y v u Q I rx ry S r1 r2 eb (q _ H (Step.refl _ _) S (.bl _))
theorem op_ninL (hu : X.A.units + 101 < cLine) : OpR X (compareOp .NotIn) (lift2 X.K ninB) := by
  intro pins s σ H x y v u Q I rx ry h
  obtain ⟨W, st, dx, dy, d, S, r1, r2, e, q⟩ := h
  unfold ninB bD at e
  obtain ⟨b, eb, rfl⟩ := Option.map_eq_some_iff.mp e
  obtain ⟨b', eb2, rfl⟩ := Option.map_eq_some_iff.mp eb
  exact in_core true hu pins s σ H x y v u Q I rx ry S r1 r2 eb2 (q _ H (Step.refl _ _) S (.bl _))
/-! ### subscripts -/
theorem at_rep {K : PySem.W.Frag} {H : Hp} {W : Wd} {xs : List V} {ds : List D} {i : Int} {d : D} (r : Reps K H W xs ds) (h : atI ds i = some d) : ∃ v, atI xs i = some v ∧ Rep K H W v d := by
  unfold atI at h ⊢
  rw [r.length]
  obtain ⟨j, e1, e2⟩ := Option.bind_eq_some_iff.mp h
  obtain ⟨v, h1, h2⟩ := r.get e2
  exact ⟨v, by rw [e1]; exact h1, h2⟩
theorem ix_L (hu : X.A.units + 101 < cLine) : IxR X (lift2 X.K idxD) := by
  intro value slice pins s σ H x y v u Q I rx ry h hs
  obtain ⟨W, st, dx, dy, d, S, r1, r2, e, q⟩ := h
  have s1 := r1.saw S
  have bl := bigLine
  unfold idxD at e
  generalize see st dx = ex at s1 e
  split at e
  · obtain ⟨a, xs, rfl, ht, q1⟩ := saw_tup s1
    have ey := rep_int r2
    subst ey
    obtain ⟨w, e1, e2⟩ := at_rep q1 e
    exact ix_tup value slice pins s σ H _ _ v u Q I rx ry ⟨a, xs, _, w, rfl, rfl, ht.sq, e1, q _ H (Step.refl _ _) S e2⟩ hs
  · obtain ⟨a, xs, rfl, ht, q1⟩ := saw_lst s1
    have ey := rep_int r2
    subst ey
    obtain ⟨w, e1, e2⟩ := at_rep q1 e
    exact ix_list value slice pins s σ H _ _ v u Q I rx ry ⟨a, xs, _, w, rfl, rfl, SqL.of ht, e1, q _ H (Step.refl _ _) S e2⟩ hs
  · rename_i ns i
    obtain ⟨a, rfl, ht⟩ := saw_frz s1
    have ey := rep_int r2
    subst ey
    obtain ⟨n, e1, rfl⟩ := Option.map_eq_some_iff.mp e
    have e2 : atI (ns.map V.int) i = some (.int n) := by
      unfold atI at e1 ⊢
      rw [List.length_map]
      obtain ⟨j, f1, f2⟩ := Option.bind_eq_some_iff.mp e1
      rw [f1]
      show (ns.map V.int)[j]? = _
      rw [List.getElem?_map, f2]; rfl
    exact ix_list value slice pins s σ H _ _ v u Q I rx ry ⟨a, _, _, _, rfl, rfl, ht, e2, q _ H (Step.refl _ _) S (.int _)⟩ hs
  · split at e
    · have ex := saw_str s1
      subst ex
      have ey := rep_int r2
      subst ey
      obtain ⟨n, e1, rfl⟩ := Option.map_eq_some_iff.mp e
      exact ix_str value slice pins s σ H _ _ v u Q I rx ry ⟨_, _, n, rfl, rfl, by omega, e1, q _ H (Step.refl _ _) S (.str _)⟩ hs
    · cases e
  · split at e
    · rename_i hk
      obtain ⟨k, rfl⟩ := key_rep r2 hk
      obtain ⟨a, kvs, rfl, hr, q1, q2⟩ := saw_dct s1
      obtain ⟨w, e1, e2⟩ := (look_val q1 q2 r2).1 d e
      cases rx
      have g : DGet H a (kV k) (some w) := .inl ⟨kvs, k, hr, rfl, e1.symm⟩
      exact PyProof.Rows.tail_any (dict_typeIs I g) PySem.F.slot_dict_getitem.lookup (d_getItem (by omega) I g ry fun w' s3 I3 rw' => ⟨w, H, I3, rw', q _ H (Step.refl _ _) S e2⟩) hs
    · cases e
  · cases e
def liftS (K : PySem.W.Frag) : V → Option Int → Option Int → Hp → VK → Prop := fun x lo hi H Q => ∃ W st dx d, Sim K H W st ∧ Rep K H W x dx ∧ sliceD st dx lo hi = some d ∧ ∀ v H', Step H W H' W → Sim K H' W st → Rep K H' W v d → Q v H'
theorem cutS_eq (z : Str) (lo hi : Option Int) : cutS z lo hi = ⟨(cut z.cps.toList lo hi).toArray⟩ := by
  unfold cutS cut
  have e : z.cps.toList.length = z.length := by simp [Str.length]
  rw [e]
theorem sl_L : SlR X (liftS X.K) := by
  intro pins s σ H x v vl vu lo hi sl Q I rx hs pl pu h
  obtain ⟨W, st, dx, d, S, r1, e, q⟩ := h
  have s1 := r1.saw S
  have bl := bigLine
  unfold sliceD at e
  generalize see st dx = ex at s1 e
  split at e
  · cases e
    obtain ⟨a, xs, rfl, ht, q1⟩ := saw_tup s1
    refine sl_tupF pins s σ H _ v vl vu lo hi sl Q I rx hs pl pu ⟨a, xs, rfl, ht.sq, fun hw => q _ H (Step.refl _ _) S (.tup ht ?_), newT S (q1.cut lo hi) q⟩
    have hc := q1.cut lo hi
    have e1 : cutV xs lo hi = xs := by
      unfold cutV
      rw [hw.1, hw.2]
      simp
    rw [e1] at hc
    exact hc
  · cases e
    obtain ⟨a, xs, rfl, ht, q1⟩ := saw_lst s1
    exact sl_list pins s σ H _ v vl vu lo hi sl Q I rx hs pl pu ⟨a, xs, rfl, SqL.of ht, newL S (q1.cut lo hi) q⟩
  · split at e
    · cases e
      have ex := saw_str s1
      subst ex
      refine sl_str pins s σ H _ v vl vu lo hi sl Q I rx hs pl pu ⟨_, rfl, by omega, ?_⟩
      rw [cutS_eq]
      exact q _ H (Step.refl _ _) S (.str _)
    · cases e
  · cases e
/-! ### built-in functions -/
theorem reps1 {K : PySem.W.Frag} {H : Hp} {W : Wd} {xs : List V} {d : D} (r : Reps K H W xs [d]) : ∃ v, xs = [v] ∧ Rep K H W v d := by
  cases r with
  | cons h r => cases r; exact ⟨_, rfl, h⟩
/-- a built-in function of one value -/
def un1 (f : St → D → Option D) (st : St) : List D → Option D
  | [x] => f st x
  | _ => none
theorem call_un1 {fv : Value} {f : St → D → Option D} (h : ∀ (pins : List (Addr × Obj)) (s : Shared) (σ : L2.St) (H : Hp) (x : V) (us : List Value) (Q : VK) (W : Wd) (st : St) (dx d : D), Inv X pins σ H s → Vals [x] us → Sim X.K H W st → Rep X.K H W x dx → f st dx = some d →
    (∀ v H', Step H W H' W → Sim X.K H' W st → Rep X.K H' W v d → Q v H') → wpAny (model X.prog X.w) X.A (call fv us) (EP X pins σ Q) X.xe s) : CallR X fv (liftN X.K (un1 f)) := by
  intro pins s σ H xs us Q I r hh
  obtain ⟨W, st, ds, d, S, rs, e, q⟩ := hh
  unfold un1 at e
  split at e
  · obtain ⟨x, rfl, rx⟩ := reps1 rs
    exact h pins s σ H x us Q W st _ d I r S rx e q
  · cases e
theorem call_lenL : CallR X (.builtin "len") (liftN X.K (un1 lenD)) := call_un1 fun pins s σ H x us Q W st dx d I r S rx e q => by
  have s1 := rx.saw S
  have bl := bigLine
  unfold lenD at e
  generalize see st dx = ex at s1 e
  split at e
  · cases e
    obtain ⟨a, xs, rfl, ht, q1⟩ := saw_tup s1
    refine call_len_seq pins s σ H _ us Q I r ⟨a, xs, rfl, .inr ht.sq, ?_⟩
    rw [q1.length]
    exact q _ H (Step.refl _ _) S (.int _)
  · cases e
    obtain ⟨a, xs, rfl, ht, q1⟩ := saw_lst s1
    refine call_len_seq pins s σ H _ us Q I r ⟨a, xs, rfl, .inl (SqL.of ht), ?_⟩
    rw [q1.length]
    exact q _ H (Step.refl _ _) S (.int _)
  · cases e
    obtain ⟨a, rfl, ht⟩ := saw_frz s1
    refine call_len_seq pins s σ H _ us Q I r ⟨a, _, rfl, .inl ht, ?_⟩
    rw [List.length_map]
    exact q _ H (Step.refl _ _) S (.int _)
  · split at e
    · cases e
      have ex := saw_str s1
      subst ex
      exact call_len_str pins s σ H _ us Q I r ⟨_, rfl, by omega, q _ H (Step.refl _ _) S (.int _)⟩
    · cases e
  · cases s1 with
    | rep h _ _ => cases h
  · cases e
    obtain ⟨a, kvs, rfl, hr, q1, q2⟩ := saw_dct s1
    obtain ⟨u, rfl, ru⟩ := vals1 r
    cases ru
    refine d_len I hr fun t s3 I3 => ⟨.int _, H, I3, ⟨t, rfl⟩, ?_⟩
    have e1 := q1.length
    rw [List.length_map] at e1
    rw [e1]
    exact q _ H (Step.refl _ _) S (.int _)
  · cases e
theorem call_absL : CallR X (.builtin "abs") (liftN X.K (un1 absD)) := call_un1 fun pins s σ H x us Q W st dx d I r S rx e q => by
  unfold absD at e
  split at e
  · cases e
    have ex := rep_int rx
    subst ex
    exact call_abs pins s σ H _ us Q I r ⟨_, rfl, q _ H (Step.refl _ _) S (.int _)⟩
  · cases e
theorem call_allL (hc : X.calm = true) : CallR X (.builtin "all") (liftN X.K (un1 allD)) := call_un1 fun pins s σ H x us Q W st dx d I r S rx e q => by
  have s1 := rx.saw S
  unfold allD at e
  generalize see st dx = ex at s1 e
  split at e
  · obtain ⟨bs, e1, rfl⟩ := Option.map_eq_some_iff.mp e
    obtain ⟨a, xs, rfl, ht, q1⟩ := saw_lst s1
    rw [q1.asBools e1] at ht
    exact cr_all hc pins s σ H _ us Q I r ⟨a, bs, rfl, SqL.of ht, q _ H (Step.refl _ _) S (.bl _)⟩
  · cases e
theorem call_anyL (hc : X.calm = true) : CallR X (.builtin "any") (liftN X.K (un1 anyD)) := call_un1 fun pins s σ H x us Q W st dx d I r S rx e q => by
  have s1 := rx.saw S
  unfold anyD at e
  generalize see st dx = ex at s1 e
  split at e
  · obtain ⟨bs, e1, rfl⟩ := Option.map_eq_some_iff.mp e
    obtain ⟨a, xs, rfl, ht, q1⟩ := saw_lst s1
    rw [q1.asBools e1] at ht
    exact cr_any hc pins s σ H _ us Q I r ⟨a, bs, rfl, SqL.of ht, q _ H (Step.refl _ _) S (.bl _)⟩
  · cases e
theorem call_sumL (hc : X.calm = true) : CallR X (.builtin "sum") (liftN X.K (un1 sumD)) := call_un1 fun pins s σ H x us Q W st dx d I r S rx e q => by
  have s1 := rx.saw S
  unfold sumD at e
  generalize see st dx = ex at s1 e
  split at e
  · obtain ⟨bs, e1, rfl⟩ := Option.map_eq_some_iff.mp e
    obtain ⟨a, xs, rfl, ht, q1⟩ := saw_lst s1
    rw [q1.asInts e1] at ht
    exact cr_sum hc pins s σ H _ us Q I r ⟨a, bs, rfl, SqL.of ht, q _ H (Step.refl _ _) S (.int _)⟩
  · cases e
theorem call_tupleL : CallR X (.type "tuple") (liftN X.K (un1 tupleD)) := call_un1 fun pins s σ H x us Q W st dx d I r S rx e q => by
  have s1 := rx.saw S
  unfold tupleD at e
  generalize see st dx = ex at s1 e
  split at e
  · cases e
    obtain ⟨a, xs, rfl, ht, q1⟩ := saw_lst s1
    exact call_tuple_ofF pins s σ H _ us Q I r ⟨a, xs, rfl, .inl ⟨SqL.of ht, newT S q1 q⟩⟩
  · cases e
    obtain ⟨a, xs, rfl, ht, q1⟩ := saw_tup s1
    exact call_tuple_ofF pins s σ H _ us Q I r ⟨a, xs, rfl, .inr ⟨ht.sq, q _ H (Step.refl _ _) S (.tup ht q1)⟩⟩
  · cases e
theorem call_listL : CallR X (.type "list") (liftN X.K (un1 listD)) := call_un1 fun pins s σ H x us Q W st dx d I r S rx e q => by
  have s1 := rx.saw S
  unfold listD at e
  generalize see st dx = ex at s1 e
  split at e
  · cases e
    obtain ⟨a, xs, rfl, ht, q1⟩ := saw_lst s1
    exact call_list_of pins s σ H _ us Q I r ⟨a, xs, rfl, .inl (SqL.of ht), newL S q1 q⟩
  · cases e
    obtain ⟨a, xs, rfl, ht, q1⟩ := saw_tup s1
    exact call_list_of pins s σ H _ us Q I r ⟨a, xs, rfl, .inr ht.sq, newL S q1 q⟩
  · cases e
end
end RP
end
section
set_option Elab.async false
set_option linter.all false
set_option maxRecDepth 100000
/-! [::-1], isinstance, dict(..) by values. -/
namespace RP
open PySem L2 PySem.SeqAt
section
open PySem.Spec PyProof.Rows
variable {prog : Program} {w : World} {A : Around} {E : Value → Shared → Prop} {s : Shared}
theorem sliceApplied_rev {sl : Addr} {vl vu vs : Value} {n : Nat} {Q : Int × Int × Nat → Shared → Prop} (hs : s.heap.IsSliceOf sl vl vu vs) (pl : IsPart vl none) (pu : IsPart vu none) (ps : IsPart vs (some (-1)))
    (h : Q ((n : Int) - 1, -1, n) s) : wpAny (model prog w) A (Builtin.Slice.sliceApplied (.ref sl) (pure (n : Int))) Q E s := by
  obtain ⟨os, hos, hcs, hds⟩ := id hs
  unfold Builtin.Slice.sliceApplied Builtin.Slice.sliceFields
  refine wpAny_bind (wpAny_bind (wpAny_field hos hds (x := vl) rfl (wpAny_bind (wpAny_field hos hds (x := vu) rfl (wpAny_bind (wpAny_field hos hds (x := vs) rfl (wpAny_pure ?_)))))))
  refine wpAny_bind (HT.slicePart_ ps ?_)
  show wpAny _ _ (if ((-1 : Int) == 0) = true then _ else _) _ _ s
  rw [if_neg (by decide)]
  refine wpAny_bind (HT.slicePart_ pl (wpAny_bind (HT.slicePart_ pu (wpAny_bind (wpAny_pure ?_)))))
  show wpAny _ _ (match Builtin.Slice.sliceAdjust none none (-1) (n : Int) with | (lo, hi) => pure (lo, (-1 : Int), Builtin.Slice.slicePlaces lo hi (-1))) _ _ s
  have e1 : Builtin.Slice.sliceAdjust none none (-1) (n : Int) = ((n : Int) - 1, -1) := by
    simp [Builtin.Slice.sliceAdjust]
  rw [e1]
  have e2 : Builtin.Slice.slicePlaces ((n : Int) - 1) (-1) (-1) = n := by
    unfold Builtin.Slice.slicePlaces
    by_cases h0 : n = 0
    · subst h0; simp
    · have : (-1 : Int) < (n : Int) - 1 := by omega
      simp [this]
  show wpAny _ _ (pure ((n : Int) - 1, (-1 : Int), Builtin.Slice.slicePlaces ((n : Int) - 1) (-1) (-1))) _ _ s
  rw [e2]
  exact wpAny_pure h
theorem fm_congr {α β : Type} {f g : α → Option β} : ∀ (l : List α), (∀ x ∈ l, f x = g x) → l.filterMap f = l.filterMap g
  | [], _ => rfl
  | x :: r, h => by
    rw [List.filterMap_cons, List.filterMap_cons, h x List.mem_cons_self, fm_congr r fun y hy => h y (List.mem_cons_of_mem _ hy)]
theorem pick_rev (xs : Array Value) : ((List.range xs.size).filterMap fun (m : Nat) => xs[(((xs.size : Int) - 1) + (m : Int) * (-1)).toNat]?).toArray = xs.toList.reverse.toArray := by
  have e : ((List.range xs.size).filterMap fun (m : Nat) => xs[(((xs.size : Int) - 1) + (m : Int) * (-1)).toNat]?) = (((List.range xs.size).map fun k => xs.size - 1 - k).filterMap (xs[·]?)) := by
    rw [List.filterMap_map]
    refine fm_congr _ fun m hm => ?_
    have := List.mem_range.mp hm
    have q : (((xs.size : Int) - 1) + (m : Int) * (-1)).toNat = xs.size - 1 - m := by omega
    rw [q]; rfl
  rw [e, PySem.W.krv_range, List.filterMap_reverse, PySem.W.krv_all]
theorem getItem_tuple_rev {t sl : Addr} {items : Array Value} {vl vu vs : Value} {Q : Value → Shared → Prop} (ht : IsTup s.heap t items) (hs : s.heap.IsSliceOf sl vl vu vs) (pl : IsPart vl none) (pu : IsPart vu none) (ps : IsPart vs (some (-1)))
    (h : Q (.ref s.heap.objs.size) { s with heap := s.heap.push { cls := .type "tuple", data := .seq items.toList.reverse.toArray } })
    (hsz : items.size ≤ sizeLine) : wpAny (model prog w) A (getItem (.ref t) (.ref sl)) Q E s := by
  have htake : sizeOk (.seq items.toList.reverse.toArray) := by
    show items.toList.reverse.toArray.size ≤ sizeLine
    simpa using hsz
  obtain ⟨os, hos, hcs, hds⟩ := id hs
  have hTs : s.TypeIs (.ref sl) "slice" := ⟨os, hos, hcs⟩
  unfold getItem
  try with_reducible refine wpAny_holding ?_
  first | refine wpAny_bind (wpAny_pure ?_) | skip
  refine wpAny_bind (wpAny_sequenceKey ht.typeIs (by decide) ?_)
  refine wpAny_bind (wpAny_callSpecial?_slot (name := Str.ofString "__getitem__") ht.typeIs PyProof.Rows.slot_tuple_getitem
    (wpAny_call_entry PyProof.Rows.slot_tuple_getitem ht.typeIs entry_tuple_getitem ?_ (args_tuple_getitem _ _)))
  show wpAny _ _ (Builtin.Tuple.tupleItemsOf (.ref t) >>= _) _ _ s
  refine wpAny_bind (tupleItemsOf_ ht ?_)
  refine wpAny_bind (wpAny_typeOf hTs ?_)
  rw [if_pos (by decide)]
  refine wpAny_bind (sliceApplied_rev hs pl pu ps ?_)
  have hno : ¬ ((((items.size : Int) - 1) == 0 && (-1 : Int) == 1 && items.size == items.size) = true) := by
    simp
  show wpAny _ _ (if (((items.size : Int) - 1) == 0 && (-1 : Int) == 1 && items.size == items.size) = true then _ else _) _ _ s
  rw [if_neg hno, pick_rev]
  first
    | exact wpAny_bind (m := Builtin.Tuple.tupleExact _) (wpAny_newObj_type (wpAny_pure ⟨_, rfl, wpAny_pure h⟩) htake)
    | exact wpAny_bind (m := Builtin.Tuple.tupleExact _) (wpAny_newObj_type (wpAny_bind (wpAny_pure (wpAny_pure ⟨_, rfl, wpAny_pure h⟩))) htake)
    | exact wpAny_bind (wpAny_bind (m := Builtin.Tuple.tupleExact _) (wpAny_newObj_type (wpAny_pure (wpAny_pure ⟨_, rfl, wpAny_pure h⟩)) htake))
    | exact wpAny_bind (wpAny_bind (m := Builtin.Tuple.tupleExact _) (wpAny_newObj_type (wpAny_pure ⟨_, rfl, wpAny_pure h⟩) htake))
variable {X : Cx}
def tRevD (K : PySem.W.Frag) (te : TE) : TE := fun σ H Q => te σ H fun x H1 => lift1 K revD x H1 Q
theorem pe_revD {e : Expr} {te : TE} {k : Nat} {p1 p2 p3 pos : Pos} (he : PE X e te) : PE X (.Subscript e (.Slice none none (some (.UnaryOp .USub (.Constant (.int 1) k p1) p2)) p3) pos) (tRevD X.K te) := by
  refine ⟨fun pins s σ H Q I h => ?_⟩
  refine Subscript_ (thn (he.run pins s σ H _ I h) fun v s1 ⟨x, H1, I1, r1, q1⟩ => ?_)
  obtain ⟨W, st, dx, d, S, rx, e, q⟩ := q1
  have sw := rx.saw S
  have hst : PO X (some (.UnaryOp .USub (.Constant (.int 1) k p1) p2)) (tPart (tUn (rU fun i => .int (-i)) (tC (.int 1)))) := po_some (pe_un un_neg pe_int)
  refine wpAny_Slice (thn (po_none.run pins s1 σ H1 (fun o H2 => o = none ∧ H2 = H1) I1 ⟨rfl, rfl⟩) fun vl s2 ⟨l, H2, I2, pl, el, e2⟩ => ?_)
  subst el e2
  refine thn (po_none.run pins s2 σ H2 (fun o H3 => o = none ∧ H3 = H2) I2 ⟨rfl, rfl⟩) fun vu s3 ⟨u, H3, I3, pu, eu, e3⟩ => ?_
  subst eu e3
  refine thn (hst.run pins s3 σ H3 (fun o H4 => o = some (-1) ∧ H4 = H3) I3 ⟨1, rfl, -1, rfl, rfl, rfl⟩) fun vs s4 ⟨o, H4, I4, ps, eo, e4⟩ => ?_
  subst eo e4
  have I5 : Inv X pins σ H4 { s4 with heap := s4.heap.push { cls := .type "slice", data := .fields #[vl, vu, vs] } } := I4.kept (t' := s4.toks) fun b ob q => Heap.get?_push_of_some _ q
  unfold revD at e
  generalize see st dx = ex at sw e
  split at e
  · cases e
    obtain ⟨a, xs, rfl, ht0, q1⟩ := saw_tup sw
    cases r1
    obtain ⟨its, r, ht, hz⟩ := I5.tuple ht0.sq
    have hlen := r.length
    show wpAny (model X.prog X.w) X.A (subscriptTail _ (.Slice none none (some (.UnaryOp .USub (.Constant (.int 1) k p1) p2)) p3) (.ref a) (.ref s4.heap.objs.size)) (EP X pins σ Q) X.xe { s4 with heap := s4.heap.push { cls := .type "slice", data := .fields #[vl, vu, vs] } }
    refine tail_any (ops := [.ref a, .ref s4.heap.objs.size]) ht.typeIs (PyProof.Rows.slot_tuple_getitem.lookup) ?_ (by with_unfolding_all rfl)
    refine getItem_tuple_rev ht (Heap.IsSliceOf.new _ vl vu vs) pl pu ps ?_ (by rw [List.size_toArray]; omega)
    exact ⟨.ref _, _, laidT (t' := s4.toks) I5 (by rw [List.length_reverse]; exact hz) r.reverse, rfl, newT S q1.reverse q _ _ (I5.hok.fresh (Nat.le_refl _)) rfl⟩
  · cases e
    obtain ⟨a, xs, rfl, hx, q1⟩ := saw_lst sw
    cases r1
    obtain ⟨its, r, ht, hz⟩ := I5.list (SqL.of hx)
    have hlen := r.length
    show wpAny (model X.prog X.w) X.A (subscriptTail _ (.Slice none none (some (.UnaryOp .USub (.Constant (.int 1) k p1) p2)) p3) (.ref a) (.ref s4.heap.objs.size)) (EP X pins σ Q) X.xe { s4 with heap := s4.heap.push { cls := .type "slice", data := .fields #[vl, vu, vs] } }
    refine tail_any (ops := [.ref a, .ref s4.heap.objs.size]) ht.isList.typeIs (PySem.slot_list_getitem.lookup) ?_ (by with_unfolding_all rfl)
    refine wpAny_getItem_list_slice ht.isList (Heap.IsSliceOf.new _ vl vu vs) pl pu ps (by decide) ?_ (by rw [List.size_toArray]; omega)
    rw [PySem.W.krv_pick]
    refine ⟨.ref _, _, I5.laid (t' := s4.toks) (o := .lst xs.reverse) (fun b ob q => Heap.get?_push_of_some _ q) (Nat.le_refl _) ?_, rfl, newL S q1.reverse q _ (I5.hok.fresh (Nat.le_refl _))⟩
    exact ⟨by rw [List.length_reverse]; exact hz, _, 0, r.reverse, Heap.get?_push_size _ rfl⟩
  · cases e
end
/-! ### isinstance -/
def kdName : Kd → String
  | .str => "str" | .int => "int" | .bool => "bool" | .tuple => "tuple" | .list => "list" | .dict => "dict"
def tyN : D → String
  | .non => "NoneType" | .bl _ => "bool" | .int _ => "int" | .str _ => "str" | .tup _ => "tuple" | .lst _ => "list" | .dct _ _ => "dict" | .frz _ => "list" | _ => ""
theorem boot_kd (k : Kd) : ∃ x : Str, x = Str.ofString (kdName k) := ⟨_, rfl⟩
section
variable {X : Cx}
theorem saw_ty {K : PySem.W.Frag} {H : Hp} {W : Wd} {v : V} {d : D} (h : Saw K H W v d) (hr : ∀ n, d ≠ .ref n) (hs : ∀ n, d ≠ .set n) : TyX K H v (.type (tyN d)) := by
  cases h with
  | lst h r => exact .base (.lst h)
  | dct h r r2 =>
    rcases h with h | ⟨o, h⟩
    · exact .base (.dK h)
    · exact .fDict h
  | rep h n1 n2 =>
    cases h with
    | non => exact .base .non
    | bl b => exact .base (.bl b)
    | int b => exact .base (.int b)
    | str b => exact .base (.str b)
    | tup h r =>
      rcases h with ⟨o, h, _⟩ | ⟨o, its, n, h1, h2, _⟩
      · exact .fTuple h
      · exact .kTuple h1 h2
    | lst h _ _ r => exact absurd rfl (n1 _)
    | dct h _ _ r => exact absurd rfl (n2 _ _)
    | frz h =>
      rcases h with ⟨o, h⟩ | ⟨o, its, n, h1, h2, _⟩
      · exact .base (.frz h)
      · exact .kList h1 h2
    | ref h => exact absurd rfl (hr _)
theorem isi_kit {K : PySem.W.Frag} {k : Kd} {st : St} {x : D} {d : D} (h : isiD k st x = some d) : (∀ n, see st x ≠ .ref n) ∧ (∀ n, see st x ≠ .set n) ∧ ∃ b, d = .bl b ∧ PySem.W.kitOne K (.type (tyN (see st x))) (.type (kdName k)) = some b := by
  unfold isiD at h
  generalize see st x = ex at h ⊢
  cases k <;> cases ex <;> first
    | (cases h; done)
    | (cases h; exact ⟨(fun _ z => nomatch z), (fun _ z => nomatch z), _, rfl, kit_ty (by simp only [tyN, kdName]; decide +kernel)⟩)
/-- isinstance(e, T) by values: the value, then the class -/
theorem call_isiL (k : Kd) : CallR X (.builtin "isinstance") (fun xs H Q => ∃ x W st dx d, xs = [x, .ty (kdName k)] ∧ Sim X.K H W st ∧ Rep X.K H W x dx ∧ isiD k st dx = some d ∧ ∀ v, Rep X.K H W v d → Q v H) := by
  intro pins s σ H xs us Q I r h
  obtain ⟨x, W, st, dx, d, rfl, S, rx, e, q⟩ := h
  obtain ⟨n1, n2, b, rfl, hk⟩ := isi_kit (K := X.K) e
  exact call_isi pins s σ H _ us Q I r ⟨x, _, _, _, b, rfl, .ty _, saw_ty (rx.saw S) n1 n2, hk, q _ (.bl b)⟩
end
/-! ### dict(..) -/
section
variable {K : PySem.W.Frag} {H : Hp} {W : Wd}
theorem any_keys {k : Key} {e : D} (he : Rep K H W (kV k) e) : ∀ {kvs : List (Key × V)} {ks : List D}, Reps K H W (kvs.map fun kv => kV kv.1) ks → ks.any (fun d => eqD d e) = kvs.any fun kv => decide (kv.1 = k)
  | [], _, .nil => rfl
  | p :: r, _, .cons h rs => by rw [List.any_cons, List.any_cons, key_eq h he, any_keys he rs]
theorem repl_keys {k : Key} (y : V) : ∀ (kvs : List (Key × V)), (kvs.map fun kv => if kv.1 = k then (kv.1, y) else kv).map (fun kv => kV kv.1) = kvs.map fun kv => kV kv.1
  | [] => rfl
  | p :: r => by
    rw [List.map_cons, List.map_cons, repl_keys y r, List.map_cons]
    by_cases h : p.1 = k
    · rw [if_pos h]
    · rw [if_neg h]
theorem repl_vals {k : Key} {e d : D} {y : V} (he : Rep K H W (kV k) e) (hy : Rep K H W y d) : ∀ {kvs : List (Key × V)} {ks vs : List D}, Reps K H W (kvs.map fun kv => kV kv.1) ks → Reps K H W (kvs.map (·.2)) vs →
    Reps K H W ((kvs.map fun kv => if kv.1 = k then (kv.1, y) else kv).map (·.2)) (List.zipWith (fun k v => if eqD k e then d else v) ks vs)
  | [], _, _, .nil, .nil => .nil
  | p :: r, _, _, .cons h rs, .cons h2 rs2 => by
    rw [List.map_cons, List.map_cons, List.zipWith_cons_cons]
    refine .cons ?_ (repl_vals he hy rs rs2)
    rw [key_eq h he]
    by_cases hk : p.1 = k
    · rw [if_pos hk, decide_eq_true hk]; exact hy
    · rw [if_neg hk, decide_eq_false hk]; exact h2
theorem put_rep {k : Key} {e d : D} {y : V} {kvs : List (Key × V)} {ks vs : List D} (he : Rep K H W (kV k) e) (hy : Rep K H W y d) (r1 : Reps K H W (kvs.map fun kv => kV kv.1) ks) (r2 : Reps K H W (kvs.map (·.2)) vs) :
    Reps K H W ((putK kvs k y).map fun kv => kV kv.1) (dPut ks vs e d).1 ∧ Reps K H W ((putK kvs k y).map (·.2)) (dPut ks vs e d).2 := by
  unfold putK dPut
  rw [any_keys he r1]
  by_cases h : (kvs.any fun kv => decide (kv.1 = k)) = true
  · rw [if_pos h, if_pos h]
    exact ⟨by rw [repl_keys]; exact r1, repl_vals he hy r1 r2⟩
  · rw [if_neg h, if_neg h]
    exact ⟨by rw [List.map_append]; exact r1.append (.cons he .nil), by rw [List.map_append]; exact r2.append (.cons hy .nil)⟩
/-- keys and values of pairs -/
inductive Prd (K : PySem.W.Frag) (H : Hp) (W : Wd) : List (Key × V) → List (D × D) → Prop
  | nil : Prd K H W [] []
  | cons {k : Key} {v : V} {kvs : List (Key × V)} {e d : D} {eds : List (D × D)} : Rep K H W (kV k) e → Rep K H W v d → Prd K H W kvs eds → Prd K H W ((k, v) :: kvs) ((e, d) :: eds)
theorem puts_rep : ∀ {more : List (Key × V)} {eds : List (D × D)} {kvs : List (Key × V)} {ks vs : List D}, Prd K H W more eds → Reps K H W (kvs.map fun kv => kV kv.1) ks → Reps K H W (kvs.map (·.2)) vs →
    Reps K H W ((mergeK kvs more).map fun kv => kV kv.1) (dPuts ks vs eds).1 ∧ Reps K H W ((mergeK kvs more).map (·.2)) (dPuts ks vs eds).2
  | _, _, kvs, ks, vs, .nil, r1, r2 => ⟨r1, r2⟩
  | _, _, kvs, ks, vs, .cons (k := k) (v := v) (e := e) (d := d) (kvs := kvs') (eds := eds') he hd r, r1, r2 => by
    have q := put_rep he hd r1 r2
    show Reps K H W ((mergeK (putK kvs k v) kvs').map fun kv => kV kv.1) (dPuts (dPut ks vs e d).1 (dPut ks vs e d).2 eds').1 ∧ Reps K H W ((mergeK (putK kvs k v) kvs').map (·.2)) (dPuts (dPut ks vs e d).1 (dPut ks vs e d).2 eds').2
    exact puts_rep r q.1 q.2
end
section
variable {X : Cx}
/-- the pairs in a sequence -/
theorem pairs_rep {pins : List (Addr × Obj)} {σ : L2.St} {H : Hp} {s : Shared} {W : Wd} (I : Inv X pins σ H s) : ∀ {xs : List V} {us : List Value} {ds : List D} {eds : List (D × D)}, Reps X.K H W xs ds → Vals xs us → prs ds = some eds →
    ∃ (as : List Addr) (ps : List (Value × Value)) (kvs : List (Key × V)) (rs : List (Key × Value)), us = as.map Value.ref ∧ Prd X.K H W kvs eds ∧ KV kvs rs ∧ as.length = ps.length ∧ rs.length = ps.length ∧
      (∀ (j : Nat) (k v : Value), ps[j]? = some (k, v) → ∃ b, as[j]? = some b ∧ s.heap.IsTuple b #[k, v]) ∧ ∀ (j : Nat) (k v : Value), ps[j]? = some (k, v) → ∃ k', rs[j]? = some (k', v) ∧ (mixKind X.prog X.w).is k' k = true
  | _, _, [], eds, .nil, .nil, e => by
    cases e
    exact ⟨[], [], [], [], rfl, .nil, .nil, rfl, rfl, fun j k v h => by simp at h, fun j k v h => by simp at h⟩
  | _, _, d :: ds, eds, .cons h r, .cons rv rvs, e => by
    unfold prs at e
    split at e
    · cases ‹_ :: _ = []›
    · rename_i k v xs' heq
      cases heq
      split at e
      · rename_i hk
        obtain ⟨eds', e1, rfl⟩ := Option.map_eq_some_iff.mp e
        obtain ⟨as, ps, kvs, rs, eu, hp, hkv, l1, l2, f1, f2⟩ := pairs_rep I r rvs e1
        cases h with
        | tup ht q1 =>
          rename_i a ys
          cases rv
          cases q1 with
          | cons hk1 q1 =>
            cases q1 with
            | cons hv1 q1 =>
              cases q1
              obtain ⟨kk, rfl⟩ := key_rep hk1 hk
              obtain ⟨its, rt, pt, _⟩ := I.tuple ht.sq
              cases rt with
              | cons ra rt =>
                cases rt with
                | cons rb rt =>
                  cases rt
                  rename_i uk uv
                  refine ⟨a :: as, (uk, uv) :: ps, (kk, _) :: kvs, (kk, uv) :: rs, by rw [eu]; rfl, .cons hk1 hv1 hp, .cons ⟨rfl, rb⟩ hkv, by simp [l1], by simp [l2], fun j k v hj => ?_, fun j k v hj => ?_⟩
                  · cases j with
                    | zero => simp at hj; obtain ⟨rfl, rfl⟩ := hj; exact ⟨a, rfl, pt⟩
                    | succ j => exact f1 j k v (by simpa using hj)
                  · cases j with
                    | zero => simp at hj; obtain ⟨rfl, rfl⟩ := hj; exact ⟨kk, rfl, kV_is ra⟩
                    | succ j => exact f2 j k v (by simpa using hj)
      · cases e
    · cases e
theorem dict_done {pins : List (Addr × Obj)} {σ : L2.St} {H : Hp} {s : Shared} {W : Wd} {Q : VK} {T : String} {a : Addr} {fp : List Addr} {OK : Heap → Prop} {ps : List (Value × Value)} {kvs : List (Key × V)} {rs : List (Key × Value)} {eds : List (D × D)} {st : St} (hc : X.calm = true) (I : Inv X pins σ H s) (S : Sim X.K H W st)
    (P : PairArg X.prog X.w T a fp [] ps.length (PairRel ps) OK) (ok : OK s.heap) (hp : Prd X.K H W kvs eds) (hkv : KV kvs rs) (l2 : rs.length = ps.length) (f2 : ∀ (j : Nat) (k v : Value), ps[j]? = some (k, v) → ∃ k', rs[j]? = some (k', v) ∧ (mixKind X.prog X.w).is k' k = true) (hz : ps.length ≤ sizeLine)
    (q : ∀ v H', Step H W H' W → Sim X.K H' W st → Rep X.K H' W v (.dct (dPuts [] [] eds).1 (dPuts [] [] eds).2) → Q v H') : wpAny (model X.prog X.w) X.A (call (.type "dict") [.ref a]) (EP X pins σ Q) X.xe s := by
  refine PySem.call_dict_pairs (knd := mixKind X.prog X.w) (kvs := rs) P (I.ok.hd hc) ok ⟨l2, fun i k v h => f2 i k v h⟩ hz fun h' tk hd hk => ?_
  have hb := I.big
  have hm : KV (mergeK [] kvs) (merged [] rs) := KV.merge hkv .nil
  have hlen : (mergeK [] kvs).length ≤ sizeLine := by
    have h1 := length_mergeK kvs []
    have h2 := hkv.length
    simp at h1
    omega
  refine ⟨.ref s.heap.objs.size, upd H s.heap.objs.size (.dK (mergeK [] kvs)), I.laid (t' := tk) (fun b u e => hk b u (by simp) e) (Nat.le_refl _) ⟨hlen, ?_, _, hm, hd⟩, rfl, ?_⟩
  · rw [beq_eq_false_iff_ne]
    exact Nat.ne_of_gt hb
  · have q2 := puts_rep hp (kvs := []) (ks := []) (vs := []) .nil .nil
    exact newD S q2.1 q2.2 q _ (I.hok.fresh (Nat.le_refl _))
theorem call_dictL (hc : X.calm = true) : CallR X (.type "dict") (liftN X.K (un1 dictD)) := call_un1 fun pins s σ H x us Q W st dx d I r S rx e q => by
  have s1 := rx.saw S
  unfold dictD at e
  generalize see st dx = ex at s1 e
  obtain ⟨u, rfl, ru⟩ := vals1 r
  split at e
  · obtain ⟨eds, e1, rfl⟩ := Option.map_eq_some_iff.mp e
    obtain ⟨a, xs, rfl, ht, q1⟩ := saw_tup s1
    cases ru
    obtain ⟨its, rv, pt, hz⟩ := I.tuple ht.sq
    obtain ⟨as, ps, kvs, rs, eu, hp, hkv, l1, l2, f1, f2⟩ := pairs_rep I q1 rv e1
    have hpl : PlainSeq "tuple" s.heap a its.toArray := by
      rcases ht with ⟨o, ho, hd⟩ | ⟨o, its', n, hk, hcl, hd, hdat, _, rv'⟩
      · obtain ⟨g1, _⟩ := I.hok a _ ho
        obtain ⟨o', g2, hcl, n, hdat⟩ := pt
        rw [g1] at g2; cases g2
        exact ⟨o, n, g1, hcl, hd, hdat⟩
      · have g1 := I.kIn a o hk
        obtain ⟨o', g2, hcl', n', hdat'⟩ := pt
        rw [g1] at g2; cases g2
        exact ⟨o, n', g1, hcl, hd, hdat'⟩
    have hle : its.length = ps.length := by rw [eu]; simpa using l1
    have hle2 := rv.length
    refine dict_done hc I S (PairArg.tuple a its.toArray (fun j => as.getD j 0) ps) ⟨hpl, by simpa using hle, fun j k v hj => ?_⟩ hp hkv l2 f2 (by omega) q
    obtain ⟨b, hb, htp⟩ := f1 j k v hj
    have hg : as.getD j 0 = b := by rw [List.getD_eq_getElem?_getD, hb]; rfl
    refine ⟨?_, .inl (by dsimp only; rw [hg]; exact htp)⟩
    dsimp only
    rw [hg, eu]
    simp [hb]
  · obtain ⟨eds, e1, rfl⟩ := Option.map_eq_some_iff.mp e
    obtain ⟨a, xs, rfl, ht, q1⟩ := saw_lst s1
    cases ru
    obtain ⟨its, rv, pt, hz⟩ := I.list (SqL.of ht)
    obtain ⟨as, ps, kvs, rs, eu, hp, hkv, l1, l2, f1, f2⟩ := pairs_rep I q1 rv e1
    have hpl : PlainSeq "list" s.heap a its.toArray := pt
    have hle : its.length = ps.length := by rw [eu]; simpa using l1
    have hle2 := rv.length
    refine dict_done hc I S (PairArg.list a its.toArray (fun j => as.getD j 0) ps) ⟨hpl, by simpa using hle, fun j k v hj => ?_⟩ hp hkv l2 f2 (by omega) q
    obtain ⟨b, hb, htp⟩ := f1 j k v hj
    have hg : as.getD j 0 = b := by rw [List.getD_eq_getElem?_getD, hb]; rfl
    refine ⟨?_, .inl (by dsimp only; rw [hg]; exact htp)⟩
    dsimp only
    rw [hg, eu]
    simp [hb]
  · cases e
    obtain ⟨a, kvs, rfl, hr, q1, q2⟩ := saw_dct s1
    exact call_dictD pins s σ H _ [u] Q I r ⟨a, kvs, rfl, hr, newD S q1 q2 q⟩
  · cases e
end
end RP
end
section
set_option Elab.async false
set_option linter.all false
set_option maxRecDepth 100000
set_option maxHeartbeats 1000000
/-! zip of two tuples, whatever the target: the pairs are known to the object. -/
namespace RP
open PySem PySem.Spec PyProof.Rows L2
abbrev ZipR (h : Heap) (z TI TO : Addr) (f0 : Value) (fl : Bool) : Prop := h.get? z = some { cls := .type "zip", dict := none, data := .fields #[f0, .bool fl, .bool false, .ref TI, .ref TO], slots := #[] }
def ZMark (f0 : Value) : Prop := f0 = .none ∨ ∃ T : Nat, f0 = rawInt T
section
variable {prog : Program} {w : World} {A : Around} {E : Value → Shared → Prop} {s : Shared}
theorem zAlive {a : Addr} {Q : Option Obj → Shared → Prop} (h : Q (s.heap.get? a) s) : wpAny (model prog w) A (loadIfAlive a) Q E s := fun _ _ _ => h
theorem zFree {z TI TO : Addr} {f0 : Value} {fl : Bool} {Q : Bool → Shared → Prop} (zr : ZipR s.heap z TI TO f0 fl) (mk : ZMark f0) (q1 : Q true s) (q2 : ∀ h', ZipR h' z TI TO f0 true → Heap.SameBut z s.heap h' → Q false { s with heap := h' }) :
    wpAny (model prog w) A (Builtin.SmallTypes.ownedTupleIsFree (.ref z)) Q E s := by
  unfold Builtin.SmallTypes.ownedTupleIsFree
  rcases mk with rfl | ⟨T, rfl⟩
  · exact wpAny_bind (wpAny_field zr rfl (x := .none) rfl (wpAny_pure q1))
  · refine wpAny_bind (wpAny_field zr rfl (x := rawInt T) rfl ?_)
    change wpAny _ _ (loadIfAlive (Int.toNat T) >>= _) _ _ _
    refine wpAny_bind (zAlive ?_)
    cases s.heap.get? (Int.toNat T) with
    | none => exact wpAny_pure q1
    | some o =>
      simp only [Option.isNone_some, Bool.false_eq_true, if_false]
      refine wpAny_bind (wpAny_field zr rfl (x := .bool fl) rfl ?_)
      cases fl with
      | true => exact wpAny_pure (q2 s.heap zr (Heap.SameBut.refl _ _))
      | false => exact wpAny_bind (wpAny_setField_rec zr (by simp) fun g1 z1 b1 => wpAny_pure (q2 g1 z1 b1))
/-- what a turn leaves -/
structure ZNext (s : Shared) (z TI TO i1 i2 l1 l2 : Addr) (k1 k2 : Nat) (x y : Value) (h' : Heap) : Prop where
  zr : ∃ f0 fl, ZMark f0 ∧ ZipR h' z TI TO f0 fl
  to : ∃ a b, IsPair h' TO a b
  it1 : h'.IsTupleIter i1 l1 (k1 + 1)
  it2 : h'.IsTupleIter i2 l2 (k2 + 1)
  new : IsPair h' s.heap.objs.size x y
  size : h'.objs.size = s.heap.objs.size + 1
  keep : ∀ c o, c ≠ z → c ≠ TO → c ≠ i1 → c ≠ i2 → s.heap.get? c = some o → h'.get? c = some o
theorem zItem {z TI TO i1 i2 l1 l2 : Addr} {f0 : Value} {fl : Bool} {k1 k2 : Nat} {xs ys : Array Value} {x y a b : Value} {Q : Value → Shared → Prop} (ap : ZipApart z TI TO i1 i2 l1 l2) (zr : ZipR s.heap z TI TO f0 fl) (mk : ZMark f0)
    (ti : IsPair s.heap TI (.ref i1) (.ref i2)) (to : IsPair s.heap TO a b) (j1 : s.heap.IsTupleIter i1 l1 k1) (j2 : s.heap.IsTupleIter i2 l2 k2) (t1 : s.heap.IsTuple l1 xs) (t2 : s.heap.IsTuple l2 ys) (ex : xs[k1]? = some x) (ey : ys[k2]? = some y)
    (q : ∀ h', ZNext s z TI TO i1 i2 l1 l2 k1 k2 x y h' → Q (.ref s.heap.objs.size) { s with heap := h' }) :
    wpAny (model prog w) A (Builtin.«zip.__next__» ⟨[.ref z], []⟩) (fun fin s' => ∃ v, fin = .done (.ret v) ∧ Q v s') E s := by
  change wpAny _ _ (field (Value.ref z) 2 >>= _) _ _ _
  refine wpAny_bind (wpAny_field zr rfl (x := .bool false) rfl ?_)
  change wpAny _ _ (field (Value.ref z) 3 >>= _) _ _ _
  refine wpAny_bind (wpAny_field zr rfl (x := .ref TI) rfl ?_)
  refine wpAny_bind (wpAny_seqItems ti rfl ?_)
  change wpAny _ _ (Builtin.SmallTypes.ownedTupleIsFree (Value.ref z) >>= _) _ _ _
  refine wpAny_bind (zFree zr mk ?_ fun g1 z1 b1 => ?_)
  · simp only [if_true]
    refine wpAny_bind (wpAny_rule ?_)
    refine wpAny_bind (wpAny_field zr rfl (x := .ref TO) rfl ?_)
    refine wpAny_bind (wpAny_setField_rec zr (by simp) fun g1 z1 b1 => ?_)
    replace z1 : ZipR g1 z TI TO .ellipsis fl := z1
    refine wpAny_bind ?_
    simp only [List.zipIdx_cons, List.zipIdx_nil, List.forIn_cons, List.forIn_nil]
    refine wpAny_bind (wpAny_bind (wpAny_onRaise ?_))
    change wpAny _ _ (Builtin.SmallTypes.nextOf (Value.ref i1) >>= _) _ _ _
    refine wpAny_bind (RZ.nextOf_tuple_item (j1.extBut b1.extBut ap.i1z) (t1.extBut b1.extBut ap.l1z) ex fun g2 j1' b2 => wpAny_pure ?_)
    have to2 : IsPair g2 TO a b := b2.extBut _ _ ap.TOi1 (b1.extBut _ _ ap.TOz to)
    refine wpAny_bind (wpAny_seqItems to2 rfl ?_)
    refine wpAny_bind (wpAny_updateSeq_pair to2 fun g3 to3 b3 => ?_)
    replace to3 : IsPair g3 TO x b := to3
    refine wpAny_bind (wpAny_letGo (wpAny_pure ?_))
    refine wpAny_bind (wpAny_bind (wpAny_onRaise ?_))
    change wpAny _ _ (Builtin.SmallTypes.nextOf (Value.ref i2) >>= _) _ _ _
    refine wpAny_bind (RZ.nextOf_tuple_item (((j2.extBut b1.extBut ap.i2z).extBut b2.extBut ap.i12.symm).extBut b3.extBut ap.TOi2.symm) (((t2.extBut b1.extBut ap.l2z).extBut b2.extBut ap.l2i1).extBut b3.extBut ap.l2TO) ey fun g4 j2' b4 => wpAny_pure ?_)
    have to4 : IsPair g4 TO x b := b4.extBut _ _ ap.TOi2 to3
    refine wpAny_bind (wpAny_seqItems to4 rfl ?_)
    refine wpAny_bind (wpAny_updateSeq_pair to4 fun g5 to5 b5 => ?_)
    replace to5 : IsPair g5 TO x y := to5
    refine wpAny_bind (wpAny_letGo (wpAny_pure (wpAny_pure ?_)))
    refine wpAny_bind (wpAny_seqItems to5 rfl ?_)
    refine wpAny_bind (wpAny_newTuple ?_)
    have sz : g5.objs.size = s.heap.objs.size := by rw [b5.1, b4.1, b3.1, b2.1, b1.1]
    have z5 : ZipR g5 z TI TO .ellipsis fl := b5.extBut _ _ ap.TOz.symm (b4.extBut _ _ ap.i2z.symm (b3.extBut _ _ ap.TOz.symm (b2.extBut _ _ ap.i1z.symm z1)))
    have kp5 : ∀ c o, c ≠ z → c ≠ TO → c ≠ i1 → c ≠ i2 → s.heap.get? c = some o → g5.get? c = some o := fun c o n1 n2 n3 n4 e => b5.extBut _ _ n2 (b4.extBut _ _ n4 (b3.extBut _ _ n2 (b2.extBut _ _ n3 (b1.extBut _ _ n1 e))))
    have j1f : g5.IsTupleIter i1 l1 (k1 + 1) := ((j1'.extBut b3.extBut ap.TOi1.symm).extBut b4.extBut ap.i12).extBut b5.extBut ap.TOi1.symm
    have j2f : g5.IsTupleIter i2 l2 (k2 + 1) := j2'.extBut b5.extBut ap.TOi2.symm
    have zlt : z < g5.objs.size := Heap.lt_size z5
    change wpAny _ _ (Builtin.SmallTypes.ownedTupleHandOut (Value.ref z) (Value.ref g5.objs.size) >>= _) _ _ _
    refine wpAny_bind ?_
    unfold Builtin.SmallTypes.ownedTupleHandOut
    have z6 : ZipR (g5.push { cls := .type "tuple", data := .seq #[x, y] }) z TI TO .ellipsis fl := Heap.get?_push_of_some _ z5
    refine wpAny_bind (wpAny_setField_rec z6 (by simp) fun g7 z7 b7 => ?_)
    replace z7 : ZipR g7 z TI TO (rawInt g5.objs.size) fl := z7
    refine wpAny_setField_rec z7 (by simp) fun g8 z8 b8 => ?_
    replace z8 : ZipR g8 z TI TO (rawInt g5.objs.size) false := z8
    have up : ∀ c o, c ≠ z → g5.get? c = some o → g8.get? c = some o := fun c o n1 e => b8.extBut _ _ n1 (b7.extBut _ _ n1 (Heap.get?_push_of_some _ e))
    have nw : IsPair g8 g5.objs.size x y := b8.extBut _ _ (Nat.ne_of_gt zlt) (b7.extBut _ _ (Nat.ne_of_gt zlt) (Heap.get?_push_size _ rfl))
    have sz8 : g8.objs.size = g5.objs.size + 1 := by rw [b8.1, b7.1, Heap.size_push]
    refine wpAny_pure ⟨_, rfl, ?_⟩
    change Q (.ref g5.objs.size) _
    rw [sz] at nw sz8 ⊢
    exact q g8 ⟨⟨_, _, .inr ⟨_, rfl⟩, z8⟩, ⟨_, _, up _ _ ap.TOz to5⟩, j1f.at fun o e => up _ o ap.i1z e, j2f.at fun o e => up _ o ap.i2z e, nw, sz8, fun c o n1 n2 n3 n4 e => up c o n1 (kp5 c o n1 n2 n3 n4 e)⟩
  · simp only [Bool.false_eq_true, if_false]
    refine wpAny_bind ?_
    rw [← Array.forIn_toList]
    simp only [List.forIn_cons, List.forIn_nil]
    refine wpAny_bind (wpAny_bind (wpAny_holding ?_))
    change wpAny _ _ (Builtin.SmallTypes.nextOf (Value.ref i1) >>= _) _ _ _
    refine wpAny_bind (RZ.nextOf_tuple_item (s := { s with heap := g1 }) (j1.extBut b1.extBut ap.i1z) (t1.extBut b1.extBut ap.l1z) ex fun g2 j1' b2 => wpAny_pure ?_)
    refine wpAny_pure ?_
    refine wpAny_bind (wpAny_bind (wpAny_holding ?_))
    change wpAny _ _ (Builtin.SmallTypes.nextOf (Value.ref i2) >>= _) _ _ _
    refine wpAny_bind (RZ.nextOf_tuple_item (s := { s with heap := g2 }) ((j2.extBut b1.extBut ap.i2z).extBut b2.extBut ap.i12.symm) ((t2.extBut b1.extBut ap.l2z).extBut b2.extBut ap.l2i1) ey fun g3 j2' b3 => wpAny_pure ?_)
    refine wpAny_pure (wpAny_pure ?_)
    change wpAny _ _ (newTuple [x, y] >>= _) _ _ _
    refine wpAny_bind (wpAny_newTuple ?_)
    have sz : g3.objs.size = s.heap.objs.size := by rw [b3.1, b2.1, b1.1]
    have z3 : ZipR g3 z TI TO f0 true := b3.extBut _ _ ap.i2z.symm (b2.extBut _ _ ap.i1z.symm z1)
    have to3 : IsPair g3 TO a b := b3.extBut _ _ ap.TOi2 (b2.extBut _ _ ap.TOi1 (b1.extBut _ _ ap.TOz to))
    refine wpAny_pure ⟨_, rfl, ?_⟩
    change Q (.ref g3.objs.size) _
    have nw : IsPair (g3.push { cls := .type "tuple", data := .seq #[x, y] }) g3.objs.size x y := Heap.get?_push_size _ rfl
    have sz4 : (g3.push { cls := .type "tuple", data := .seq #[x, y] }).objs.size = g3.objs.size + 1 := Heap.size_push ..
    rw [sz] at nw sz4 ⊢
    exact q _ ⟨⟨_, _, mk, Heap.get?_push_of_some _ z3⟩, ⟨_, _, Heap.get?_push_of_some _ to3⟩, (j1'.extBut b3.extBut ap.i12).at fun o e => Heap.get?_push_of_some _ e, j2'.at fun o e => Heap.get?_push_of_some _ e, nw, sz4,
      fun c o n1 _ n3 n4 e => Heap.get?_push_of_some _ (b3.extBut _ _ n4 (b2.extBut _ _ n3 (b1.extBut _ _ n1 e)))⟩
theorem zEnd {z TI TO i1 i2 l1 l2 : Addr} {f0 : Value} {fl : Bool} {k1 k2 : Nat} {xs ys : Array Value} {a b : Value} {Q : Fin → Shared → Prop} (hh : A.handled = none) (ap : ZipApart z TI TO i1 i2 l1 l2) (zr : ZipR s.heap z TI TO f0 fl) (mk : ZMark f0)
    (ti : IsPair s.heap TI (.ref i1) (.ref i2)) (to : IsPair s.heap TO a b) (j1 : s.heap.IsTupleIter i1 l1 k1) (j2 : s.heap.IsTupleIter i2 l2 k2) (t1 : s.heap.IsTuple l1 xs) (t2 : s.heap.IsTuple l2 ys) (hend : xs[k1]? = none ∨ ys[k2]? = none)
    (q : ∀ h' e, (∀ c o, c ≠ z → c ≠ TO → c ≠ i1 → c ≠ i2 → s.heap.get? c = some o → h'.get? c = some o) → (∃ o, h'.get? e = some o ∧ o.cls = .type "StopIteration") → E (.ref e) { s with heap := h' }) :
    wpAny (model prog w) A (Builtin.«zip.__next__» ⟨[.ref z], []⟩) Q E s := by
  change wpAny _ _ (field (Value.ref z) 2 >>= _) _ _ _
  refine wpAny_bind (wpAny_field zr rfl (x := .bool false) rfl ?_)
  change wpAny _ _ (field (Value.ref z) 3 >>= _) _ _ _
  refine wpAny_bind (wpAny_field zr rfl (x := .ref TI) rfl ?_)
  refine wpAny_bind (wpAny_seqItems ti rfl ?_)
  change wpAny _ _ (Builtin.SmallTypes.ownedTupleIsFree (Value.ref z) >>= _) _ _ _
  refine wpAny_bind (zFree zr mk ?_ fun g1 z1 b1 => ?_)
  · simp only [if_true]
    refine wpAny_bind (wpAny_rule ?_)
    refine wpAny_bind (wpAny_field zr rfl (x := .ref TO) rfl ?_)
    refine wpAny_bind (wpAny_setField_rec zr (by simp) fun g1 z1 b1 => ?_)
    replace z1 : ZipR g1 z TI TO .ellipsis fl := z1
    refine wpAny_bind ?_
    simp only [List.zipIdx_cons, List.zipIdx_nil, List.forIn_cons, List.forIn_nil]
    refine wpAny_bind (wpAny_bind (wpAny_onRaise ?_))
    change wpAny _ _ (Builtin.SmallTypes.nextOf (Value.ref i1) >>= _) _ _ _
    cases ex : xs[k1]? with
    | none =>
      refine wpAny_bind (RZ.nextOf_tuple_end hh (j1.extBut b1.extBut ap.i1z) (t1.extBut b1.extBut ap.l1z) ex fun g2 e b2 he => ?_)
      obtain ⟨oe, e1, e2⟩ := he
      have z2 : ZipR g2 z TI TO .ellipsis fl := b2 _ _ ap.i1z.symm z1
      have ne : e ≠ z := fun x => by subst x; rw [z2] at e1; cases e1; simp at e2
      exact wpAny_setField_rec z2 (by simp) fun g3 _ b3 => q g3 e (fun c o n1 _ n3 _ x => b3.extBut _ _ n1 (b2 _ _ n3 (b1.extBut _ _ n1 x))) ⟨oe, b3.extBut _ _ ne e1, e2⟩
    | some x =>
      have ey : ys[k2]? = none := by
        rcases hend with h | h
        · rw [ex] at h; cases h
        · exact h
      refine wpAny_bind (RZ.nextOf_tuple_item (j1.extBut b1.extBut ap.i1z) (t1.extBut b1.extBut ap.l1z) ex fun g2 j1' b2 => wpAny_pure ?_)
      have to2 : IsPair g2 TO a b := b2.extBut _ _ ap.TOi1 (b1.extBut _ _ ap.TOz to)
      refine wpAny_bind (wpAny_seqItems to2 rfl ?_)
      refine wpAny_bind (wpAny_updateSeq_pair to2 fun g3 to3 b3 => ?_)
      refine wpAny_bind (wpAny_letGo (wpAny_pure ?_))
      refine wpAny_bind (wpAny_bind (wpAny_onRaise ?_))
      change wpAny _ _ (Builtin.SmallTypes.nextOf (Value.ref i2) >>= _) _ _ _
      refine wpAny_bind (RZ.nextOf_tuple_end hh (((j2.extBut b1.extBut ap.i2z).extBut b2.extBut ap.i12.symm).extBut b3.extBut ap.TOi2.symm) (((t2.extBut b1.extBut ap.l2z).extBut b2.extBut ap.l2i1).extBut b3.extBut ap.l2TO) ey fun g4 e b4 he => ?_)
      obtain ⟨oe, e1, e2⟩ := he
      have z4 : ZipR g4 z TI TO .ellipsis fl := b4 _ _ ap.i2z.symm (b3.extBut _ _ ap.TOz.symm (b2.extBut _ _ ap.i1z.symm z1))
      have ne : e ≠ z := fun x => by subst x; rw [z4] at e1; cases e1; simp at e2
      exact wpAny_setField_rec z4 (by simp) fun g5 _ b5 => q g5 e (fun c o n1 n2 n3 n4 x => b5.extBut _ _ n1 (b4 _ _ n4 (b3.extBut _ _ n2 (b2.extBut _ _ n3 (b1.extBut _ _ n1 x))))) ⟨oe, b5.extBut _ _ ne e1, e2⟩
  · simp only [Bool.false_eq_true, if_false]
    refine wpAny_bind ?_
    rw [← Array.forIn_toList]
    simp only [List.forIn_cons, List.forIn_nil]
    refine wpAny_bind (wpAny_bind (wpAny_holding ?_))
    change wpAny _ _ (Builtin.SmallTypes.nextOf (Value.ref i1) >>= _) _ _ _
    cases ex : xs[k1]? with
    | none =>
      refine wpAny_bind (RZ.nextOf_tuple_end (s := { s with heap := g1 }) hh (j1.extBut b1.extBut ap.i1z) (t1.extBut b1.extBut ap.l1z) ex fun g2 e b2 he => ?_)
      exact q g2 e (fun c o n1 _ n3 _ x => b2 _ _ n3 (b1.extBut _ _ n1 x)) he
    | some x =>
      have ey : ys[k2]? = none := by
        rcases hend with h | h
        · rw [ex] at h; cases h
        · exact h
      refine wpAny_bind (RZ.nextOf_tuple_item (s := { s with heap := g1 }) (j1.extBut b1.extBut ap.i1z) (t1.extBut b1.extBut ap.l1z) ex fun g2 j1' b2 => wpAny_pure ?_)
      refine wpAny_pure ?_
      refine wpAny_bind (wpAny_bind (wpAny_holding ?_))
      change wpAny _ _ (Builtin.SmallTypes.nextOf (Value.ref i2) >>= _) _ _ _
      refine wpAny_bind (RZ.nextOf_tuple_end (s := { s with heap := g2 }) hh ((j2.extBut b1.extBut ap.i2z).extBut b2.extBut ap.i12.symm) ((t2.extBut b1.extBut ap.l2z).extBut b2.extBut ap.l2i1) ey fun g3 e b3 he => ?_)
      exact q g3 e (fun c o n1 _ n3 n4 x => b3 _ _ n4 (b2.extBut _ _ n3 (b1.extBut _ _ n1 x))) he
theorem zNext {z TI TO i1 i2 l1 l2 : Addr} {f0 : Value} {fl : Bool} {k1 k2 : Nat} {xs ys : Array Value} {x y a b : Value} {Q : Option Value → Shared → Prop} (ap : ZipApart z TI TO i1 i2 l1 l2) (zr : ZipR s.heap z TI TO f0 fl) (mk : ZMark f0)
    (ti : IsPair s.heap TI (.ref i1) (.ref i2)) (to : IsPair s.heap TO a b) (j1 : s.heap.IsTupleIter i1 l1 k1) (j2 : s.heap.IsTupleIter i2 l2 k2) (t1 : s.heap.IsTuple l1 xs) (t2 : s.heap.IsTuple l2 ys) (ex : xs[k1]? = some x) (ey : ys[k2]? = some y)
    (q : ∀ h', ZNext s z TI TO i1 i2 l1 l2 k1 k2 x y h' → Q (some (.ref s.heap.objs.size)) { s with heap := h' }) : wpAny (model prog w) A (pyNext (.ref z)) Q E s := by
  have ty : s.TypeIs (.ref z) "zip" := ⟨_, zr, rfl⟩
  unfold pyNext
  exact wpAny_bind (wpAny_attempt (wpAny_callSpecial?_slot (name := Str.ofString "__next__") ty F.slot_zip_next (wpAny_call_entry F.slot_zip_next ty F.entry_zip_next (zItem ap zr mk ti to j1 j2 t1 t2 ex ey fun h' n => wpAny_pure (q h' n)) (F.args_zip_next_1 _))))
theorem zStop {z TI TO i1 i2 l1 l2 : Addr} {f0 : Value} {fl : Bool} {k1 k2 : Nat} {xs ys : Array Value} {a b : Value} {Q : Option Value → Shared → Prop} (hh : A.handled = none) (ap : ZipApart z TI TO i1 i2 l1 l2) (zr : ZipR s.heap z TI TO f0 fl) (mk : ZMark f0)
    (ti : IsPair s.heap TI (.ref i1) (.ref i2)) (to : IsPair s.heap TO a b) (j1 : s.heap.IsTupleIter i1 l1 k1) (j2 : s.heap.IsTupleIter i2 l2 k2) (t1 : s.heap.IsTuple l1 xs) (t2 : s.heap.IsTuple l2 ys) (hend : xs[k1]? = none ∨ ys[k2]? = none)
    (q : ∀ h', (∀ c o, c ≠ z → c ≠ TO → c ≠ i1 → c ≠ i2 → s.heap.get? c = some o → h'.get? c = some o) → Q none { s with heap := h' }) : wpAny (model prog w) A (pyNext (.ref z)) Q E s := by
  have ty : s.TypeIs (.ref z) "zip" := ⟨_, zr, rfl⟩
  unfold pyNext
  refine wpAny_bind (wpAny_attempt (wpAny_callSpecial?_slot (name := Str.ofString "__next__") ty F.slot_zip_next (wpAny_call_entry F.slot_zip_next ty F.entry_zip_next (zEnd hh ap zr mk ti to j1 j2 t1 t2 hend fun h' e kp he => ?_) (F.args_zip_next_1 _))))
  obtain ⟨o, e1, e2⟩ := he
  exact wpAny_bind (wpAny_isInstance (T := "StopIteration") (b := true) ⟨o, e1, e2⟩ isSubtype_stop (wpAny_pure (q _ kp)))
/-- the step ahead of the store -/
theorem zGo {tg : Expr} {z TI TO T : Addr} {f0 : Value} {fl : Bool} {Q : Unit → Shared → Prop} (zr : ZipR s.heap z TI TO f0 fl) (mk : ZMark f0) (q : ∀ h', (∃ f0 fl, ZMark f0 ∧ ZipR h' z TI TO f0 fl) → Heap.SameBut z s.heap h' → Q () { s with heap := h' }) :
    wpAny (model prog w) A (letOwnedTupleGo tg (.ref z) (.ref T)) Q E s := by
  have same : Q () s := q s.heap ⟨f0, fl, mk, zr⟩ (Heap.SameBut.refl _ _)
  unfold letOwnedTupleGo
  cases tg <;> first
    | exact wpAny_pure same
    | (refine wpAny_bind (wpAny_load zr ?_)
       dsimp only
       split
       · refine wpAny_bind (wpAny_rule ?_)
         change wpAny _ _ (setField (Value.ref z) 0 .none) Q E s
         exact wpAny_setField_rec zr (by simp) fun h' z1 b1 => q h' ⟨.none, fl, .inl rfl, z1⟩ b1
       · exact wpAny_pure same)
theorem zIter {z TI TO : Addr} {f0 : Value} {fl : Bool} {Q : Value → Shared → Prop} (zr : ZipR s.heap z TI TO f0 fl) (q : Q (.ref z) s) : wpAny (model prog w) A (pyIter (.ref z)) Q E s := by
  have ty : s.TypeIs (.ref z) "zip" := ⟨_, zr, rfl⟩
  refine wpAny_pyIter_slot ty F.slot_zip_iter (wpAny_call_entry F.slot_zip_iter ty F.entry_zip_iter ?_ (F.args_zip_iter_1 _))
  exact wpAny_pure ⟨_, rfl, "zip", _, ty, F.slot_zip_next.lookup, q⟩
end
/-- two tuples, their items in new pairs -/
def ItzF (K : PySem.W.Frag) (a b : Addr) : It where
  go := fun i H => ∃ (xs ys : List V) (x y : V), SqT K H a xs ∧ SqT K H b ys ∧ xs[i]? = some x ∧ ys[i]? = some y
  yld := fun i H v H' => ∃ T o x y, v = .ref T ∧ H T = none ∧ o.dict = none ∧ H' = upd H T (.frz o (.tup [x, y])) ∧ (∀ xs, SqT K H a xs → xs[i]? = some x) ∧ ∀ ys, SqT K H b ys → ys[i]? = some y
  stop := fun i H => ∃ xs ys : List V, SqT K H a xs ∧ SqT K H b ys ∧ (xs.length ≤ i ∨ ys.length ≤ i)
structure ZSt (z TI TO i1 i2 a b : Addr) (i : Nat) (h : Heap) : Prop where
  zr : ∃ f0 fl, ZMark f0 ∧ ZipR h z TI TO f0 fl
  ti : IsPair h TI (.ref i1) (.ref i2)
  to : ∃ x y, IsPair h TO x y
  it1 : h.IsTupleIter i1 a i
  it2 : h.IsTupleIter i2 b i
theorem ZSt.mono {z TI TO i1 i2 a b : Addr} {i : Nat} {h h' : Heap} (t : ZSt z TI TO i1 i2 a b i h) (k : ∀ c ∈ [z, TI, TO, i1, i2], ∀ o, h.get? c = some o → h'.get? c = some o) : ZSt z TI TO i1 i2 a b i h' := by
  obtain ⟨⟨f0, fl, mk, zr⟩, ti, ⟨x, y, to⟩, j1, j2⟩ := t
  exact ⟨⟨f0, fl, mk, k z (by simp) _ zr⟩, k TI (by simp) _ ti, ⟨x, y, k TO (by simp) _ to⟩, j1.at fun o q => k i1 (by simp) o q, j2.at fun o q => k i2 (by simp) o q⟩
theorem zTurn {P : Program} {w : World} {K : PySem.W.Frag} {tg : Expr} {a b z TI TO i1 i2 : Addr} (ap : ZipApart z TI TO i1 i2 a b) : Turn P w K tg (ItzF K a b) [z, TI, TO, i1, i2] z (ZSt z TI TO i1 i2 a b) where
  mem := by simp
  obj := fun i h t c hc => by
    obtain ⟨⟨f0, fl, mk, zr⟩, ti, ⟨x, y, to⟩, ⟨o1, e1, _, d1⟩, ⟨o2, e2, _, d2⟩⟩ := t
    simp only [List.mem_cons, List.not_mem_nil, or_false] at hc
    rcases hc with rfl | rfl | rfl | rfl | rfl
    · exact ⟨_, zr, fun v q => nomatch q⟩
    · exact ⟨_, ti, fun v q => nomatch q⟩
    · exact ⟨_, to, fun v q => nomatch q⟩
    · exact ⟨o1, e1, fun v q => by rw [d1] at q; cases q⟩
    · exact ⟨o2, e2, fun v q => by rw [d2] at q; cases q⟩
  keep := fun i h h' t k => t.mono k
  item := by
    intro X hP hw hK hc i pins s σ H E I hf t hg
    subst hP hw hK
    obtain ⟨⟨f0, fl, mk, zr⟩, ti, ⟨x0, y0, to⟩, j1, j2⟩ := t
    obtain ⟨xs, ys, x, y, sx, sy, ex, ey⟩ := hg
    obtain ⟨its, rv, t1, _⟩ := I.tuple sx
    obtain ⟨its2, rv2, t2, _⟩ := I.tuple sy
    obtain ⟨u, hu, ru⟩ := rv.get ex
    obtain ⟨u2, hu2, ru2⟩ := rv2.get ey
    have zlt : z < s.heap.objs.size := Heap.lt_size zr
    have old : ∀ c ∈ [z, TI, TO, i1, i2], c < s.heap.objs.size := fun c hcm => by
      simp only [List.mem_cons, List.not_mem_nil, or_false] at hcm
      rcases hcm with rfl | rfl | rfl | rfl | rfl
      · exact zlt
      · exact Heap.lt_size ti
      · exact Heap.lt_size to
      · obtain ⟨_, e1, _⟩ := j1; exact Heap.lt_size e1
      · obtain ⟨_, e1, _⟩ := j2; exact Heap.lt_size e1
    refine zNext ap zr mk ti to j1 j2 t1 t2 (x := u) (y := u2) (by simpa using hu) (by simpa using hu2) fun h' n => ?_
    obtain ⟨g0, gl, gm, gz⟩ := n.zr
    refine ⟨_, rfl, zGo (s := { s with heap := h' }) gz gm fun h'' n2 sb => ?_⟩
    have eT : h''.get? s.heap.objs.size = some { cls := .type "tuple", data := .seq #[u, u2] } := (sb.2 _ (Nat.ne_of_gt zlt)).trans n.new
    have new : ObjOk X.prog X.w (upd H s.heap.objs.size (.frz { cls := .type "tuple", data := .seq #[u, u2] } (.tup [x, y]))) h'' s.heap.objs.size (.frz { cls := .type "tuple", data := .seq #[u, u2] } (.tup [x, y])) :=
      ⟨eT, by show 2 ≤ sizeLine; decide, [u, u2], .cons ru (.cons ru2 .nil), ⟨_, eT, rfl, _, rfl⟩⟩
    have I1 : Inv X pins σ (upd H s.heap.objs.size (.frz { cls := .type "tuple", data := .seq #[u, u2] } (.tup [x, y]))) { s with heap := h'' } :=
      I.turnedNew (t' := s.toks) (ch := [z, TI, TO, i1, i2]) (fun c o hb q => (sb.2 c (fun e => hb (by simp [e]))).trans (n.keep c o (fun e => hb (by simp [e])) (fun e => hb (by simp [e])) (fun e => hb (by simp [e])) (fun e => hb (by simp [e])) q)) hf (Nat.le_refl _) new
    obtain ⟨p, p', npair⟩ := n.to
    refine ⟨.ref s.heap.objs.size, _, I1, rfl, ⟨_, _, x, y, rfl, I.hok.fresh (Nat.le_refl _), rfl, rfl, fun l hl => by rw [I.tuple_inj hl sx]; exact ex, fun l hl => by rw [I.tuple_inj hl sy]; exact ey⟩, ⟨n2, ?_, ⟨p, p', ?_⟩, ?_, ?_⟩, fun c hcm => ?_⟩
    · exact (sb.2 _ ap.TIz).trans (n.keep _ _ ap.TIz ap.TITO ap.TIi1 ap.TIi2 ti)
    · exact (sb.2 _ ap.TOz).trans npair
    · exact n.it1.at fun o q => (sb.2 _ ap.i1z).trans q
    · exact n.it2.at fun o q => (sb.2 _ ap.i2z).trans q
    · rw [upd_ne (Nat.ne_of_lt (old c hcm))]
      exact (hf c hcm).1
  done := by
    intro X hP hw hK hc i pins s σ H E I hf t hg
    subst hP hw hK
    obtain ⟨⟨f0, fl, mk, zr⟩, ti, ⟨x0, y0, to⟩, j1, j2⟩ := t
    obtain ⟨xs, ys, sx, sy, hend⟩ := hg
    obtain ⟨its, rv, t1, _⟩ := I.tuple sx
    obtain ⟨its2, rv2, t2, _⟩ := I.tuple sy
    have l1 := rv.length
    have l2 := rv2.length
    have he : its.toArray[i]? = none ∨ its2.toArray[i]? = none := hend.imp (fun q => by simp; omega) (fun q => by simp; omega)
    exact zStop (I.ok.hd hc) ap zr mk ti to j1 j2 t1 t2 he fun h' hk => ⟨rfl, I.turnedL (t' := s.toks) (ch := [z, TI, TO, i1, i2]) (fun c o hb q => hk c o (fun e => hb (by simp [e])) (fun e => hb (by simp [e])) (fun e => hb (by simp [e])) (fun e => hb (by simp [e])) q) hf⟩
  self := fun A i s Q E t h => by
    obtain ⟨f0, fl, mk, zr⟩ := t.zr
    exact zIter zr h
def iZipF (K : PySem.W.Frag) (ta : TA) : TI := fun σ H R => ta σ H fun vs H1 => ∃ a b xs ys, vs = [.ref a, .ref b] ∧ SqT K H1 a xs ∧ SqT K H1 b ys ∧ (xs.length ≤ sizeLine → R (ItzF K a b) H1)
theorem pi_zipF {X : Cx} {tg e e2 : Expr} {ta : TA} {p pos : Pos} (hg : Gl X "zip") (hm : X.mg "zip" = none) (ha : PA X [e, e2] ta) (hs : starEach [e, e2] X.env = (false, eval e X.env) :: starEach [e2] X.env) (hpl : (backTo pos (starEach [e2] X.env)).any (·.1) = false) :
    PI X tg (.Call (.Name "zip" p) [e, e2] [] pos) (iZipF X.K ta) := by
  refine ⟨fun pins s σ H R I h => ?_⟩
  refine Call_ (ld_blt I hg hm PyProof.Rows.boot_zip (PyProof.Rows.callWith_type1 (thn (ha.run pos pins s σ H _ I h) fun us s1 ⟨vs, H1, I1, r1, q1⟩ => ?_) hs hpl))
  obtain ⟨a, b, xs, ys, ex, sx, sy, q⟩ := q1
  subst ex
  cases r1 with
  | cons r rr =>
    cases rr with
    | cons r' rr =>
      cases rr
      cases r
      cases r'
      obtain ⟨its, rv, t1, hz1⟩ := I1.tuple sx
      obtain ⟨its2, rv2, t2, _⟩ := I1.tuple sy
      obtain ⟨o1, f1, _⟩ := id t1
      obtain ⟨o2, f2, _⟩ := id t2
      refine RZ.call_zipT (show s1.heap.IsTuple a its.toArray from t1) (show s1.heap.IsTuple b its2.toArray from t2) fun h' hz hTI hTO h1 h2 hsz hk => wpAny_pyIter_zip hz ?_
      have I2 : Inv X pins σ H1 { s1 with heap := h' } := I1.kept (t' := s1.toks) hk
      refine ⟨s1.heap.objs.size + 4, [s1.heap.objs.size + 4, s1.heap.objs.size + 2, s1.heap.objs.size + 3, s1.heap.objs.size, s1.heap.objs.size + 1], _, _, H1, rfl, I2, zTurn (PySem.W.ktu_apart s1.heap.objs.size a b (Heap.lt_size f1) (Heap.lt_size f2)), ⟨⟨_, _, .inl rfl, hz⟩, hTI, ⟨_, _, hTO⟩, h1, h2⟩, fun c hcm => ?_, q hz1⟩
      have hle : s1.heap.objs.size ≤ c := by
        simp only [List.mem_cons, List.not_mem_nil, or_false] at hcm
        rcases hcm with e | e | e | e | e <;> rw [e] <;> first | exact Nat.le_refl _ | exact Nat.le_add_right _ _
      exact I1.fpOk hle (I1.hok.fresh hle)
end RP
end
section
set_option Elab.async false
set_option linter.all false
set_option maxRecDepth 100000
/-! Readings of denotations; the rules for expressions. -/
namespace RP
open PySem L2

structure EnvR (K : PySem.W.Frag) (H : Hp) (W : Wd) (σ : L2.St) (env : Env) : Prop where
  len : σ.length = env.length
  get : ∀ (i : Nat) (d : D), env[i]? = some (some d) → ∃ v, σ[i]? = some (some v) ∧ Rep K H W v d
/-- what is raised, in the layer -/
def XRep (K : PySem.W.Frag) (H : Hp) (W : Wd) (x : Xc) (cls : Value) (dd : Option Addr) : Prop := cls = .ref (He.ga K x.cls) ∧
  ((dd = none ∧ x.fs = []) ∨ ∃ a fs', dd = some a ∧ H a = some (.xd fs') ∧ fs'.map (·.1) = x.fs.map (·.1) ∧ Reps K H W (fs'.map (·.2)) (x.fs.map (·.2)))
def Post {α : Type} (K : PySem.W.Frag) (Wx : WX) (σ : L2.St) (H : Hp) (W : Wd) (r : R α) (P : α → St → Prop) : Prop := match r with
  | .ok a st => P a st
  | .er x st => ∀ H' W' cls dd, Step H W H' W' → Sim K H' W' st → XRep K H' W' x cls dd → Wx cls dd σ H'
  | .no => False
section
variable {α β : Type} {K : PySem.W.Frag} {Wx : WX} {σ : L2.St} {H H1 : Hp} {W W1 : Wd} {r : R α} {P P' : α → St → Prop}
theorem Post.mono (h : Post K Wx σ H W r P) (hp : ∀ a st, P a st → P' a st) : Post K Wx σ H W r P' := by
  cases r with
  | ok a st => exact hp a st h
  | er x st => exact h
  | no => exact h
theorem Post.bind {k : α → St → R β} {Q : β → St → Prop} (h : Post K Wx σ H W (r.bind k) Q) : Post K Wx σ H W r fun a st => Post K Wx σ H W (k a st) Q := by
  cases r with
  | ok a st => exact h
  | er x st => exact h
  | no => exact h
theorem Post.at (T : Step H W H1 W1) (h : Post K Wx σ H W r P) : Post K Wx σ H1 W1 r P := by
  cases r with
  | ok a st => exact h
  | er x st => exact fun H' W' cls dd T' S' x' => h H' W' cls dd (T.trans T') S' x'
  | no => exact h
theorem Post.of {o : Option α} {st : St} (h : Post K Wx σ H W (R.of o st) P) : ∃ a, o = some a ∧ P a st := by
  cases o with
  | some a => exact ⟨a, rfl, h⟩
  | none => exact (show False from h).elim
theorem EnvR.step {σ : L2.St} {env : Env} {st : St} (S : Sim K H W st) (T : Step H W H1 W1) (E : EnvR K H W σ env) : EnvR K H1 W1 σ env :=
  ⟨E.len, fun i d h => let ⟨v, e, r⟩ := E.get i d h; ⟨v, e, r.step S T⟩⟩
end
/-- what is wanted behind an expression: from (H, W) on -/
abbrev Aft (K : PySem.W.Frag) (H : Hp) (W : Wd) (Q : VK) : D → St → Prop := fun d st' => ∀ v H' W', Step H W H' W' → Sim K H' W' st' → Rep K H' W' v d → Q v H'
abbrev AftA (K : PySem.W.Frag) (H : Hp) (W : Wd) (Q : List V → Hp → Prop) : List D → St → Prop := fun ds st' => ∀ vs H' W', Step H W H' W' → Sim K H' W' st' → Reps K H' W' vs ds → Q vs H'
abbrev AftT (K : PySem.W.Frag) (H : Hp) (W : Wd) (Q : Bool → Hp → Prop) : Bool → St → Prop := fun b st' => ∀ H' W', Step H W H' W' → Sim K H' W' st' → Q b H'
def tE (K : PySem.W.Frag) (c : Call) (Wx : WX) (m : ME) : TE := fun σ H Q => ∃ W st env, Sim K H W st ∧ EnvR K H W σ env ∧ Post K Wx σ H W (m c env st) (Aft K H W Q)
def tAs (K : PySem.W.Frag) (c : Call) (Wx : WX) (m : MA) : TA := fun σ H Q => ∃ W st env, Sim K H W st ∧ EnvR K H W σ env ∧ Post K Wx σ H W (m c env st) (AftA K H W Q)
def tTs (K : PySem.W.Frag) (c : Call) (Wx : WX) (m : MT) : TT := fun σ H Q => ∃ W st env, Sim K H W st ∧ EnvR K H W σ env ∧ Post K Wx σ H W (m c env st) (AftT K H W Q)

theorem PE.weak {X : Cx} {e : Expr} {t t' : TE} (h : PE X e t) (hw : ∀ σ H Q, t' σ H Q → t σ H Q) : PE X e t' := ⟨fun pins s σ H Q I q => h.run pins s σ H Q I (hw _ _ _ q)⟩
theorem PA.weak {X : Cx} {e : List Expr} {t t' : TA} (h : PA X e t) (hw : ∀ σ H Q, t' σ H Q → t σ H Q) : PA X e t' := ⟨fun pos pins s σ H Q I q => h.run pos pins s σ H Q I (hw _ _ _ q)⟩
theorem PT.weak {X : Cx} {e : Expr} {t t' : TT} (h : PT X e t) (hw : ∀ σ H Q, t' σ H Q → t σ H Q) : PT X e t' := ⟨fun pins s σ H Q I q => h.run pins s σ H Q I (hw _ _ _ q)⟩
theorem PW.weak {X : Cx} {e : Expr} {t t' : TT} (h : PW X e t) (hw : ∀ σ H Q, t' σ H Q → t σ H Q) : PW X e t' := ⟨fun wh pins s σ H Q I q => h.run wh pins s σ H Q I (hw _ _ _ q)⟩

section
variable {X : Cx} {c : Call} {Wx : WX} {a b e : Expr} {ma mb me : ME} {pos : Pos}
theorem dVar {i : Nat} {x : Str} (hN : X.N[i]? = some x) (hv : Vis X.env.scope x) (hd : (x == ("__debug__" : Str)) = false) (hcd : (x == ("__classdict__" : Str)) = false) : PE X (.Name x pos) (tE X.K c Wx (mVar i)) :=
  PE.weak (pe_var hN hv hd hcd) fun σ H Q h => by
    obtain ⟨W, st, env, S, E, p⟩ := h
    unfold mVar at p
    split at p
    · rename_i d he
      obtain ⟨v, e, r⟩ := E.get i d he
      exact ⟨v, e, p v H W (Step.refl _ _) S r⟩
    · exact (show False from p).elim
/-- a constant -/
theorem dCst {d : D} {v : V} (h : PE X e (tC v)) (hr : ∀ H W, Rep X.K H W v d) : PE X e (tE X.K c Wx (mCst d)) :=
  PE.weak h fun σ H Q h => by
    obtain ⟨W, st, env, S, E, p⟩ := h
    exact p v H W (Step.refl _ _) S (hr H W)
theorem dOp2 {op : Operator} {f : St → D → D → Option D} (ho : OpR X (binaryOp op) (lift2 X.K f)) (ha : PE X a (tE X.K c Wx ma)) (hb : PE X b (tE X.K c Wx mb)) : PE X (.BinOp a op b pos) (tE X.K c Wx (mOp2 f ma mb)) :=
  PE.weak (pe_op ho ha hb) fun σ H Q h => by
    obtain ⟨W, st, env, S, E, p⟩ := h
    refine ⟨W, st, env, S, E, p.bind.mono fun dx st1 p1 x H1 W1 T1 S1 R1 => ⟨W1, st1, env, S1, E.step S T1, (p1.bind.at T1).mono fun dy st2 p2 y H2 W2 T2 S2 R2 => ?_⟩⟩
    obtain ⟨d, e, q⟩ := p2.of
    exact ⟨W2, st2, dx, dy, d, S2, R1.step S1 T2, R2, e, fun v H' T S' R => q v H' W2 ((T1.trans T2).trans T) S' R⟩
/-- any rule of two parts that hands values on -/
theorem two_weak {f : St → D → D → Option D} {σ : L2.St} {H : Hp} {Q : VK} (h : tE X.K c Wx (mOp2 f ma mb) σ H Q) : tOp (lift2 X.K f) (tE X.K c Wx ma) (tE X.K c Wx mb) σ H Q := by
  obtain ⟨W, st, env, S, E, p⟩ := h
  refine ⟨W, st, env, S, E, p.bind.mono fun dx st1 p1 x H1 W1 T1 S1 R1 => ⟨W1, st1, env, S1, E.step S T1, (p1.bind.at T1).mono fun dy st2 p2 y H2 W2 T2 S2 R2 => ?_⟩⟩
  obtain ⟨d, e, q⟩ := p2.of
  exact ⟨W2, st2, dx, dy, d, S2, R1.step S1 T2, R2, e, fun v H' T S' R => q v H' W2 ((T1.trans T2).trans T) S' R⟩
theorem dCmp {op : CmpOp} {f : St → D → D → Option D} (ho : OpR X (compareOp op) (lift2 X.K f)) (ha : PE X a (tE X.K c Wx ma)) (hb : PE X b (tE X.K c Wx mb)) (hm : behindInMarks op b = false) : PE X (.Compare a [op] [b] pos) (tE X.K c Wx (mOp2 f ma mb)) :=
  PE.weak (pe_cmpR ho ha hb hm) fun σ H Q h => two_weak h
theorem dIx (hr : IxR X (lift2 X.K idxD)) (ha : PE X a (tE X.K c Wx ma)) (hb : PE X b (tE X.K c Wx mb)) (hs : PlainIx b) : PE X (.Subscript a b pos) (tE X.K c Wx (mOp2 idxD ma mb)) :=
  PE.weak (pe_ix hr ha hb hs) fun σ H Q h => two_weak h
theorem dUn {op : UnaryOp} {f : St → D → Option D} (ho : UnR X (unaryOp op) (lift1 X.K f)) (ha : PE X a (tE X.K c Wx ma)) : PE X (.UnaryOp op a pos) (tE X.K c Wx (mOp1 f ma)) :=
  PE.weak (pe_un ho ha) fun σ H Q h => by
    obtain ⟨W, st, env, S, E, p⟩ := h
    refine ⟨W, st, env, S, E, p.bind.mono fun dx st1 p1 x H1 W1 T1 S1 R1 => ?_⟩
    obtain ⟨d, e, q⟩ := p1.of
    exact ⟨W1, st1, dx, d, S1, R1, e, fun v H' T S' R => q v H' W1 (T1.trans T) S' R⟩
theorem dRev {k : Nat} {p1 p2 p3 : Pos} (ha : PE X a (tE X.K c Wx ma)) : PE X (.Subscript a (.Slice none none (some (.UnaryOp .USub (.Constant (.int 1) k p1) p2)) p3) pos) (tE X.K c Wx (mOp1 revD ma)) :=
  PE.weak (pe_revD ha) fun σ H Q h => by
    obtain ⟨W, st, env, S, E, p⟩ := h
    refine ⟨W, st, env, S, E, p.bind.mono fun dx st1 p1 x H1 W1 T1 S1 R1 => ?_⟩
    obtain ⟨d, e, q⟩ := p1.of
    exact ⟨W1, st1, dx, d, S1, R1, e, fun v H' T S' R => q v H' W1 (T1.trans T) S' R⟩
theorem chain_weak {f g : St → D → D → Option D} {σ : L2.St} {H : Hp} {Q : VK} (h : tE X.K c Wx (mChain f g ma mb me) σ H Q) : tChain (lift2 X.K f) (lift2 X.K g) (tE X.K c Wx ma) (tE X.K c Wx mb) (tE X.K c Wx me) σ H Q := by
  obtain ⟨W, st, env, S, E, p⟩ := h
  refine ⟨W, st, env, S, E, p.bind.mono fun dx st1 p1 x H1 W1 T1 S1 R1 => ⟨W1, st1, env, S1, E.step S T1, (p1.bind.at T1).mono fun dy st2 p2 y H2 W2 T2 S2 R2 => ?_⟩⟩
  split at p2
  · rename_i ef
    refine ⟨W2, st2, dx, dy, .bl true, S2, R1.step S1 T2, R2, ef, fun v H' T S' R => ?_⟩
    have ev := rep_bl R
    subst ev
    refine ⟨true, rfl, ?_⟩
    rw [if_pos rfl]
    have T12 := (T1.trans T2).trans T
    refine ⟨W2, st2, env, S', E.step S T12, (p2.bind.at T12).mono fun dz st3 p3 z H3 W3 T3 S3 R3 => ?_⟩
    obtain ⟨d, e, q⟩ := p3.of
    exact ⟨W3, st3, dy, dz, d, S3, (R2.step S2 T).step S' T3, R3, e, fun v H' T S' R => q v H' W3 ((T12.trans T3).trans T) S' R⟩
  · rename_i ef
    refine ⟨W2, st2, dx, dy, .bl false, S2, R1.step S1 T2, R2, ef, fun v H' T S' R => ?_⟩
    have ev := rep_bl R
    subst ev
    refine ⟨false, rfl, ?_⟩
    rw [if_neg Bool.false_ne_true]
    exact p2 _ _ W2 ((T1.trans T2).trans T) S' (.bl false)
  · exact (show False from p2).elim
theorem dChain {op op' : CmpOp} {f g : St → D → D → Option D} (ho : OpR X (compareOp op) (lift2 X.K f)) (ho' : OpR X (compareOp op') (lift2 X.K g)) (ha : PE X a (tE X.K c Wx ma)) (hb : PE X b (tE X.K c Wx mb)) (he : PE X e (tE X.K c Wx me))
    (hm : behindInMarks op' e = false) : PE X (.Compare a [op, op'] [b, e] pos) (tE X.K c Wx (mChain f g ma mb me)) :=
  PE.weak (pe_chain ho ho' ha hb he hm) fun σ H Q h => chain_weak h
/-! ### truth -/
theorem truV {K : PySem.W.Frag} {H : Hp} {W : Wd} {st : St} {v : V} {d : D} {k : Bool} (S : Sim K H W st) (r : Rep K H W v d) (h : tru st d = some k) : TruV K v H k := by
  have s1 := r.saw S
  have bl := bigLine
  unfold tru at h
  generalize see st d = ex at s1 h
  split at h
  · cases h; rw [saw_non s1]; rfl
  · cases h; rw [saw_bl s1]; rfl
  · cases h; rw [saw_int s1]; rfl
  · split at h
    · cases h
      rw [saw_str s1]
      exact ⟨by omega, rfl⟩
    · cases h
  · cases h
    obtain ⟨a, xs, rfl, ht, q1⟩ := saw_tup s1
    refine .inr (.inl ⟨xs, ht.sq, ?_⟩)
    cases q1 <;> rfl
  · cases h
    obtain ⟨a, xs, rfl, ht, q1⟩ := saw_lst s1
    refine .inl ⟨xs, SqL.of ht, ?_⟩
    cases q1 <;> rfl
  · cases h
theorem dOne {op} (h : PE X a (tE X.K c Wx ma)) : PE X (.BoolOp op [a] pos) (tE X.K c Wx ma) := pe_one h
theorem dAnd {rest : List Expr} (ha : PE X a (tE X.K c Wx ma)) (hb : PE X (.BoolOp .And (b :: rest) pos) (tE X.K c Wx mb)) : PE X (.BoolOp .And (a :: b :: rest) pos) (tE X.K c Wx (mAnd ma mb)) :=
  PE.weak (pe_andT ha hb) fun σ H Q h => by
    obtain ⟨W, st, env, S, E, p⟩ := h
    refine ⟨W, st, env, S, E, p.bind.mono fun dx st1 p1 x H1 W1 T1 S1 R1 => ?_⟩
    split at p1
    · rename_i et
      refine ⟨true, truV S1 R1 et, ?_⟩
      rw [if_pos rfl]
      exact ⟨W1, st1, env, S1, E.step S T1, (p1.at T1).mono fun d st' q v H' W' T S' R => q v H' W' (T1.trans T) S' R⟩
    · rename_i et
      refine ⟨false, truV S1 R1 et, ?_⟩
      rw [if_neg Bool.false_ne_true]
      exact p1 x H1 W1 T1 S1 R1
    · exact (show False from p1).elim
theorem dOr {rest : List Expr} (ha : PE X a (tE X.K c Wx ma)) (hb : PE X (.BoolOp .Or (b :: rest) pos) (tE X.K c Wx mb)) : PE X (.BoolOp .Or (a :: b :: rest) pos) (tE X.K c Wx (mOr ma mb)) :=
  PE.weak (pe_orT ha hb) fun σ H Q h => by
    obtain ⟨W, st, env, S, E, p⟩ := h
    refine ⟨W, st, env, S, E, p.bind.mono fun dx st1 p1 x H1 W1 T1 S1 R1 => ?_⟩
    split at p1
    · rename_i et
      refine ⟨true, truV S1 R1 et, ?_⟩
      rw [if_pos rfl]
      exact p1 x H1 W1 T1 S1 R1
    · rename_i et
      refine ⟨false, truV S1 R1 et, ?_⟩
      rw [if_neg Bool.false_ne_true]
      exact ⟨W1, st1, env, S1, E.step S T1, (p1.at T1).mono fun d st' q v H' W' T S' R => q v H' W' (T1.trans T) S' R⟩
    · exact (show False from p1).elim
theorem dNot (ha : PE X a (tE X.K c Wx ma)) : PE X (.UnaryOp .Not a pos) (tE X.K c Wx (mNot ma)) :=
  PE.weak (pe_notT ha) fun σ H Q h => by
    obtain ⟨W, st, env, S, E, p⟩ := h
    refine ⟨W, st, env, S, E, p.bind.mono fun dx st1 p1 x H1 W1 T1 S1 R1 => ?_⟩
    obtain ⟨d, e, q⟩ := p1.of
    obtain ⟨k, e1, rfl⟩ := Option.map_eq_some_iff.mp e
    exact ⟨k, truV S1 R1 e1, q _ H1 W1 T1 S1 (.bl _)⟩
variable {ta tb : MT}
/-! ### tests -/
theorem bVal (ha : PE X a (tE X.K c Wx ma)) (he : ∀ whole, isTrue a X.env whole = (do let v ← whole; standAt a.pos; holding [v] (truthy v))) : PT X a (tTs X.K c Wx (tVal ma)) :=
  PT.weak (pt_truth ha he) fun σ H Q h => by
    obtain ⟨W, st, env, S, E, p⟩ := h
    refine ⟨W, st, env, S, E, p.bind.mono fun dx st1 p1 x H1 W1 T1 S1 R1 => ?_⟩
    obtain ⟨k, e, q⟩ := p1.of
    exact ⟨k, truV S1 R1 e, q H1 W1 T1 S1⟩
/-- a comparison gives a truth -/
def IsBl (f : St → D → D → Option D) : Prop := ∀ st x y d, f st x y = some d → ∃ b, d = .bl b
theorem bCmp {op : CmpOp} {f : St → D → D → Option D} (hf : IsBl f) (ho : OpR X (compareOp op) (lift2 X.K f)) (ha : PE X a (tE X.K c Wx ma)) (hb : PE X b (tE X.K c Wx mb)) (hm : behindInMarks op b = false) : PT X (.Compare a [op] [b] pos) (tTs X.K c Wx (tVal (mOp2 f ma mb))) :=
  PT.weak (pt_cmpR ho ha hb hm) fun σ H Q h => by
    refine two_weak ?_
    obtain ⟨W, st, env, S, E, p⟩ := h
    refine ⟨W, st, env, S, E, ?_⟩
    have p' := p.bind
    unfold mOp2 at p' ⊢
    generalize ma c env st = r1 at p' ⊢
    cases r1 with
    | er x st => exact p'
    | no => exact p'
    | ok dx st1 =>
      show Post X.K Wx σ H W ((mb c env st1).bind _) _
      have p'' : Post X.K Wx σ H W ((mb c env st1).bind fun y st2 => R.of (f st2 dx y) st2) _ := p'
      generalize mb c env st1 = r2 at p'' ⊢
      cases r2 with
      | er x st => exact p''
      | no => exact p''
      | ok dy st2 =>
        show Post X.K Wx σ H W (R.of (f st2 dx dy) st2) _
        have p3 : Post X.K Wx σ H W (R.of (f st2 dx dy) st2) _ := p''
        obtain ⟨d, e, q⟩ := p3.of
        rw [e]
        show ∀ v H' W', Step H W H' W' → Sim X.K H' W' st2 → Rep X.K H' W' v d → _
        intro v H' W' T S' R
        obtain ⟨bb, rfl⟩ := hf _ _ _ _ e
        have ev := rep_bl R
        subst ev
        exact ⟨bb, rfl, q H' W' T S'⟩
theorem bChain {op op' : CmpOp} {f g : St → D → D → Option D} (hg : IsBl g) (ho : OpR X (compareOp op) (lift2 X.K f)) (ho' : OpR X (compareOp op') (lift2 X.K g)) (ha : PE X a (tE X.K c Wx ma)) (hb : PE X b (tE X.K c Wx mb)) (he : PE X e (tE X.K c Wx me))
    (hm : behindInMarks op' e = false) : PT X (.Compare a [op, op'] [b, e] pos) (tTs X.K c Wx (tVal (mChain f g ma mb me))) :=
  PT.weak (pt_chain ho ho' ha hb he hm) fun σ H Q h => by
    refine chain_weak ?_
    obtain ⟨W, st, env, S, E, p⟩ := h
    refine ⟨W, st, env, S, E, ?_⟩
    have p' := p.bind
    have aux : ∀ d st', (mChain f g ma mb me c env st) = .ok d st' → ∃ b, d = .bl b := by
      intro d st' h
      unfold mChain at h
      cases h1 : ma c env st with
      | er x st => rw [h1] at h; cases h
      | no => rw [h1] at h; cases h
      | ok dx st1 =>
        rw [h1] at h
        simp only [R.bind] at h
        cases h2 : mb c env st1 with
        | er x st => rw [h2] at h; cases h
        | no => rw [h2] at h; cases h
        | ok dy st2 =>
          rw [h2] at h
          simp only at h
          split at h
          · cases h3 : me c env st2 with
            | er x st => rw [h3] at h; cases h
            | no => rw [h3] at h; cases h
            | ok dz st3 =>
              rw [h3] at h
              simp only at h
              unfold R.of at h
              split at h
              · cases h
                exact hg _ _ _ _ ‹_›
              · cases h
          · cases h
            exact ⟨false, rfl⟩
          · cases h
    generalize mChain f g ma mb me c env st = r at p' aux ⊢
    cases r with
    | er x st => exact p'
    | no => exact p'
    | ok d st' =>
      obtain ⟨bb, rfl⟩ := aux d st' rfl
      intro v H' W' T S' R9
      have ev := rep_bl R9
      subst ev
      have p3 : Post X.K Wx σ H W (R.of (tru st' (.bl bb)) st') (AftT X.K H W Q) := p'
      obtain ⟨k, e, q⟩ := p3.of
      cases e
      exact ⟨bb, rfl, q H' W' T S'⟩
theorem bAnd1 (ha : PT X a (tTs X.K c Wx ta)) : PW X (.BoolOp .And [a] pos) (tTs X.K c Wx ta) := pw_and1 ha
theorem bOr1 (ha : PT X a (tTs X.K c Wx ta)) : PW X (.BoolOp .Or [a] pos) (tTs X.K c Wx ta) := pw_or1 ha
theorem bAndD {rest : List Expr} (ha : PT X a (tTs X.K c Wx ta)) (hb : PW X (.BoolOp .And (b :: rest) pos) (tTs X.K c Wx tb)) : PW X (.BoolOp .And (a :: b :: rest) pos) (tTs X.K c Wx (RP.bAnd ta tb)) :=
  PW.weak (pw_and ha hb) fun σ H Q h => by
    obtain ⟨W, st, env, S, E, p⟩ := h
    refine ⟨W, st, env, S, E, p.bind.mono fun x st1 p1 H1 W1 T1 S1 => ?_⟩
    cases x with
    | true =>
      rw [if_pos rfl] at p1 ⊢
      exact ⟨W1, st1, env, S1, E.step S T1, (p1.at T1).mono fun d st' q H' W' T S' => q H' W' (T1.trans T) S'⟩
    | false =>
      rw [if_neg Bool.false_ne_true] at p1 ⊢
      exact p1 H1 W1 T1 S1
theorem bOrD {rest : List Expr} (ha : PT X a (tTs X.K c Wx ta)) (hb : PW X (.BoolOp .Or (b :: rest) pos) (tTs X.K c Wx tb)) : PW X (.BoolOp .Or (a :: b :: rest) pos) (tTs X.K c Wx (RP.bOr ta tb)) :=
  PW.weak (pw_or ha hb) fun σ H Q h => by
    obtain ⟨W, st, env, S, E, p⟩ := h
    refine ⟨W, st, env, S, E, p.bind.mono fun x st1 p1 H1 W1 T1 S1 => ?_⟩
    cases x with
    | true =>
      rw [if_pos rfl] at p1 ⊢
      exact p1 H1 W1 T1 S1
    | false =>
      rw [if_neg Bool.false_ne_true] at p1 ⊢
      exact ⟨W1, st1, env, S1, E.step S T1, (p1.at T1).mono fun d st' q H' W' T S' => q H' W' (T1.trans T) S'⟩
theorem bNotD (ha : PT X a (tTs X.K c Wx ta)) : PT X (.UnaryOp .Not a pos) (tTs X.K c Wx (RP.bNot ta)) :=
  PT.weak (pt_not ha) fun σ H Q h => by
    obtain ⟨W, st, env, S, E, p⟩ := h
    exact ⟨W, st, env, S, E, p.bind.mono fun x st1 p1 H1 W1 T1 S1 => p1 H1 W1 T1 S1⟩
theorem dIf {t : Expr} (ht : PT X t (tTs X.K c Wx ta)) (ha : PE X a (tE X.K c Wx ma)) (hb : PE X b (tE X.K c Wx mb)) : PE X (.IfExp t a b pos) (tE X.K c Wx (mIf ta ma mb)) :=
  PE.weak (pe_ifExp ht ha hb) fun σ H Q h => by
    obtain ⟨W, st, env, S, E, p⟩ := h
    refine ⟨W, st, env, S, E, p.bind.mono fun x st1 p1 H1 W1 T1 S1 => ?_⟩
    cases x with
    | true =>
      rw [if_pos rfl] at p1 ⊢
      exact ⟨W1, st1, env, S1, E.step S T1, (p1.at T1).mono fun d st' q v H' W' T S' R => q v H' W' (T1.trans T) S' R⟩
    | false =>
      rw [if_neg Bool.false_ne_true] at p1 ⊢
      exact ⟨W1, st1, env, S1, E.step S T1, (p1.at T1).mono fun d st' q v H' W' T S' R => q v H' W' (T1.trans T) S' R⟩
/-! ### arguments, displays -/
theorem dNil : PA X [] (tAs X.K c Wx (mArgs [])) := PA.weak pa_nil fun σ H Q h => by
  obtain ⟨W, st, env, S, E, p⟩ := h
  exact p [] H W (Step.refl _ _) S .nil
theorem dCons {es : List Expr} {ms : List ME} (ha : PE X a (tE X.K c Wx ma)) (hr : PA X es (tAs X.K c Wx (mArgs ms))) (hs : starEach (a :: es) X.env = (false, eval a X.env) :: starEach es X.env) : PA X (a :: es) (tAs X.K c Wx (mArgs (ma :: ms))) :=
  PA.weak (pa_cons ha hr hs) fun σ H Q h => by
    obtain ⟨W, st, env, S, E, p⟩ := h
    refine ⟨W, st, env, S, E, p.bind.mono fun dx st1 p1 x H1 W1 T1 S1 R1 => ⟨W1, st1, env, S1, E.step S T1, (p1.bind.at T1).mono fun ds st2 p2 xs H2 W2 T2 S2 R2 => ?_⟩⟩
    exact p2 _ H2 W2 (T1.trans T2) S2 (.cons (R1.step S1 T2) R2)
theorem mArgs_len : ∀ {ms : List ME} {c : Call} {env : Env} {st st' : St} {ds : List D}, mArgs ms c env st = .ok ds st' → ds.length = ms.length
  | [], c, env, st, st', ds, h => by cases h; rfl
  | m :: ms, c, env, st, st', ds, h => by
    unfold mArgs at h
    cases h1 : m c env st with
    | er x st => rw [h1] at h; cases h
    | no => rw [h1] at h; cases h
    | ok d st1 =>
      rw [h1] at h
      simp only [R.bind] at h
      cases h2 : mArgs ms c env st1 with
      | er x st => rw [h2] at h; cases h
      | no => rw [h2] at h; cases h
      | ok ds' st2 =>
        rw [h2] at h
        cases h
        simp [mArgs_len h2]
theorem args_post {ms : List ME} {env : Env} {st : St} {σ : L2.St} {H : Hp} {W : Wd} {β : Type} {k : List D → St → R β} {P : β → St → Prop} (p : Post X.K Wx σ H W ((mArgs ms c env st).bind k) P) :
    Post X.K Wx σ H W (mArgs ms c env st) fun ds st1 => ds.length = ms.length ∧ Post X.K Wx σ H W (k ds st1) P := by
  cases h : mArgs ms c env st with
  | er x st => rw [h] at p; exact p
  | no => rw [h] at p; exact p
  | ok ds st1 => rw [h] at p; exact ⟨mArgs_len h, p⟩
theorem dTup {es : List Expr} {ms : List ME} {k : Nat} (h : PA X es (tAs X.K c Wx (mArgs ms))) (hl : ms.length ≤ 1000) : PE X (.Tuple es k pos) (tE X.K c Wx (mTup ms)) :=
  PE.weak (pe_tupF h) fun σ H Q h => by
    obtain ⟨W, st, env, S, E, p⟩ := h
    refine ⟨W, st, env, S, E, (args_post p).mono fun ds st1 p1 xs H1 W1 T1 S1 R1 => ⟨?_, ?_⟩⟩
    · have := R1.length
      have := p1.1
      have := bigLine
      unfold big at this
      omega
    · exact newT S1 R1 fun v H' T S' R => p1.2 v H' W1 (T1.trans T) S' R
theorem dLst {es : List Expr} {ms : List ME} (h : PA X es (tAs X.K c Wx (mArgs ms))) (hl : ms.length ≤ 1000) : PE X (.List es pos) (tE X.K c Wx (mLst ms)) :=
  PE.weak (pe_lst h) fun σ H Q h => by
    obtain ⟨W, st, env, S, E, p⟩ := h
    refine ⟨W, st, env, S, E, (args_post p).mono fun ds st1 p1 xs H1 W1 T1 S1 R1 => ⟨?_, ?_⟩⟩
    · have := R1.length
      have := p1.1
      have := bigLine
      unfold big at this
      omega
    · exact newL S1 R1 fun v H' T S' R => p1.2 v H' W1 (T1.trans T) S' R
theorem newCell {K : PySem.W.Frag} {H : Hp} {W : Wd} {st : St} {Q : VK} (S : Sim K H W st) {xs : List V} {ds : List D} (rs : Reps K H W xs ds) (q : ∀ v H' W', Step H W H' W' → Sim K H' W' (st ++ [.lst ds]) → Rep K H' W' v (.ref st.length) → Q v H') (p : Addr) (hp : H p = none) : Q (.ref p) (upd H p (.lst xs)) := by
  have T := Step.cell S (o := .lst xs) hp
  refine q _ _ ⟨W.rho ++ [p], W.B⟩ T (S.newcell hp ⟨xs, upd_same, rs.step S T⟩) (.ref ?_)
  show (W.rho ++ [p])[st.length]? = some p
  rw [← S.len]
  simp
theorem dLstM {es : List Expr} {ms : List ME} (h : PA X es (tAs X.K c Wx (mArgs ms))) (hl : ms.length ≤ 1000) : PE X (.List es pos) (tE X.K c Wx (mLstM ms)) :=
  PE.weak (pe_lst h) fun σ H Q h => by
    obtain ⟨W, st, env, S, E, p⟩ := h
    refine ⟨W, st, env, S, E, (args_post p).mono fun ds st1 p1 xs H1 W1 T1 S1 R1 => ⟨?_, ?_⟩⟩
    · have := R1.length
      have := p1.1
      have := bigLine
      unfold big at this
      omega
    · exact newCell S1 R1 fun v H' W' T S' R => p1.2 v H' W' (T1.trans T) S' R
/-- a built-in function or type of values -/
def mBlt (f : St → List D → Option D) (ms : List ME) : ME := fun c env st => (mArgs ms c env st).bind fun ds st1 => R.of (f st1 ds) st1
theorem blt_weak {f : St → List D → Option D} {ms : List ME} {σ : L2.St} {H : Hp} {Q : VK} (h : tE X.K c Wx (mBlt f ms) σ H Q) : tCB (liftN X.K f) (tAs X.K c Wx (mArgs ms)) σ H Q := by
  obtain ⟨W, st, env, S, E, p⟩ := h
  refine ⟨W, st, env, S, E, p.bind.mono fun ds st1 p1 xs H1 W1 T1 S1 R1 => ?_⟩
  obtain ⟨d, e, q⟩ := p1.of
  exact ⟨W1, st1, ds, d, S1, R1, e, fun v H' T S' R => q v H' W1 (T1.trans T) S' R⟩
theorem dBlt {id : String} {x : Str} {p : Pos} {es : List Expr} {ms : List ME} {f : St → List D → Option D} (hc : CallR X (.builtin id) (liftN X.K f)) (hg : Gl X x) (hm : X.mg x = none) (hv : bootBuiltins x = some (.builtin id)) (ha : PA X (a :: es) (tAs X.K c Wx (mArgs ms)))
    (hn : x ≠ "__name__") (hdb : (x == ("__debug__" : Str)) = false) (he : starEach (a :: es) X.env = (false, eval a X.env) :: starEach es X.env) (hpl : (backTo pos (starEach es X.env)).any (·.1) = false) : PE X (.Call (.Name x p) (a :: es) [] pos) (tE X.K c Wx (mBlt f ms)) :=
  PE.weak (pe_callB hc hg hm hv ha hn hdb he hpl) fun σ H Q h => blt_weak h
theorem dTy {id : String} {x : Str} {p : Pos} {es : List Expr} {ms : List ME} {f : St → List D → Option D} (hc : CallR X (.type id) (liftN X.K f)) (hg : Gl X x) (hm : X.mg x = none) (hv : bootBuiltins x = some (.type id)) (ha : PA X (a :: es) (tAs X.K c Wx (mArgs ms)))
    (hn : x ≠ "__name__") (hdb : (x == ("__debug__" : Str)) = false) (he : starEach (a :: es) X.env = (false, eval a X.env) :: starEach es X.env) (hpl : (backTo pos (starEach es X.env)).any (·.1) = false) : PE X (.Call (.Name x p) (a :: es) [] pos) (tE X.K c Wx (mBlt f ms)) :=
  PE.weak (pe_callTy hc hg hm hv ha hn hdb he hpl) fun σ H Q h => blt_weak h
/-- isinstance(e, T) -/
theorem dIsi {k : Kd} {p q : Pos} {T : Str} (hg : Gl X "isinstance") (hm : X.mg "isinstance" = none) (hgT : Gl X T) (hmT : X.mg T = none) (hvT : bootBuiltins T = some (.type (kdName k))) (ha : PE X a (tE X.K c Wx ma)) (hnT : T ≠ "__name__") (hdT : (T == ("__debug__" : Str)) = false)
    (he : starEach [a, .Name T q] X.env = (false, eval a X.env) :: starEach [.Name T q] X.env) : PE X (.Call (.Name "isinstance" p) [a, .Name T q] [] pos) (tE X.K c Wx (mOp1 (isiD k) ma)) :=
  PE.weak (pe_callB (call_isiL k) hg hm (by decide +kernel) (pa_cons ha (pa_cons (pe_bltn hgT hmT hvT (v := .ty (kdName k)) rfl hnT hdT) pa_nil) he) (by decide) (by decide) he (by rfl)) fun σ H Q h => by
    obtain ⟨W, st, env, S, E, p⟩ := h
    refine ⟨W, st, env, S, E, p.bind.mono fun dx st1 p1 x H1 W1 T1 S1 R1 => ?_⟩
    obtain ⟨d, e, q⟩ := p1.of
    exact ⟨x, W1, st1, dx, d, rfl, S1, R1, e, fun v R => q v H1 W1 T1 S1 R⟩
end
end RP
end
section
set_option Elab.async false
set_option linter.all false
set_option maxRecDepth 100000
/-! Slices, what is walked, comprehensions, calls, methods. -/
namespace RP
open PySem L2
section
variable {X : Cx} {c : Call} {Wx : WX} {a b e : Expr} {ma mb me : ME} {pos : Pos}
def tOs (K : PySem.W.Frag) (c : Call) (Wx : WX) (o : Option ME) : TO := fun σ H Q => ∃ W st env, Sim K H W st ∧ EnvR K H W σ env ∧ Post K Wx σ H W (optI o c env st) fun i st' => ∀ H' W', Step H W H' W' → Sim K H' W' st' → Q i H'
theorem PO.weak {e : Option Expr} {t t' : TO} (h : PO X e t) (hw : ∀ σ H Q, t' σ H Q → t σ H Q) : PO X e t' := ⟨fun pins s σ H Q I q => h.run pins s σ H Q I (hw _ _ _ q)⟩
theorem dONone : PO X none (tOs X.K c Wx none) := PO.weak po_none fun σ H Q h => by
  obtain ⟨W, st, env, S, E, p⟩ := h
  exact p H W (Step.refl _ _) S
theorem dOSome (ha : PE X a (tE X.K c Wx ma)) : PO X (some a) (tOs X.K c Wx (some ma)) := PO.weak (po_some ha) fun σ H Q h => by
  obtain ⟨W, st, env, S, E, p⟩ := h
  refine ⟨W, st, env, S, E, p.bind.mono fun dx st1 p1 x H1 W1 T1 S1 R1 => ?_⟩
  split at p1
  · exact ⟨_, rep_int R1, p1 H1 W1 T1 S1⟩
  · exact (show False from p1).elim
theorem dSlice {lo hi : Option Expr} {ml mh : Option ME} {p2 : Pos} (ha : PE X a (tE X.K c Wx ma)) (hl : PO X lo (tOs X.K c Wx ml)) (hh : PO X hi (tOs X.K c Wx mh)) : PE X (.Subscript a (.Slice lo hi none p2) pos) (tE X.K c Wx (mSlice ma ml mh)) :=
  PE.weak (pe_slice sl_L ha hl hh) fun σ H Q h => by
    obtain ⟨W, st, env, S, E, p⟩ := h
    refine ⟨W, st, env, S, E, p.bind.mono fun dx st1 p1 x H1 W1 T1 S1 R1 => ⟨W1, st1, env, S1, E.step S T1, (p1.bind.at T1).mono fun i st2 p2 H2 W2 T2 S2 => ⟨W2, st2, env, S2, E.step S (T1.trans T2), (p2.bind.at (T1.trans T2)).mono fun j st3 p3 H3 W3 T3 S3 => ?_⟩⟩⟩
    obtain ⟨d, e, q⟩ := p3.of
    exact ⟨W3, st3, dx, d, S3, R1.step S1 (T2.trans T3), e, fun v H' T S' R => q v H' W3 (((T1.trans T2).trans T3).trans T) S' R⟩

/-! ### what is walked -/
/-- an iterator that goes through the items: while G stands the i-th turn gives the i-th item -/
structure Wk (K : PySem.W.Frag) (J : It) (gd : Option Nat) (xs : List D) (H0 : Hp) (W0 : Wd) : Prop where
  go : ∀ (i : Nat) (H : Hp) (W : Wd) (st : St), Step H0 W0 H W → Sim K H W st → gOk gd xs st → i < xs.length → J.go i H
  yld : ∀ (i : Nat) (H : Hp) (W : Wd) (st : St) (d : D) (x : V) (H' : Hp), Step H0 W0 H W → Sim K H W st → gOk gd xs st → xs[i]? = some d → J.yld i H x H' → Step H W H' W ∧ Sim K H' W st ∧ Rep K H' W x d
  stop : ∀ (i : Nat) (H : Hp) (W : Wd) (st : St), Step H0 W0 H W → Sim K H W st → gOk gd xs st → i = xs.length → J.stop i H
/-- the reading of what is walked -/
def tIs (K : PySem.W.Frag) (c : Call) (Wx : WX) (m : MI) : TI := fun σ H R => ∃ W st env, Sim K H W st ∧ EnvR K H W σ env ∧ Post K Wx σ H W (m c env st) fun p st' => ∀ J H' W', Step H W H' W' → Sim K H' W' st' → Wk K J p.2 p.1 H' W' → p.1.length ≤ sizeLine → R J H'
theorem PI.weak {tg : Expr} {w w' : TI} (h : PI X tg e w) (hw : ∀ σ H R, w' σ H R → w σ H R) : PI X tg e w' := ⟨fun pins s σ H R I q => h.run pins s σ H R I (hw _ _ _ q)⟩
theorem wk_list {K : PySem.W.Frag} {H0 : Hp} {W0 : Wd} {st0 : St} {l : Addr} {xs : List V} {ds : List D} (S0 : Sim K H0 W0 st0) (h : H0 l = some (.lst xs)) (n1 : l ∉ W0.rho) (r : Reps K H0 W0 xs ds) : Wk K (Itl K l) none ds H0 W0 where
  go := fun i H W st T S _ hi => by
    have e := r.length
    exact ⟨xs, xs[i]'(by omega), SqL.of (T.keep _ _ h n1).1, by simp⟩
  yld := fun i H W st d x H' T S _ hd y => by
    obtain ⟨e1, e2⟩ := y
    obtain ⟨v, f1, f2⟩ := r.get hd
    have := e2 xs (SqL.of (T.keep _ _ h n1).1)
    rw [f1] at this; cases this
    subst e1
    exact ⟨Step.refl _ _, S, f2.step S0 T⟩
  stop := fun i H W st T S _ hi => ⟨xs, SqL.of (T.keep _ _ h n1).1, by rw [r.length]; omega⟩
theorem wk_tup {K : PySem.W.Frag} {H0 : Hp} {W0 : Wd} {st0 : St} {l : Addr} {xs : List V} {ds : List D} (S0 : Sim K H0 W0 st0) (h : Tp K H0 l xs) (r : Reps K H0 W0 xs ds) : Wk K (Itt K l) none ds H0 W0 where
  go := fun i H W st T S _ hi => by
    have e := r.length
    exact ⟨xs, xs[i]'(by omega), (Tp.step S0 T h).sq, by simp⟩
  yld := fun i H W st d x H' T S _ hd y => by
    obtain ⟨e1, e2⟩ := y
    obtain ⟨v, f1, f2⟩ := r.get hd
    have := e2 xs (Tp.step S0 T h).sq
    rw [f1] at this; cases this
    subst e1
    exact ⟨Step.refl _ _, S, f2.step S0 T⟩
  stop := fun i H W st T S _ hi => ⟨xs, (Tp.step S0 T h).sq, by rw [r.length]; omega⟩
theorem wk_cell {K : PySem.W.Frag} {H0 : Hp} {W0 : Wd} {l : Addr} {n : Nat} {ds : List D} (hn : W0.rho[n]? = some l) : Wk K (Itl K l) (some n) ds H0 W0 where
  go := fun i H W st T S g hi => by
    obtain ⟨xs, h, r⟩ := S.cell n l _ (T.rho hn) (g n rfl)
    have e := r.length
    exact ⟨xs, xs[i]'(by omega), SqL.of h, by simp⟩
  yld := fun i H W st d x H' T S g hd y => by
    obtain ⟨xs, h, r⟩ := S.cell n l _ (T.rho hn) (g n rfl)
    obtain ⟨e1, e2⟩ := y
    obtain ⟨v, f1, f2⟩ := r.get hd
    have := e2 xs (SqL.of h)
    rw [f1] at this; cases this
    subst e1
    exact ⟨Step.refl _ _, S, f2⟩
  stop := fun i H W st T S g hi => by
    obtain ⟨xs, h, r⟩ := S.cell n l _ (T.rho hn) (g n rfl)
    exact ⟨xs, SqL.of h, by rw [r.length]; omega⟩
theorem wk_range {K : PySem.W.Frag} {H0 : Hp} {W0 : Wd} (lo : Int) (n : Nat) : Wk K (Itr lo n) none ((List.range n).map fun (k : Nat) => .int (lo + k)) H0 W0 where
  go := fun i H W st T S _ hi => by
    show i < n
    simpa using hi
  yld := fun i H W st d x H' T S _ hd y => by
    obtain ⟨e1, e2⟩ := y
    subst e1
    refine ⟨Step.refl _ _, S, ?_⟩
    rw [List.getElem?_map] at hd
    obtain ⟨k, f1, rfl⟩ := Option.map_eq_some_iff.mp hd
    have : i = k := by
      rw [List.getElem?_range] at f1
      · exact Option.some.inj f1
      · have := (List.getElem?_eq_some_iff.mp f1).1
        simpa using this
    subst this
    rw [e2]
    exact .int _
  stop := fun i H W st T S _ hi => by
    show n ≤ i
    simp at hi
    omega
theorem wk_str {K : PySem.W.Frag} {H0 : Hp} {W0 : Wd} (z : Str) : Wk K (Its z) none (z.cps.toList.map fun c => .str ⟨#[c]⟩) H0 W0 where
  go := fun i H W st T S _ hi => by
    show i < z.cps.size
    simpa using hi
  yld := fun i H W st d x H' T S _ hd y => by
    obtain ⟨e1, ch, e2, e3⟩ := y
    subst e1
    refine ⟨Step.refl _ _, S, ?_⟩
    rw [List.getElem?_map] at hd
    obtain ⟨k, f1, rfl⟩ := Option.map_eq_some_iff.mp hd
    have : ch = k := by
      have f2 : z.cps[i]? = some k := by simpa using f1
      rw [e2] at f2; exact Option.some.inj f2
    subst this
    rw [e3]
    exact .str _
  stop := fun i H W st T S _ hi => by
    show z.cps.size ≤ i
    simp at hi
    omega
theorem wk_zip {K : PySem.W.Frag} {H0 : Hp} {W0 : Wd} {st0 : St} {a b : Addr} {xs ys : List V} {ds es : List D} (S0 : Sim K H0 W0 st0) (h1 : Tp K H0 a xs) (r1 : Reps K H0 W0 xs ds) (h2 : Tp K H0 b ys) (r2 : Reps K H0 W0 ys es) : Wk K (ItzF K a b) none (List.zipWith (fun x y => D.tup [x, y]) ds es) H0 W0 where
  go := fun i H W st T S _ hi => by
    have e1 := r1.length
    have e2 := r2.length
    rw [List.length_zipWith] at hi
    exact ⟨xs, ys, xs[i]'(by omega), ys[i]'(by omega), (Tp.step S0 T h1).sq, (Tp.step S0 T h2).sq, by simp, by simp⟩
  yld := fun i H W st d x H' T S _ hd y => by
    obtain ⟨p, o, u, v, rfl, hp, ho, rfl, f1, f2⟩ := y
    rw [List.getElem?_zipWith] at hd
    have g1 := f1 xs (Tp.step S0 T h1).sq
    have g2 := f2 ys (Tp.step S0 T h2).sq
    obtain ⟨d1, k1, q1⟩ := r1.getV g1
    obtain ⟨d2, k2, q2⟩ := r2.getV g2
    rw [k1, k2] at hd
    cases hd
    have T1 := Step.temp S (o := .frz o (.tup [u, v])) hp
    exact ⟨T1, S.temp hp, .tup (.inl ⟨o, upd_same, ho⟩) (.cons ((q1.step S0 T).step S T1) (.cons ((q2.step S0 T).step S T1) .nil))⟩
  stop := fun i H W st T S _ hi => by
    have e1 := r1.length
    have e2 := r2.length
    rw [List.length_zipWith] at hi
    exact ⟨xs, ys, (Tp.step S0 T h1).sq, (Tp.step S0 T h2).sq, by omega⟩
end
section
open PySem.Spec PyProof.Rows
variable {X : Cx}
theorem pi_any {tg l : Expr} {tl : TE} (hl : PE X l tl) : PI X tg l (fun σ H R => tl σ H fun x H1 => (∃ a xs, x = .ref a ∧ SqL X.K H1 a xs ∧ (xs.length ≤ sizeLine → R (Itl X.K a) H1)) ∨ (∃ a xs, x = .ref a ∧ SqT X.K H1 a xs ∧ (xs.length ≤ sizeLine → R (Itt X.K a) H1)) ∨ ∃ z, x = .str z ∧ R (Its z) H1) := by
  refine ⟨fun pins s σ H R I h => ?_⟩
  refine thn (hl.run pins s σ H _ I h) fun v s1 ⟨x, H1, I1, r1, q1⟩ => ?_
  rcases q1 with ⟨a, xs, e, hq, q⟩ | ⟨a, xs, e, hq, q⟩ | ⟨z, e, q⟩
  · subst e
    cases r1
    obtain ⟨its, rv, p, hz⟩ := I1.list hq
    refine wpAny_pyIter_list p.isList ?_
    refine ⟨s1.heap.objs.size, [s1.heap.objs.size], _, _, H1, rfl, I1.kept (t' := s1.toks) fun b o e => Heap.get?_push_of_some _ e, turn_list a _, ⟨_, Heap.get?_push_size _ rfl, rfl, rfl⟩, fun b hb => ?_, q hz⟩
    have e : b = s1.heap.objs.size := by simpa using hb
    subst e
    exact I1.fpOk (Nat.le_refl _) (I1.hok.fresh (Nat.le_refl _))
  · subst e
    cases r1
    obtain ⟨its, rv, p, hz⟩ := I1.tuple hq
    refine wpAny_pyIter_tuple (show s1.heap.IsTuple a its.toArray from p) ?_
    refine ⟨s1.heap.objs.size, [s1.heap.objs.size], _, _, H1, rfl, I1.kept (t' := s1.toks) fun b o e => Heap.get?_push_of_some _ e, turn_tuple a _, ⟨_, Heap.get?_push_size _ rfl, rfl, rfl⟩, fun b hb => ?_, q hz⟩
    have e : b = s1.heap.objs.size := by simpa using hb
    subst e
    exact I1.fpOk (Nat.le_refl _) (I1.hok.fresh (Nat.le_refl _))
  · subst e
    obtain ⟨t, rfl⟩ := r1
    cases ha : z.cps.all (· < 128)
    · exact wpAny_pyIter_wide ha (pi_one (tk := s1.toks) I1 _ (turn_str _ z t "str_iterator" (.inr rfl)) ⟨_, Heap.get?_push_size _ rfl, rfl, rfl⟩ q)
    · exact wpAny_pyIter_ascii ha (pi_one (tk := s1.toks) I1 _ (turn_str _ z t "str_ascii_iterator" (.inl rfl)) ⟨_, Heap.get?_push_size _ rfl, rfl, rfl⟩ q)
end
section
variable {X : Cx} {c : Call} {Wx : WX} {a b e : Expr} {ma mb me : ME} {pos : Pos}
theorem iVald {tg : Expr} (ha : PE X a (tE X.K c Wx ma)) : PI X tg a (tIs X.K c Wx (iVal ma)) := PI.weak (pi_any ha) fun σ H R h => by
  obtain ⟨W, st, env, S, E, p⟩ := h
  refine ⟨W, st, env, S, E, p.bind.mono fun dx st1 p1 x H1 W1 T1 S1 R1 => ?_⟩
  obtain ⟨pr, e, q⟩ := p1.of
  unfold itD at e
  split at e
  · cases e
    cases R1 with
    | tup h r => exact .inr (.inl ⟨_, _, rfl, h.sq, fun hz => q _ H1 W1 T1 S1 (wk_tup S1 h r) (by rw [← r.length]; exact hz)⟩)
  · cases e
    cases R1 with
    | lst h n1 n2 r => exact .inl ⟨_, _, rfl, SqL.of h, fun hz => q _ H1 W1 T1 S1 (wk_list S1 h n1 r) (by rw [← r.length]; exact hz)⟩
  · split at e
    · cases e
      rename_i z hz
      have bl := bigLine
      exact .inr (.inr ⟨_, rep_str R1, q _ H1 W1 T1 S1 (wk_str _) (by simp only [List.length_map, Array.length_toList]; unfold Str.length at hz; omega)⟩)
    · cases e
  · split at e
    · rename_i hn
      cases e
      cases R1 with
      | ref hr =>
        obtain ⟨vs, h, r⟩ := S1.cell _ _ _ hr hn
        exact .inl ⟨_, _, rfl, SqL.of h, fun hz => q _ H1 W1 T1 S1 (wk_cell hr) (by rw [← r.length]; exact hz)⟩
    · cases e
  · cases e
theorem iZipD {tg : Expr} {p : Pos} (hg : Gl X "zip") (hm : X.mg "zip" = none) (ha : PA X [a, b] (tAs X.K c Wx (mArgs [ma, mb]))) (hs : starEach [a, b] X.env = (false, eval a X.env) :: starEach [b] X.env) (hpl : (backTo pos (starEach [b] X.env)).any (·.1) = false) :
    PI X tg (.Call (.Name "zip" p) [a, b] [] pos) (tIs X.K c Wx (iZip ma mb)) := PI.weak (pi_zipF hg hm ha hs hpl) fun σ H R h => by
  obtain ⟨W, st, env, S, E, p⟩ := h
  refine ⟨W, st, env, S, E, p.bind.mono fun ds st1 p1 vs H1 W1 T1 S1 R1 => ?_⟩
  split at p1
  · rename_i xs ys
    cases R1 with
    | cons q1 rr =>
      cases rr with
      | cons q2 rr =>
        cases rr
        cases q1 with
        | tup h1 r1 =>
          cases q2 with
          | tup h2 r2 => exact ⟨_, _, _, _, rfl, h1.sq, h2.sq, fun hz => p1 _ H1 W1 T1 S1 (wk_zip S1 h1 r1 h2 r2) (by have := r1.length; simp only [List.length_zipWith]; omega)⟩
  · exact (show False from p1).elim
theorem bigInt : (big : Int) < 2 ^ 62 := by decide
theorem iRange1d {tg : Expr} {p : Pos} (hg : Gl X "range") (hm : X.mg "range" = none) (ha : PE X a (tE X.K c Wx ma)) (hs : starEach [a] X.env = [(false, eval a X.env)]) : PI X tg (.Call (.Name "range" p) [a] [] pos) (tIs X.K c Wx (iRange1 ma)) :=
  PI.weak (pi_range1 hg hm (pa_cons ha pa_nil hs) hs) fun σ H R h => by
    obtain ⟨W, st, env, S, E, p⟩ := h
    refine ⟨W, st, env, S, E, p.bind.mono fun dx st1 p1 x H1 W1 T1 S1 R1 => ?_⟩
    have bi := bigInt
    split at p1
    · rename_i n
      split at p1
      · rename_i hc
        have hc' : -(big : Int) ≤ n ∧ n ≤ (big : Int) := by simpa using hc
        have ev := rep_int R1
        subst ev
        refine ⟨n, rfl, by omega, by omega, ?_⟩
        have w := wk_range (K := X.K) (H0 := H1) (W0 := W1) 0 n.toNat
        have e0 : (List.range n.toNat).map (fun (k : Nat) => D.int (0 + k)) = (List.range n.toNat).map (fun (k : Nat) => D.int k) := by simp
        rw [e0] at w
        have bl := bigLine
        exact p1 _ H1 W1 T1 S1 w (by simp only [List.length_map, List.length_range]; unfold big at hc' bl; omega)
      · exact (show False from p1).elim
    · exact (show False from p1).elim
theorem iRange2d {tg : Expr} {p : Pos} (hg : Gl X "range") (hm : X.mg "range" = none) (ha : PE X a (tE X.K c Wx ma)) (hb : PE X b (tE X.K c Wx mb)) (hs : starEach [a, b] X.env = [(false, eval a X.env), (false, eval b X.env)]) (hs2 : starEach [b] X.env = [(false, eval b X.env)]) : PI X tg (.Call (.Name "range" p) [a, b] [] pos) (tIs X.K c Wx (iRange2 ma mb)) :=
  PI.weak (pi_range2 hg hm (pa_cons ha (pa_cons hb pa_nil hs2) (by rw [hs, hs2])) hs hs2) fun σ H R h => by
    obtain ⟨W, st, env, S, E, p⟩ := h
    refine ⟨W, st, env, S, E, p.bind.mono fun dx st1 p1 x H1 W1 T1 S1 R1 => ⟨W1, st1, env, S1, E.step S T1, (p1.bind.at T1).mono fun dy st2 p2 y H2 W2 T2 S2 R2 => ?_⟩⟩
    have bi := bigInt
    split at p2
    · rename_i m n
      split at p2
      · rename_i hc
        have hc' : ((-(big : Int) ≤ m ∧ m ≤ (big : Int)) ∧ -(big : Int) ≤ n) ∧ n ≤ (big : Int) := by simpa using hc
        have ev := rep_int R1
        subst ev
        have ev := rep_int R2
        subst ev
        exact ⟨m, n, rfl, ⟨by omega, by omega, by omega, by omega⟩, p2 _ H2 W2 (T1.trans T2) S2 (wk_range m (n - m).toNat) (by have bl : 2 * big ≤ sizeLine := (by decide); simp only [List.length_map, List.length_range]; unfold big at hc' bl; omega)⟩
      · exact (show False from p2).elim
    · exact (show False from p2).elim
/-! ### targets -/
def tG (K : PySem.W.Frag) (is : List Nat) (g : MG) : TG := fun v σ H Q => ∃ W st d env env', Sim K H W st ∧ Rep K H W v d ∧ EnvR K H W σ env ∧ g d env = some env' ∧ ∀ σ', EnvR K H W σ' env' → σ'.length = σ.length → (∀ j, j ∉ is → σ'[j]? = σ[j]?) → Q σ' H
theorem PG.weak {tg : Expr} {t t' : TG} (h : PG X tg t) (hw : ∀ v σ H Q, t' v σ H Q → t v σ H Q) : PG X tg t' := ⟨fun pins s σ H v u Q I r q => h.run pins s σ H v u Q I r (hw _ _ _ _ q)⟩
theorem EnvR.set {K : PySem.W.Frag} {H : Hp} {W : Wd} {σ : L2.St} {env : Env} {i : Nat} {v : V} {d : D} (E : EnvR K H W σ env) (r : Rep K H W v d) : EnvR K H W (σ.set i (some v)) (env.set i (some d)) := by
  refine ⟨by simp [E.len], fun j e h => ?_⟩
  by_cases hj : j = i
  · subst hj
    by_cases hl : j < env.length
    · rw [List.getElem?_set_self hl] at h
      cases h
      exact ⟨v, by rw [List.getElem?_set_self (by rw [E.len]; exact hl)], r⟩
    · rw [List.getElem?_eq_none (by simpa using hl)] at h; cases h
  · rw [List.getElem?_set_ne (Ne.symm hj)] at h
    obtain ⟨w, e1, e2⟩ := E.get j e h
    exact ⟨w, by rw [List.getElem?_set_ne (Ne.symm hj)]; exact e1, e2⟩
theorem gNmd {i : Nat} {x : Str} (hN : X.N.Nodup) (hi : X.N[i]? = some x) (hx : Loc X.env.scope x) (hf : X.fn x = true ∨ X.env.scope.names.lookup x = some .local) : PG X (.Name x pos) (tG X.K [i] (gNm i)) :=
  PG.weak (pg_name hN hi hx hf) fun v σ H Q h => by
    obtain ⟨W, st, d, env, env', S, r, E, e, q⟩ := h
    unfold gNm at e
    split at e
    · cases e
      exact q _ (E.set r) (by simp) fun j hj => by rw [List.getElem?_set_ne (fun z => hj (by simp [z]))]
    · cases e
/-- several names -/
def tGs (K : PySem.W.Frag) (is : List Nat) : TGs := fun vs σ H Q => ∃ W st ds env env', Sim K H W st ∧ Reps K H W vs ds ∧ EnvR K H W σ env ∧ gNms is ds env = some env' ∧ ∀ σ', EnvR K H W σ' env' → σ'.length = σ.length → (∀ j, j ∉ is → σ'[j]? = σ[j]?) → Q σ' H
theorem PGs.weak {ts : List Expr} {t t' : TGs} (h : PGs X ts t) (hw : ∀ v σ H Q, t' v σ H Q → t v σ H Q) : PGs X ts t' := ⟨fun pins s σ H v u Q I r q => h.run pins s σ H v u Q I r (hw _ _ _ _ q)⟩
theorem gNilD : PGs X [] (tGs X.K []) := PGs.weak pgs_nil fun vs σ H Q h => by
  obtain ⟨W, st, ds, env, env', S, r, E, e, q⟩ := h
  cases r with
  | nil => cases e; exact ⟨rfl, q σ E rfl fun _ _ => rfl⟩
  | cons _ _ => cases e
theorem gConsD {i : Nat} {x : Str} {is : List Nat} {ts : List Expr} {p : Pos} (hN : X.N.Nodup) (hi : X.N[i]? = some x) (hx : Loc X.env.scope x) (hf : X.fn x = true ∨ X.env.scope.names.lookup x = some .local) (hr : PGs X ts (tGs X.K is)) : PGs X (.Name x p :: ts) (tGs X.K (i :: is)) :=
  PGs.weak (pgs_cons (pg_name hN hi hx hf) hr rfl) fun vs σ H Q h => by
    obtain ⟨W, st, ds, env, env', S, r, E, e, q⟩ := h
    cases r with
    | nil => cases e
    | cons r1 rr =>
      rename_i v vs d ds
      unfold gNms at e
      obtain ⟨env1, e1, e2⟩ := Option.bind_eq_some_iff.mp e
      unfold gNm at e1
      split at e1
      · cases e1
        refine ⟨v, vs, rfl, W, st, ds, _, env', S, rr, E.set r1, e2, fun σ' E' hl hj => q σ' E' (by rw [hl]; simp) fun j hj' => ?_⟩
        rw [hj j (fun z => hj' (List.mem_cons_of_mem _ z)), List.getElem?_set_ne (fun z => hj' (by simp [z]))]
      · cases e1
theorem gNms_len : ∀ {is : List Nat} {ds : List D} {env env' : Env}, gNms is ds env = some env' → is.length = ds.length
  | [], [], _, _, _ => rfl
  | [], _ :: _, _, _, e => by cases e
  | _ :: _, [], _, _, e => by cases e
  | i :: is, d :: ds, env, env', e => by
    unfold gNms at e
    obtain ⟨env1, e1, e2⟩ := Option.bind_eq_some_iff.mp e
    simp [gNms_len e2]
theorem gTpd {is : List Nat} {ts : List Expr} {k : Nat} (hc : X.calm = true) (h : PGs X ts (tGs X.K is)) (hn : (assignEach ts X.env).length = is.length) (hst : (assignEach ts X.env).findIdx? (·.1) = none) : PG X (.Tuple ts k pos) (tG X.K is (gTp is)) :=
  PG.weak (pg_tup hc h hn hst) fun v σ H Q h => by
    obtain ⟨W, st, d, env, env', S, r, E, e, q⟩ := h
    unfold gTp at e
    split at e
    · cases r with
      | tup ht rr => exact ⟨_, _, rfl, ht.sq, by rw [rr.length, gNms_len e], W, st, _, env, env', S, rr, E, e, q⟩
    · cases e
end
end RP
end
section
set_option Elab.async false
set_option linter.all false
set_option maxRecDepth 100000
/-! Comprehensions. -/
namespace RP
open PySem L2
abbrev WF : WX := fun _ _ _ _ => False
theorem Post.calmed {α : Type} {K : PySem.W.Frag} {Wx : WX} {σ : L2.St} {H : Hp} {W : Wd} {r : R α} {β : Type} {k : α → St → R β} {P : β → St → Prop} (h : Post K Wx σ H W (r.calm.bind k) P) (σ' : L2.St) (H' : Hp) (W' : Wd) : Post K WF σ' H' W' r fun a st => Post K Wx σ H W (k a st) P := by
  cases r with
  | ok a st => exact h
  | er x st => exact (show False from h).elim
  | no => exact (show False from h).elim
theorem wipe_none (vs : List Nat) : ∀ (σ : L2.St) (j : Nat), j ∈ vs → ∀ v, (wipe σ vs)[j]? ≠ some (some v) := fun σ j hj v h => (wipe_some h).2 hj
theorem wipe_get : ∀ (vs : List Nat) (σ : L2.St) (j : Nat), (wipe σ vs)[j]? = if j ∈ vs ∧ j < σ.length then some none else σ[j]?
  | [], σ, j => by simp [wipe]
  | v :: vs, σ, j => by
    unfold wipe
    by_cases hj : v = j
    · subst hj
      by_cases hl : v < σ.length
      · rw [List.getElem?_set_self (by rw [wipe_length]; exact hl), if_pos ⟨List.mem_cons_self, hl⟩]
      · rw [List.getElem?_eq_none (by simpa [wipe_length] using hl), if_neg (fun z => hl z.2), List.getElem?_eq_none (by simpa using hl)]
    · rw [List.getElem?_set_ne hj, wipe_get vs σ j]
      have hne : ¬ j = v := fun z => hj z.symm
      by_cases hm : j ∈ vs
      · by_cases hl : j < σ.length
        · rw [if_pos ⟨hm, hl⟩, if_pos ⟨List.mem_cons_of_mem _ hm, hl⟩]
        · rw [if_neg (fun z => hl z.2), if_neg (fun z => hl z.2)]
      · rw [if_neg (fun z => hm z.1), if_neg (fun z => by rcases List.mem_cons.mp z.1 with q | q; exact hne q; exact hm q)]
theorem wipe_ext {σ τ : L2.St} {vs : List Nat} (hl : τ.length = σ.length) (h : ∀ j, j ∉ vs → τ[j]? = σ[j]?) : wipe τ vs = wipe σ vs := by
  apply List.ext_getElem?
  intro j
  rw [wipe_get, wipe_get, hl]
  by_cases hm : j ∈ vs
  · by_cases hl' : j < σ.length
    · rw [if_pos ⟨hm, hl'⟩, if_pos ⟨hm, hl'⟩]
    · rw [if_neg (fun z => hl' z.2), if_neg (fun z => hl' z.2), List.getElem?_eq_none (by omega), List.getElem?_eq_none (by omega)]
  · rw [if_neg (fun z => hm z.1), if_neg (fun z => hm z.1), h j hm]
theorem wipe_wipe (σ : L2.St) (vs : List Nat) : wipe (wipe σ vs) vs = wipe σ vs := wipe_ext (wipe_length σ vs) fun j hj => by rw [wipe_get, if_neg (fun z => hj z.1)]
theorem wipeE_length (env : Env) : ∀ vs : List Nat, (wipeE env vs).length = env.length
  | [] => rfl
  | v :: vs => by unfold wipeE; rw [List.length_set, wipeE_length env vs]
theorem wipeE_some {env : Env} {i : Nat} {x : D} : ∀ {vs : List Nat}, (wipeE env vs)[i]? = some (some x) → env[i]? = some (some x) ∧ i ∉ vs
  | [], h => ⟨h, by simp⟩
  | v :: vs, h => by
    unfold wipeE at h
    by_cases hi : v = i
    · subst hi
      by_cases hv : v < (wipeE env vs).length
      · rw [List.getElem?_set_self hv] at h; cases h
      · rw [List.getElem?_eq_none (by simpa using hv)] at h; cases h
    · rw [List.getElem?_set_ne hi] at h
      obtain ⟨h1, h2⟩ := wipeE_some h
      exact ⟨h1, by simp only [List.mem_cons, not_or]; exact ⟨fun e => hi e.symm, h2⟩⟩
theorem EnvR.wipe {K : PySem.W.Frag} {H : Hp} {W : Wd} {σ : L2.St} {env : Env} (E : EnvR K H W σ env) (vs : List Nat) : EnvR K H W (wipe σ vs) (wipeE env vs) :=
  ⟨by rw [wipe_length, wipeE_length]; exact E.len, fun i d h => by
    obtain ⟨h1, h2⟩ := wipeE_some h
    obtain ⟨v, e, r⟩ := E.get i d h1
    exact ⟨v, by rw [wipe_get, if_neg (fun z => h2 z.1)]; exact e, r⟩⟩

section
variable {K : PySem.W.Frag} {H : Hp}
mutual
/-- what was busy is a cell from now on -/
theorem Rep.cellB {rho B B' : List Addr} {D : Addr} (hD : D ∈ B) (hb : ∀ a ∈ B', a ∈ B) : ∀ {v : V} (d : RP.D), Rep K H ⟨rho, B⟩ v d → Rep K H ⟨rho ++ [D], B'⟩ v d
  | _, .non, .non => .non
  | _, .bl b, .bl _ => .bl b
  | _, .int i, .int _ => .int i
  | _, .str x, .str _ => .str x
  | _, .tup ds, .tup h r => .tup h (Reps.cellB hD hb ds r)
  | _, .lst ds, .lst h n1 n2 r => .lst h (fun z => by
      rcases List.mem_append.mp z with z | z
      · exact n1 z
      · have e := List.mem_singleton.mp z
        exact n2 (by rw [e]; exact hD)) (fun z => n2 (hb _ z)) (Reps.cellB hD hb ds r)
  | _, .dct ks vs, .dct h n1 n2 r1 r2 => .dct h (fun z => by
      rcases List.mem_append.mp z with z | z
      · exact n1 z
      · have e := List.mem_singleton.mp z
        exact n2 (by rw [e]; exact hD)) (fun z => n2 (hb _ z)) (Reps.cellB hD hb ks r1) (Reps.cellB hD hb vs r2)
  | _, .frz ns, .frz h => .frz h
  | _, .ref n, .ref h => .ref (by
      show (rho ++ [D])[n]? = _
      have h' : rho[n]? = _ := h
      rw [List.getElem?_append_left (List.getElem?_eq_some_iff.mp h').1]
      exact h')
theorem Reps.cellB {rho B B' : List Addr} {D : Addr} (hD : D ∈ B) (hb : ∀ a ∈ B', a ∈ B) : ∀ {vs : List V} (ds : List RP.D), Reps K H ⟨rho, B⟩ vs ds → Reps K H ⟨rho ++ [D], B'⟩ vs ds
  | _, [], .nil => .nil
  | _, d :: ds, .cons h r => .cons (Rep.cellB hD hb d h) (Reps.cellB hD hb ds r)
end
theorem Sim.cellB {rho B B' : List Addr} {D : Addr} {st : St} {c : Cell} (hD : D ∈ B) (hb : ∀ a ∈ B', a ∈ B) (hn : D ∉ B') (S : Sim K H ⟨rho, B⟩ st) (hc : CellOk K H ⟨rho ++ [D], B'⟩ D c) : Sim K H ⟨rho ++ [D], B'⟩ (st ++ [c]) := by
  have hDr : D ∉ rho := fun z => S.dis D z hD
  have hlen : rho.length = st.length := S.len
  refine ⟨by simp [hlen], ?_, fun a ha => S.bt a (hb a ha), fun a ha hz => ?_, fun i a c' h1 h2 => ?_⟩
  · show (rho ++ [D]).Nodup
    rw [List.nodup_append]
    refine ⟨S.nd, by simp, fun a ha b hb' => ?_⟩
    have e : b = D := by simpa using hb'
    subst e
    intro z; subst z; exact hDr ha
  · rcases List.mem_append.mp ha with z | z
    · exact S.dis a z (hb a hz)
    · have e := List.mem_singleton.mp z
      subst e; exact hn hz
  · have h1' : (rho ++ [D])[i]? = some a := h1
    by_cases hi : i < rho.length
    · rw [List.getElem?_append_left hi] at h1'
      rw [List.getElem?_append_left (by omega)] at h2
      have q := S.cell i a c' h1' h2
      cases c' with
      | lst ds => obtain ⟨xs, h, r⟩ := q; exact ⟨xs, h, r.cellB hD hb⟩
      | dct ks vs => obtain ⟨xs, h, r, r2⟩ := q; exact ⟨xs, h, r.cellB hD hb, r2.cellB hD hb⟩
      | ins c fs => obtain ⟨dx, xs, h, q, r⟩ := q; exact ⟨dx, xs, h, q, r.cellB hD hb⟩
    · have hi2 : i = rho.length := by
        have := (List.getElem?_eq_some_iff.mp h1').1
        simp at this; omega
      subst hi2
      have e1 : D = a := by simpa using h1'
      have e2 : c = c' := by rw [hlen] at h2; simpa using h2
      subst e1 e2
      exact hc
end
section
variable {X : Cx} {c : Call} {Wx : WX}
/-- the block's loop, the new list at D handed on with what it is -/
theorem comp_core {it : MI} {g : MG} {ts : MT} {elt : ME} {vs is : List Nat} (his : ∀ i ∈ is, i ∈ vs) {σ : L2.St} {H : Hp} {Q : VK} {W : Wd} {st : St} {env : Env} (S : Sim X.K H W st) (E : EnvR X.K H W σ env) {fin : List D → St → R D}
    (hfin : ∀ ys st2, fin ys st2 = .ok (.lst ys) st2 ∨ fin ys st2 = .ok (.ref st2.length) (st2 ++ [.lst ys]))
    (p : Post X.K Wx σ H W ((it c env st).bind fun p st1 => (compL c p.2 p.1 g ts elt (wipeE env vs) p.1 st1).bind fin) (Aft X.K H W Q)) :
    tLc (tIs X.K c Wx it) (tG X.K is g) (tTs X.K c WF ts) (tE X.K c WF elt) vs σ H Q := by
  refine ⟨W, st, env, S, E, p.bind.mono fun pr st1 p1 J H1 W1 T1 S1 wk hxl D hD => ?_⟩
  obtain ⟨xs, gd⟩ := pr
  have hDr := S1.fresh hD
  have hDB := S1.freshB hD
  refine ⟨fun i m H2 => m = xs.length - i ∧ i ≤ xs.length ∧ ∃ W2 st2 acc accV, Step H1 W1 H2 W2 ∧ Sim X.K H2 W2 st2 ∧ D ∈ W2.B ∧ H2 D = some (.lst accV) ∧ acc.length ≤ i ∧ Reps X.K H2 W2 accV acc ∧
    Post X.K Wx σ H W ((compL c gd xs g ts elt (wipeE env vs) (xs.drop i) st2).bind fun ys st3 => fin (acc ++ ys) st3) (Aft X.K H W Q), ⟨xs.length, by simp, Nat.zero_le _, ⟨W1.rho, D :: W1.B⟩, st1, [], [], Step.busy S1 hD, S1.busy hD, List.mem_cons_self, upd_same, Nat.zero_le _, .nil, ?_⟩, ?_⟩
  · simpa using p1
  rintro i m H2 ⟨rfl, hi, W2, st2, acc, accV, T2, S2, hB, hD2, hal, hacc, p2⟩
  by_cases hlt : i < xs.length
  · -- a turn
    obtain ⟨d, hd⟩ : ∃ d, xs[i]? = some d := ⟨xs[i], List.getElem?_eq_getElem hlt⟩
    have edrop : xs.drop i = d :: xs.drop (i + 1) := by
      rw [List.drop_eq_getElem_cons hlt]
      have : xs[i] = d := by rw [List.getElem?_eq_getElem hlt] at hd; exact Option.some.inj hd
      rw [this]
    rw [edrop] at p2
    unfold compL at p2
    by_cases hg : gOk gd xs st2
    · rw [if_pos hg] at p2
      refine .inr ⟨wk.go i H2 W2 st2 T2 S2 hg hlt, fun H5 => ∃ W5 st5 acc5 accV5, Step H1 W1 H5 W5 ∧ Sim X.K H5 W5 st5 ∧ D ∈ W5.B ∧ H5 D = some (.lst accV5) ∧ acc5.length ≤ i + 1 ∧ Reps X.K H5 W5 accV5 acc5 ∧
        Post X.K Wx σ H W ((compL c gd xs g ts elt (wipeE env vs) (xs.drop (i + 1)) st5).bind fun ys st3 => fin (acc5 ++ ys) st3) (Aft X.K H W Q), fun H' n' => ⟨xs.length - (i + 1), by omega, rfl, hlt, n'⟩, fun x H' y => ?_⟩
      obtain ⟨Ty, Sy, rx⟩ := wk.yld i H2 W2 st2 d x H' T2 S2 hg hd y
      replace T2 := T2.trans Ty
      replace hacc := hacc.step S2 Ty
      replace hD2 := (Ty.keep D _ hD2 (fun z => S2.dis D z hB)).1
      replace S2 := Sy
      clear Sy Ty
      have Ew := (E.step S (T1.trans T2)).wipe vs
      split at p2
      · exact (show False from p2).elim
      · rename_i env1 henv1
        refine ⟨W2, st2, d, wipeE env vs, env1, S2, rx, Ew, henv1, fun σ' E1 hl hj => ⟨?_, ?_⟩⟩
        · have h1 : L2.wipe σ' vs = L2.wipe (L2.wipe σ vs) vs := wipe_ext hl fun j hjv => hj j fun z => hjv (his j z)
          rw [h1, wipe_wipe]
        · have p3 := p2.bind
          -- the tests
          have p3' : Post X.K Wx σ H W ((ts c env1 st2).calm.bind fun b st1 => if b = true then (elt c env1 st1).calm.bind fun y st2 => (compL c gd xs g ts elt (wipeE env vs) (xs.drop (i + 1)) st2).bind fun ys st3 => .ok (y :: ys) st3 else compL c gd xs g ts elt (wipeE env vs) (xs.drop (i + 1)) st1) fun ys st3 => Post X.K Wx σ H W (fin (acc ++ ys) st3) (Aft X.K H W Q) := p3
          refine ⟨W2, st2, env1, S2, E1, (p3'.calmed σ' _ W2).mono fun bb st3 p4 H3 W3 T3 S3 => ?_⟩
          have hDr2 : D ∉ W2.rho := fun z => S2.dis D z hB
          have hD3 := (T3.keep D _ hD2 hDr2).1
          cases bb with
          | true =>
            rw [if_pos rfl] at p4
            dsimp only
            rw [if_pos rfl]
            refine ⟨W3, st3, env1, S3, E1.step S2 T3, (p4.calmed σ' _ W3).mono fun dy st4 p5 yv H4 W4 T4 S4 R4 => ?_⟩
            have hB3 := T3.sub D hB
            have hDr3 : D ∉ W3.rho := fun z => S3.dis D z hB3
            have hD4 := (T4.keep D _ hD3 hDr3).1
            have hB4 := T4.sub D hB3
            have T24 := T3.trans T4
            have hacc4 := hacc.step S2 T24
            refine ⟨accV, hD4, ?_, W4, st4, acc ++ [dy], accV ++ [yv], ?_, S4.wr hB4 hD4 (fun _ _ z => nomatch z), hB4, upd_same, by simp; omega, (hacc4.append (.cons R4 .nil)).wr hB4 hD4 (fun _ _ z => nomatch z), ?_⟩
            · have h1 := hacc.length
              have h2 : xs.length ≤ sizeLine := hxl
              omega
            · have T14 := T2.trans T24
              exact ⟨T14.pre, T14.B, T14.sub, fun a o ha hn => ⟨by rw [upd_ne (ne_of_none ha hD)]; exact (T14.keep a o ha hn).1, (T14.keep a o ha hn).2⟩⟩
            · have p6 := p5.bind
              generalize hr : compL c gd xs g ts elt (wipeE env vs) (xs.drop (i + 1)) st4 = r at p6 ⊢
              cases r with
              | er x st => exact p6
              | no => exact p6
              | ok ys st3 =>
                have p7 : Post X.K Wx σ H W (fin (acc ++ (dy :: ys)) st3) (Aft X.K H W Q) := p6
                show Post X.K Wx σ H W (fin (acc ++ [dy] ++ ys) st3) _
                rw [List.append_assoc]
                exact p7
          | false =>
            rw [if_neg Bool.false_ne_true] at p4
            dsimp only
            rw [if_neg Bool.false_ne_true]
            refine ⟨W3, st3, acc, accV, T2.trans T3, S3, T3.sub D hB, hD3, by omega, hacc.step S2 T3, ?_⟩
            generalize hr : compL c gd xs g ts elt (wipeE env vs) (xs.drop (i + 1)) st3 = r at p4 ⊢
            cases r with
            | er x st => exact p4
            | no => exact p4
            | ok ys st3 => exact p4
    · rw [if_neg hg] at p2
      exact (show False from p2).elim
  · -- the end
    have e : i = xs.length := by omega
    rw [List.drop_of_length_le (by omega)] at p2
    unfold compL at p2
    by_cases hg : gOk gd xs st2
    · rw [if_pos hg] at p2
      have p3 : Post X.K Wx σ H W (fin (acc ++ []) st2) (Aft X.K H W Q) := p2
      rw [List.append_nil] at p3
      refine .inl ⟨wk.stop i H2 W2 st2 T2 S2 hg e, ?_⟩
      obtain ⟨rho2, B2⟩ := W2
      have hsub : ∀ a ∈ B2.filter (fun a => decide (a ≠ D)), a ∈ B2 := fun a ha => (List.mem_filter.mp ha).1
      have hDn : D ∉ B2.filter (fun a => decide (a ≠ D)) := fun z => by
        have := (List.mem_filter.mp z).2
        simp at this
      have hDr2 : D ∉ rho2 := fun z => S2.dis D z hB
      have T3 : Step H1 W1 H2 ⟨rho2, B2.filter (fun a => decide (a ≠ D))⟩ :=
        ⟨T2.pre, fun a ha => T2.B a (hsub a ha), fun a ha => List.mem_filter.mpr ⟨T2.sub a ha, by simp; intro z; subst z; exact hDB ha⟩, T2.keep⟩
      rcases hfin acc st2 with hf | hf
      · rw [hf] at p3
        exact p3 _ H2 _ (T1.trans T3) (S2.unB hsub) (.lst hD2 hDr2 hDn (hacc.unB hsub))
      · rw [hf] at p3
        -- the list is a cell from now on
        have S3 := S2.unB hsub
        have hacc3 := hacc.unB hsub
        have T4 : Step H1 W1 H2 ⟨rho2 ++ [D], B2.filter (fun a => decide (a ≠ D))⟩ := by
          refine ⟨?_, T3.B, T3.sub, fun a o ha hn => ⟨(T3.keep a o ha hn).1, fun z => ?_⟩⟩
          · obtain ⟨m, em⟩ := T2.pre
            exact ⟨m ++ [D], by show rho2 ++ [D] = _; rw [show rho2 = W1.rho ++ m from em, List.append_assoc]⟩
          · rcases List.mem_append.mp z with z | z
            · exact (T3.keep a o ha hn).2 z
            · have : a = D := by simpa using z
              subst this
              rw [hD] at ha; cases ha
        refine p3 (.ref D) H2 _ (T1.trans T4) (Sim.cellB hB hsub hDn S2 ⟨accV, hD2, hacc.cellB hB hsub⟩) (.ref ?_)
        show (rho2 ++ [D])[st2.length]? = some D
        have hlen : rho2.length = st2.length := S2.len
        rw [← hlen]
        simp
    · rw [if_neg hg] at p2
      exact (show False from p2).elim
variable {elt tg iter : Expr} {ifs : List Expr} {scope : Scope} {own : List (Str × Nat)} {pos : Pos} {it : MI} {g : MG} {ts : MT} {me : ME} {is : List Nat}
theorem dComp (hc : X.calm = true) (hN : X.N.Nodup) (hi : PI X tg iter (tIs X.K c Wx it)) (ok : BlkOk X.N X.env.scope scope own) (his : ∀ i ∈ is, i ∈ own.map (·.2))
    (hg : ∀ (s : Shared) (H : Hp) (C : Addr) (cl : List (Str × Addr)) (fp : List Addr), PG (X.blk s H scope (compEnvC scope cl C X.env) fp) tg (tG X.K is g)) (ht : ∀ (s : Shared) (H : Hp) (C : Addr) (cl : List (Str × Addr)) (fp : List Addr), PTs (X.blk s H scope (compEnvC scope cl C X.env) fp) ifs (tTs X.K c WF ts))
    (he : ∀ (s : Shared) (H : Hp) (C : Addr) (cl : List (Str × Addr)) (fp : List Addr), PE (X.blk s H scope (compEnvC scope cl C X.env) fp) elt (tE X.K c WF me)) (hs : ∀ x, foldedSetIterable iter X.env x = pure x) :
    PE X (.ListComp elt [⟨tg, iter, ifs, 0⟩] scope pos) (tE X.K c Wx (mComp (own.map (·.2)) it g ts me)) :=
  PE.weak (pe_lc hc hN hi ok hg ht he hs) fun σ H Q h => by
    obtain ⟨W, st, env, S, E, p⟩ := h
    exact comp_core his S E (fun ys st2 => .inl rfl) p
theorem dCompM (hc : X.calm = true) (hN : X.N.Nodup) (hi : PI X tg iter (tIs X.K c Wx it)) (ok : BlkOk X.N X.env.scope scope own) (his : ∀ i ∈ is, i ∈ own.map (·.2))
    (hg : ∀ (s : Shared) (H : Hp) (C : Addr) (cl : List (Str × Addr)) (fp : List Addr), PG (X.blk s H scope (compEnvC scope cl C X.env) fp) tg (tG X.K is g)) (ht : ∀ (s : Shared) (H : Hp) (C : Addr) (cl : List (Str × Addr)) (fp : List Addr), PTs (X.blk s H scope (compEnvC scope cl C X.env) fp) ifs (tTs X.K c WF ts))
    (he : ∀ (s : Shared) (H : Hp) (C : Addr) (cl : List (Str × Addr)) (fp : List Addr), PE (X.blk s H scope (compEnvC scope cl C X.env) fp) elt (tE X.K c WF me)) (hs : ∀ x, foldedSetIterable iter X.env x = pure x) :
    PE X (.ListComp elt [⟨tg, iter, ifs, 0⟩] scope pos) (tE X.K c Wx (mCompM (own.map (·.2)) it g ts me)) :=
  PE.weak (pe_lc hc hN hi ok hg ht he hs) fun σ H Q h => by
    obtain ⟨W, st, env, S, E, p⟩ := h
    exact comp_core his S E (fun ys st2 => .inr rfl) p
end
end RP
end
section
set_option Elab.async false
set_option linter.all false
set_option maxRecDepth 100000
/-! Calls: what is left behind one. -/
namespace RP
open PySem L2
section
variable {K : PySem.W.Frag} {H : Hp}
mutual
theorem Rep.bel {W : Wd} : ∀ {v : V} (d : D), Rep K H W v d → bel W.rho.length d = true
  | _, .non, _ => by simp [RP.bel]
  | _, .bl b, _ => by simp [RP.bel]
  | _, .int b, _ => by simp [RP.bel]
  | _, .str b, _ => by simp [RP.bel]
  | _, .tup ds, .tup h r => by simpa [RP.bel] using Reps.bel ds r
  | _, .lst ds, .lst h _ _ r => by simpa [RP.bel] using Reps.bel ds r
  | _, .dct ks vs, .dct h _ _ r r2 => by simp [RP.bel, Reps.bel ks r, Reps.bel vs r2]
  | _, .frz ds, _ => by simp [RP.bel]
  | _, .ref n, .ref h => by simpa [RP.bel] using (List.getElem?_eq_some_iff.mp h).1
theorem Reps.bel {W : Wd} : ∀ {vs : List V} (ds : List D), Reps K H W vs ds → bels W.rho.length ds = true
  | _, [], .nil => by simp [bels]
  | _, d :: ds, .cons h r => by simp [bels, Rep.bel d h, Reps.bel ds r]
end
theorem CellOk.bel {W : Wd} {a : Addr} {c : Cell} (h : CellOk K H W a c) : belC W.rho.length c = true := by
  cases c with
  | lst ds => obtain ⟨xs, _, r⟩ := h; exact r.bel
  | dct ks vs => obtain ⟨xs, _, r, r2⟩ := h; simp [belC, r.bel, r2.bel]
  | ins c fs => obtain ⟨dx, xs, _, _, r⟩ := h; exact r.bel
mutual
/-- fewer cells -/
theorem Rep.few {rho rho' B : List Addr} {n : Nat} (h1 : ∀ i, i < n → rho'[i]? = rho[i]?) (h2 : ∀ a ∈ rho', a ∈ rho) : ∀ {v : V} (d : D), bel n d = true → Rep K H ⟨rho, B⟩ v d → Rep K H ⟨rho', B⟩ v d
  | _, .non, _, .non => .non
  | _, .bl b, _, .bl _ => .bl b
  | _, .int i, _, .int _ => .int i
  | _, .str x, _, .str _ => .str x
  | _, .tup ds, e, .tup h r => .tup h (Reps.few h1 h2 ds (by simpa [RP.bel] using e) r)
  | _, .lst ds, e, .lst h n1 n2 r => .lst h (fun z => n1 (h2 _ z)) n2 (Reps.few h1 h2 ds (by simpa [RP.bel] using e) r)
  | _, .dct ks vs, e, .dct h n1 n2 r1 r2 => by
    have e' : bels n ks = true ∧ bels n vs = true := by simpa [RP.bel] using e
    exact .dct h (fun z => n1 (h2 _ z)) n2 (Reps.few h1 h2 ks e'.1 r1) (Reps.few h1 h2 vs e'.2 r2)
  | _, .frz ns, _, .frz h => .frz h
  | _, .ref k, e, .ref h => by
    have e' : k < n := by simpa [RP.bel] using e
    exact .ref ((h1 k e').trans h)
theorem Reps.few {rho rho' B : List Addr} {n : Nat} (h1 : ∀ i, i < n → rho'[i]? = rho[i]?) (h2 : ∀ a ∈ rho', a ∈ rho) : ∀ {vs : List V} (ds : List D), bels n ds = true → Reps K H ⟨rho, B⟩ vs ds → Reps K H ⟨rho', B⟩ vs ds
  | _, [], _, .nil => .nil
  | _, d :: ds, e, .cons h r => by
    have e' : bel n d = true ∧ bels n ds = true := by simpa [bels] using e
    exact .cons (Rep.few h1 h2 d e'.1 h) (Reps.few h1 h2 ds e'.2 r)
end
theorem CellOk.few {rho rho' B : List Addr} {n : Nat} {a : Addr} {c : Cell} (h1 : ∀ i, i < n → rho'[i]? = rho[i]?) (h2 : ∀ a ∈ rho', a ∈ rho) (e : belC n c = true) (h : CellOk K H ⟨rho, B⟩ a c) : CellOk K H ⟨rho', B⟩ a c := by
  cases c with
  | lst ds => obtain ⟨xs, h, r⟩ := h; exact ⟨xs, h, r.few h1 h2 _ e⟩
  | dct ks vs =>
    have e' : bels n ks = true ∧ bels n vs = true := by simpa [belC] using e
    obtain ⟨xs, h, r, r2⟩ := h; exact ⟨xs, h, r.few h1 h2 _ e'.1, r2.few h1 h2 _ e'.2⟩
  | ins c fs => obtain ⟨dx, xs, h, q, r⟩ := h; exact ⟨dx, xs, h, q, r.few h1 h2 _ e⟩
end
section
variable {K : PySem.W.Frag} {H1 H' : Hp} {W1 W' : Wd} {st1 st' : St}
/-- the elder cells alone, and one more -/
theorem Sim.fewer (S1 : Sim K H1 W1 st1) (T : Step H1 W1 H' W') (S' : Sim K H' W' st') (ho : Old st1 st') (hl : st1.length ≤ st'.length) : Sim K H' ⟨W1.rho, W'.B⟩ (st'.take st1.length) := by
  obtain ⟨more, hm⟩ := T.pre
  have g1 : ∀ i, i < st1.length → W1.rho[i]? = W'.rho[i]? := fun i hi => by rw [hm, List.getElem?_append_left (by rw [S1.len]; exact hi)]
  have g2 : ∀ a ∈ W1.rho, a ∈ W'.rho := fun a ha => by rw [hm]; exact List.mem_append_left _ ha
  refine ⟨by rw [List.length_take, Nat.min_eq_left hl]; exact S1.len, S1.nd, S'.bt, fun a ha => S'.dis a (g2 a ha), fun i a c h1 h2 => ?_⟩
  have hi : i < st1.length := by
    have := (List.getElem?_eq_some_iff.mp h2).1
    rw [List.length_take] at this; omega
  rw [List.getElem?_take_of_lt hi] at h2
  have q := S'.cell i a c (by rw [← g1 i hi]; exact h1) h2
  refine q.few g1 g2 ?_
  rcases ho i c hi h2 with h | h
  · have := (S1.cell i a c h1 h).bel
    rw [S1.len] at this
    exact this
  · exact h
theorem Step.fewer (T : Step H1 W1 H' W') : Step H1 W1 H' ⟨W1.rho, W'.B⟩ := ⟨⟨[], by simp⟩, T.B, T.sub, fun a o h n => ⟨(T.keep a o h n).1, n⟩⟩
theorem gc_ok {v : V} {d d2 : D} {st2 : St} (S1 : Sim K H1 W1 st1) (T : Step H1 W1 H' W') (S' : Sim K H' W' st') (r : Rep K H' W' v d) (e : gc st1 d st' = .ok d2 st2) : ∃ W2, Step H1 W1 H' W2 ∧ Sim K H' W2 st2 ∧ Rep K H' W2 v d2 := by
  unfold gc at e
  split at e
  · cases e; exact ⟨W', T, S', r⟩
  · split at e
    · rename_i ho
      obtain ⟨more, hm⟩ := T.pre
      have g1 : ∀ i, i < st1.length → W1.rho[i]? = W'.rho[i]? := fun i hi => by rw [hm, List.getElem?_append_left (by rw [S1.len]; exact hi)]
      have g2 : ∀ a ∈ W1.rho, a ∈ W'.rho := fun a ha => by rw [hm]; exact List.mem_append_left _ ha
      split at e
      · rename_i hb
        cases e
        exact ⟨_, T.fewer, S1.fewer T S' ho.2 ho.1, r.few g1 g2 _ hb⟩
      · rename_i hb
        split at e
        · rename_i c hc
          split at e
          · rename_i hbc
            cases e
            obtain ⟨k, hk1, hk2⟩ := Option.bind_eq_some_iff.mp hc
            have hk1' : d = .ref k := by
              cases d <;> simp [isRef] at hk1
              rw [hk1]
            subst hk1'
            cases r with
            | ref hr =>
              rename_i a
              have hkn : st1.length ≤ k := by
                have : ¬ k < st1.length := by simpa [bel] using hb
                omega
              have ha : a ∉ W1.rho := fun z => by
                obtain ⟨i, hi, ei⟩ := List.getElem_of_mem z
                have h1 : W'.rho[i]? = some a := by rw [← g1 i (by rw [← S1.len]; exact hi), List.getElem?_eq_getElem hi, ei]
                obtain ⟨l1, e1⟩ := List.getElem?_eq_some_iff.mp hr
                obtain ⟨l2, e2⟩ := List.getElem?_eq_some_iff.mp h1
                have : k = i := (List.getElem_inj S'.nd).mp (e1.trans e2.symm)
                rw [S1.len] at hi
                omega
              have haW : a ∈ W'.rho := List.mem_of_getElem? hr
              have S2 := S1.fewer T S' ho.2 ho.1
              have g3 : ∀ i, i < st1.length → (W1.rho ++ [a])[i]? = W'.rho[i]? := fun i hi => by rw [List.getElem?_append_left (by rw [S1.len]; exact hi)]; exact g1 i hi
              have g4 : ∀ b ∈ W1.rho ++ [a], b ∈ W'.rho := fun b hb => by
                rcases List.mem_append.mp hb with z | z
                · exact g2 b z
                · rw [List.mem_singleton.mp z]; exact haW
              refine ⟨⟨W1.rho ++ [a], W'.B⟩, ⟨⟨[a], rfl⟩, T.B, T.sub, fun b o h n => ⟨(T.keep b o h n).1, fun z => (T.keep b o h n).2 (g4 b z)⟩⟩, ⟨?_, ?_, S'.bt, fun b hb => S'.dis b (g4 b hb), fun i b c' h1 h2 => ?_⟩, .ref ?_⟩
              · simp [S1.len, Nat.min_eq_left ho.1]
              · show (W1.rho ++ [a]).Nodup
                rw [List.nodup_append]
                refine ⟨S1.nd, by simp, fun x hx y hy => ?_⟩
                rw [List.mem_singleton.mp hy]
                intro z; subst z; exact ha hx
              · have h1' : (W1.rho ++ [a])[i]? = some b := h1
                have hlen : (st'.take st1.length).length = st1.length := by rw [List.length_take]; omega
                by_cases hi : i < st1.length
                · rw [List.getElem?_append_left (by rw [S1.len]; exact hi)] at h1'
                  rw [List.getElem?_append_left (by omega), List.getElem?_take_of_lt hi] at h2
                  have q := S'.cell i b c' (by rw [← g1 i hi]; exact h1') h2
                  refine q.few g3 g4 ?_
                  rcases ho.2 i c' hi h2 with h | h
                  · have := (S1.cell i b c' h1' h).bel
                    rw [S1.len] at this
                    exact this
                  · exact h
                · have hi2 : i = st1.length := by
                    have := (List.getElem?_eq_some_iff.mp h2).1
                    rw [List.length_append, hlen] at this
                    simp at this; omega
                  subst hi2
                  have e1 : a = b := by
                    rw [← S1.len] at h1'; simpa using h1'
                  have e2 : c = c' := by
                    rw [List.getElem?_append_right (by omega), hlen] at h2
                    simpa using h2
                  subst e1 e2
                  exact (S'.cell k a c hr hk2).few g3 g4 hbc
              · show (W1.rho ++ [a])[st1.length]? = some a
                rw [← S1.len]; simp
          · cases e; exact ⟨W', T, S', r⟩
        · cases e; exact ⟨W', T, S', r⟩
    · cases e; exact ⟨W', T, S', r⟩
theorem ice_ok {Wx Wy : WX} {σ τ : L2.St} {H : Hp} {W : Wd} {r : R D} {P : D → St → Prop} {Q : VK} (S1 : Sim K H1 W1 st1) (hx : ∀ cls dd H', Wx cls dd σ H' → Wy cls dd τ H') (T1 : Step H W H1 W1) (hP : ∀ d st', P d st' → Aft K H W Q d st') (p : Post K Wx σ H W (ice st1 r) P) :
    Post K Wy τ H1 W1 r (Aft K H1 W1 Q) := by
  have plain : ∀ d st', P d st' → Aft K H1 W1 Q d st' := fun d st' h v H' W' T S' R => hP d st' h v H' W' (T1.trans T) S' R
  cases r with
  | no => exact p
  | er x st => exact fun H' W' cls dd T S' x' => hx _ _ _ (p H' W' cls dd (T1.trans T) S' x')
  | ok d st' =>
    show Aft K H1 W1 Q d st'
    unfold ice at p
    split at p
    · rename_i k st2 heq
      cases heq
      split at p
      · rename_i hk
        obtain ⟨rfl, hl, ho⟩ := hk
        split at p
        · rename_i xs hxs
          split at p
          · rename_i hb
            intro v H' W' T S' R
            cases R with
            | ref hr =>
              rename_i a
              obtain ⟨vs, hv, rv⟩ := S'.cell _ a _ hr hxs
              obtain ⟨more, hm⟩ := T.pre
              have g1 : ∀ i, i < st1.length → W1.rho[i]? = W'.rho[i]? := fun i hi => by rw [hm, List.getElem?_append_left (by rw [S1.len]; exact hi)]
              have g2 : ∀ a ∈ W1.rho, a ∈ W'.rho := fun a ha => by rw [hm]; exact List.mem_append_left _ ha
              have ha : a ∉ W1.rho := fun z => by
                obtain ⟨i, hi, ei⟩ := List.getElem_of_mem z
                have h1 : W'.rho[i]? = some a := by rw [← g1 i (by rw [← S1.len]; exact hi), List.getElem?_eq_getElem hi, ei]
                obtain ⟨l1, e1⟩ := List.getElem?_eq_some_iff.mp hr
                obtain ⟨l2, e2⟩ := List.getElem?_eq_some_iff.mp h1
                have : st1.length = i := (List.getElem_inj S'.nd).mp (e1.trans e2.symm)
                rw [S1.len] at hi
                omega
              exact hP _ _ p (.ref a) H' ⟨W1.rho, W'.B⟩ (T1.trans T.fewer) (S1.fewer T S' ho (by omega)) (.lst hv ha (S'.dis a (List.mem_of_getElem? hr)) (rv.few g1 g2 _ hb))
          · exact plain _ _ p
        · rename_i ks ws hxs
          split at p
          · rename_i hb
            have hb' : bels st1.length ks = true ∧ bels st1.length ws = true := by simpa using hb
            intro v H' W' T S' R
            cases R with
            | ref hr =>
              rename_i a
              obtain ⟨kvs, hv, rk, rv⟩ := S'.cell _ a _ hr hxs
              obtain ⟨more, hm⟩ := T.pre
              have g1 : ∀ i, i < st1.length → W1.rho[i]? = W'.rho[i]? := fun i hi => by rw [hm, List.getElem?_append_left (by rw [S1.len]; exact hi)]
              have g2 : ∀ a ∈ W1.rho, a ∈ W'.rho := fun a ha => by rw [hm]; exact List.mem_append_left _ ha
              have ha : a ∉ W1.rho := fun z => by
                obtain ⟨i, hi, ei⟩ := List.getElem_of_mem z
                have h1 : W'.rho[i]? = some a := by rw [← g1 i (by rw [← S1.len]; exact hi), List.getElem?_eq_getElem hi, ei]
                obtain ⟨l1, e1⟩ := List.getElem?_eq_some_iff.mp hr
                obtain ⟨l2, e2⟩ := List.getElem?_eq_some_iff.mp h1
                have : st1.length = i := (List.getElem_inj S'.nd).mp (e1.trans e2.symm)
                rw [S1.len] at hi
                omega
              exact hP _ _ p (.ref a) H' ⟨W1.rho, W'.B⟩ (T1.trans T.fewer) (S1.fewer T S' ho (by omega)) (.dct (.inl hv) ha (S'.dis a (List.mem_of_getElem? hr)) (rk.few g1 g2 _ hb'.1) (rv.few g1 g2 _ hb'.2))
          · exact plain _ _ p
        · exact plain _ _ p
      · exact plain _ _ p
    · exact plain _ _ p
end
/-- a def's promise: what its denotation does -/
def spF (K : PySem.W.Frag) (c : Call) (f : Str) (np : Nat) : Sp := fun vs H Q E => ∃ W st ds, Sim K H W st ∧ Reps K H W vs ds ∧ ds.length = np ∧ Post K (fun cls d _ H => E cls d H) [] H W (c f ds st) (Aft K H W Q)
/-- a def keeps its promise wherever no guard of the machine is up -/
structure FnG (P : Program) (w : World) (K : PySem.W.Frag) (mg : Str → Option Value) (base : Heap) (k : Nat) (f : Addr) (fd : FuncData) (ps : List Str) (sp : Sp) : Prop where
  len : ∀ vs H Q E, sp vs H Q E → vs.length = ps.length
  run : ∀ (A : Around) (up : List PySem.Env) (s : Shared) (H : Hp) (args : Args) (us : List Value) (vs : List V) (Q : VK) (E : XK), Room k A → A.guards = some [] → Env0 P w K mg base A up s H → BindsTo s fd args (ps.zip us) → Vals vs us → sp vs H Q E →
    codeAny (model P w) A (.call (.ref f) args) (CR (L2.CX P w) up P w H s Q E) s
structure FnAt (P : Program) (w : World) (K : PySem.W.Frag) (mg : Str → Option Value) (base : Heap) (c : Call) (k : Nat) (f : Str) (np : Nat) : Prop where
  ex : ∃ (a : Addr) (fd : FuncData) (ps : List Str), mg f = some (.ref a) ∧ PySem.W.keepIn K (.ref a) = true ∧ Binds K fd ps [] ∧ FnG P w K mg base k a fd ps (spF K c f np)
section
variable {X : Cx} {k : Nat} {f : Addr} {fd : FuncData} {ps : List Str} {sp : Sp} {E : L2.St → XK} {x : Str} {p pos : Pos} {e : Expr} {es : List Expr} {t : TA}
/-- x(e, ..), x a def of the module -/
theorem pe_callG (F : FnG X.prog X.w X.K X.mg X.base k f fd ps sp) (hr : Room k X.A) (hgd : X.A.guards = some []) (hg : Gl X x) (hm : X.mg x = some (.ref f)) (hk : PySem.W.keepIn X.K (.ref f) = true) (hb : Binds X.K fd ps []) (hx : ∀ σ, PassesAt (L2.CX X.prog X.w) X σ (E σ))
    (ha : PA X (e :: es) t) (hdb : (x == ("__debug__" : Str)) = false) (he : starEach (e :: es) X.env = (false, eval e X.env) :: starEach es X.env) (hpl : (backTo pos (starEach es X.env)).any (·.1) = false) :
    PE X (.Call (.Name x p) (e :: es) [] pos) (tCallS sp E t) := ⟨fun pins s σ H Q I h => by
  refine PySem.wpAny_Call_Name_kw (ld_glob I hg hm (PySem.W.callWith_K (h₀ := X.base) I.ok.mod.kin hk (thn (ha.run pos pins s σ H _ I h) fun us s1 ⟨vs, H1, J, r, q⟩ => ⟨J.kIn, ?_⟩) he hpl) hdb)
  have hl : us.length = ps.length := by rw [← r.length]; exact F.len _ _ _ _ q
  have bd := hb s1 us J.kIn (by rw [List.append_nil]; exact hl)
  rw [List.append_nil] at bd
  refine wpAny_call (codeAny_mono (F.run X.A X.stack s1 H1 ⟨us, []⟩ us vs Q (E σ) hr hgd J.env0 bd r q) fun z s2 hz => ?_)
  rcases z with er | fl
  · exact hx σ pins H1 s1 er s2 J hz
  · cases fl with
    | ret u => exact J.after hz
    | _ => exact False.elim hz⟩
end
section
variable {X : Cx} {c : Call} {Wx : WX} {a b e : Expr} {ma mb me : ME} {pos : Pos} {es : List Expr} {ms : List ME}
theorem dCall {k np : Nat} {f : Str} {p : Pos} (F : FnAt X.prog X.w X.K X.mg X.base c k f np) (hr : Room k X.A) (hgd : X.A.guards = some []) (hg : Gl X f) (tk : Takes X Wx) (ha : PA X (e :: es) (tAs X.K c Wx (mArgs ms))) (hl : ms.length = np)
    (hdb : (f == ("__debug__" : Str)) = false) (he : starEach (e :: es) X.env = (false, eval e X.env) :: starEach es X.env) (hpl : (backTo pos (starEach es X.env)).any (·.1) = false) :
    PE X (.Call (.Name f p) (e :: es) [] pos) (tE X.K c Wx (mCall f ms)) := by
  obtain ⟨ad, fd, ps, hm, hk, hb, F⟩ := F.ex
  refine PE.weak (pe_callG (E := WE Wx) F hr hgd hg hm hk hb (fun σ => passAt tk σ) ha hdb he hpl) fun σ H Q h => ?_
  obtain ⟨W, st, env, S, E, p⟩ := h
  refine ⟨W, st, env, S, E, (args_post p).mono fun ds st1 p1 vs H1 W1 T1 S1 R1 => ⟨W1, st1, ds, S1, R1, p1.1.trans hl, ?_⟩⟩
  exact ice_ok S1 (fun cls dd H' h => h) T1 (fun _ _ h => h) p1.2
theorem dCallM {k np : Nat} {f : Str} {p : Pos} (F : FnAt X.prog X.w X.K X.mg X.base c k f np) (hr : Room k X.A) (hgd : X.A.guards = some []) (hg : Gl X f) (tk : Takes X Wx) (ha : PA X (e :: es) (tAs X.K c Wx (mArgs ms))) (hl : ms.length = np)
    (hdb : (f == ("__debug__" : Str)) = false) (he : starEach (e :: es) X.env = (false, eval e X.env) :: starEach es X.env) (hpl : (backTo pos (starEach es X.env)).any (·.1) = false) :
    PE X (.Call (.Name f p) (e :: es) [] pos) (tE X.K c Wx (mCallM f ms)) := by
  obtain ⟨ad, fd, ps, hm, hk, hb, F⟩ := F.ex
  refine PE.weak (pe_callG (E := WE Wx) F hr hgd hg hm hk hb (fun σ => passAt tk σ) ha hdb he hpl) fun σ H Q h => ?_
  obtain ⟨W, st, env, S, E, p⟩ := h
  refine ⟨W, st, env, S, E, (args_post p).mono fun ds st1 p1 vs H1 W1 T1 S1 R1 => ⟨W1, st1, ds, S1, R1, p1.1.trans hl, ?_⟩⟩
  have p2 := p1.2
  generalize c f ds st1 = r at p2 ⊢
  cases r with
  | no => exact p2
  | er x st => exact fun H' W' cls dd T S' x' => p2 H' W' cls dd (T1.trans T) S' x'
  | ok d st' => exact fun v H' W' T S' R => p2 v H' W' (T1.trans T) S' R
end
end RP
end
section
set_option Elab.async false
set_option linter.all false
set_option maxRecDepth 100000
/-! Methods of lists; statements. -/
namespace RP
open PySem L2
/-! ### methods -/
def liftM (K : PySem.W.Frag) (f : Meth) : V → List V → Hp → VK → Prop := fun x xs H Q => ∃ W st d ds d2 st2, Sim K H W st ∧ Rep K H W x d ∧ Reps K H W xs ds ∧ f st d ds = some (d2, st2) ∧ ∀ v H' W', Step H W H' W' → Sim K H' W' st2 → Rep K H' W' v d2 → Q v H'
/-- xs.insert(i, y) -/
def xInsert : Meth := fun st o ds => match o, ds with
  | .ref n, [.int i, d] => match st[n]? with
    | some (.lst xs) => if xs.length < big ∧ 0 ≤ i ∧ i < (big : Int) then some (.non, st.set n (.lst (xs.take i.toNat ++ [d] ++ xs.drop i.toNat))) else none
    | _ => none
  | _, _ => none
def xReverse : Meth := fun st o ds => match o, ds with
  | .ref n, [] => match st[n]? with
    | some (.lst xs) => some (.non, st.set n (.lst xs.reverse))
    | _ => none
  | _, _ => none
def xClear : Meth := fun st o ds => match o, ds with
  | .ref n, [] => match st[n]? with
    | some (.lst xs) => some (.non, st.set n (.lst []))
    | _ => none
  | _, _ => none
section
variable {X : Cx}
theorem mt_appendL : MtR X "list.append" (liftM X.K xAppend) := fun pins s σ H x xs v us Q I rx rxs h => by
  refine mt_append pins s σ H x xs v us Q I rx rxs ?_
  obtain ⟨W, st, d, ds, d2, st2, S, r, rs, e, q⟩ := h
  have bl := bigLine
  unfold xAppend at e
  split at e
  · rename_i n d1
    split at e
    · rename_i ys hn
      split at e
      · cases e
        cases r with
        | ref hr =>
          rename_i a
          obtain ⟨vs, hv, rv⟩ := S.cell _ a _ hr hn
          cases rs with
          | cons r1 rn =>
            cases rn
            rename_i w
            have T := Step.write S (o := .lst (vs ++ [w])) hr
            refine ⟨a, vs, _, rfl, rfl, hv, by rw [rv.length]; omega, q .non _ W T (S.write hr ⟨_, upd_same, (rv.append (.cons r1 .nil)).step S T⟩) .non⟩
      · cases e
    · cases e
  · cases e
theorem mt_extendL : MtR X "list.extend" (liftM X.K xExtend) := fun pins s σ H x xs v us Q I rx rxs h => by
  refine mt_extend pins s σ H x xs v us Q I rx rxs ?_
  obtain ⟨W, st, d, ds, d2, st2, S, r, rs, e, q⟩ := h
  have bl := bigLine
  unfold xExtend at e
  split at e
  · rename_i n d1
    split at e
    · rename_i ys zs hn hz
      split at e
      · cases e
        cases r with
        | ref hr =>
          rename_i a
          obtain ⟨vs, hv, rv⟩ := S.cell _ a _ hr hn
          cases rs with
          | cons r1 rn =>
            cases rn
            have s1 := r1.saw S
            rw [hz] at s1
            obtain ⟨b, ws, rfl, hb, rb⟩ := saw_lst s1
            have T := Step.write S (o := .lst (vs ++ ws)) hr
            refine ⟨a, b, vs, ws, rfl, rfl, hv, hb, by rw [rv.length, rb.length]; omega, q .non _ W T (S.write hr ⟨_, upd_same, (rv.append rb).step S T⟩) .non⟩
      · cases e
    · cases e
  · cases e
theorem mt_insertL : MtR X "list.insert" (liftM X.K xInsert) := fun pins s σ H x xs v us Q I rx rxs h => by
  refine mt_insert pins s σ H x xs v us Q I rx rxs ?_
  obtain ⟨W, st, d, ds, d2, st2, S, r, rs, e, q⟩ := h
  have bl := bigLine
  have bi : (big : Int) < 2 ^ 63 := by decide
  unfold xInsert at e
  split at e
  · rename_i n i d1
    split at e
    · rename_i ys hn
      split at e
      · rename_i hc
        cases e
        cases r with
        | ref hr =>
          rename_i a
          obtain ⟨vs, hv, rv⟩ := S.cell _ a _ hr hn
          cases rs with
          | cons r1 rn =>
            cases rn with
            | cons r2 rn =>
              cases rn
              have ev := rep_int r1
              subst ev
              rename_i w
              have T := Step.write S (o := .lst (vs.take i.toNat ++ [w] ++ vs.drop i.toNat)) hr
              refine ⟨a, vs, i, _, rfl, rfl, hv, by rw [rv.length]; omega, by omega, by omega, q .non _ W T (S.write hr ⟨_, upd_same, (((rv.take _).append (.cons r2 .nil)).append (rv.drop _)).step S T⟩) .non⟩
      · cases e
    · cases e
  · cases e
theorem mt_reverseL : MtR X "list.reverse" (liftM X.K xReverse) := fun pins s σ H x xs v us Q I rx rxs h => by
  refine mt_reverse pins s σ H x xs v us Q I rx rxs ?_
  obtain ⟨W, st, d, ds, d2, st2, S, r, rs, e, q⟩ := h
  unfold xReverse at e
  split at e
  · rename_i n
    split at e
    · rename_i ys hn
      cases e
      cases r with
      | ref hr =>
        rename_i a
        obtain ⟨vs, hv, rv⟩ := S.cell _ a _ hr hn
        cases rs
        have T := Step.write S (o := .lst vs.reverse) hr
        exact ⟨a, vs, rfl, rfl, hv, q .non _ W T (S.write hr ⟨_, upd_same, rv.reverse.step S T⟩) .non⟩
    · cases e
  · cases e
theorem mt_clearL : MtR X "list.clear" (liftM X.K xClear) := fun pins s σ H x xs v us Q I rx rxs h => by
  refine mt_clear pins s σ H x xs v us Q I rx rxs ?_
  obtain ⟨W, st, d, ds, d2, st2, S, r, rs, e, q⟩ := h
  unfold xClear at e
  split at e
  · rename_i n
    split at e
    · rename_i ys hn
      cases e
      cases r with
      | ref hr =>
        rename_i a
        obtain ⟨vs, hv, rv⟩ := S.cell _ a _ hr hn
        cases rs
        have T := Step.write S (o := .lst []) hr
        exact ⟨a, vs, rfl, rfl, hv, q .non _ W T (S.write hr ⟨_, upd_same, .nil⟩) .non⟩
    · cases e
  · cases e
/-- what a list's method is called of -/
def isL (st : St) (d : D) : Bool := match d with
  | .lst _ => true
  | .frz _ => true
  | .ref n => match st[n]? with
    | some (.lst _) => true
    | _ => false
  | _ => false
/-- a method of a list -/
def mLm (f : Meth) (o : ME) (ms : List ME) : ME := fun c env st => (o c env st).bind fun x st1 => if isL st1 x = true then (mArgs ms c env st1).bind fun ds st2 => match f st2 x ds with
  | some (d, st3) => .ok d st3
  | none => .no
  else .no
theorem tyL {K : PySem.W.Frag} {H : Hp} {W : Wd} {st : St} {v : V} {d : D} (S : Sim K H W st) (r : Rep K H W v d) (h : isL st d = true) : tyV K "list" v H := by
  cases d with
  | lst ds => cases r with | lst h _ _ _ => exact .inl ⟨rfl, _, SqL.of h⟩
  | frz ns =>
    cases r with
    | frz h =>
      refine .inl ⟨rfl, ns.map V.int, ?_⟩
      rcases h with ⟨o, h⟩ | ⟨o, its, n, h1, h2, h3, h4, h5, h6⟩
      · exact .inl (.inr ⟨o, h⟩)
      · exact .inr ⟨o, its, n, h1, h2, h3, h4, h5, h6⟩
  | ref n =>
    cases r with
    | ref hr =>
      have h' : (match st[n]? with | some (.lst _) => true | _ => false) = true := h
      split at h'
      · rename_i ys hn
        obtain ⟨vs, hv, _⟩ := S.cell _ _ _ hr hn
        exact .inl ⟨rfl, _, SqL.of hv⟩
      · cases h'
  | _ => exact absurd h Bool.false_ne_true
variable {c : Call} {Wx : WX} {o e : Expr} {es : List Expr} {mo : ME} {ms : List ME} {name : Str} {apos cpos : Pos} {id : String} {f : Meth}
theorem dLm0 (slot : Slot "list" name id) (hty : typeOf (.builtin id) = pure (.type "method_descriptor")) (hm : MtR X id (liftM X.K f)) (ho : PE X o (tE X.K c Wx mo)) (hbase : attributeBase o name X.env (eval o X.env) = eval o X.env) (hline : (apos.endLine == cpos.line) = true) :
    PE X (.Call (.Attribute o name apos) [] [] cpos) (tE X.K c Wx (mLm f mo [])) :=
  PE.weak (pe_bm0 F.plainAttrs_list slot hty hm ho hbase hline) fun σ H Q h => by
    obtain ⟨W, st, env, S, E, p⟩ := h
    refine ⟨W, st, env, S, E, p.bind.mono fun dx st1 p1 x H1 W1 T1 S1 R1 => ?_⟩
    split at p1
    · rename_i hl
      refine ⟨tyL S1 R1 hl, ?_⟩
      have p2 : Post X.K Wx σ H W (match f st1 dx [] with | some (d, st3) => R.ok d st3 | none => .no) (Aft X.K H W Q) := p1
      split at p2
      · rename_i d st3 he
        exact ⟨W1, st1, dx, [], d, st3, S1, R1, .nil, he, fun v H' W' T S' R => p2 v H' W' (T1.trans T) S' R⟩
      · exact (show False from p2).elim
    · exact (show False from p1).elim
theorem dLm (slot : Slot "list" name id) (hty : typeOf (.builtin id) = pure (.type "method_descriptor")) (hm : MtR X id (liftM X.K f)) (ho : PE X o (tE X.K c Wx mo)) (ha : PA X (e :: es) (tAs X.K c Wx (mArgs ms))) (hbase : attributeBase o name X.env (eval o X.env) = eval o X.env)
    (hfew : ((backTo cpos (starEach (e :: es) X.env)).all (fun x => !x.1) && (backToKw cpos (keywordEach [] X.env)).all (fun x => x.1.isSome)
      && decide ((e :: es).length + ([] : List Keyword).length + (if ([] : List Keyword).isEmpty then 0 else 1) < 30)) = true)
    (hline : (apos.endLine == cpos.line) = true) (hs : starEach (e :: es) X.env = (false, eval e X.env) :: starEach es X.env) (hplain : (backTo cpos (starEach es X.env)).any (·.1) = false) :
    PE X (.Call (.Attribute o name apos) (e :: es) [] cpos) (tE X.K c Wx (mLm f mo ms)) :=
  PE.weak (pe_bm F.plainAttrs_list slot hty hm ho ha hbase hfew hline hs hplain) fun σ H Q h => by
    obtain ⟨W, st, env, S, E, p⟩ := h
    refine ⟨W, st, env, S, E, p.bind.mono fun dx st1 p1 x H1 W1 T1 S1 R1 => ?_⟩
    split at p1
    · rename_i hl
      refine ⟨tyL S1 R1 hl, W1, st1, env, S1, E.step S T1, (p1.bind.at T1).mono fun ds st2 p2 xs H2 W2 T2 S2 R2 => ?_⟩
      split at p2
      · rename_i d st3 he
        exact ⟨W2, st2, dx, ds, d, st3, S2, R1.step S1 T2, R2, he, fun v H' W' T S' R => p2 v H' W' ((T1.trans T2).trans T) S' R⟩
      · exact (show False from p2).elim
    · exact (show False from p1).elim
end

/-! ### statements -/
def PostS (K : PySem.W.Frag) (Wx : WX) (Dn : Ends) (H : Hp) (W : Wd) (r : RS) : Prop := match r with
  | .nx env st => ∀ σ' H' W', Step H W H' W' → Sim K H' W' st → EnvR K H' W' σ' env → Dn.nx σ' H'
  | .rt d st => ∀ v H' W', Step H W H' W' → Sim K H' W' st → Rep K H' W' v d → Dn.rt v H'
  | .bk env st => ∀ σ' H' W', Step H W H' W' → Sim K H' W' st → EnvR K H' W' σ' env → Dn.bk σ' H'
  | .ct env st => ∀ σ' H' W', Step H W H' W' → Sim K H' W' st → EnvR K H' W' σ' env → Dn.ct σ' H'
  | .er x env st => ∀ σ' H' W' cls dd, Step H W H' W' → Sim K H' W' st → EnvR K H' W' σ' env → XRep K H' W' x cls dd → Wx cls dd σ' H'
  | .no => False
def tSs (K : PySem.W.Frag) (c : Call) (Wx : WX) (m : MS) : TS := fun Dn σ H => ∃ W st env, Sim K H W st ∧ EnvR K H W σ env ∧ PostS K Wx Dn H W (m c env st)
theorem PS.weak {X : Cx} {s : Stmt} {t t' : TS} (h : PS X s t) (hw : ∀ Dn σ H, t' Dn σ H → t Dn σ H) : PS X s t' := ⟨fun pins s σ H Q I q => h.run pins s σ H Q I (hw _ _ _ q)⟩
theorem PSs.weak {X : Cx} {s : List Stmt} {t t' : TS} (h : PSs X s t) (hw : ∀ Dn σ H, t' Dn σ H → t Dn σ H) : PSs X s t' := ⟨fun pins s σ H Q I q => h.run pins s σ H Q I (hw _ _ _ q)⟩
section
variable {K : PySem.W.Frag} {Wx : WX} {σ : L2.St} {H H1 : Hp} {W W1 : Wd} {Dn : Ends}
theorem PostS.at {r : RS} (T : Step H W H1 W1) (h : PostS K Wx Dn H W r) : PostS K Wx Dn H1 W1 r := by
  cases r with
  | nx env st => exact fun σ' H' W' T' S' E' => h σ' H' W' (T.trans T') S' E'
  | rt d st => exact fun v H' W' T' S' E' => h v H' W' (T.trans T') S' E'
  | bk env st => exact fun σ' H' W' T' S' E' => h σ' H' W' (T.trans T') S' E'
  | ct env st => exact fun σ' H' W' T' S' E' => h σ' H' W' (T.trans T') S' E'
  | er x env st => exact fun σ' H' W' cls dd T' S' E' x' => h σ' H' W' cls dd (T.trans T') S' E' x'
  | no => exact h
theorem PostS.ofR {α : Type} {r : R α} {env : Env} {st : St} {k : α → St → RS} (S : Sim K H W st) (E : EnvR K H W σ env) (h : PostS K Wx Dn H W (RS.ofR r env k)) : Post K Wx σ H W r fun a st' => PostS K Wx Dn H W (k a st') := by
  cases r with
  | ok a st' => exact h
  | er x st' => exact fun H' W' cls dd T S' x' => h σ H' W' cls dd T S' (E.step S T) x'
  | no => exact h
theorem PostS.at' {r : RS} {a : St} {al : Type} {x : al} (T : Step H W H1 W1) (h : PostS K Wx Dn H W r) : PostS K Wx Dn H1 W1 r := h.at T
/-- a block in a row -/
theorem PostS.seq {r : RS} {k : Env → St → RS} (h : PostS K Wx Dn H W (r.bind k)) : PostS K Wx { Dn with nx := fun σ' H' => ∃ W' st env, Sim K H' W' st ∧ EnvR K H' W' σ' env ∧ PostS K Wx Dn H' W' (k env st) } H W r := by
  cases r with
  | nx env st => exact fun σ' H' W' T S' E' => ⟨W', st, env, S', E', PostS.at T h⟩
  | rt d st => exact h
  | bk env st => exact h
  | ct env st => exact h
  | er x env st => exact h
  | no => exact h
end
section
variable {X : Cx} {c : Call} {Wx : WX} {a b e : Expr} {ma mb me : ME} {pos : Pos} {s : Stmt} {rest bd bd2 : List Stmt} {m m2 : MS}
theorem sNil : PSs X [] (tSs X.K c Wx sSkip) := PSs.weak pss_nil fun Dn σ H h => by
  obtain ⟨W, st, env, S, E, p⟩ := h
  exact p σ H W (Step.refl _ _) S E
theorem sOne (h : PS X s (tSs X.K c Wx m)) : PSs X [s] (tSs X.K c Wx m) := pss_one h
theorem sConsD (h : PS X s (tSs X.K c Wx m)) (hr : PSs X rest (tSs X.K c Wx m2)) : PSs X (s :: rest) (tSs X.K c Wx (sSeq m m2)) := PSs.weak (pss_cons h hr) fun Dn σ H h => by
  obtain ⟨W, st, env, S, E, p⟩ := h
  exact ⟨W, st, env, S, E, p.seq⟩
theorem sPassD : PS X (.Pass pos) (tSs X.K c Wx sSkip) := PS.weak ps_pass fun Dn σ H h => by
  obtain ⟨W, st, env, S, E, p⟩ := h
  exact p σ H W (Step.refl _ _) S E
theorem sBrkD : PS X (.Break pos) (tSs X.K c Wx sBrk) := PS.weak ps_break fun Dn σ H h => by
  obtain ⟨W, st, env, S, E, p⟩ := h
  exact p σ H W (Step.refl _ _) S E
theorem sCntD : PS X (.Continue pos) (tSs X.K c Wx sCnt) := PS.weak ps_continue fun Dn σ H h => by
  obtain ⟨W, st, env, S, E, p⟩ := h
  exact p σ H W (Step.refl _ _) S E
theorem sExprD (he : PE X e (tE X.K c Wx me)) (hs : swapsWith e none pos.line X.env = pure false) : PS X (.Expr e pos) (tSs X.K c Wx (sExpr me)) := PS.weak (ps_expr he hs) fun Dn σ H h => by
  obtain ⟨W, st, env, S, E, p⟩ := h
  exact ⟨W, st, env, S, E, (p.ofR S E).mono fun d st1 p1 v H1 W1 T1 S1 R1 => p1 σ H1 W1 T1 S1 (E.step S T1)⟩
theorem sRetD (he : PE X e (tE X.K c Wx me)) : PS X (.Return (some e) pos) (tSs X.K c Wx (sRet me)) := PS.weak (ps_ret he) fun Dn σ H h => by
  obtain ⟨W, st, env, S, E, p⟩ := h
  exact ⟨W, st, env, S, E, (p.ofR S E).mono fun d st1 p1 v H1 W1 T1 S1 R1 => p1 v H1 W1 T1 S1 R1⟩
theorem sRetND : PS X (.Return none pos) (tSs X.K c Wx sRetN) := PS.weak ps_retN fun Dn σ H h => by
  obtain ⟨W, st, env, S, E, p⟩ := h
  exact p .non H W (Step.refl _ _) S .non
theorem sIfD {t : MT} (ht : PT X e (tTs X.K c Wx t)) (ha : PSs X bd (tSs X.K c Wx m)) (hb : PSs X bd2 (tSs X.K c Wx m2)) : PS X (.If e bd bd2 pos) (tSs X.K c Wx (sIf t m m2)) := PS.weak (ps_if ht ha hb) fun Dn σ H h => by
  obtain ⟨W, st, env, S, E, p⟩ := h
  refine ⟨W, st, env, S, E, (p.ofR S E).mono fun x st1 p1 H1 W1 T1 S1 => ?_⟩
  cases x with
  | true =>
    rw [if_pos rfl] at p1 ⊢
    exact ⟨W1, st1, env, S1, E.step S T1, p1.at T1⟩
  | false =>
    rw [if_neg Bool.false_ne_true] at p1 ⊢
    exact ⟨W1, st1, env, S1, E.step S T1, p1.at T1⟩
/-- any rule that binds a value to a target -/
theorem asg_weak {is : List Nat} {g : MG} {Dn : Ends} {σ : L2.St} {H : Hp} (h : tSs X.K c Wx (sAsg g me) Dn σ H) : tAsg (tE X.K c Wx me) (tG X.K is g) Dn σ H := by
  obtain ⟨W, st, env, S, E, p⟩ := h
  refine ⟨W, st, env, S, E, (p.ofR S E).mono fun d st1 p1 v H1 W1 T1 S1 R1 => ?_⟩
  split at p1
  · rename_i env1 he
    exact ⟨W1, st1, d, env, env1, S1, R1, E.step S T1, he, fun σ' E' _ _ => p1 σ' H1 W1 T1 S1 E'⟩
  · exact (show False from p1).elim
theorem sAsgD {tg : Expr} {is : List Nat} {g : MG} (he : PE X e (tE X.K c Wx me)) (hg : PG X tg (tG X.K is g)) (hs : swapsWithSole [tg] e pos.line X.env = pure false) (hw : swappedStores [tg] e X.env = pure none) (h1 : (assignEach [tg] X.env).map (·.2) = [assign tg X.env]) :
    PS X (.Assign [tg] e pos) (tSs X.K c Wx (sAsg g me)) := PS.weak (ps_asg he hg hs hw h1) fun Dn σ H h => asg_weak h
theorem name_weak {i : Nat} {v : V} {σ : L2.St} {H : Hp} {Q : L2.St → Hp → Prop} (h : tG X.K [i] (gNm i) v σ H Q) : gName i v σ H Q := by
  obtain ⟨W, st, d, env, env', S, r, E, e, q⟩ := h
  unfold gNm at e
  split at e
  · cases e
    exact q _ (E.set r) (by simp) fun j hj => by rw [List.getElem?_set_ne (fun z => hj (by simp [z]))]
  · cases e
theorem tE_mono {σ : L2.St} {H : Hp} {Q Q' : VK} (h : tE X.K c Wx me σ H Q) (hq : ∀ v H', Q v H' → Q' v H') : tE X.K c Wx me σ H Q' := by
  obtain ⟨W, st, env, S, E, p⟩ := h
  exact ⟨W, st, env, S, E, p.mono fun d st1 p1 v H1 W1 T1 S1 R1 => hq _ _ (p1 v H1 W1 T1 S1 R1)⟩
theorem sSetD {i : Nat} {x : Str} {p : Pos} (hN : X.N.Nodup) (hi : X.N[i]? = some x) (hx : Loc X.env.scope x) (he : PE X e (tE X.K c Wx me)) (hs : swapsWith e (some (.Name x p)) pos.line X.env = pure false) (hf : X.fn x = true ∨ X.env.scope.names.lookup x = some .local) :
    PS X (.Assign [.Name x p] e pos) (tSs X.K c Wx (sAsg (gNm i) me)) := PS.weak (ps_set hN hi hx he hs hf) fun Dn σ H h => tE_mono (asg_weak (is := [i]) h) fun v H' q => name_weak q
/-! a[i] = e -/
def rSetX (K : PySem.W.Frag) : TSet := fun o i v H Q => ∃ W st dO dI dV st', Sim K H W st ∧ Rep K H W o dO ∧ Rep K H W i dI ∧ Rep K H W v dV ∧ putIx st dO dI dV = some st' ∧ ∀ H' W', Step H W H' W' → Sim K H' W' st' → Q H'
theorem set_any (hu : X.A.units + 1 < cLine) : PSet X (rSetX X.K) := by
  intro pins s σ H o i v ov iv u Q I ro ri rv h
  obtain ⟨W, st, dO, dI, dV, st', S, r1, r2, r3, e, q⟩ := h
  have bl : big < sizeLine := by decide
  unfold putIx at e
  split at e
  · rename_i n
    cases r1 with
    | ref hr =>
      rename_i a
      split at e
      · rename_i xs k hn
        obtain ⟨j, hj, rfl⟩ := Option.map_eq_some_iff.mp e
        obtain ⟨vs, hv, rv2⟩ := S.cell _ a _ hr hn
        have ev := rep_int r2
        subst ev
        have T := Step.write S (o := .lst (vs.set j v)) hr
        exact set_list pins s σ H _ _ v ov iv u Q I ro ri rv ⟨a, vs, k, j, rfl, rfl, hv, by rw [rv2.length]; exact hj, q _ W T (S.write hr ⟨_, upd_same, (Reps.set r3 j rv2).step S T⟩)⟩
      · rename_i dI ks vs hn
        split at e
        · rename_i hk
          have hk' := (Bool.and_eq_true _ _).mp hk
          cases e
          obtain ⟨kvs, hv, rk, rv2⟩ := S.cell _ a _ hr hn
          obtain ⟨ke, rfl⟩ := key_rep r2 hk'.1
          have pr := put_rep r2 r3 rk rv2
          have hl : kvs.length ≤ big := by
            have h1 := rk.length
            rw [List.length_map] at h1
            have h2 := of_decide_eq_true hk'.2
            omega
          have T := Step.write S (o := .dK (putK kvs ke v)) hr
          exact set_dict hu pins s σ H _ _ v ov iv u Q I ro ri rv ⟨a, _, rfl, DPut.k hv (by omega), q _ W T (S.write hr ⟨_, upd_same, pr.1.step S T, pr.2.step S T⟩)⟩
        · cases e
      · cases e
  · cases e
theorem sPutD {o i : Expr} {mo mi : ME} {p : Pos} (hu : X.A.units + 1 < cLine) (he : PE X e (tE X.K c Wx me)) (ho : PE X o (tE X.K c Wx mo)) (hi : PE X i (tE X.K c Wx mi)) (hs : swapsWithSole [.Subscript o i p] e pos.line X.env = pure false)
    (ha : ∀ v, assign (.Subscript o i p) X.env v = (do
      let ov ← holding [v] (eval o X.env)
      let iv ← holding [v, ov] (eval i X.env)
      standAt p
      holding [v, ov, iv] (setItem ov iv v)
      release [v, ov, iv] []))
    (hw : swappedStores [.Subscript o i p] e X.env = pure none) (h1 : (assignEach [.Subscript o i p] X.env).map (·.2) = [assign (.Subscript o i p) X.env]) : PS X (.Assign [.Subscript o i p] e pos) (tSs X.K c Wx (sPut mo mi me)) :=
  PS.weak (ps_asg he (pg_sub ho hi (set_any hu) ha) hs hw h1) fun Dn σ H h => by
    obtain ⟨W, st, env, S, E, p⟩ := h
    refine ⟨W, st, env, S, E, (p.ofR S E).mono fun dv st1 p1 v H1 W1 T1 S1 R1 => ⟨W1, st1, env, S1, E.step S T1, ((p1.at T1).ofR S1 (E.step S T1)).mono fun dO st2 p2 vo H2 W2 T2 S2 R2 => ⟨W2, st2, env, S2, E.step S (T1.trans T2), ((p2.at T2).ofR S2 (E.step S (T1.trans T2))).mono fun dI st3 p3 vi H3 W3 T3 S3 R3 => ?_⟩⟩⟩
    split at p3
    · rename_i st4 h4
      exact ⟨W3, st3, dO, dI, dv, st4, S3, R2.step S2 T3, R3, R1.step S1 (T2.trans T3), h4, fun H' W' T S' => p3 σ H' W' (T3.trans T) S' (E.step S (((T1.trans T2).trans T3).trans T))⟩
    · exact (show False from p3).elim
/-- while -/
theorem sWhileD {t : MT} (hp : PassesOwn (model X.prog X.w) X.A X.env X.xe) (ht : PT X e (tTs X.K c Wx t)) (hb : PSs X bd (tSs X.K c Wx m)) : PS X (.While e bd [] pos) (tSs X.K c Wx (sWhile t m)) :=
  PS.weak (ps_while hp ht hb) fun Dn σ H h => by
    obtain ⟨W, st, env, S, E, p⟩ := h
    have p' : PostS X.K Wx Dn H W (whileN c t m wMost env st) := p
    generalize wMost = n at p'
    refine ⟨fun k σ H => ∃ W st env, Sim X.K H W st ∧ EnvR X.K H W σ env ∧ PostS X.K Wx Dn H W (whileN c t m k env st), ⟨n, W, st, env, S, E, p'⟩, ?_⟩
    rintro k σ H ⟨W, st, env, S, E, p⟩
    cases k with
    | zero => exact (show False from p).elim
    | succ k =>
      unfold whileN at p
      refine ⟨W, st, env, S, E, (p.ofR S E).mono fun x st1 p1 H1 W1 T1 S1 => ?_⟩
      cases x with
      | false =>
        rw [if_neg Bool.false_ne_true] at p1
        dsimp only
        rw [if_neg Bool.false_ne_true]
        exact p1 σ H1 W1 T1 S1 (E.step S T1)
      | true =>
        rw [if_pos rfl] at p1
        dsimp only
        rw [if_pos rfl]
        refine ⟨fun σ' H' => ∃ W st env, Sim X.K H' W st ∧ EnvR X.K H' W σ' env ∧ PostS X.K Wx Dn H' W (whileN c t m k env st), fun σ' H' q => ⟨k, by omega, q⟩, W1, st1, env, S1, E.step S T1, ?_⟩
        have p2 := p1.at T1
        clear p1 p
        generalize m c env st1 = r at p2 ⊢
        cases r with
        | nx env2 st2 => exact fun σ' H' W' T S' E' => ⟨W', st2, env2, S', E', p2.at T⟩
        | ct env2 st2 => exact fun σ' H' W' T S' E' => ⟨W', st2, env2, S', E', p2.at T⟩
        | bk env2 st2 => exact p2
        | rt d st2 => exact p2
        | er x env2 st2 => exact p2
        | no => exact p2
/-- for -/
theorem sForD {tg iter : Expr} {is : List Nat} {it : MI} {g : MG} (hp : PassesOwn (model X.prog X.w) X.A X.env X.xe) (hc : X.calm = true) (hi : PI X tg iter (tIs X.K c Wx it)) (hg : PG X tg (tG X.K is g)) (hb : PSs X bd (tSs X.K c Wx m)) (hs : ∀ x, foldedSetIterable iter X.env x = pure x) :
    PS X (.For tg iter bd [] pos) (tSs X.K c Wx (sFor it g m)) :=
  PS.weak (ps_for hp hc hi hg hb hs) fun Dn σ H h => by
    obtain ⟨W, st, env, S, E, p⟩ := h
    refine ⟨W, st, env, S, E, (p.ofR S E).mono fun pr st1 p1 J H1 W1 T1 S1 wk hxl => ?_⟩
    obtain ⟨xs, gd⟩ := pr
    refine ⟨fun i k σ2 H2 => k = xs.length - i ∧ i ≤ xs.length ∧ ∃ W2 st2 env2, Step H1 W1 H2 W2 ∧ Sim X.K H2 W2 st2 ∧ EnvR X.K H2 W2 σ2 env2 ∧ PostS X.K Wx Dn H2 W2 (forL c gd xs g m (xs.drop i) env2 st2),
      ⟨xs.length, by simp, Nat.zero_le _, W1, st1, env, Step.refl _ _, S1, E.step S T1, p1.at T1⟩, ?_⟩
    rintro i k σ2 H2 ⟨rfl, hi, W2, st2, env2, T2, S2, E2, p2⟩
    by_cases hlt : i < xs.length
    · obtain ⟨d, hd⟩ : ∃ d, xs[i]? = some d := ⟨xs[i], List.getElem?_eq_getElem hlt⟩
      have edrop : xs.drop i = d :: xs.drop (i + 1) := by
        rw [List.drop_eq_getElem_cons hlt]
        have : xs[i] = d := by rw [List.getElem?_eq_getElem hlt] at hd; exact Option.some.inj hd
        rw [this]
      rw [edrop] at p2
      unfold forL at p2
      by_cases hgd : gOk gd xs st2
      · rw [if_pos hgd] at p2
        refine .inr ⟨wk.go i H2 W2 st2 T2 S2 hgd hlt, fun σ' H' => ∃ W' st' env', Step H1 W1 H' W' ∧ Sim X.K H' W' st' ∧ EnvR X.K H' W' σ' env' ∧ PostS X.K Wx Dn H' W' (forL c gd xs g m (xs.drop (i + 1)) env' st'),
          fun σ' H' q => ⟨xs.length - (i + 1), by omega, rfl, hlt, q⟩, fun x H' y => ?_⟩
        obtain ⟨Ty, Sy, rx⟩ := wk.yld i H2 W2 st2 d x H' T2 S2 hgd hd y
        replace T2 := T2.trans Ty
        replace E2 := E2.step S2 Ty
        replace p2 := p2.at Ty
        replace S2 := Sy
        clear Sy Ty
        split at p2
        · exact (show False from p2).elim
        · rename_i env1 henv1
          refine ⟨W2, st2, d, env2, env1, S2, rx, E2, henv1, fun σ' E1 hl hj => ⟨W2, st2, env1, S2, E1, ?_⟩⟩
          generalize m c env1 st2 = r at p2 ⊢
          cases r with
          | nx env3 st3 => exact fun σ' H' W' T S' E' => ⟨W', st3, env3, T2.trans T, S', E', p2.at T⟩
          | ct env3 st3 => exact fun σ' H' W' T S' E' => ⟨W', st3, env3, T2.trans T, S', E', p2.at T⟩
          | bk env3 st3 => exact p2
          | rt d st3 => exact p2
          | er x env3 st3 => exact p2
          | no => exact p2
      · rw [if_neg hgd] at p2
        exact (show False from p2).elim
    · have e : i = xs.length := by omega
      rw [List.drop_of_length_le (by omega)] at p2
      unfold forL at p2
      by_cases hgd : gOk gd xs st2
      · rw [if_pos hgd] at p2
        exact .inl ⟨wk.stop i H2 W2 st2 T2 S2 hgd e, p2 σ2 H2 W2 (Step.refl _ _) S2 E2⟩
      · rw [if_neg hgd] at p2
        exact (show False from p2).elim
end
section
variable {X : Cx} {c : Call} {Wx : WX} {elt tg iter : Expr} {ifs : List Expr} {scope : Scope} {own : List (Str × Nat)} {pos spos py : Pos} {it : MI} {g : MG} {ts : MT} {me : ME} {is : List Nat} {i : Nat} {y : Str}
/-- name = [..] on one line -/
theorem sSetC (hc : X.calm = true) (hN : X.N.Nodup) (hy : X.N[i]? = some y) (hyl : X.env.scope.names.lookup y = some .local)
    (hsw : swapsWith (.ListComp elt [⟨tg, iter, ifs, 0⟩] scope pos) (some (.Name y py)) spos.line X.env = pure true) (hi : PI X tg iter (tIs X.K c Wx it)) (ok : BlkOk X.N X.env.scope scope own) (his : ∀ i ∈ is, i ∈ own.map (·.2))
    (hg : ∀ (s : Shared) (H : Hp) (C : Addr) (cl : List (Str × Addr)) (fp : List Addr), PG (X.blk s H scope (compEnvC scope cl C X.env) fp) tg (tG X.K is g)) (ht : ∀ (s : Shared) (H : Hp) (C : Addr) (cl : List (Str × Addr)) (fp : List Addr), PTs (X.blk s H scope (compEnvC scope cl C X.env) fp) ifs (tTs X.K c WF ts))
    (he : ∀ (s : Shared) (H : Hp) (C : Addr) (cl : List (Str × Addr)) (fp : List Addr), PE (X.blk s H scope (compEnvC scope cl C X.env) fp) elt (tE X.K c WF me)) (hs : ∀ x, foldedSetIterable iter X.env x = pure x) :
    PS X (.Assign [.Name y py] (.ListComp elt [⟨tg, iter, ifs, 0⟩] scope pos) spos) (tSs X.K c Wx (sAsg (gNm i) (mComp (own.map (·.2)) it g ts me))) :=
  PS.weak (ps_setLc hc hN hy hyl hsw hi ok hg ht he hs) fun Dn σ H h => by
    have h1 : tAsg (tE X.K c Wx (mComp (own.map (·.2)) it g ts me)) (gName i) Dn σ H := tE_mono (asg_weak (is := [i]) h) fun v H' q => name_weak q
    obtain ⟨W, st, env, S, E, p⟩ := h1
    exact comp_core his S E (fun ys st2 => .inl rfl) p
theorem sSetCM (hc : X.calm = true) (hN : X.N.Nodup) (hy : X.N[i]? = some y) (hyl : X.env.scope.names.lookup y = some .local)
    (hsw : swapsWith (.ListComp elt [⟨tg, iter, ifs, 0⟩] scope pos) (some (.Name y py)) spos.line X.env = pure true) (hi : PI X tg iter (tIs X.K c Wx it)) (ok : BlkOk X.N X.env.scope scope own) (his : ∀ i ∈ is, i ∈ own.map (·.2))
    (hg : ∀ (s : Shared) (H : Hp) (C : Addr) (cl : List (Str × Addr)) (fp : List Addr), PG (X.blk s H scope (compEnvC scope cl C X.env) fp) tg (tG X.K is g)) (ht : ∀ (s : Shared) (H : Hp) (C : Addr) (cl : List (Str × Addr)) (fp : List Addr), PTs (X.blk s H scope (compEnvC scope cl C X.env) fp) ifs (tTs X.K c WF ts))
    (he : ∀ (s : Shared) (H : Hp) (C : Addr) (cl : List (Str × Addr)) (fp : List Addr), PE (X.blk s H scope (compEnvC scope cl C X.env) fp) elt (tE X.K c WF me)) (hs : ∀ x, foldedSetIterable iter X.env x = pure x) :
    PS X (.Assign [.Name y py] (.ListComp elt [⟨tg, iter, ifs, 0⟩] scope pos) spos) (tSs X.K c Wx (sAsg (gNm i) (mCompM (own.map (·.2)) it g ts me))) :=
  PS.weak (ps_setLc hc hN hy hyl hsw hi ok hg ht he hs) fun Dn σ H h => by
    have h1 : tAsg (tE X.K c Wx (mCompM (own.map (·.2)) it g ts me)) (gName i) Dn σ H := tE_mono (asg_weak (is := [i]) h) fun v H' q => name_weak q
    obtain ⟨W, st, env, S, E, p⟩ := h1
    exact comp_core his S E (fun ys st2 => .inr rfl) p
end
end RP
end
section
set_option Elab.async false
set_option linter.all false
set_option maxRecDepth 100000
/-! Defs, the table of them, the end. -/
namespace RP
open PySem L2
/-- a fact of the module: of the world, the written part, the globals -/
abbrev Fc := World → PySem.W.Frag → (Str → Option Value) → Prop
def bF (x : Str) : Fc := fun _ _ mg => mg x = none
/-- a constant -/
def cF (x : Str) (d : D) : Fc := fun _ K mg => ∃ v u, mg x = some u ∧ RelV v u ∧ ∀ H W, Rep K H W v d
/-- a def: its name, its row, its parameters, its names (the slots), what it does -/
structure FI where
  name : Str
  st : Stmt
  ps : List Str
  N : List Str
  fn : Fn
section
variable {P : Program} {w : World} {K : PySem.W.Frag} {mg : Str → Option Value} {base : Heap} {N : List Str} {qual : Str} {scope : Scope} {f : Addr} {cdv : Value} {A : Around} {outer : List PySem.Env} {s : Shared} {H : Hp} {E : XK}
abbrev WL (E : XK) : WX := fun cls d _ H => E cls d H
theorem cx_takes : Takes (cxOf (L2.CX P w) P w K mg base N qual scope f cdv A outer s H E) (WL E) := takes_of rfl rfl rfl rfl
theorem cx_passes : PassesOwn (model P w) (cxOf (L2.CX P w) P w K mg base N qual scope f cdv A outer s H E).A (cxOf (L2.CX P w) P w K mg base N qual scope f cdv A outer s H E).env (cxOf (L2.CX P w) P w K mg base N qual scope f cdv A outer s H E).xe := passes_of (X := cxOf (L2.CX P w) P w K mg base N qual scope f cdv A outer s H E) rfl
end
def Body (L : List FI) (bs : List Fc) (i : FI) : Prop := ∀ (P : Program) (w : World) (K : PySem.W.Frag) (mg : Str → Option Value) (base : Heap) (c : Call) (n : Nat) (f : Addr) (cdv : Value) (A : Around) (outer : List PySem.Env) (s : Shared) (H : Hp) (E : XK),
  (∀ (k : Nat) (j : FI), L[k]? = some j → FnAt P w K mg base c n j.name j.ps.length) → (∀ (k : Nat) (b : Fc), bs[k]? = some b → b w K mg) → Room n (A.deeper (PyProof.Rows.envOfC i.name (defScope i.st) s.heap.objs.size f cdv)) →
  (A.deeper (PyProof.Rows.envOfC i.name (defScope i.st) s.heap.objs.size f cdv)).guards = some [] →
  PSs (cxOf (L2.CX P w) P w K mg base i.N i.name (defScope i.st) f cdv A outer s H E) (defBody i.st) (tSs K c (WL E) i.fn.body)
theorem gc_ok_some (st : St) (d : D) (st' : St) : ∃ d2 st2, gc st d st' = .ok d2 st2 := by
  unfold gc
  split
  · exact ⟨_, _, rfl⟩
  · split
    · split
      · exact ⟨_, _, rfl⟩
      · split
        · split <;> exact ⟨_, _, rfl⟩
        · exact ⟨_, _, rfl⟩
    · exact ⟨_, _, rfl⟩
section
variable {K : PySem.W.Frag} {Wx : WX} {σ : L2.St} {H : Hp} {W : Wd} {Q : VK}
theorem gc_post {st st' : St} {d : D} (S : Sim K H W st) (p : Post K Wx σ H W (gc st d st') (Aft K H W Q)) {v : V} {H' : Hp} {W' : Wd} (T : Step H W H' W') (S' : Sim K H' W' st') (r : Rep K H' W' v d) : Q v H' := by
  obtain ⟨d2, st2, e⟩ := gc_ok_some st d st'
  rw [e] at p
  obtain ⟨W2, T2, S2, r2⟩ := gc_ok S T S' r e
  exact p v H' W2 T2 S2 r2
theorem start_env {N : List Str} {vs : List V} {ds : List D} (r : Reps K H W vs ds) : EnvR K H W (L2.start N vs) (ds.map some ++ List.replicate (N.length - ds.length) none) := by
  have hl := r.length
  refine ⟨by simp [L2.start, hl], fun i d h => ?_⟩
  by_cases hi : i < ds.length
  · rw [List.getElem?_append_left (by simpa using hi), List.getElem?_map] at h
    obtain ⟨d', e1, e2⟩ := Option.map_eq_some_iff.mp h
    cases e2
    obtain ⟨v, f1, f2⟩ := r.get e1
    refine ⟨v, ?_, f2⟩
    unfold L2.start
    rw [List.getElem?_append_left (by simp; omega), List.getElem?_map, f1]
    rfl
  · rw [List.getElem?_append_right (by simpa using hi), List.getElem?_replicate] at h
    split at h
    · cases h
    · cases h
theorem run_start {T : Tab} {n : Nat} {f : Str} {fn : Fn} {N : List Str} {vs : List V} {E : XK} (hT : T f = some fn) (hns : fn.ns = N.length) (h : spF K (run T (n + 1)) f fn.np vs H Q E) :
    tSs K (run T n) (WL E) fn.body { nx := fun _ H' => Q .non H', rt := Q } (L2.start N vs) H := by
  obtain ⟨W, st, ds, S, R, hl, p⟩ := h
  have e : run T (n + 1) f ds st = runFn (run T n) fn ds st := by
    show (match T f with | some fn => runFn (run T n) fn ds st | none => .no) = _
    rw [hT]
  rw [e] at p
  unfold runFn at p
  rw [if_pos hl] at p
  refine ⟨W, st, ds.map some ++ List.replicate (fn.ns - fn.np) none, S, ?_, ?_⟩
  · have := start_env (N := N) R
    rw [hns, ← hl]
    exact this
  · generalize fn.body (run T n) (ds.map some ++ List.replicate (fn.ns - fn.np) none) st = r at p ⊢
    cases r with
    | nx env st1 => exact fun σ' H' W' T' S' E' => gc_post S p T' S' .non
    | rt d st1 => exact fun v H' W' T' S' R' => gc_post S p T' S' R'
    | bk env st1 => exact (show False from p).elim
    | ct env st1 => exact (show False from p).elim
    | er x env st1 => exact fun σ' H' W' cls dd T' S' E' x' => p H' W' cls dd T' S' x'
    | no => exact (show False from p).elim
end
section
variable {P : Program} {w : World} {K : PySem.W.Frag} {mg : Str → Option Value} {base : Heap} {L : List FI} {bs : List Fc} {T : Tab} {n : Nat} {j : FI} {a : Addr} {fd : FuncData}
theorem sp_len {c : Call} {f : Str} {ps : List Str} {vs : List V} {H : Hp} {Q : VK} {E : XK} (h : spF K c f ps.length vs H Q E) : vs.length = ps.length := by
  obtain ⟨W, st, ds, S, R, hl, p⟩ := h
  rw [R.length, hl]
/-- a def's body keeps the promise, no guard up -/
theorem fnG_of {N ps : List Str} {k : Nat} {sp : Sp} {x qual : Str} {params : Arguments} {body : List Stmt} {scope : Scope} (F : FunD K x qual params body scope [] [] a fd) (S : FnScope N ps scope) (len : ∀ vs H Q E, sp vs H Q E → vs.length = ps.length)
    (hbody : ∀ (cdv : Value) (A : Around) (up : List PySem.Env) (s : Shared) (H : Hp) (vs : List V) (Q : VK) (E : XK), Room k (A.deeper (PyProof.Rows.envOfC qual scope s.heap.objs.size a cdv)) → (A.deeper (PyProof.Rows.envOfC qual scope s.heap.objs.size a cdv)).guards = some [] → sp vs H Q E →
      ∃ t, PSs (cxOf (L2.CX P w) P w K mg base N qual scope a cdv A up s H E) body t ∧ t { nx := fun _ H' => Q .non H', rt := Q } (L2.start N vs) H) : FnG P w K mg base (k + 1) a fd ps sp := by
  obtain ⟨oc, od, dV, kV, doc, pm, an, cdv, ct, osl, rfl, lk, hcd, _, _⟩ := F.ex
  refine ⟨len, fun A up s H args us vs Q E hr hgd e0 hb rv hsp => ?_⟩
  have old : ∀ b o, base.get? b = some o → s.heap.get? b = some o := fun b o e => (e0.bs b o e).1
  have kin : K.In s.heap := e0.mod.kin.keeps old
  have nlim : s.heap.NoLimit := e0.mod.nolimit.keeps old
  refine codeAny_call_function hr.depth (kin _ _ lk) rfl S.co S.gen rfl (PySem.W.codeRec_of kin hcd) (hb _ _ _ _ ?_)
  refine wpAny_newFunctionEnv_cells S.kind (fun y hy => (S.par y.1 (List.of_mem_zip hy).1).imp id fun z => ⟨z, PySem.W.cellsFrom_some _ _ _ (.inl z)⟩) fun env he s1 ic => ?_
  subst he
  refine ⟨nlim.keeps ic.toInCall.keep, codeAny_func ?_⟩
  obtain ⟨t, ht, hq⟩ := hbody cdv A up s H vs Q E (hr.deeper _) hgd hsp
  refine wpAny_mono (ht.run [] s1 (L2.start N vs) H _ (inv_start S hr.hd e0 (len _ _ _ _ hsp) rv ic) hq) (fun fl s2 hs => ?_) fun _ _ hs => hs
  cases fl with
  | ret u => obtain ⟨v, σ2, H2, J, r2, q⟩ := hs; exact ⟨v, H2, J.os, J.bare, J.base, J.hok, r2, q⟩
  | next => obtain ⟨σ2, H2, J, q⟩ := hs; exact ⟨.non, H2, J.os, J.bare, J.base, J.hok, rfl, q⟩
  | brk => obtain ⟨_, _, _, q⟩ := hs; exact False.elim q
  | cont => obtain ⟨_, _, _, q⟩ := hs; exact False.elim q
theorem fn_step (F : FunD K j.name j.name (defArgs j.st) (defBody j.st) (defScope j.st) [] [] a fd) (hS : FnScope j.N j.ps (defScope j.st)) (hb : Body L bs j) (hT : T j.name = some j.fn) (hnp : j.fn.np = j.ps.length) (hns : j.fn.ns = j.N.length)
    (hA : ∀ (k : Nat) (i : FI), L[k]? = some i → FnAt P w K mg base (run T n) n i.name i.ps.length) (hB : ∀ (k : Nat) (b : Fc), bs[k]? = some b → b w K mg) :
    FnG P w K mg base (n + 1) a fd j.ps (spF K (run T (n + 1)) j.name j.ps.length) := by
  refine fnG_of F hS (fun vs H Q E h => sp_len h) fun cdv A outer s H vs Q E hr hgd h => ⟨_, hb P w K mg base (run T n) n a cdv A outer s H E hA hB hr hgd, ?_⟩
  rw [← hnp] at h
  exact run_start hT hns h
theorem all_ok (hT : ∀ (k : Nat) (i : FI), L[k]? = some i → T i.name = some i.fn ∧ i.fn.np = i.ps.length ∧ i.fn.ns = i.N.length) (hS : ∀ (k : Nat) (i : FI), L[k]? = some i → FnScope i.N i.ps (defScope i.st))
    (hf : ∀ (k : Nat) (i : FI), L[k]? = some i → ∃ a fd, mg i.name = some (.ref a) ∧ FunD K i.name i.name (defArgs i.st) (defBody i.st) (defScope i.st) [] [] a fd ∧ Binds K fd i.ps [])
    (hB : ∀ (k : Nat) (b : Fc), bs[k]? = some b → b w K mg) (hb : ∀ (k : Nat) (i : FI), L[k]? = some i → Body L bs i) : ∀ (n k : Nat) (i : FI), L[k]? = some i → FnAt P w K mg base (run T n) n i.name i.ps.length
  | 0, k, i, h => by
    obtain ⟨a, fd, h1, F, h2⟩ := hf k i h
    refine ⟨a, fd, i.ps, h1, F.kp, h2, fun vs H Q E q => sp_len q, fun A outer s H args us vs Q E hr hgd he hbd hv q => ?_⟩
    obtain ⟨W, st, ds, S, R, hl, p⟩ := q
    exact (show False from p).elim
  | n + 1, k, i, h => by
    obtain ⟨a, fd, h1, F, h2⟩ := hf k i h
    obtain ⟨e1, e2, e3⟩ := hT k i h
    exact ⟨a, fd, i.ps, h1, F.kp, h2, fn_step F (hS k i h) (hb k i h) e1 e2 e3 (all_ok hT hS hf hB hb n) hB⟩
/-- at the start: the script alone -/
theorem sp_start {K : PySem.W.Frag} {H : Hp} {a : Addr} {ns : List Int} {c : Call} {f : Str} (hO : Only H) (hS : SqL K H a (ns.map V.int)) (h : ∃ st', c f [.frz ns] [] = .ok (.bl true) st') : spF K c f 1 [.ref a] H (fun v _ => v = .bl true) fun _ _ _ => False := by
  obtain ⟨st', e⟩ := h
  refine ⟨⟨[], []⟩, [], [.frz ns], ⟨rfl, by simp, by simp, by simp, fun i a c h => by cases h⟩, .cons (.frz ?_) .nil, rfl, ?_⟩
  · rcases hS with (hS | ⟨o, hS⟩) | hS
    · rcases hO a with z | ⟨o, xs, z⟩
      · rw [z] at hS; cases hS
      · rw [z] at hS; cases hS
    · exact .inl ⟨o, hS⟩
    · exact .inr hS
  · rw [e]
    exact fun v H' W' T S' R => rep_bl R
end
/-- a table -/
def tabOf : List FI → Tab
  | [], _ => none
  | i :: l, f => if f = i.name then some i.fn else tabOf l f
/-- what the checks want of the list -/
theorem tab_ok : ∀ {L : List FI}, (L.map (·.name)).Nodup → ∀ (k : Nat) (i : FI), L[k]? = some i → tabOf L i.name = some i.fn
  | [], _, k, i, h => by simp at h
  | j :: l, nd, 0, i, h => by
    have e : j = i := by simpa using h
    subst e
    unfold tabOf
    rw [if_pos rfl]
  | j :: l, nd, k + 1, i, h => by
    have h' : l[k]? = some i := by simpa using h
    rw [List.map_cons, List.nodup_cons] at nd
    unfold tabOf
    rw [if_neg (fun z => nd.1 (by rw [← z]; exact List.mem_map.mpr ⟨i, List.mem_of_getElem? h', rfl⟩)), tab_ok nd.2 k i h']
/-- of each of a list -/
def All {α : Type} (P : α → Prop) : List α → Prop
  | [] => True
  | x :: l => P x ∧ All P l
theorem all_nil {α : Type} {P : α → Prop} : All P [] := trivial
theorem all_cons {α : Type} {P : α → Prop} {x : α} {l : List α} (h : P x) (r : All P l) : All P (x :: l) := ⟨h, r⟩
theorem All.get {α : Type} {P : α → Prop} : ∀ {l : List α}, All P l → ∀ (k : Nat) (i : α), l[k]? = some i → P i
  | [], _, k, i, h => by simp at h
  | x :: l, a, 0, i, h => by
    have e : x = i := by simpa using h
    rw [← e]
    exact a.1
  | x :: l, a, k + 1, i, h => All.get a.2 k i (by simpa using h)
abbrev FunI (K : PySem.W.Frag) (i : FI) (a : Addr) (fd : FuncData) : Prop := FunD K i.name i.name (defArgs i.st) (defBody i.st) (defScope i.st) [] [] a fd
/-- the law, by what its denotation gives -/
theorem law_of {P : Program} {w : World} {K : PySem.W.Frag} {mg : Str → Option Value} {L : List FI} {bs : List Fc} {j : FI} {fa : Addr} {fd : FuncData} (n : Nat) (hnd : (L.map (·.name)).Nodup) (hT : All (fun i => i.fn.np = i.ps.length ∧ i.fn.ns = i.N.length) L)
    (hS : All (fun i => FnScope i.N i.ps (defScope i.st)) L) (hb : All (Body L bs) L) (hf : All (fun i => ∃ a fd, mg i.name = some (.ref a) ∧ FunI K i a fd ∧ Binds K fd i.ps []) L) (hB : All (fun b => b w K mg) bs)
    (k : Nat) (hk : L[k]? = some j) (hj1 : j.ps.length = 1) (F : FunI K j fa fd) (base : Heap) : FnG P w K mg base (n + 1) fa fd j.ps (spF K (run (tabOf L) (n + 1)) j.name 1) := by
  have hT' : ∀ (k : Nat) (i : FI), L[k]? = some i → tabOf L i.name = some i.fn ∧ i.fn.np = i.ps.length ∧ i.fn.ns = i.N.length := fun k i h => ⟨tab_ok hnd k i h, hT.get k i h⟩
  have A := all_ok (P := P) (w := w) (K := K) (mg := mg) (base := base) hT' hS.get hf.get hB.get hb.get n
  have F1 := fn_step (P := P) (w := w) (mg := mg) (base := base) F (hS.get k j hk) (hb.get k j hk) (hT' k j hk).1 (hT' k j hk).2.1 (hT' k j hk).2.2 A hB.get
  rw [hj1] at F1
  exact F1
open PyProof.Rows in
/-- the law at the heap behind the top -/
theorem law_callG {P : Program} {w : World} {K : PySem.W.Frag} {mg mb : Str → Option Value} {k : Nat} {fa a : Addr} {fd : FuncData} {x : Str} {sp : Sp} {s : Shared} {vs : List Value} {ns : List Int}
    (KX : K.In s.heap) (hns : s.heap.Ns mainGlobals mg) (hb : s.heap.Ns builtinsNs mb) (hbb : ∀ x : Str, x ≠ "__name__" → mb x = bootBuiltins x) (hlim : s.heap.NoLimit) (hg : s.gens = #[])
    (ha : s.heap.get? a = some { cls := .type "list", data := .seq vs.toArray }) (hi : IntsAre vs ns) (hl : ns.length ≤ sizeLine) (hr : Room k callerA) (F : ∀ base : Heap, FnG P w K mg base k fa fd [x] sp) (hbind : ∀ (s : Shared) (u : Value), BindsTo s fd ⟨[u], []⟩ [(x, u)])
    (hsp : ∀ H : Hp, Only H → SqL K H a (ns.map V.int) → sp [.ref a] H (fun v _ => v = .bl true) fun _ _ _ => False) :
    codeAny (model P w) callerA (.call (.ref fa) ⟨[.ref a], []⟩) (fun r s' => r = .ok (.ret (.bool true)) ∧ OldK s.heap s'.heap ∧ s'.os = s.os ∧ AllBare s'.gens) s := by
  have key : ∀ H : Hp, Only H → SqL K H a (ns.map V.int) → HOk P w H s.heap → (∀ b, H b ≠ none → b = a ∧ K.lookup a = none) → codeAny (model P w) callerA (.call (.ref fa) ⟨[.ref a], []⟩) (fun r s' => r = .ok (.ret (.bool true)) ∧ OldK s.heap s'.heap ∧ s'.os = s.os ∧ AllBare s'.gens) s := fun H hO hS hok hA => by
    have free : ∀ {b : Addr} {o : Obj} {es : Array DictEntry} {ep : Nat}, s.heap.get? b = some o → o.data = .dict es ep → H b = none := fun {b o es ep} e d => by
      by_cases q : H b = none
      · exact q
      · obtain ⟨rfl, _⟩ := hA b q
        rw [ha] at e
        cases e
        exact absurd (show Data.seq vs.toArray _ = Data.dict es ep from d) (fun z => by cases z)
    have nsB : ∀ {b : Addr} {m : Str → Option Value}, s.heap.Ns b m → (hidT s.heap H).Ns b m := fun ⟨o, es, ep, e, d, r⟩ => ⟨o, es, ep, hidT_get e (free e d), d, r⟩
    have kB : K.In (hidT s.heap H) := fun b o e => hidT_get (KX b o e) (by
      by_cases q : H b = none
      · exact q
      · obtain ⟨rfl, z⟩ := hA b q
        rw [z] at e
        cases e)
    obtain ⟨mc, l1, l2⟩ := hlim
    have en : Env0 P w K mg (hidT s.heap H) callerA [] s H := ⟨rfl, ⟨kB, nsB hns, ⟨mb, nsB hb, hbb⟩, ⟨mc, nsB l1, l2⟩⟩, fun b o e => of_hidT e, Nat.le_of_eq (hidT_size _ _), trivial, fun b z => absurd (show b ∈ ([] : List Addr) from z) (by simp), hok, .of_eq hg⟩
    refine codeAny_mono ((F (hidT s.heap H)).run callerA [] s H ⟨[.ref a], []⟩ [.ref a] [.ref a] _ _ hr rfl en (hbind s (.ref a)) (.cons rfl .nil) (hsp H hO hS)) fun r s' h => ?_
    rcases r with er | fl
    · obtain ⟨_, _, _, _, _, _, _, _, _, _, _, _, z⟩ := h
      exact z.elim
    · cases fl with
      | ret u =>
        obtain ⟨v, H', os, bare, un, hok', r', rfl⟩ := h
        cases (show u = Value.bool true from r')
        refine ⟨rfl, OldK.of_keep fun b o e => ?_, os, bare⟩
        rcases hO b with z | ⟨ob, xs, z⟩
        · exact un.keep b o e z (fun y => absurd (show b ∈ ([] : List Addr) from y) (by simp)) (by simp)
        · have e1 := (hok b _ z).1
          rw [e] at e1
          cases e1
          exact (hok' b _ (un.frzs b _ _ z)).1
      | _ => exact False.elim h
  have rv := vals_ints hi
  have lv := hi.length
  cases hk : K.lookup a with
  | some o =>
    have e := KX a o hk
    rw [ha] at e
    cases e
    exact key (fun _ => none) (fun _ => .inl rfl) (.inr ⟨_, vs.toArray, _, hk, rfl, rfl, rfl, by rw [List.size_toArray, lv]; exact hl, by simpa using rv⟩) (fun b u z => by cases (show (none : Option HO) = some u from z)) fun b z => absurd rfl z
  | none =>
    refine key (fun b => if b = a then some (.frz { cls := .type "list", data := .seq vs.toArray } (.lst (ns.map V.int))) else none) (fun b => ?_) (.inl (.inr ⟨{ cls := .type "list", data := .seq vs.toArray }, if_pos rfl⟩)) (fun b u z => ?_) fun b z => ?_
    · by_cases h : b = a
      · exact .inr ⟨_, _, if_pos h⟩
      · exact .inl (if_neg h)
    · by_cases h : b = a
      · cases (if_pos h).symm.trans z
        subst h
        exact ⟨ha, by rw [List.length_map]; exact hl, vs, _, rv, ha⟩
      · cases (if_neg h).symm.trans z
    · by_cases h : b = a
      · exact ⟨h, hk⟩
      · exact absurd (if_neg h) z
theorem walk_ofG {l : PySem.W.OpenLaw} {n k : Nat} {q : Program} {loose : List Str} {XP : (Str → Option Value) → Heap → Prop} {YP : World → Heap → Prop} {d : DefRec} {x : Str} (hn : l.most = some n) (hn2 : n ≤ sizeLine) (hdf : d.params.defaults = []) (hr : Room k PySem.callerA)
    (F : ∀ (w : World) (mg : Str → Option Value) (fa : Addr) (h : Heap), YP w h → h.Ns mainGlobals mg → mg d.name = some (.ref fa) → ∃ (K : PySem.W.Frag) (fd : FuncData) (sp : Sp), K.In h ∧ (∀ (s : Shared) (u : Value), BindsTo s fd ⟨[u], []⟩ [(x, u)]) ∧
      (∀ (H : Hp) (a : Addr) (ns : List Int), ns.length ≤ n → Only H → SqL K H a (ns.map V.int) → sp [.ref a] H (fun v _ => v = .bl true) fun _ _ _ => False) ∧ ∀ base : Heap, FnG l.prog w K mg base k fa fd [x] sp) :
    PySem.W.WalkO q loose XP YP l.row.toRowW d [] (fun f vs => PySem.call f vs) := by
  refine Att.attach_call hn hdf fun w s0 s1 mg mb fa o pm cd doc a vs ns G Y ho hd hcd hmg hobj hints hlen hg => ?_
  obtain ⟨K, fd, sp, KX, hb, hsp, hF⟩ := F w mg fa _ Y G.T.g hmg
  exact law_callG KX G.T.g G.T.b G.T.builtins G.T.nolimit hg hobj hints (Nat.le_trans hlen hn2) hr hF hb fun H hO hS => hsp H a ns hlen hO hS
end RP
end
section
set_option Elab.async false
set_option linter.all false
set_option maxRecDepth 100000
/-! Short names for what a generator prints. -/
namespace RP
open PySem L2
theorem isBl_bD {o : Option Bool} {d : D} (h : bD o = some d) : ∃ b, d = .bl b := by
  cases o with
  | none => cases h
  | some b => cases h; exact ⟨b, rfl⟩
theorem ib_eq : IsBl eqB := fun _ _ _ _ h => isBl_bD h
theorem ib_ne : IsBl neB := fun _ _ _ _ h => isBl_bD h
theorem ib_in : IsBl inB := fun _ _ _ _ h => isBl_bD h
theorem ib_nin : IsBl ninB := fun _ _ _ _ h => isBl_bD h
theorem ib_lt : IsBl ltB := fun _ _ _ _ h => by
  unfold ltB at h
  split at h
  · cases h; exact ⟨_, rfl⟩
  · cases h
theorem ib_le : IsBl leB := fun _ _ _ _ h => by
  unfold leB at h
  split at h
  · cases h; exact ⟨_, rfl⟩
  · cases h
theorem ib_gt : IsBl gtB := fun _ _ _ _ h => by
  unfold gtB at h
  split at h
  · cases h; exact ⟨_, rfl⟩
  · cases h
theorem ib_ge : IsBl geB := fun _ _ _ _ h => by
  unfold geB at h
  split at h
  · cases h; exact ⟨_, rfl⟩
  · cases h
theorem ib_is : IsBl isB := fun _ _ _ _ h => by
  unfold isB at h
  split at h
  · cases h; exact ⟨_, rfl⟩
  · cases h; exact ⟨_, rfl⟩
  · cases h
theorem ib_isn : IsBl isnB := fun _ _ _ _ h => by
  unfold isnB at h
  split at h
  · cases h; exact ⟨_, rfl⟩
  · cases h; exact ⟨_, rfl⟩
  · cases h
section
variable {X : Cx} {c : Call} {Wx : WX} {a b e : Expr} {ma mb me : ME} {pos : Pos}
theorem kNon {j : Nat} : PE X (.Constant .none j pos) (tE X.K c Wx (mCst .non)) := dCst pe_non fun _ _ => .non
theorem kBl {v : Bool} {j : Nat} : PE X (.Constant (.bool v) j pos) (tE X.K c Wx (mCst (.bl v))) := dCst pe_bl fun _ _ => .bl v
theorem kInt {i : Int} {j : Nat} : PE X (.Constant (.int i) j pos) (tE X.K c Wx (mCst (.int i))) := dCst pe_int fun _ _ => .int i
theorem kStr {x : Str} {j : Nat} : PE X (.Constant (.str x) j pos) (tE X.K c Wx (mCst (.str x))) := dCst pe_str fun _ _ => .str x
theorem dPtsNil : PTs X [] (tTs X.K c Wx tYesM) := ⟨fun pins s σ H Q I h => pts_nil.run pins s σ H Q I (by
  obtain ⟨W, st, env, S, E, p⟩ := h
  exact p H W (Step.refl _ _) S)⟩
theorem dPtsOne {t : MT} (h : PT X a (tTs X.K c Wx t)) : PTs X [a] (tTs X.K c Wx t) := pts_one h
mutual
/-- as the library's data -/
def toPy : D → PyData
  | .bl b => .bool b
  | .int i => .int i
  | .str x => .str x
  | .tup xs => .tuple (toPys xs)
  | .lst xs => .list (toPys xs)
  | _ => .none
def toPys : List D → List PyData
  | [] => []
  | x :: xs => toPy x :: toPys xs
end
/-- repr of plain data -/
def reprD (st : St) (x : D) : Option D :=
  if pln (see st x) && (toPy (see st x)).showable && decide ((toPy (see st x)).shown.length ≤ big) && decide ((toPy (see st x)).depth ≤ 90) then some (.str (toPy (see st x)).shown) else none
mutual
theorem toPy_noDict : ∀ d : D, (toPy d).hasDict = false
  | .non => by simp [toPy, PyData.hasDict]
  | .bl _ => by simp [toPy, PyData.hasDict]
  | .int _ => by simp [toPy, PyData.hasDict]
  | .str _ => by simp [toPy, PyData.hasDict]
  | .tup xs => by simp [toPy, PyData.hasDict, toPys_noDict xs]
  | .lst xs => by simp [toPy, PyData.hasDict, toPys_noDict xs]
  | .dct _ _ => by simp [toPy, PyData.hasDict]
  | .set _ => by simp [toPy, PyData.hasDict]
  | .frz _ => by simp [toPy, PyData.hasDict]
  | .ref _ => by simp [toPy, PyData.hasDict]
theorem toPys_noDict : ∀ ds : List D, PyData.hasDictAll (toPys ds) = false
  | [] => by simp [toPys, PyData.hasDictAll]
  | d :: ds => by simp [toPys, PyData.hasDictAll, toPy_noDict d, toPys_noDict ds]
end
mutual
theorem Pl.reads {pins : List (Addr × Obj)} {σ : L2.St} {H : Hp} {s : Shared} (I : L2.Inv X pins σ H s) : ∀ {v : V} (d : D) {u : Value}, Pl X.K H v d → RelV v u → ∃ as, Reads s.heap u (toPy d) as
  | _, .non, _, .non, r => by cases (show _ = Value.none from r); exact ⟨[], by simpa [toPy] using Reads.none⟩
  | _, .bl b, _, .bl _, r => by cases (show _ = Value.bool b from r); exact ⟨[], by simpa [toPy] using Reads.bool b⟩
  | _, .int i, _, .int _, r => by obtain ⟨t, rfl⟩ := r; exact ⟨[], by simpa [toPy] using Reads.int i t⟩
  | _, .str x, _, .str _, r => by obtain ⟨t, rfl⟩ := r; exact ⟨[], by simpa [toPy] using Reads.str x t⟩
  | _, .tup ds, _, .tup h hs, r => by
    cases r
    obtain ⟨its, rv, ⟨o, e, hc, n, hd⟩, _⟩ := I.tuple h
    obtain ⟨as, ra⟩ := Pls.reads I ds hs rv
    exact ⟨as, by simpa [toPy] using Reads.tuple e hc hd (by simpa using ra)⟩
  | _, .lst ds, _, .lst h hs, r => by
    cases r
    obtain ⟨its, rv, ⟨o, n, e, hc, _, hd⟩, _⟩ := I.list (SqL.of h)
    obtain ⟨as, ra⟩ := Pls.reads I ds hs rv
    exact ⟨_, by simpa [toPy] using Reads.list e hc hd (by simpa using ra)⟩
theorem Pls.reads {pins : List (Addr × Obj)} {σ : L2.St} {H : Hp} {s : Shared} (I : L2.Inv X pins σ H s) : ∀ {vs : List V} (ds : List D) {us : List Value}, Pls X.K H vs ds → Vals vs us → ∃ as, ReadsAll s.heap us (toPys ds) as
  | _, [], _, .nil, r => by cases r; exact ⟨[], by simpa [toPys] using ReadsAll.nil⟩
  | _, d :: ds, _, .cons h hs, r => by
    cases r with
    | cons r1 rr =>
      obtain ⟨as, e1⟩ := Pl.reads I d h r1
      obtain ⟨bs, e2⟩ := Pls.reads I ds hs rr
      exact ⟨as ++ bs, by simpa [toPys] using ReadsAll.cons e1 e2⟩
end
theorem call_reprL (hgd : X.A.guards = some []) (hu : X.A.units + 101 < cLine) : CallR X (.builtin "repr") (liftN X.K (un1 reprD)) := call_un1 fun pins s σ H x us Q W st dx d I r S rx e q => by
  have s1 := rx.saw S
  have bl := bigLine
  unfold reprD at e
  generalize see st dx = ex at s1 e
  split at e
  · rename_i hc
    simp only [Bool.and_eq_true, decide_eq_true_eq] at hc
    obtain ⟨⟨⟨hp, hs⟩, hsz⟩, hdp⟩ := hc
    cases e
    have pl := s1.pl hp
    cases r with
    | cons r1 rn =>
      cases rn
      have fin : ∀ h' u tk, (∀ b o, s.heap.get? b = some o → h'.get? b = some o) → EP X pins σ Q (.str (toPy ex).shown u) { s with heap := h', toks := tk } := fun h' u tk hk =>
        ⟨.str _, H, I.kept (t' := tk) hk, ⟨_, rfl⟩, q (.str _) H (Step.refl _ _) S (.str _)⟩
      obtain ⟨as, rd⟩ := Pl.reads I ex pl r1
      cases pl with
      | non => cases (show _ = Value.none from r1); exact P.repr_of_none (by simpa [toPy, PyData.shown] using fin s.heap s.toks _ (fun _ _ e => e))
      | bl b => cases (show _ = Value.bool b from r1); exact P.repr_of_bool (by simpa [toPy, PyData.shown] using fin s.heap s.toks _ (fun _ _ e => e))
      | int i => obtain ⟨t, rfl⟩ := r1; exact P.repr_of_int (by simpa [toPy, PyData.showable] using hs) (by simpa [toPy, PyData.shown] using fin s.heap s.toks _ (fun _ _ e => e))
      | str z =>
        obtain ⟨t, rfl⟩ := r1
        have ez : (toPy (.str z)).shown = reprText z := by simp [toPy, PyData.shown]
        exact P.repr_of_str (by simpa [toPy, PyData.shown] using fin s.heap s.toks _ (fun _ _ e => e)) (by rw [← ez]; omega)
      | tup h hs' => cases r1; exact repr_of_reads' rd hs (PyData.noDict_hsm (toPy_noDict _)) hgd (by omega) (fun _ _ e => e) fin (by omega)
      | lst h hs' => cases r1; exact repr_of_reads' rd hs (PyData.noDict_hsm (toPy_noDict _)) hgd (by omega) (fun _ _ e => e) fin (by omega)
  · cases e
end
section
variable {X : Cx} {c : Call} {Wx : WX} {elt tg iter : Expr} {ifs : List Expr} {scope : Scope} {own : List (Str × Nat)} {pos spos py : Pos} {it : MI} {g : MG} {ts : MT} {me : ME} {is vs : List Nat} {i : Nat} {y : Str}
theorem dCompV (hv : own.map (·.2) = vs) (hc : X.calm = true) (hN : X.N.Nodup) (hi : PI X tg iter (tIs X.K c Wx it)) (ok : BlkOk X.N X.env.scope scope own) (his : ∀ i ∈ is, i ∈ vs)
    (hg : ∀ (s : Shared) (H : Hp) (C : Addr) (cl : List (Str × Addr)) (fp : List Addr), PG (X.blk s H scope (compEnvC scope cl C X.env) fp) tg (tG X.K is g)) (ht : ∀ (s : Shared) (H : Hp) (C : Addr) (cl : List (Str × Addr)) (fp : List Addr), PTs (X.blk s H scope (compEnvC scope cl C X.env) fp) ifs (tTs X.K c WF ts))
    (he : ∀ (s : Shared) (H : Hp) (C : Addr) (cl : List (Str × Addr)) (fp : List Addr), PE (X.blk s H scope (compEnvC scope cl C X.env) fp) elt (tE X.K c WF me)) (hs : ∀ x, foldedSetIterable iter X.env x = pure x) :
    PE X (.ListComp elt [⟨tg, iter, ifs, 0⟩] scope pos) (tE X.K c Wx (mComp vs it g ts me)) := by
  subst hv
  exact dComp hc hN hi ok his hg ht he hs
theorem sSetV (hv : own.map (·.2) = vs) (hc : X.calm = true) (hN : X.N.Nodup) (hy : X.N[i]? = some y) (hyl : X.env.scope.names.lookup y = some .local)
    (hsw : swapsWith (.ListComp elt [⟨tg, iter, ifs, 0⟩] scope pos) (some (.Name y py)) spos.line X.env = pure true) (hi : PI X tg iter (tIs X.K c Wx it)) (ok : BlkOk X.N X.env.scope scope own) (his : ∀ i ∈ is, i ∈ vs)
    (hg : ∀ (s : Shared) (H : Hp) (C : Addr) (cl : List (Str × Addr)) (fp : List Addr), PG (X.blk s H scope (compEnvC scope cl C X.env) fp) tg (tG X.K is g)) (ht : ∀ (s : Shared) (H : Hp) (C : Addr) (cl : List (Str × Addr)) (fp : List Addr), PTs (X.blk s H scope (compEnvC scope cl C X.env) fp) ifs (tTs X.K c WF ts))
    (he : ∀ (s : Shared) (H : Hp) (C : Addr) (cl : List (Str × Addr)) (fp : List Addr), PE (X.blk s H scope (compEnvC scope cl C X.env) fp) elt (tE X.K c WF me)) (hs : ∀ x, foldedSetIterable iter X.env x = pure x) :
    PS X (.Assign [.Name y py] (.ListComp elt [⟨tg, iter, ifs, 0⟩] scope pos) spos) (tSs X.K c Wx (sAsg (gNm i) (mComp vs it g ts me))) := by
  subst hv
  exact sSetC hc hN hy hyl hsw hi ok his hg ht he hs
theorem dCompVM (hv : own.map (·.2) = vs) (hc : X.calm = true) (hN : X.N.Nodup) (hi : PI X tg iter (tIs X.K c Wx it)) (ok : BlkOk X.N X.env.scope scope own) (his : ∀ i ∈ is, i ∈ vs)
    (hg : ∀ (s : Shared) (H : Hp) (C : Addr) (cl : List (Str × Addr)) (fp : List Addr), PG (X.blk s H scope (compEnvC scope cl C X.env) fp) tg (tG X.K is g)) (ht : ∀ (s : Shared) (H : Hp) (C : Addr) (cl : List (Str × Addr)) (fp : List Addr), PTs (X.blk s H scope (compEnvC scope cl C X.env) fp) ifs (tTs X.K c WF ts))
    (he : ∀ (s : Shared) (H : Hp) (C : Addr) (cl : List (Str × Addr)) (fp : List Addr), PE (X.blk s H scope (compEnvC scope cl C X.env) fp) elt (tE X.K c WF me)) (hs : ∀ x, foldedSetIterable iter X.env x = pure x) :
    PE X (.ListComp elt [⟨tg, iter, ifs, 0⟩] scope pos) (tE X.K c Wx (mCompM vs it g ts me)) := by
  subst hv
  exact dCompM hc hN hi ok his hg ht he hs
theorem sSetVM (hv : own.map (·.2) = vs) (hc : X.calm = true) (hN : X.N.Nodup) (hy : X.N[i]? = some y) (hyl : X.env.scope.names.lookup y = some .local)
    (hsw : swapsWith (.ListComp elt [⟨tg, iter, ifs, 0⟩] scope pos) (some (.Name y py)) spos.line X.env = pure true) (hi : PI X tg iter (tIs X.K c Wx it)) (ok : BlkOk X.N X.env.scope scope own) (his : ∀ i ∈ is, i ∈ vs)
    (hg : ∀ (s : Shared) (H : Hp) (C : Addr) (cl : List (Str × Addr)) (fp : List Addr), PG (X.blk s H scope (compEnvC scope cl C X.env) fp) tg (tG X.K is g)) (ht : ∀ (s : Shared) (H : Hp) (C : Addr) (cl : List (Str × Addr)) (fp : List Addr), PTs (X.blk s H scope (compEnvC scope cl C X.env) fp) ifs (tTs X.K c WF ts))
    (he : ∀ (s : Shared) (H : Hp) (C : Addr) (cl : List (Str × Addr)) (fp : List Addr), PE (X.blk s H scope (compEnvC scope cl C X.env) fp) elt (tE X.K c WF me)) (hs : ∀ x, foldedSetIterable iter X.env x = pure x) :
    PS X (.Assign [.Name y py] (.ListComp elt [⟨tg, iter, ifs, 0⟩] scope pos) spos) (tSs X.K c Wx (sAsg (gNm i) (mCompM vs it g ts me))) := by
  subst hv
  exact sSetCM hc hN hy hyl hsw hi ok his hg ht he hs
end
/-- list(e), a list that will be changed -/
def mListM (a : ME) : ME := fun c env st => (a c env st).bind fun x st1 => match listD st1 x with
  | some (.lst xs) => .ok (.ref st1.length) (st1 ++ [.lst xs])
  | _ => .no
theorem dListM {X : Cx} {c : Call} {Wx : WX} {a : Expr} {ma : ME} {p pos : Pos} (hg : Gl X "list") (hm : X.mg "list" = none) (ha : PE X a (tE X.K c Wx ma)) (he : starEach [a] X.env = [(false, eval a X.env)]) : PE X (.Call (.Name "list" p) [a] [] pos) (tE X.K c Wx (mListM ma)) :=
  PE.weak (pe_callTy call_list_of hg hm (by decide +kernel) (pa_cons ha pa_nil he) (by decide) rfl he rfl) fun σ H Q h => by
    obtain ⟨W, st, env, S, E, p⟩ := h
    refine ⟨W, st, env, S, E, p.bind.mono fun dx st1 p1 x H1 W1 T1 S1 R1 => ?_⟩
    have s1 := R1.saw S1
    unfold listD at p1
    generalize see st1 dx = ex at s1 p1
    cases ex with
    | lst xs =>
      obtain ⟨b, vs, rfl, ht, q1⟩ := saw_lst s1
      exact ⟨b, vs, rfl, .inl (SqL.of ht), newCell S1 q1 fun v H' W' T S' R => p1 v H' W' (T1.trans T) S' R⟩
    | tup xs =>
      obtain ⟨b, vs, rfl, ht, q1⟩ := saw_tup s1
      exact ⟨b, vs, rfl, .inr ht.sq, newCell S1 q1 fun v H' W' T S' R => p1 v H' W' (T1.trans T) S' R⟩
    | _ => exact (show False from p1).elim
end RP
end
section
set_option Elab.async false
set_option linter.all false
set_option maxRecDepth 100000
set_option maxHeartbeats 2000000
/-! Sets of texts: len(set(xs)), sorted(set(xs)). -/
namespace RP
open PySem PySem.Spec PyProof.Rows L2
/-- an entry of a set of texts -/
def GoodS (P : Program) (w : World) (e : Int × Value) (x : Str) : Prop := ∃ tk, e.2 = Value.str x tk ∧ e.1 = (PySem.strKind P w).hash x
abbrev GoodL (P : Program) (w : World) : List (Int × Value) → List Str → Prop := Paired (GoodS P w)
theorem paired_perm {α β : Type} {R : α → β → Prop} : ∀ {l l' : List α}, l'.Perm l → ∀ {xs : List β}, Paired R l xs → ∃ xs', Paired R l' xs' ∧ xs'.Perm xs := by
  intro l l' h
  induction h with
  | nil => intro xs p; exact ⟨xs, p, .refl _⟩
  | cons a h ih =>
    intro xs p
    cases p with
    | cons r p =>
      obtain ⟨ys, q, e⟩ := ih p
      exact ⟨_ :: ys, .cons r q, e.cons _⟩
  | swap a b l =>
    intro xs p
    cases p with
    | cons r p =>
      cases p with
      | cons r2 p => exact ⟨_, .cons r2 (.cons r p), .swap _ _ _⟩
  | trans h1 h2 ih1 ih2 =>
    intro xs p
    obtain ⟨ys, q, e⟩ := ih2 p
    obtain ⟨zs, q2, e2⟩ := ih1 q
    exact ⟨zs, q2, e2.trans e⟩
theorem goodL_elems {P : Program} {w : World} : ∀ {l : List (Int × Value)} {xs : List Str}, GoodL P w l xs → ElemsOf (PySem.strKind P w) l
  | _, _, .nil => fun e he => by cases he
  | _, _, .cons (a := e0) ⟨tk, e1, e2⟩ p => fun e he => by
    rcases List.mem_cons.mp he with rfl | he
    · exact ⟨⟨_, by rw [e1]; exact strKind_is _ _ _ _, e2⟩, by rw [e1]; rfl⟩
    · exact goodL_elems p e he
theorem goodL_find {P : Program} {w : World} {x : Str} : ∀ {l : List (Int × Value)} {xs : List Str}, GoodL P w l xs → ((List.findIdx? (fun e => (PySem.strKind P w).is x e.2) l).isSome = true ↔ x ∈ xs)
  | _, _, .nil => by simp
  | _, _, .cons (b := y) ⟨tk, e1, e2⟩ p => by
    have ih := goodL_find (x := x) p
    have hy := (PySem.strKind P w).is_eq_decide (k := y) (strKind_is P w y tk) x
    rw [List.findIdx?_cons]
    rw [e1, hy]
    by_cases h : x = y
    · subst h; simp
    · rw [decide_eq_false h]
      simp only [Bool.false_eq_true, if_false, Option.isSome_map, List.mem_cons, h, false_or]
      exact ih
theorem goodL_len {P : Program} {w : World} : ∀ {l : List (Int × Value)} {xs : List Str}, GoodL P w l xs → l.length = xs.length
  | _, _, .nil => rfl
  | _, _, .cons _ p => by rw [List.length_cons, List.length_cons, goodL_len p]
/-- the set of the texts xs at a -/
structure SetS (P : Program) (w : World) (h : Heap) (a : Addr) (xs : List Str) : Prop where
  ex : ∃ o es ep t, h.get? a = some o ∧ o.ExactSet ∧ o.data = .set es ep t ∧ GoodL P w es.toList xs ∧ es.size < scanBound ∧ t.fits es.size = true ∧ Ris t.place.toList ∧ (w.params.followText "set-order" = true ∨ t.led = true)
  nd : xs.Nodup
theorem SetS.at {P : Program} {w : World} {h h' : Heap} {a : Addr} {xs : List Str} (R : SetS P w h a xs) (k : ∀ o, h.get? a = some o → h'.get? a = some o) : SetS P w h' a xs := by
  obtain ⟨⟨o, es, ep, t, ho, r⟩, nd⟩ := R
  exact ⟨⟨o, es, ep, t, k o ho, r⟩, nd⟩
section
variable {P : Program} {w : World} {A : Around} {E : Value → Shared → Prop} {s : Shared} {a : Addr} {xs : List Str}
theorem setS_store {g : Bool → Sem Unit} (hg : ∀ (b : Bool) (s₁ : Shared) (Q' : Unit → Shared → Prop), Q' () s₁ → wpAny (model P w) A (g b) Q' E s₁)
    {o : Obj} {es : Array (Int × Value)} {ep : Nat} {t : SetTable} (ho : s.heap.get? a = some o) (hx : o.ExactSet) (hd : o.data = .set es ep t)
    {fs : Array (Int × Value)} {tt : SetTable} {ys : List Str} (gd : GoodL P w fs.toList ys) (nd : ys.Nodup)
    (hb1 : fs.size < scanBound) (hf2 : tt.fits fs.size = true) (hr : Ris tt.place.toList) (hl : w.params.followText "set-order" = true ∨ tt.led = true) {wd : Bool} {R : Option Bool → Shared → Prop}
    (hR : ∀ h' zs, Heap.SameBut a s.heap h' → zs.Perm ys → SetS P w h' a zs → R (some true) { s with heap := h' }) :
    wpAny (model P w) A (do
        storeSet a fs tt
        if (!wd && tt.tooFull) = true then do
            g (relayAll tt fs (SetTable.grown fs.size)).2.2
            storeSet a (relayAll tt fs (SetTable.grown fs.size)).1 (relayAll tt fs (SetTable.grown fs.size)).2.1
            pure (some true)
          else pure (some true)) R E s := by
  refine wpAny_bind (wpAny_storeSet_of ho hd ?_ (fits_of_scanBound hb1))
  have g1 := store_at (es' := fs) (t' := tt) ho hd
  have b1 := Heap.SameBut.update s.heap a (Obj.putSet fs tt)
  split
  · have pm := relayAll_perm tt fs (SetTable.grown fs.size)
    have f3 := relayAll_fits tt fs (SetTable.grown fs.size)
    have r3 := relayAll_ris tt fs (SetTable.grown fs.size)
    have l3 := relayAll_led tt fs (SetTable.grown fs.size)
    generalize relayAll tt fs (SetTable.grown fs.size) = Z at pm f3 r3 l3 ⊢
    obtain ⟨es2, t3, gave⟩ := Z
    dsimp only at pm f3 r3 l3 ⊢
    have sz : es2.size = fs.size := by rw [← Array.length_toList, pm.length_eq, Array.length_toList]
    have b2 : es2.size < scanBound := by rw [sz]; exact hb1
    refine wpAny_bind (hg _ _ _ ?_)
    refine wpAny_bind (wpAny_storeSet_of g1 rfl ?_ (fits_of_scanBound b2))
    have g2 := store_at (es' := es2) (t' := t3) g1 rfl
    obtain ⟨zs, gz, pz⟩ := paired_perm pm gd
    exact wpAny_pure (hR _ zs (b1.trans (Heap.SameBut.update _ a _)) pz ⟨⟨_, es2, _, t3, g2, hx, rfl, gz, b2, f3, r3, hl.imp id fun z => by rw [l3]; exact z⟩, pz.nodup_iff.mpr nd⟩)
  · exact wpAny_pure (hR _ ys b1 (.refl _) ⟨⟨_, fs, _, tt, g1, hx, rfl, gd, hb1, hf2, hr, hl⟩, nd⟩)
/-- a text more -/
theorem setS_add {x : Str} {tk : Tok} {Q : Bool → Shared → Prop} (R : SetS P w s.heap a xs) (room : xs.length + 1 < scanBound)
    (q : ∀ h' zs, Heap.SameBut a s.heap h' → (if x ∈ xs then zs = xs else zs.Perm (x :: xs)) → SetS P w h' a zs → ∀ b, Q b { s with heap := h' }) :
    wpAny (model P w) A (setAddHashed a (.str x tk) ((PySem.strKind P w).hash x)) Q E s := by
  obtain ⟨⟨o, es, ep, t, ho, hx, hd, gd, hb, hf, hr, hl⟩, nd⟩ := R
  have hkey : (PySem.strKind P w).is x (.str x tk) = true := strKind_is P w x tk
  have hsc : (Value.str x tk).scannable = true := rfl
  have hel := goodL_elems gd
  have hlen : es.size = xs.length := by rw [← Array.length_toList]; exact goodL_len gd
  unfold setAddHashed setAddHashedIn
  refine wpAny_holding (wpAny_bind (wpAny_setState_of ho hd hf ?_))
  dsimp only
  rw [byScan_of hsc hb hel]
  simp only [↓reduceIte]
  unfold setAddByScan
  refine wpAny_bind ?_
  refine wpAny_bind (wpAny_rule ?_)
  refine wpAny_bind (wpAny_setScan_of hkey ho hd hf hel ?_)
  have hfd := goodL_find (x := x) gd
  cases hfi : List.findIdx? (fun e => (PySem.strKind P w).is x e.2) es.toList with
  | some j =>
    dsimp only
    have hin : x ∈ xs := hfd.mp (by rw [hfi]; rfl)
    exact wpAny_pure (wpAny_pure (q s.heap xs (Heap.SameBut.refl a s.heap) (by rw [if_pos hin]) ⟨⟨o, es, ep, t, ho, hx, hd, gd, hb, hf, hr, hl⟩, nd⟩ _))
  | none =>
    dsimp only
    have hin : x ∉ xs := fun z => by
      have := hfd.mpr z
      rw [hfi] at this
      cases this
    have hgw : ∀ (b : Bool) {s₁ : Shared} {Q' : Unit → Shared → Prop}, Q' () s₁ → wpAny (model P w) A (match b with | true => rule "set.scan.the-table-gave-way" | false => pure ()) Q' E s₁ := fun b s₁ Q' z => by
      cases b <;> first | exact wpAny_pure z | exact wpAny_rule z
    have pm := layNew_perm t es ((PySem.strKind P w).hash x) (.str x tk)
    have f1 := layNew_fits t es ((PySem.strKind P w).hash x) (.str x tk)
    have r1 := layNew_ris t es ((PySem.strKind P w).hash x) (.str x tk) hr
    have l1 := layNew_led t es ((PySem.strKind P w).hash x) (.str x tk)
    generalize layNew t es ((PySem.strKind P w).hash x) (.str x tk) = Z at pm f1 r1 l1 ⊢
    obtain ⟨es1, t1, wd, gave⟩ := Z
    dsimp only at pm f1 r1 l1 ⊢
    rw [Array.toList_push] at pm
    have pc : es1.toList.Perm (((PySem.strKind P w).hash x, Value.str x tk) :: es.toList) := pm.trans (List.perm_append_singleton _ _)
    obtain ⟨ys, gy, py⟩ := paired_perm pc (.cons ⟨tk, rfl, rfl⟩ gd : GoodL P w _ (x :: xs))
    have ndy : ys.Nodup := py.nodup_iff.mpr (List.nodup_cons.mpr ⟨hin, nd⟩)
    have sz : es1.size = xs.length + 1 := by rw [← Array.length_toList, goodL_len gy, py.length_eq, List.length_cons]
    have b1 : es1.size < scanBound := by rw [sz]; exact room
    have hled : w.params.followText "set-order" = true ∨ t1.led = true := hl.imp id fun z => by rw [l1]; exact z
    have fin : ∀ h' zs, Heap.SameBut a s.heap h' → zs.Perm ys → SetS P w h' a zs → Q true { s with heap := h' } := fun h' zs sb pz r => q h' zs sb (by rw [if_neg hin]; exact pz.trans py) r true
    refine wpAny_bind (hgw _ ?_)
    split
    · refine wpAny_bind ?_
      rw [hashByValue_scannable 8 hsc]
      refine wpAny_pure ?_
      refine setS_store ?_ ho hx hd gy ndy b1 ?_ ?_ ?_ ?_
      · intro b s₁ Q' z; cases b <;> first | exact wpAny_pure z | exact wpAny_rule z
      · first | (split <;> first | exact f1 | exact SetTable.fits_plain_off f1) | exact f1
      · first | (split <;> exact r1) | exact r1
      · first | (split <;> exact hled) | exact hled
      · intro h' zs sb pz r; dsimp only; exact wpAny_pure (fin h' zs sb pz r)
    · refine wpAny_bind (wpAny_pure ?_)
      simp only [↓reduceIte]
      refine setS_store ?_ ho hx hd gy ndy b1 f1 r1 hled ?_
      · intro b s₁ Q' z; cases b <;> first | exact wpAny_pure z | exact wpAny_rule z
      · intro h' zs sb pz r; dsimp only; exact wpAny_pure (fin h' zs sb pz r)
theorem setS_fresh {h : Heap} : SetS P w (h.push { cls := .type "set", dict := none, data := .set #[] 0 (.fresh 0 0 (!w.params.followText "set-order")) }) h.objs.size [] :=
  ⟨⟨_, #[], 0, _, Heap.get?_push_size _ rfl, ⟨rfl, rfl, rfl⟩, rfl, .nil, by decide, rfl, List.Pairwise.nil, by
    show _ ∨ (!w.params.followText "set-order") = true
    cases w.params.followText "set-order"
    · exact .inr rfl
    · exact .inl rfl⟩, .nil⟩
end
/-- the first of each -/
def dedup : List Str → List Str
  | [] => []
  | x :: xs => if x ∈ dedup xs then dedup xs else x :: dedup xs
theorem mem_dedup {x : Str} : ∀ {xs : List Str}, x ∈ dedup xs ↔ x ∈ xs
  | [] => by simp [dedup]
  | y :: ys => by
    rw [dedup]
    have ih := mem_dedup (x := x) (xs := ys)
    split
    · rename_i h
      rw [ih, List.mem_cons]
      constructor
      · exact .inr
      · rintro (rfl | z)
        · exact (mem_dedup (xs := ys)).mp h
        · exact z
    · rw [List.mem_cons, List.mem_cons, ih]
theorem nodup_dedup : ∀ {xs : List Str}, (dedup xs).Nodup
  | [] => .nil
  | y :: ys => by
    rw [dedup]
    split
    · exact nodup_dedup
    · rename_i h
      exact List.nodup_cons.mpr ⟨h, nodup_dedup⟩
section
variable {P : Program} {w : World} {A : Around} {R : Result → Shared → Prop} {I : Addr} {fp wr : List Addr} {G : Array GenState → Array GenState → Prop} {n : Nat} {Pv : Nat → Value → Prop} {St : Nat → Shared → Prop}
theorem take_more {α : Type} {l : List α} {i : Nat} {x : α} (h : l[i]? = some x) : l.take (i + 1) = l.take i ++ [x] := by
  rw [List.take_succ, h]
  rfl
theorem setS_loop (W : WalksS P w A.in1 I fp wr G n Pv St) (a : Addr) (haf : a ∉ fp) (xs : List Str) (hsz : xs.length = n) (hb : n + 1 < scanBound) (hval : ∀ i v, Pv i v → ∃ t, v = .str (xs.getD i Str.empty) t) :
    ∀ (k i : Nat) (s : Shared) (zs : List Str), n - i = k → i ≤ n → St i s → SetS P w s.heap a zs → (∀ x, x ∈ zs ↔ x ∈ xs.take i) → zs.length ≤ i →
      (∀ s' ys, Moved (a :: wr) G s s' → SetS P w s'.heap a ys → (∀ x, x ∈ ys ↔ x ∈ xs) → R (.ok (.ret .none)) s') →
      codeAny (model P w) A (.builtin "set.update.loop" ⟨[.ref a, .ref I], []⟩) R s := by
  have haw : a ∉ wr := fun z => haf (W.sub _ z)
  have sub : ∀ b ∈ wr, b ∈ a :: wr := fun b hb => List.mem_cons_of_mem _ hb
  intro k
  induction k with
  | zero =>
    intro i s zs hk hi st hS hm _ q
    have e : i = n := by omega
    subst e
    refine codeAny_builtin PyProof.Rows.F.entry_set_update_loop ?_
    rw [Around.under_plainId PyProof.Rows.F.plain_set_update_loop _]
    change wpAny _ A.in1 (pyNext (Value.ref I) >>= _) _ _ s
    refine wpAny_bind (W.done s _ _ st fun s' mv => ?_)
    change wpAny _ A.in1 (ret Value.none) _ _ s'
    exact wpAny_pure (q s' zs (mv.mono sub) (hS.at fun o e => mv.heap a _ haw e) (fun x => by rw [hm x, ← hsz, List.take_length]))
  | succ k ih =>
    intro i s zs hk hi st hS hm hzl q
    have hlt : i < n := by omega
    refine codeAny_builtin PyProof.Rows.F.entry_set_update_loop ?_
    rw [Around.under_plainId PyProof.Rows.F.plain_set_update_loop _]
    change wpAny _ A.in1 (pyNext (Value.ref I) >>= _) _ _ s
    refine wpAny_bind (W.item i s _ _ hlt st fun v s' hP st' mv => ?_)
    obtain ⟨t, rfl⟩ := hval i v hP
    have hx : xs[i]? = some (xs.getD i Str.empty) := by
      rw [List.getD_eq_getElem?_getD, List.getElem?_eq_getElem (by omega)]
      rfl
    generalize xs.getD i Str.empty = x at hx ⊢
    have hS1 : SetS P w s'.heap a zs := hS.at fun o e => mv.heap a _ haw e
    change wpAny _ A.in1 (holding [Value.str x t] (setAdd a (.str x t)) >>= _) _ _ s'
    refine wpAny_bind (wpAny_holding ?_)
    unfold setAdd
    refine wpAny_holding ?_
    refine wpAny_bind ((PySem.strKind P w).pyHash (k := x) (strKind_is _ _ _ _) ?_)
    refine setS_add (s := { s' with toks := s'.toks + 1 }) hS1 (by omega) fun h' ys sb hy hS2 b => ?_
    have hm2 : ∀ z, z ∈ ys ↔ z ∈ xs.take (i + 1) := fun z => by
      rw [take_more hx, List.mem_append, List.mem_singleton, ← hm z]
      by_cases hin : x ∈ zs
      · rw [if_pos hin] at hy
        rw [hy]
        constructor
        · exact .inl
        · rintro (h | rfl)
          · exact h
          · exact hin
      · rw [if_neg hin] at hy
        rw [hy.mem_iff, List.mem_cons]
        exact Or.comm
    have hyl : ys.length ≤ i + 1 := by
      by_cases hin : x ∈ zs
      · rw [if_pos hin] at hy
        rw [hy]; omega
      · rw [if_neg hin] at hy
        rw [hy.length_eq, List.length_cons]; omega
    refine wpAny_pure ⟨plainId_quiet PyProof.Rows.F.plain_set_update_loop _, ih (i + 1) _ ys (by omega) hlt (W.frame _ s' _ _ st' (Nat.le_succ _) fun b hb o e => ?_) hS2 hm2 hyl fun s2 vs mv2 hS3 hm3 => ?_⟩
    · rw [sb.2 b (fun z : b = a => haf (by rw [← z]; exact hb))]; exact e
    · refine q s2 vs (Moved.trans W.gtrans ((mv.mono sub).then_heap (Nat.le_succ _) fun b o hb e => ?_) mv2) hS3 hm3
      rw [sb.2 b (fun z : b = a => hb (by rw [z]; exact List.mem_cons_self))]; exact e
end
section
variable {P : Program} {w : World} {A : Around} {E : Value → Shared → Prop} {s : Shared}
theorem setS_new1 (v : Value) {Q₁ : Value → Shared → Prop} (h : Q₁ (.ref s.heap.objs.size) { s with heap := s.heap.push { cls := .type "set", dict := none, data := .set #[] 0 (.fresh 0 0 (!w.params.followText "set-order")) } }) :
    codeAny (model P w) A (.call (.builtin "set.__new__") ⟨[.type "set", v], []⟩) (wants Q₁ E) s := by
  refine codeAny_of_tree ?_
  change wpAny _ A.in1 (do checkBuiltinCall "set.__new__" ⟨[.type "set", v], []⟩; again (.builtin "set.__new__" ⟨[.type "set", v], []⟩)) _ _ s
  refine wpAny_bind (wpAny_of_eq (PySem.F.newCall_set_1 v) (wpAny_pure ⟨plainId_quiet PySem.F.plain_set_new _, codeAny_builtin PySem.F.entry_set_new ?_⟩))
  rw [Around.under_plainId PySem.F.plain_set_new _]
  unfold Builtin.«set.__new__» Builtin.Frozenset.newClass
  have hsub := sub_set_self
  obtain ⟨hp, g, d, tk, os⟩ := s
  dsimp only
  wp_walk
  refine wpAny_askSetting (wpAny_pure ?_)
  dsimp only
  simp only [newObj]
  exact wpAny_bind (wpAny_alloc (wpAny_pure (wpAny_pure h)))
set_option maxHeartbeats 4000000 in
theorem setS_call {l : Addr} {items : Array Value} {xs : List Str} {Q : Value → Shared → Prop} (hh : A.handled = none) (hl : s.heap.IsList l items) (hsz : items.size = xs.length) (hi : ∀ (i : Nat) (v : Value), items[i]? = some v → ∃ t, v = .str (xs.getD i Str.empty) t) (hb : items.size + 1 < scanBound)
    (q : ∀ (h' : Heap) (tk : Nat) (ys : List Str), SetS P w h' s.heap.objs.size ys → (∀ x, x ∈ ys ↔ x ∈ xs) → (∀ b o, s.heap.get? b = some o → h'.get? b = some o) → Q (.ref s.heap.objs.size) { s with heap := h', toks := tk }) :
    wpAny (model P w) A (call (.type "set") [.ref l]) Q E s := by
  obtain ⟨c, tl, hmro⟩ := PySem.F.called_set.mro
  have hmade := PySem.F.called_set.made
  have hsub := PySem.F.called_set.sub
  refine wpAny_call (codeAny_of_tree ?_)
  change wpAny _ _ (callAny (Value.type "set") _) _ _ _
  refine wpAny_pure ⟨Code.quiet_builtin _ (by decide +kernel), codeAny_builtin PySem.F.entry_type_call ?_⟩
  rw [Around.under_plain (weight_type_call_type "set" [.ref l] []) rfl]
  have h1 := PySem.F.called_set.notType
  have h2 := PySem.F.called_set.canCreate
  have hct := PySem.F.typeCall_set_1 (.ref l)
  repeat (any_goals (first | assumption | wp_step))
  generalize hob : ({ cls := .type "set", dict := none, data := .set #[] 0 (.fresh 0 0 (!w.params.followText "set-order")) } : Obj) = ob0
  have hfr0 : SetS P w (s.heap.push ob0) s.heap.objs.size [] := by rw [← hob]; exact setS_fresh
  have hcls : ob0.cls = .type "set" := by rw [← hob]
  refine codeAny_mono (setS_new1 (.ref l) (E := E) (Q₁ := fun obj s₁ => obj = .ref s.heap.objs.size ∧ s₁ = { s with heap := s.heap.push ob0 }) ⟨rfl, by rw [hob]⟩) fun r s₁ hr => ?_
  cases r with
  | error e => exact hr
  | ok fl =>
    cases fl with
    | ret obj =>
      obtain ⟨rfl, rfl⟩ := hr
      have g0 : (s.heap.push ob0).get? s.heap.objs.size = some ob0 := Heap.get?_push_size _ (by rw [← hob]; rfl)
      have ty : Shared.TypeIs { s with heap := s.heap.push ob0 } (.ref s.heap.objs.size) "set" := ⟨_, g0, hcls⟩
      have hli := PySem.F.called_set.init.lookup
      have hbi := PySem.F.called_set.init.bind (.ref s.heap.objs.size)
      repeat (any_goals (first | assumption | wp_step))
      refine codeAny_mono (codeAny_call_builtin (R := wants (fun r s₂ => r = .none ∧ ∃ h' tk ys, s₂ = { s with heap := h', toks := tk } ∧ SetS P w h' s.heap.objs.size ys ∧ (∀ x, x ∈ ys ↔ x ∈ xs) ∧ ∀ b o, s.heap.get? b = some o → h'.get? b = some o) E) PySem.F.called_set.init.plain PySem.F.entry_set_init (check_set_init_1 ty ?_)) fun r₂ s₂ hr₂ => ?_
      · subst hob
        obtain ⟨ol, hol, hcl, nl, hdl⟩ := hl
        obtain ⟨ocls, odict, odata, oslots⟩ := ol
        simp only at hcl hdl
        subst hcl; subst hdl
        have hol' : (s.heap.push { cls := .type "set", dict := none, data := .set #[] 0 (.fresh 0 0 (!w.params.followText "set-order")) }).get? l = some { cls := .type "list", dict := odict, data := .seq items nl, slots := oslots } := Heap.get?_push_of_some _ hol
        have hsls := PySem.F.sub_list_set
        have hslf := PySem.F.sub_list_frozenset
        have hne : (Value.type "list" == Value.type "dict") = false := by decide
        have hl1 : (s.heap.push { cls := .type "set", dict := none, data := .set #[] 0 (.fresh 0 0 (!w.params.followText "set-order")) }).IsList l items := ⟨_, hol', rfl, nl, rfl⟩
        unfold Builtin.«set.__init__» noKeywords Builtin.Frozenset.updateFrom
        generalize hPI : pyIter = PI
        wp_walk
        subst hPI
        refine wpAny_pyIter_list hl1 ?_
        refine wpAny_bind (wpAny_runValue ?_)
        have hlS : l < s.heap.objs.size := Heap.lt_size hol
        have hh3 : A.in1.in1.in1.handled = none := by simp [hh]
        have hneI : l ≠ (s.heap.push { cls := .type "set", dict := none, data := .set #[] 0 (.fresh 0 0 (!w.params.followText "set-order")) }).objs.size := by rw [Heap.size_push]; exact Nat.ne_of_lt (Nat.lt_succ_of_lt hlS)
        have hSf : s.heap.objs.size ∉ [(s.heap.push { cls := .type "set", dict := none, data := .set #[] 0 (.fresh 0 0 (!w.params.followText "set-order")) }).objs.size, l] := by
          rw [Heap.size_push]
          simp only [List.mem_cons, List.not_mem_nil, or_false, not_or]
          exact ⟨Nat.ne_of_lt (Nat.lt_succ_self _), Nat.ne_of_gt hlS⟩
        refine setS_loop ((Walks.list hh3 _ l hneI items).toS) s.heap.objs.size hSf xs hsz.symm hb (fun i v hv => hi i v hv) (items.size - 0) 0 _ [] (by omega) (Nat.zero_le _) ⟨⟨_, Heap.get?_push_size _ rfl, rfl, rfl⟩, (hl1.push _)⟩ ?hS0 (by simp) (Nat.le_refl _) ?hR
        case hS0 => exact hfr0.at fun o e => Heap.get?_push_of_some _ e
        case hR =>
          intro s' ys mv hS' hm
          obtain ⟨h', g', d', tk', os'⟩ := s'
          have eg : g' = s.gens := mv.gens
          have ed : d' = s.drawn := mv.drawn
          have eo : os' = s.os := mv.os
          subst eg; subst ed; subst eo
          change wpAny _ _ _ _ _ _
          refine wpAny_pure ?_
          change wpAny _ _ (ret Value.none) _ _ _
          refine wpAny_pure ⟨rfl, h', tk', ys, rfl, hS', hm, fun b o e => ?_⟩
          have hlt := Heap.lt_size e
          have n1 : b ≠ s.heap.objs.size := Nat.ne_of_lt hlt
          have n2 : b ≠ (s.heap.push { cls := .type "set", dict := none, data := .set #[] 0 (.fresh 0 0 (!w.params.followText "set-order")) }).objs.size := by rw [Heap.size_push]; exact Nat.ne_of_lt (Nat.lt_succ_of_lt hlt)
          exact mv.heap b o (by simp only [List.mem_cons, List.not_mem_nil, or_false, not_or]; exact ⟨n1, n2⟩) (Heap.get?_push_of_some _ (Heap.get?_push_of_some _ e))
      · cases r₂ with
        | error e => exact hr₂
        | ok fl₂ =>
          cases fl₂ with
          | ret r =>
            obtain ⟨rfl, h', tk, ys, rfl, hS', hm, hk⟩ := hr₂
            repeat (any_goals (first | assumption | wp_step))
            exact q _ _ _ hS' hm hk
          | _ => exact hr₂.elim
    | _ => exact hr.elim
end
end RP
end
section
set_option Elab.async false
set_option linter.all false
set_option maxRecDepth 100000
set_option maxHeartbeats 1000000
/-! More words: sets of texts, min, max, texts, constants of the module. -/
namespace RP
open PySem PySem.Spec PyProof.Rows L2
/-! ### sets of texts -/
def lenSetD (st : St) (x : D) : Option D := match see st x with
  | .lst xs => match asStrs xs with
    | some ss => if ss.length ≤ 4000 then some (.int (dedup ss).length) else none
    | none => none
  | _ => none
open Classical in
/-- the texts, sorted -/
noncomputable def sortS (ss : List Str) : List Str := if h : ∃ ys : List Str, ys.Perm ss ∧ sortedS ys = true then choose h else ss
noncomputable def sortSetD (st : St) (x : D) : Option D := match see st x with
  | .lst xs => match asStrs xs with
    | some ss => if ss.length < 64 then some (.lst ((sortS (dedup ss)).map D.str)) else none
    | none => none
  | _ => none
theorem vals_str_at : ∀ {xs : List Str} {us : List Value}, Vals (xs.map V.str) us → ∀ (i : Nat) (v : Value), us[i]? = some v → ∃ t, v = .str (xs.getD i Str.empty) t
  | [], _, .nil, i, v, h => by simp at h
  | x :: xs, _, .cons r t, 0, v, h => by
    obtain ⟨k, rfl⟩ := r
    simp at h
    exact ⟨k, h.symm⟩
  | x :: xs, _, .cons r t, i + 1, v, h => by
    obtain ⟨k, e⟩ := vals_str_at t i v (by simpa using h)
    exact ⟨k, by simpa using e⟩
section
variable {X : Cx} {c : Call} {Wx : WX} {a : Expr} {ma : ME} {p p2 q pos : Pos}
/-- set(e) of texts, for what takes it next -/
theorem set_run {pins : List (Addr × Obj)} {s1 : Shared} {σ : L2.St} {H1 : Hp} {W1 : Wd} {l : Addr} {xs : List V} {ds : List D} {ss : List Str} {Q : Value → Shared → Prop} (hc : X.calm = true) (I1 : Inv X pins σ H1 s1) (h : H1 l = some (.lst xs)) (r : Reps X.K H1 W1 xs ds) (hs : asStrs ds = some ss) (hn : ss.length ≤ 4000)
    (k : ∀ (h' : Heap) (tk : Nat) (a : Addr) (ys : List Str), SetS X.prog X.w h' a ys → ys.Perm (dedup ss) → Inv X pins σ H1 { s1 with heap := h', toks := tk } → Q (.ref a) { s1 with heap := h', toks := tk }) :
    wpAny (model X.prog X.w) X.A (call (.type "set") [.ref l]) Q X.xe s1 := by
  have ex := r.asStrs hs
  subst ex
  obtain ⟨its, rv, pl, hz⟩ := I1.list (SqL.of h)
  have hlen := rv.length
  rw [List.length_map] at hlen
  refine setS_call (xs := ss) (I1.ok.hd hc) pl.isList (by simp; omega) (fun i v hv => vals_str_at rv i v (by simpa using hv)) (by simp; unfold scanBound; omega) fun h' tk ys hS hm hk => ?_
  refine k h' tk _ ys hS ?_ (I1.kept hk)
  exact (List.perm_ext_iff_of_nodup hS.nd nodup_dedup).mpr fun x => by rw [hm x, mem_dedup]
theorem dLenSet (hc : X.calm = true) (hg : Gl X "len") (hm : X.mg "len" = none) (hg2 : Gl X "set") (hm2 : X.mg "set" = none) (ha : PE X a (tE X.K c Wx ma)) (na : starEach [a] X.env = (false, eval a X.env) :: starEach [] X.env) :
    PE X (.Call (.Name "len" p) [.Call (.Name "set" p2) [a] [] q] [] pos) (tE X.K c Wx (mOp1 lenSetD ma)) := by
  refine ⟨fun pins s σ H Q I h => ?_⟩
  refine Call_ (ld_blt I hg hm boot_len ?_)
  refine PyProof.Rows.callWith_builtin1 (PyProof.Rows.args_cons ?_ rfl) rfl rfl
  refine Call_ (ld_blt I hg2 hm2 boot_set ?_)
  obtain ⟨W, st, env, S, En, pp⟩ := h
  refine PyProof.Rows.callWith_type1 (PyProof.Rows.args_cons (thn (ha.run pins s σ H (fun x H1 => ∃ W1 st1 dx d, Step H W H1 W1 ∧ Sim X.K H1 W1 st1 ∧ Rep X.K H1 W1 x dx ∧ lenSetD st1 dx = some d ∧ Aft X.K H W Q d st1) I ⟨W, st, env, S, En, pp.bind.mono fun dx st1 p1 x H1 W1 T1 S1 R1 => ?_⟩) fun v s1 ⟨x, H1, I1, r1, q1⟩ => PyProof.Rows.args_nil ?_) na) na rfl
  · obtain ⟨d, e, qq⟩ := p1.of
    exact ⟨W1, st1, dx, d, T1, S1, R1, e, qq⟩
  · obtain ⟨W1, st1, dx, d, T1, S1, R1, e, qq⟩ := q1
    have sw := R1.saw S1
    unfold lenSetD at e
    generalize see st1 dx = ex at sw e
    split at e
    · rename_i ds
      split at e
      · rename_i ss hs
        split at e
        · rename_i hn
          cases e
          obtain ⟨l, xs, rfl, hl, r⟩ := saw_lst sw
          cases r1
          refine set_run hc I1 hl r hs hn fun h' tk b ys hS hp I2 => ?_
          refine PyProof.Rows.args_nil ?_
          obtain ⟨o, es, ep, t, ho, hx, hd, gd, hb, hf, _⟩ := hS.ex
          have hsz : es.size = (dedup ss).length := by rw [← Array.length_toList, goodL_len gd, hp.length_eq]
          have hb2 : es.size < 4096 := hb
          refine call_len_set ho hx hd hf (by omega) ⟨.int (dedup ss).length, H1, I2.tok _, ⟨_, by rw [hsz]⟩, qq _ H1 W1 T1 S1 (.int _)⟩
        · cases e
      · cases e
    · cases e
theorem sortS_ok {ys ss : List Str} (h : ys.Perm ss) (hs : sortedS ys = true) : (sortS ss).Perm ss ∧ sortedS (sortS ss) = true := by
  unfold sortS
  rw [dif_pos ⟨ys, h, hs⟩]
  exact Classical.choose_spec (⟨ys, h, hs⟩ : ∃ ys : List Str, ys.Perm ss ∧ sortedS ys = true)
theorem ltCps_irr : ∀ {l : List Nat}, ltCps l l = false := by
  intro l
  rw [ltCps_eq]
  exact decide_eq_false (List.lt_irrefl l)
theorem strs_ext {x y : Str} (h : x.cps.toList = y.cps.toList) : x = y := by
  obtain ⟨a⟩ := x
  obtain ⟨b⟩ := y
  congr
  exact Array.ext' h
/-- sorted: no later one is less -/
theorem sortedS_pw : ∀ {ys : List Str}, sortedS ys = true → ys.Pairwise fun x y => ¬ y.cps.toList < x.cps.toList
  | [], _ => .nil
  | [x], _ => by simp
  | x :: y :: ys, h => by
    have h' : (!ltCps y.cps.toList x.cps.toList) = true ∧ risingS y ys = true := by
      have : risingS x (y :: ys) = true := h
      unfold risingS at this
      simpa using this
    have ih := sortedS_pw (ys := y :: ys) h'.2
    have hxy : ¬ y.cps.toList < x.cps.toList := by
      have := h'.1
      rw [ltCps_eq] at this
      simpa using this
    refine List.pairwise_cons.mpr ⟨fun z hz => ?_, ih⟩
    rcases List.mem_cons.mp hz with rfl | hz
    · exact hxy
    · have hyz := (List.pairwise_cons.mp ih).1 z hz
      intro hlt
      exact hxy (List.lt_of_le_of_lt (List.not_lt.mp hyz) hlt)
theorem sortS_uniq : ∀ {ys zs : List Str}, ys.Perm zs → ys.Pairwise (fun x y => ¬ y.cps.toList < x.cps.toList) → zs.Pairwise (fun x y => ¬ y.cps.toList < x.cps.toList) → ys = zs := by
  intro ys zs hp h1 h2
  refine List.Perm.eq_of_pairwise (le := fun x y : Str => ¬ y.cps.toList < x.cps.toList) (fun a b _ _ hab hba => ?_) h1 h2 hp
  exact strs_ext (List.le_antisymm (List.not_lt.mp hab) (List.not_lt.mp hba))
theorem sortS_eq {ys ss : List Str} (h : ys.Perm ss) (hs : sortedS ys = true) : ys = sortS ss := by
  obtain ⟨h1, h2⟩ := sortS_ok h hs
  exact sortS_uniq (h.trans h1.symm) (sortedS_pw hs) (sortedS_pw h2)
theorem sorted_setS {s : Shared} {b : Addr} {ys : List Str} {Q : Value → Shared → Prop} {E : Value → Shared → Prop} {A : Around} {P : Program} {w : World} (R : SetS P w s.heap b ys) (hh : A.handled = none) (h64 : ys.length < 64)
    (q : ∀ s' p (out : Array Value) (c : Nat) (zs : List Str), (∀ b o, s.heap.get? b = some o → s'.heap.get? b = some o) → s'.gens = s.gens → s'.os = s.os → s.heap.objs.size ≤ p → s'.heap.get? p = some (seqObj "list" out c) → StrsAre out.toList zs → zs.Perm ys → sortedS zs = true → Q (.ref p) s') :
    wpAny (model P w) A (call (.builtin "sorted") [.ref b]) Q E s := by
  obtain ⟨o, es, ep, t, ho, hx, hd, gd, hb, hf, hr, hl⟩ := R.ex
  refine Calls.call_function_entry kind_sorted plain_sorted entry_sorted (args_sorted1 _) ?_
  unfold Builtin.«sorted»
  refine wpAny_bind (m := checkCount "sorted" 1 1 _) (wpAny_pure ?_)
  refine wpAny_bind (collect_set (A := A.in1) hh ⟨o, ho, hx.1, hd⟩ hf hb hr hl fun s1 vs k1 hz g1 o1 pm => ?_)
  have hpp : ∀ {l : List (Int × Value)} {xs : List Str}, GoodL P w l xs → StrsAre (l.map (·.2)) xs := by
    intro l xs g
    induction g with
    | nil => exact .nil
    | cons r _ ih =>
      obtain ⟨tk, e1, _⟩ := r
      rw [List.map_cons, e1]
      exact .cons _ tk ih
  have hsp : ∀ {l l' : List Value}, l'.Perm l → ∀ {xs : List Str}, StrsAre l xs → ∃ xs', StrsAre l' xs' ∧ xs'.Perm xs := by
    intro l l' h
    induction h with
    | nil => intro xs p; exact ⟨xs, p, .refl _⟩
    | cons a h ih =>
      intro xs p
      cases p with
      | cons x t p =>
        obtain ⟨ys, q, e⟩ := ih p
        exact ⟨_ :: ys, .cons x t q, e.cons _⟩
    | swap a b l =>
      intro xs p
      cases p with
      | cons x t p =>
        cases p with
        | cons y t2 p => exact ⟨_, .cons y t2 (.cons x t p), .swap _ _ _⟩
    | trans h1 h2 ih1 ih2 =>
      intro xs p
      obtain ⟨ys, q, e⟩ := ih2 p
      obtain ⟨zs, q2, e2⟩ := ih1 q
      exact ⟨zs, q2, e2.trans e⟩
  obtain ⟨us, hI, pu⟩ := hsp pm (hpp gd)
  have hvl : vs.length = ys.length := by rw [hI.length, pu.length_eq]
  refine wpAny_bind (wpAny_newList ?_ (by rw [hvl, sizeLine_eq]; omega))
  have gL : (s1.heap.push (seqObj "list" vs.toArray 0)).get? s1.heap.objs.size = some (seqObj "list" vs.toArray 0) := Heap.get?_push_size _ rfl
  refine wpAny_bind (wpAny_holding (wpAny_call_entry slot_list_sort ⟨_, gL, rfl⟩ entry_list_sort (list_sort_treeK strKind_oneLt gL hI.keysOf (fun v₁ v₂ rest e => keyKind_strs (by rw [← e]; exact hI)) (by rw [hvl]; exact h64) fun st' hp hs => ⟨_, rfl, ?_⟩) (args_list_sort _)))
  obtain ⟨zs, z1, z2, z3⟩ := sorted_out_str hI hp hs
  obtain ⟨cc, hc⟩ := sortedHeap_at (vs := vs) (out := (arrOf st').map (·.2)) gL
  refine wpAny_pure ⟨_, rfl, q _ s1.heap.objs.size _ cc zs (fun d u e => ?_) g1 o1 hz hc z1 (z2.trans pu) z3⟩
  have e1 := k1 d u e
  have hlt := Heap.lt_size e1
  change (sortedHeap (s1.heap.push (seqObj "list" vs.toArray 0)) s1.heap.objs.size vs _).get? d = some u
  rw [sortedHeap_old (Nat.ne_of_lt hlt) (by rw [size_push']; exact Nat.lt_succ_of_lt hlt)]
  exact Heap.get?_push_of_some _ e1
theorem dSortSet (hc : X.calm = true) (hg : Gl X "sorted") (hm : X.mg "sorted" = none) (hg2 : Gl X "set") (hm2 : X.mg "set" = none) (ha : PE X a (tE X.K c Wx ma)) (na : starEach [a] X.env = (false, eval a X.env) :: starEach [] X.env) :
    PE X (.Call (.Name "sorted" p) [.Call (.Name "set" p2) [a] [] q] [] pos) (tE X.K c Wx (mOp1 sortSetD ma)) := by
  refine ⟨fun pins s σ H Q I h => ?_⟩
  refine Call_ (ld_blt I hg hm (by decide +kernel : bootBuiltins "sorted" = some (.builtin "sorted")) ?_)
  refine PyProof.Rows.callWith_builtin1 (PyProof.Rows.args_cons ?_ rfl) rfl rfl
  refine Call_ (ld_blt I hg2 hm2 boot_set ?_)
  obtain ⟨W, st, env, S, En, pp⟩ := h
  refine PyProof.Rows.callWith_type1 (PyProof.Rows.args_cons (thn (ha.run pins s σ H (fun x H1 => ∃ W1 st1 dx d, Step H W H1 W1 ∧ Sim X.K H1 W1 st1 ∧ Rep X.K H1 W1 x dx ∧ sortSetD st1 dx = some d ∧ Aft X.K H W Q d st1) I ⟨W, st, env, S, En, pp.bind.mono fun dx st1 p1 x H1 W1 T1 S1 R1 => ?_⟩) fun v s1 ⟨x, H1, I1, r1, q1⟩ => PyProof.Rows.args_nil ?_) na) na rfl
  · obtain ⟨d, e, qq⟩ := p1.of
    exact ⟨W1, st1, dx, d, T1, S1, R1, e, qq⟩
  · obtain ⟨W1, st1, dx, d, T1, S1, R1, e, qq⟩ := q1
    have sw := R1.saw S1
    unfold sortSetD at e
    generalize see st1 dx = ex at sw e
    split at e
    · rename_i ds
      split at e
      · rename_i ss hs
        split at e
        · rename_i hn
          cases e
          obtain ⟨l, xs, rfl, hl, r⟩ := saw_lst sw
          cases r1
          refine set_run hc I1 hl r hs (by omega) fun h' tk b ys hS hp I2 => ?_
          refine PyProof.Rows.args_nil ?_
          have hyl : ys.length ≤ ss.length := by
            have := hS.nd.length_le_of_subset (fun z hz => mem_dedup.mp (hp.mem_iff.mp hz))
            exact this
          have hnd := hS.nd
          replace hS : SetS X.prog X.w ({ s1 with heap := h', toks := tk } : Shared).heap b ys := hS
          generalize ({ s1 with heap := h', toks := tk } : Shared) = s2 at I2 hS ⊢
          refine sorted_setS (s := s2) hS (I2.ok.hd hc) (by omega) fun s' pp out cc zs k1 g1 o1 hp0 hg1 hI pz sz => ?_
          have ez : zs = sortS (dedup ss) := sortS_eq (pz.trans hp) sz
          have hlen : (zs.map V.str).length ≤ sizeLine := by rw [List.length_map, pz.length_eq, sizeLine_eq]; omega
          have hn1 : H1 pp = none := I2.hok.fresh hp0
          have J : Inv X pins σ (upd H1 pp (.lst (zs.map V.str))) { s2 with heap := s'.heap, gens := s'.gens, drawn := s'.drawn, toks := s'.toks } :=
            I2.call (ch := []) (Un.laid k1 hp0 hn1) (I2.hok.laid k1 hp0 ⟨hlen, out.toList, cc, vals_of_strs hI, hg1⟩) (by rw [g1]; exact I2.bare) (fun _ z => nomatch z)
          have es : s' = { s2 with heap := s'.heap, gens := s'.gens, drawn := s'.drawn, toks := s'.toks } := by
            cases s'
            cases s2
            cases o1
            rfl
          rw [es]
          refine ⟨.ref pp, _, J, rfl, ?_⟩
          have T2 := Step.temp S1 (o := .lst (zs.map V.str)) hn1
          refine qq _ _ W1 (T1.trans T2) (S1.temp hn1) ?_
          rw [← ez]
          refine .lst upd_same (S1.fresh hn1) (S1.freshB hn1) ?_
          have : ∀ l : List Str, Reps X.K (upd H1 pp (.lst (zs.map V.str))) W1 (l.map V.str) (l.map D.str) := by
            intro l
            induction l with
            | nil => exact .nil
            | cons y l ih => exact .cons (.str y) ih
          exact this zs
        · cases e
      · cases e
    · cases e
end
end RP
end
section
set_option Elab.async false
set_option linter.all false
set_option maxRecDepth 100000
set_option maxHeartbeats 1000000
/-! Constants; min, max, int, str, sorted; methods of texts; dicts read. -/
namespace RP
open PySem PySem.Spec PyProof.Rows L2
/-! ### constants of the module -/
theorem dCstG {X : Cx} {c : Call} {Wx : WX} {pos : Pos} {x : Str} {d : D} (h : cF x d X.w X.K X.mg) (hg : Gl X x) (hdb : (x == ("__debug__" : Str)) = false) : PE X (.Name x pos) (tE X.K c Wx (mCst d)) := by
  obtain ⟨v, u, hm, r, hr⟩ := h
  exact dCst (pe_glob hg hm r hdb) hr
section
variable {K : PySem.W.Frag} {h : Heap} {mg : Str → Option Value} {w : World}
theorem cF_int (X : K.In h) (G : h.Ns mainGlobals mg) {x : Str} {i : Int} (c : (He.Fa.int x i).ok K = true) : cF x (.int i) w K mg := by
  obtain ⟨t, e⟩ := He.int_ok X G c
  exact ⟨.int i, _, e, ⟨t, rfl⟩, fun _ _ => .int i⟩
theorem cF_str (X : K.In h) (G : h.Ns mainGlobals mg) {x z : Str} (c : (He.Fa.str x z).ok K = true) : cF x (.str z) w K mg := by
  obtain ⟨t, e⟩ := He.str_ok X G c
  exact ⟨.str z, _, e, ⟨t, rfl⟩, fun _ _ => .str z⟩
/-- a tuple of texts and ints of the written part -/
inductive Cv where
  | int (i : Int) | str (x : Str)
def Cv.d : Cv → D
  | .int i => .int i
  | .str x => .str x
def Cv.dv : Cv → He.Dv
  | .int i => .int i
  | .str x => .str x
def tupC (K : PySem.W.Frag) (x : Str) (vs : List Cv) : Bool := match K.lookup (He.ga K x) with
  | some ⟨.type c, none, .seq its _, _⟩ => decide (c = "tuple") && (decide (its.size ≤ sizeLine) && He.relAll ((vs.map Cv.dv).map (He.Dv.v K)) its.toList)
  | _ => false
theorem cv_reps {H : Hp} {W : Wd} : ∀ vs : List Cv, Reps K H W ((vs.map Cv.dv).map (He.Dv.v K)) (vs.map Cv.d)
  | [] => .nil
  | .int i :: vs => .cons (.int i) (cv_reps vs)
  | .str x :: vs => .cons (.str x) (cv_reps vs)
theorem cF_tup (X : K.In h) (G : h.Ns mainGlobals mg) {x : Str} {vs : List Cv} (g : (He.Fa.glo x).ok K = true) (c : tupC K x vs = true) : cF x (.tup (vs.map Cv.d)) w K mg := by
  refine ⟨.ref (He.ga K x), _, He.glo_ok X G g, rfl, fun H W => .tup ?_ (cv_reps vs)⟩
  unfold tupC at c
  split at c
  · rename_i cc its n sl hl
    simp only [Bool.and_eq_true, decide_eq_true_eq] at c
    obtain ⟨c1, c2, c3⟩ := c
    subst c1
    exact .inr ⟨_, its, n, hl, rfl, rfl, rfl, c2, He.relAll_ok c3⟩
  · cases c
end
/-! ### built-in functions -/
def minD (st : St) : List D → Option D
  | [.int i, .int j] => some (.int (if j < i then j else i))
  | [x] => match see st x with
    | .lst xs => match asInts xs with
      | some (n :: ns) => some (.int (ns.foldl min n))
      | _ => none
    | _ => none
  | _ => none
def maxD (st : St) : List D → Option D
  | [.int i, .int j] => some (.int (if j > i then j else i))
  | [x] => match see st x with
    | .lst xs => match asInts xs with
      | some (n :: ns) => some (.int (ns.foldl max n))
      | _ => none
    | _ => none
  | _ => none
theorem fold_min : ∀ (ns : List Int) (n : Int), ns.foldl min n ∈ n :: ns ∧ ∀ y ∈ n :: ns, ns.foldl min n ≤ y
  | [], n => ⟨by simp, by simp⟩
  | m :: ns, n => by
    obtain ⟨h1, h2⟩ := fold_min ns (min n m)
    rw [List.foldl_cons]
    have hm : ns.foldl min (min n m) ≤ min n m := h2 _ List.mem_cons_self
    refine ⟨?_, fun y hy => ?_⟩
    · rcases List.mem_cons.mp h1 with e | e
      · rw [e]
        by_cases hh : n ≤ m
        · rw [Int.min_eq_left hh]; simp
        · rw [Int.min_eq_right (by omega)]; simp
      · simp [e]
    · rcases List.mem_cons.mp hy with rfl | hy
      · omega
      · rcases List.mem_cons.mp hy with rfl | hy
        · omega
        · exact h2 y (List.mem_cons_of_mem _ hy)
theorem fold_max : ∀ (ns : List Int) (n : Int), ns.foldl max n ∈ n :: ns ∧ ∀ y ∈ n :: ns, y ≤ ns.foldl max n
  | [], n => ⟨by simp, by simp⟩
  | m :: ns, n => by
    obtain ⟨h1, h2⟩ := fold_max ns (max n m)
    rw [List.foldl_cons]
    have hm : max n m ≤ ns.foldl max (max n m) := h2 _ List.mem_cons_self
    refine ⟨?_, fun y hy => ?_⟩
    · rcases List.mem_cons.mp h1 with e | e
      · rw [e]
        by_cases hh : n ≤ m
        · rw [Int.max_eq_right hh]; simp
        · rw [Int.max_eq_left (by omega)]; simp
      · simp [e]
    · rcases List.mem_cons.mp hy with rfl | hy
      · omega
      · rcases List.mem_cons.mp hy with rfl | hy
        · omega
        · exact h2 y (List.mem_cons_of_mem _ hy)
theorem reps2 {K : PySem.W.Frag} {H : Hp} {W : Wd} {xs : List V} {d e : D} (r : Reps K H W xs [d, e]) : ∃ v u, xs = [v, u] ∧ Rep K H W v d ∧ Rep K H W u e := by
  cases r with
  | cons h r =>
    cases r with
    | cons h2 r => cases r; exact ⟨_, _, rfl, h, h2⟩
section
variable {X : Cx}
theorem call_minL (hc : X.calm = true) : CallR X (.builtin "min") (liftN X.K minD) := by
  intro pins s σ H xs us Q I r hh
  obtain ⟨W, st, ds, d, S, rs, e, q⟩ := hh
  unfold minD at e
  split at e
  · cases e
    obtain ⟨v, u, rfl, r1, r2⟩ := reps2 rs
    cases r1
    cases r2
    exact call_min2 hc pins s σ H _ us Q I r ⟨_, _, rfl, q _ H (Step.refl _ _) S (.int _)⟩
  · obtain ⟨v, rfl, r1⟩ := reps1 rs
    have sw := r1.saw S
    rename_i x
    generalize see st x = ex at sw e
    split at e
    · split at e
      · rename_i n ns hn
        cases e
        obtain ⟨l, vs, rfl, hl, rv⟩ := saw_lst sw
        rw [rv.asInts hn] at hl
        obtain ⟨m1, m2⟩ := fold_min ns n
        refine cr_min hc pins s σ H _ us Q I r ⟨l, n :: ns, rfl, SqL.of hl, by simp, fun m hm hy => ?_⟩
        have em : m = ns.foldl min n := by
          have h1 := hy _ m1
          have h2 := m2 m hm
          omega
        subst em
        exact q _ H (Step.refl _ _) S (.int _)
      · cases e
    · cases e
  · cases e
theorem call_maxL (hc : X.calm = true) : CallR X (.builtin "max") (liftN X.K maxD) := by
  intro pins s σ H xs us Q I r hh
  obtain ⟨W, st, ds, d, S, rs, e, q⟩ := hh
  unfold maxD at e
  split at e
  · cases e
    obtain ⟨v, u, rfl, r1, r2⟩ := reps2 rs
    cases r1
    cases r2
    exact call_max2 hc pins s σ H _ us Q I r ⟨_, _, rfl, q _ H (Step.refl _ _) S (.int _)⟩
  · obtain ⟨v, rfl, r1⟩ := reps1 rs
    have sw := r1.saw S
    rename_i x
    generalize see st x = ex at sw e
    split at e
    · split at e
      · rename_i n ns hn
        cases e
        obtain ⟨l, vs, rfl, hl, rv⟩ := saw_lst sw
        rw [rv.asInts hn] at hl
        obtain ⟨m1, m2⟩ := fold_max ns n
        refine cr_max hc pins s σ H _ us Q I r ⟨l, n :: ns, rfl, SqL.of hl, by simp, fun m hm hy => ?_⟩
        have em : m = ns.foldl max n := by
          have h1 := hy _ m1
          have h2 := m2 m hm
          omega
        subst em
        exact q _ H (Step.refl _ _) S (.int _)
      · cases e
    · cases e
  · cases e
def intD (st : St) (x : D) : Option D := match x with
  | .int i => some (.int i)
  | .bl b => some (.int (if b then 1 else 0))
  | .str a => if a.length ≤ 640 then (intText? a).map D.int else none
  | _ => none
theorem call_intL : CallR X (.type "int") (liftN X.K (un1 intD)) := call_un1 fun pins s σ H x us Q W st dx d I r S rx e q => by
  unfold intD at e
  split at e
  · cases e
    cases rx
    exact call_int1 pins s σ H _ us Q I r (.inl ⟨_, rfl, q _ H (Step.refl _ _) S (.int _)⟩)
  · cases e
    cases rx
    exact call_int1 pins s σ H _ us Q I r (.inr ⟨_, rfl, q _ H (Step.refl _ _) S (.int _)⟩)
  · split at e
    · rename_i hl
      obtain ⟨n, hn, rfl⟩ := Option.map_eq_some_iff.mp e
      cases rx
      exact call_int_str pins s σ H _ us Q I r ⟨_, n, rfl, hn, hl, q _ H (Step.refl _ _) S (.int _)⟩
    · cases e
  · cases e
def strD (st : St) (x : D) : Option D := match x with
  | .int i => if i.natAbs.log2 < 1920 then some (.str (toString i)) else none
  | _ => none
theorem call_strL : CallR X (.type "str") (liftN X.K (un1 strD)) := call_un1 fun pins s σ H x us Q W st dx d I r S rx e q => by
  unfold strD at e
  split at e
  · split at e
    · rename_i hl
      cases e
      cases rx
      exact call_str_int pins s σ H _ us Q I r ⟨_, rfl, hl, q _ H (Step.refl _ _) S (.str _)⟩
    · cases e
  · cases e
/-- sorted(a list of texts) -/
noncomputable def sortD (st : St) (x : D) : Option D := match see st x with
  | .lst xs => match asStrs xs with
    | some ss => if ss.length < 64 then some (.lst ((sortS ss).map D.str)) else none
    | none => none
  | _ => none
theorem reps_strs {K : PySem.W.Frag} {H : Hp} {W : Wd} : ∀ l : List Str, Reps K H W (l.map V.str) (l.map D.str)
  | [] => .nil
  | x :: l => .cons (.str x) (reps_strs l)
theorem call_sortedL : CallR X (.builtin "sorted") (liftN X.K (un1 sortD)) := call_un1 fun pins s σ H x us Q W st dx d I r S rx e q => by
  have sw := rx.saw S
  unfold sortD at e
  generalize see st dx = ex at sw e
  split at e
  · split at e
    · rename_i ss hs
      split at e
      · rename_i hn
        cases e
        obtain ⟨l, vs, rfl, hl, rv⟩ := saw_lst sw
        rw [rv.asStrs hs] at hl
        refine cr_sortedS pins s σ H _ us Q I r ⟨l, ss, rfl, SqL.of hl, hn, fun ys p pm sz hp => ?_⟩
        rw [sortS_eq pm sz]
        exact newL S (reps_strs _) q p hp
      · cases e
    · cases e
  · cases e
/-! ### methods of texts -/
/-- what a text's method gives -/
abbrev SMeth := St → Str → List D → Option D
def mSm (f : SMeth) (o : ME) (ms : List ME) : ME := fun c env st => (o c env st).bind fun x st1 => match x with
  | .str z => (mArgs ms c env st1).bind fun ds st2 => R.of (f st2 z ds) st2
  | _ => .no
def liftSm (K : PySem.W.Frag) (f : SMeth) : V → List V → Hp → VK → Prop := fun x xs H Q => ∃ W st z ds d, Sim K H W st ∧ x = .str z ∧ Reps K H W xs ds ∧ f st z ds = some d ∧ ∀ v H', Step H W H' W → Sim K H' W st → Rep K H' W v d → Q v H'
theorem dSm {c : Call} {Wx : WX} {o e : Expr} {es : List Expr} {mo : ME} {ms : List ME} {name : Str} {apos cpos : Pos} {id : String} {f : SMeth} (slot : Slot "str" name id) (hty : typeOf (.builtin id) = pure (.type "method_descriptor")) (hm : MtR X id (liftSm X.K f)) (ho : PE X o (tE X.K c Wx mo)) (ha : PA X (e :: es) (tAs X.K c Wx (mArgs ms))) (hbase : attributeBase o name X.env (eval o X.env) = eval o X.env)
    (hfew : ((backTo cpos (starEach (e :: es) X.env)).all (fun x => !x.1) && (backToKw cpos (keywordEach [] X.env)).all (fun x => x.1.isSome) && decide ((e :: es).length + ([] : List Keyword).length + (if ([] : List Keyword).isEmpty then 0 else 1) < 30)) = true)
    (hline : (apos.endLine == cpos.line) = true) (hs : starEach (e :: es) X.env = (false, eval e X.env) :: starEach es X.env) (hplain : (backTo cpos (starEach es X.env)).any (·.1) = false) :
    PE X (.Call (.Attribute o name apos) (e :: es) [] cpos) (tE X.K c Wx (mSm f mo ms)) :=
  PE.weak (pe_bm F.plainAttrs_str slot hty hm ho ha hbase hfew hline hs hplain) fun σ H Q h => by
    obtain ⟨W, st, env, S, E, p⟩ := h
    refine ⟨W, st, env, S, E, p.bind.mono fun dx st1 p1 x H1 W1 T1 S1 R1 => ?_⟩
    split at p1
    · rename_i z
      have ex := rep_str R1
      subst ex
      refine ⟨rfl, W1, st1, env, S1, E.step S T1, (p1.bind.at T1).mono fun ds st2 p2 xs H2 W2 T2 S2 R2 => ?_⟩
      obtain ⟨d, e, q⟩ := p2.of
      exact ⟨W2, st2, z, ds, d, S2, rfl, R2, e, fun v H' T S' R => q v H' W2 ((T1.trans T2).trans T) S' R⟩
    · exact (show False from p1).elim
/-- a sequence of texts -/
def strsOf (st : St) (x : D) : Option (List Str) := match see st x with
  | .lst xs => asStrs xs
  | .tup xs => asStrs xs
  | _ => none
def joinD : SMeth := fun st z ds => match ds with
  | [x] => match strsOf st x with
    | some ys => if (ys.map (·.length)).sum + ys.length * z.length ≤ big then some (.str (Txt.join z ys)) else none
    | none => none
  | _ => none
theorem mt_joinL : MtR X "str.join" (liftSm X.K joinD) := fun pins s σ H x xs v us Q I rx rxs h => by
  obtain ⟨W, st, z, ds, d, S, rfl, rs, e, q⟩ := h
  have bl : big ≤ 16777216 := by decide
  unfold joinD at e
  split at e
  · obtain ⟨u, rfl, r1⟩ := reps1 rs
    rename_i x
    have sw := r1.saw S
    unfold strsOf at e
    generalize see st x = ex at sw e
    split at e
    · rename_i ys hy
      split at e
      · rename_i hn
        cases e
        split at hy
        · obtain ⟨l, vs, rfl, hl, rv⟩ := saw_lst sw
          rw [rv.asStrs hy] at hl
          exact mt_join pins s σ H _ _ v us Q I rx rxs ⟨z, l, ys, rfl, rfl, .inl (SqL.of hl), by omega, q _ H (Step.refl _ _) S (.str _)⟩
        · obtain ⟨l, vs, rfl, hl, rv⟩ := saw_tup sw
          have hl' := hl.sq
          rw [rv.asStrs hy] at hl'
          exact mt_join pins s σ H _ _ v us Q I rx rxs ⟨z, l, ys, rfl, rfl, .inr hl', by omega, q _ H (Step.refl _ _) S (.str _)⟩
        · cases hy
      · cases e
    · cases e
  · cases e
def splitD : SMeth := fun st z ds => match ds with
  | [.str b] => if (b.length == 0) = false ∧ z.length ≤ big then some (.lst ((Txt.split z b).map D.str)) else none
  | _ => none
theorem mt_splitL : MtR X "str.split" (liftSm X.K splitD) := fun pins s σ H x xs v us Q I rx rxs h => by
  obtain ⟨W, st, z, ds, d, S, rfl, rs, e, q⟩ := h
  have bl : big + 2 ≤ sizeLine := by decide
  unfold splitD at e
  split at e
  · obtain ⟨u, rfl, r1⟩ := reps1 rs
    cases r1
    split at e
    · rename_i hc
      cases e
      exact mt_split pins s σ H _ _ v us Q I rx rxs ⟨z, _, rfl, rfl, hc.1, by omega, newL S (reps_strs _) q⟩
    · cases e
  · cases e
end
end RP
end
section
set_option Elab.async false
set_option linter.all false
set_option maxRecDepth 100000
set_option maxHeartbeats 1000000
/-! Dicts read by get; calls without arguments; list methods that give something. -/
namespace RP
open PySem PySem.Spec PyProof.Rows L2
def mOp3 (f : St → D → D → D → Option D) (a b e : ME) : ME := fun c env st => (a c env st).bind fun x st1 => (b c env st1).bind fun y st2 => (e c env st2).bind fun z st3 => R.of (f st3 x y z) st3
def isDc (st : St) (x : D) : Bool := match see st x with
  | .dct _ _ => true
  | _ => false
/-- d.get(k), d.get(k, x): d is seen to be a dict first -/
def mGet1 (a b : ME) : ME := fun c env st => (a c env st).bind fun x st1 => if isDc st1 x = true then (b c env st1).bind fun y st2 => match see st2 x with
  | .dct ks vs => if keyish y = true then .ok ((look ks vs y).getD .non) st2 else .no
  | _ => .no
  else .no
def mGet2 (a b e : ME) : ME := fun c env st => (a c env st).bind fun x st1 => if isDc st1 x = true then (b c env st1).bind fun y st2 => (e c env st2).bind fun z st3 => match see st3 x with
  | .dct ks vs => if keyish y = true then .ok ((look ks vs y).getD z) st3 else .no
  | _ => .no
  else .no
section
variable {X : Cx} {c : Call} {Wx : WX} {o e f : Expr} {mo me mf : ME} {apos cpos : Pos}
theorem isD_of {K : PySem.W.Frag} {H : Hp} {W : Wd} {st : St} {v : V} {x : D} (S : Sim K H W st) (r : Rep K H W v x) (h : isDc st x = true) : ∃ a, v = .ref a ∧ IsD H a := by
  have sw := r.saw S
  unfold isDc at h
  generalize see st x = ex at sw h
  split at h
  · obtain ⟨a, kvs, rfl, hr, _, _⟩ := saw_dct sw
    exact ⟨a, rfl, .inl ⟨kvs, hr⟩⟩
  · cases h
theorem dget_of {K : PySem.W.Frag} {H : Hp} {W : Wd} {st : St} {a : Addr} {x y : D} {u : V} {ks vs : List D} (S : Sim K H W st) (r : Rep K H W (.ref a) x) (hx : see st x = .dct ks vs) (ry : Rep K H W u y) (hk : keyish y = true) :
    ∃ ov, DGet H a u ov ∧ (∀ d, look ks vs y = some d → ∃ v, ov = some v ∧ Rep K H W v d) ∧ (look ks vs y = none → ov = none) := by
  have sw := r.saw S
  rw [hx] at sw
  obtain ⟨a', kvs, e, hr, q1, q2⟩ := saw_dct sw
  cases e
  obtain ⟨k, rfl⟩ := key_rep ry hk
  obtain ⟨h1, h2⟩ := look_val q1 q2 ry
  exact ⟨valV kvs k, .inl ⟨kvs, k, hr, rfl, rfl⟩, h1, h2⟩
theorem dGet1 (hu : X.A.units + 101 < cLine) (ho : PE X o (tE X.K c Wx mo)) (he : PE X e (tE X.K c Wx me)) (m : M1 X o "get" apos e cpos) : PE X (.Call (.Attribute o "get" apos) [e] [] cpos) (tE X.K c Wx (mGet1 mo me)) :=
  PE.weak (pe_dget1 (by omega) ho he m) fun σ H Q h => by
    obtain ⟨W, st, env, S, E, p⟩ := h
    refine ⟨W, st, env, S, E, p.bind.mono fun dx st1 p1 x H1 W1 T1 S1 R1 => ?_⟩
    split at p1
    · rename_i hd
      obtain ⟨a, rfl, hD⟩ := isD_of S1 R1 hd
      refine ⟨a, rfl, hD, W1, st1, env, S1, E.step S T1, (p1.bind.at T1).mono fun dy st2 p2 y H2 W2 T2 S2 R2 => ?_⟩
      split at p2
      · rename_i ks vs hx
        split at p2
        · rename_i hk
          obtain ⟨ov, g, g1, g2⟩ := dget_of S2 (R1.step S1 T2) hx R2 hk
          refine ⟨ov, g, ?_⟩
          cases hl : look ks vs dy with
          | none =>
            rw [g2 hl]
            rw [hl] at p2
            exact p2 .non H2 W2 (T1.trans T2) S2 .non
          | some d =>
            obtain ⟨v, ev, rv⟩ := g1 d hl
            rw [ev]
            rw [hl] at p2
            exact p2 v H2 W2 (T1.trans T2) S2 rv
        · exact (show False from p2).elim
      · exact (show False from p2).elim
    · exact (show False from p1).elim
theorem dGet2 (hu : X.A.units + 101 < cLine) (ho : PE X o (tE X.K c Wx mo)) (he : PE X e (tE X.K c Wx me)) (hf : PE X f (tE X.K c Wx mf)) (m : M2 X o "get" apos e f cpos) : PE X (.Call (.Attribute o "get" apos) [e, f] [] cpos) (tE X.K c Wx (mGet2 mo me mf)) :=
  PE.weak (pe_dget2 (by omega) ho he hf m) fun σ H Q h => by
    obtain ⟨W, st, env, S, E, p⟩ := h
    refine ⟨W, st, env, S, E, p.bind.mono fun dx st1 p1 x H1 W1 T1 S1 R1 => ?_⟩
    split at p1
    · rename_i hd
      obtain ⟨a, rfl, hD⟩ := isD_of S1 R1 hd
      refine ⟨a, rfl, hD, W1, st1, env, S1, E.step S T1, (p1.bind.at T1).mono fun dy st2 p2 y H2 W2 T2 S2 R2 => ⟨W2, st2, env, S2, E.step S (T1.trans T2), (p2.bind.at (T1.trans T2)).mono fun dz st3 p3 z H3 W3 T3 S3 R3 => ?_⟩⟩
      split at p3
      · rename_i ks vs hx
        split at p3
        · rename_i hk
          obtain ⟨ov, g, g1, g2⟩ := dget_of S3 (R1.step S1 (T2.trans T3)) hx (R2.step S2 T3) hk
          refine ⟨ov, g, ?_⟩
          cases hl : look ks vs dy with
          | none =>
            rw [g2 hl]
            rw [hl] at p3
            exact p3 z H3 W3 ((T1.trans T2).trans T3) S3 R3
          | some d =>
            obtain ⟨v, ev, rv⟩ := g1 d hl
            rw [ev]
            rw [hl] at p3
            exact p3 v H3 W3 ((T1.trans T2).trans T3) S3 rv
        · exact (show False from p3).elim
      · exact (show False from p3).elim
    · exact (show False from p1).elim
end
/-- a + b, a list that will be changed -/
def mAddM (a b : ME) : ME := fun c env st => (a c env st).bind fun x st1 => (b c env st1).bind fun y st2 => match see st2 x, see st2 y with
  | .lst xs, .lst ys => if xs.length + ys.length ≤ big then .ok (.ref st2.length) (st2 ++ [.lst (xs ++ ys)]) else .no
  | _, _ => .no
def liftAdd (K : PySem.W.Frag) : R2 := fun x y H Q => ∃ W st dx dy xs ys, Sim K H W st ∧ Rep K H W x dx ∧ Rep K H W y dy ∧ see st dx = .lst xs ∧ see st dy = .lst ys ∧ xs.length + ys.length ≤ big ∧ ∀ v H' W', Step H W H' W' → Sim K H' W' (st ++ [.lst (xs ++ ys)]) → Rep K H' W' v (.ref st.length) → Q v H'
section
variable {X : Cx} {c : Call} {Wx : WX} {a b : Expr} {ma mb : ME} {pos : Pos}
theorem op_addM : OpR X (binaryOp .Add) (liftAdd X.K) := by
  intro pins s σ H x y v u Q I rx ry h
  obtain ⟨W, st, dx, dy, xs, ys, S, r1, r2, e1, e2, hb, q⟩ := h
  have s1 := r1.saw S
  have s2 := r2.saw S
  rw [e1] at s1
  rw [e2] at s2
  have bl := bigLine
  obtain ⟨la, vs, rfl, h1, q1⟩ := saw_lst s1
  obtain ⟨lb, us, rfl, h2, q2⟩ := saw_lst s2
  have l1 := q1.length
  have l2 := q2.length
  exact op_cat pins s σ H _ _ v u Q I rx ry ⟨la, lb, vs, us, rfl, rfl, h1, h2, by omega, newCell S (q1.append q2) q⟩
theorem dAddM (ha : PE X a (tE X.K c Wx ma)) (hb : PE X b (tE X.K c Wx mb)) : PE X (.BinOp a .Add b pos) (tE X.K c Wx (mAddM ma mb)) :=
  PE.weak (pe_op op_addM ha hb) fun σ H Q h => by
    obtain ⟨W, st, env, S, E, p⟩ := h
    refine ⟨W, st, env, S, E, p.bind.mono fun dx st1 p1 x H1 W1 T1 S1 R1 => ⟨W1, st1, env, S1, E.step S T1, (p1.bind.at T1).mono fun dy st2 p2 y H2 W2 T2 S2 R2 => ?_⟩⟩
    split at p2
    · rename_i xs ys e1 e2
      split at p2
      · rename_i hb
        exact ⟨W2, st2, dx, dy, xs, ys, S2, R1.step S1 T2, R2, e1, e2, hb, fun v H' W' T S' R => p2 v H' W' ((T1.trans T2).trans T) S' R⟩
      · exact (show False from p2).elim
    · exact (show False from p2).elim
end
end RP
end
section
set_option Elab.async false
set_option linter.all false
set_option maxRecDepth 100000
/-! A text times a number. -/
namespace RP
open PySem PySem.Spec PyProof.Rows L2
def smulD (st : St) (x y : D) : Option D := match x, y with
  | .str z, .int j => if decide (0 ≤ j) && decide (j ≤ 1000) && decide (z.length ≤ 1000) then some (.str (Txt.mul z j)) else none
  | _, _ => none
section
variable {X : Cx}
theorem op_smulL : OpR X (binaryOp .Mult) (lift2 X.K smulD) := by
  intro pins s σ H x y v u Q I rx ry h
  obtain ⟨W, st, dx, dy, d, S, r1, r2, e, q⟩ := h
  unfold smulD at e
  split at e
  · rename_i z j
    split at e
    · rename_i hc
      cases e
      have hc' : (0 ≤ j ∧ j ≤ 1000) ∧ z.length ≤ 1000 := by simpa using hc
      have e1 := rep_str r1
      have e2 := rep_int r2
      subst e1
      subst e2
      obtain ⟨t, rfl⟩ := rx
      obtain ⟨t2, rfl⟩ := ry
      exact SB.mul (mulOk_of 1000 1000 hc'.2 (by omega) (by omega) (by decide) (by decide)) fun t' k => ⟨.str (Txt.mul z j), H, I.tok _, ⟨t', rfl⟩, q _ H (Step.refl _ _) S (.str _)⟩
    · cases e
  · cases e
end
end RP
end
section
set_option Elab.async false
set_option linter.all false
set_option maxRecDepth 100000
/-! The empty dict, as a cell. -/
namespace RP
open PySem PySem.Spec PyProof.Rows L2
def mDctM : ME := fun c env st => .ok (.ref st.length) (st ++ [.dct [] []])
section
variable {X : Cx} {c : Call} {Wx : WX} {pos : Pos}
theorem dDctM : PE X (.Dict [] [] pos) (tE X.K c Wx mDctM) :=
  PE.weak pe_dnewK fun σ H Q h => by
    obtain ⟨W, st, env, S, E, p⟩ := h
    intro a ha
    have T := Step.cell S (o := .dK []) ha
    refine p _ _ ⟨W.rho ++ [a], W.B⟩ T (S.newcell ha ⟨[], upd_same, .nil, .nil⟩) (.ref ?_)
    show (W.rho ++ [a])[st.length]? = some a
    rw [← S.len]
    simp
end
end RP
end
section
set_option Elab.async false
set_option linter.all false
set_option maxRecDepth 100000
/-! repr of plain data that may hold dicts (and no lists). -/
namespace RP
open PySem PySem.Spec PyProof.Rows L2
def keysOk : List D → Bool
  | [] => true
  | .str _ :: r => keysOk r
  | .int _ :: r => keysOk r
  | _ => false
mutual
def pld : D → Bool
  | .non => true
  | .bl _ => true
  | .int _ => true
  | .str _ => true
  | .tup xs => plds xs
  | .dct ks vs => keysOk ks && (plds ks && (plds vs && decide (ks.length = vs.length)))
  | _ => false
def plds : List D → Bool
  | [] => true
  | x :: xs => pld x && plds xs
end
mutual
def toPyX : D → PyData
  | .bl b => .bool b
  | .int i => .int i
  | .str x => .str x
  | .tup xs => .tuple (toPyXs xs)
  | .dct ks vs => .dict ((toPyXs ks).zip (toPyXs vs))
  | _ => .none
def toPyXs : List D → List PyData
  | [] => []
  | x :: xs => toPyX x :: toPyXs xs
end
def isTupX : D → Bool
  | .tup _ => true
  | _ => false
theorem toPyXs_len : ∀ {xs : List D}, (toPyXs xs).length = xs.length
  | [] => by simp [toPyXs]
  | x :: xs => by simp [toPyXs, toPyXs_len (xs := xs)]
theorem pairs_vals {P : Program} {w : World} : ∀ {kvs : List (Key × V)} {vs : List (Key × Value)} {es : List DictEntry}, KV kvs vs → Pairs (mixKind P w) es vs → Vals (kvs.map fun kv => kV kv.1) (es.map (·.key)) ∧ Vals (kvs.map (·.2)) (es.map (·.val))
  | _, _, _, .nil, .nil => ⟨.nil, .nil⟩
  | _, _, _, .cons h r, .cons h1 h2 r2 => by
    obtain ⟨a, b⟩ := pairs_vals r r2
    refine ⟨.cons ?_ a, .cons (by dsimp only; rw [h2]; exact h.2) b⟩
    dsimp only
    rw [h.1]
    rcases keyIs_shape h1 with ⟨i, t, e1, e2⟩ | ⟨x, t, e1, e2⟩
    · rw [e1, e2]; exact ⟨t, rfl⟩
    · rw [e1, e2]; exact ⟨t, rfl⟩
section
variable {X : Cx} {pins : List (Addr × Obj)} {σ : L2.St} {H : Hp} {s : Shared} {W : Wd}
mutual
theorem Rep.readsX (I : L2.Inv X pins σ H s) : ∀ (d : D) {v : V} {u : Value}, Rep X.K H W v d → pld d = true → RelV v u → ∃ as, Reads s.heap u (toPyX d) as ∧ sysModules ∉ as
  | .non, _, _, .non, _, r => by cases (show _ = Value.none from r); exact ⟨[], by simpa [toPyX] using Reads.none, by simp⟩
  | .bl b, _, _, .bl _, _, r => by cases (show _ = Value.bool b from r); exact ⟨[], by simpa [toPyX] using Reads.bool b, by simp⟩
  | .int i, _, _, .int _, _, r => by obtain ⟨t, rfl⟩ := r; exact ⟨[], by simpa [toPyX] using Reads.int i t, by simp⟩
  | .str x, _, _, .str _, _, r => by obtain ⟨t, rfl⟩ := r; exact ⟨[], by simpa [toPyX] using Reads.str x t, by simp⟩
  | .tup ds, _, _, .tup h hs, hp, r => by
    cases r
    obtain ⟨its, rv, ⟨o, e, hc, n, hd⟩, _⟩ := I.tuple h.sq
    obtain ⟨as, ra, hn⟩ := Reps.readsX I ds hs (by simpa [pld] using hp) rv
    exact ⟨as, by simpa [toPyX] using Reads.tuple e hc hd (by simpa using ra), hn⟩
  | .dct ks vs, _, _, .dct (a := a) rd _ _ rk rv, hp, r => by
    cases r
    simp only [pld, Bool.and_eq_true, decide_eq_true_eq] at hp
    obtain ⟨_, lo, ws, kv, o, es, ep, ho, ex, hd, _, prs, _⟩ := dk_rd I.hok rd
    obtain ⟨v1, v2⟩ := pairs_vals kv prs
    obtain ⟨as, ra, hn⟩ := Reps.readsX I ks rk hp.2.1 v1
    obtain ⟨bs, rb, hm⟩ := Reps.readsX I vs rv hp.2.2.1 v2
    refine ⟨a :: as ++ bs, ?_, ?_⟩
    · rw [toPyX]
      refine Reads.dict ho ex.1 hd ?_ ?_
      · rw [List.map_fst_zip (by rw [toPyXs_len, toPyXs_len]; omega)]; exact ra
      · rw [List.map_snd_zip (by rw [toPyXs_len, toPyXs_len]; omega)]; exact rb
    · have : sysModules ≠ a := fun e => by rw [← e] at lo; simp at lo
      simp [hn, hm, this]
theorem Reps.readsX (I : L2.Inv X pins σ H s) : ∀ (ds : List D) {vs : List V} {us : List Value}, Reps X.K H W vs ds → plds ds = true → Vals vs us → ∃ as, ReadsAll s.heap us (toPyXs ds) as ∧ sysModules ∉ as
  | [], _, _, .nil, _, r => by cases r; exact ⟨[], by simpa [toPyXs] using ReadsAll.nil, by simp⟩
  | d :: ds, _, _, .cons h hs, hp, r => by
    cases r with
    | cons r1 rr =>
      simp only [plds, Bool.and_eq_true] at hp
      obtain ⟨as, e1, n1⟩ := Rep.readsX I d h hp.1 r1
      obtain ⟨bs, e2, n2⟩ := Reps.readsX I ds hs hp.2 rr
      exact ⟨as ++ bs, by simpa [toPyXs] using ReadsAll.cons e1 e2, by simp [n1, n2]⟩
end
end
/-- repr of data that holds a dict -/
def reprX (st : St) (x : D) : Option D :=
  if pld x && isTupX x && (toPyX x).showable && decide ((toPyX x).shown.length ≤ big) && decide ((toPyX x).depth ≤ 90) then some (.str (toPyX x).shown) else none
section
variable {X : Cx}
theorem call_reprX (hgd : X.A.guards = some []) (hu : X.A.units + 101 < cLine) : CallR X (.builtin "repr") (liftN X.K (un1 reprX)) := call_un1 fun pins s σ H x us Q W st dx d I r S rx e q => by
  have bl := bigLine
  unfold reprX at e
  split at e
  · rename_i hc
    simp only [Bool.and_eq_true, decide_eq_true_eq] at hc
    obtain ⟨⟨⟨⟨hp, ht⟩, hs⟩, hsz⟩, hdp⟩ := hc
    cases e
    cases r with
    | cons r1 rn =>
      cases rn
      have fin : ∀ h' u tk, (∀ b o, s.heap.get? b = some o → h'.get? b = some o) → EP X pins σ Q (.str (toPyX dx).shown u) { s with heap := h', toks := tk } := fun h' u tk hk =>
        ⟨.str _, H, I.kept (t' := tk) hk, ⟨_, rfl⟩, q (.str _) H (Step.refl _ _) S (.str _)⟩
      obtain ⟨as, rd, hn⟩ := Rep.readsX I dx rx hp r1
      cases rx with
      | tup h hs' => cases r1; exact repr_of_reads' rd hs (fun _ => hn) hgd (by omega) (fun _ _ e => e) fin (by omega)
      | _ => simp [isTupX] at ht
  · cases e
end
end RP
end
section
set_option Elab.async false
set_option linter.all false
set_option maxRecDepth 100000
set_option maxHeartbeats 1000000
/-! Written dicts of the module (texts to ints): get. -/
namespace RP
open PySem PySem.Spec PyProof.Rows L2
abbrev Tbl := List (Str × Int)
def tLook (t : Tbl) (z : Str) : Option Int := (t.find? fun p => p.1 == z).map (·.2)
/-- a written dict -/
def kF (x : Str) (t : Tbl) : Fc := fun w K mg => ∃ a es n, mg x = some (.ref a) ∧ KDict K w a es n ∧ ∀ z, ∃ r, PySem.W.nsIn K a z = some r ∧ (∀ i, tLook t z = some i → ∃ u, r = some u ∧ RelV (.int i) u) ∧ (tLook t z = none → r = none)
theorem tabW {fa : List He.Fa} {fn : List He.DefD} {ts : List He.Tab} {w : World} {K : PySem.W.Frag} (c : He.SaysT fa fn ts w K) (i : Nat) {t : He.Tab} (h : ts[i]? = some t) : He.dicW K (t.1 K) = some (He.keysIn w.params t.2) := by
  have e : ts.map (fun t => He.dicW K (t.1 K)) = ts.map fun t => some (He.keysIn w.params t.2) := congrArg (fun z : He.AlT => z.2) c
  have e2 : (ts.map fun t => He.dicW K (t.1 K))[i]? = (ts.map fun t => some (He.keysIn w.params t.2))[i]? := by rw [e]
  rw [List.getElem?_map, List.getElem?_map, h] at e2
  exact Option.some.inj e2
theorem keys_none {P : Params} {z : Str} : ∀ {l : List DictEntry} {ks : List Str}, l.map He.keyOf = He.keysIn P ks → z ∉ ks → l.find? (·.key.isStr z) = none ∧ l.any (·.refKey) = false
  | [], _, _, _ => ⟨rfl, rfl⟩
  | e :: r, [], h, _ => by cases h
  | e :: r, k :: ks, h, hz => by
    have h1 : He.keyOf e :: r.map He.keyOf = some (k, PyData.keyHash P k) :: He.keysIn P ks := h
    injection h1 with h2 h3
    obtain ⟨i1, i2⟩ := keys_none (z := z) h3 (fun h => hz (List.mem_cons_of_mem _ h))
    unfold He.keyOf at h2
    split at h2
    · rename_i x t q
      obtain ⟨h5, h6⟩ := Prod.mk.inj (Option.some.inj h2)
      have hne : x ≠ z := fun e => hz (by rw [← e, h5]; exact List.mem_cons_self)
      refine ⟨?_, ?_⟩
      · rw [List.find?_cons, q, i1]
        have : (Value.str x t).isStr z = false := by
          rw [PySem.W.isStr_of]
          simp [Value.isStrOf, hne]
        rw [this]
      · rw [List.any_cons, i2, Bool.or_false]
        simp [DictEntry.refKey, q]
    · cases h2
theorem kF_of {K : PySem.W.Frag} {h : Heap} {mg : Str → Option Value} {w : World} (X : K.In h) (G : h.Ns mainGlobals mg) {x : Str} {t : Tbl} (g : (He.Fa.glo x).ok K = true) (hd : He.dicW K (He.ga K x) = some (He.keysIn w.params (t.map (·.1)))) (hv : He.valsB K (He.ga K x) (t.map fun p => (p.1, He.Dv.int p.2)) = true) : kF x t w K mg := by
  obtain ⟨es, n, D⟩ := He.dicW_ok hd
  refine ⟨_, es, n, He.glo_ok X G g, D, fun z => ?_⟩
  unfold tLook
  cases hl : t.find? fun p => p.1 == z with
  | some p =>
    have hm := List.mem_of_find?_eq_some hl
    have hz : p.1 = z := by simpa using List.find?_some hl
    obtain ⟨u, e, r⟩ := He.valsB_ok hv (q := (p.1, He.Dv.int p.2)) (List.mem_map_of_mem (f := fun p : Str × Int => (p.1, He.Dv.int p.2)) hm)
    refine ⟨some u, by rw [← hz]; exact e, fun i hi => ⟨u, rfl, ?_⟩, fun h => by cases h⟩
    cases hi
    exact r
  | none =>
    have hz : z ∉ t.map (·.1) := fun hin => by
      obtain ⟨p, hp, e⟩ := List.mem_map.mp hin
      have := List.find?_eq_none.mp hl p hp
      simp [e] at this
    unfold He.dicW at hd
    rw [D.at_] at hd
    have low := D.low
    simp only [decide_true, Bool.true_and, low, Bool.not_false, Array.isEmpty_empty] at hd
    obtain ⟨f1, f2⟩ := keys_none (Option.some.inj hd) hz
    refine ⟨none, ?_, (fun i hi => by cases hi), fun _ => rfl⟩
    unfold PySem.W.nsIn
    rw [D.at_]
    simp only [f1, f2]
    rfl
def mTab1 (t : Tbl) (e : ME) : ME := fun c env st => (e c env st).bind fun y st1 => match y with
  | .str z => .ok (((tLook t z).map D.int).getD .non) st1
  | _ => .no
def mTab2 (t : Tbl) (e f : ME) : ME := fun c env st => (e c env st).bind fun y st1 => (f c env st1).bind fun d st2 => match y with
  | .str z => .ok (((tLook t z).map D.int).getD d) st2
  | _ => .no
section
variable {X : Cx} {c : Call} {Wx : WX} {e f : Expr} {me mf : ME} {apos cpos pos : Pos} {x : Str} {t : Tbl}
theorem dTab1 (h : kF x t X.w X.K X.mg) (hg : Gl X x) (hdb : (x == ("__debug__" : Str)) = false) (he : PE X e (tE X.K c Wx me)) (m : M1 X (.Name x pos) "get" apos e cpos) : PE X (.Call (.Attribute (.Name x pos) "get" apos) [e] [] cpos) (tE X.K c Wx (mTab1 t me)) := by
  obtain ⟨a, es, n, hm, D, hz⟩ := h
  have ho : PE X (.Name x pos) (tC (.ref a)) := pe_glob hg hm rfl hdb
  refine ⟨fun pins s σ H Q I h => ?_⟩
  obtain ⟨W, st, env, S, E, p⟩ := h
  refine wpAny_Call_method m.base m.few m.line PySem.F.plainAttrs_dict PySem.F.slot_dict_get PySem.F.type_dict_get (thn (ho.run pins s σ H (fun v H1 => v = .ref a ∧ H1 = H) I ⟨rfl, rfl⟩) fun u s1 ⟨x, H1, I1, rx, ex, eH⟩ => ?_)
  subst ex
  subst eH
  obtain rfl : u = Value.ref a := rx
  have hM := PySem.W.mapOf_K (prog := X.prog) (w := X.w) I1.kIn D.at_ D.lit
  refine ⟨hM.typeIs, fun b q => ?_, ?_⟩
  · cases q
    obtain ⟨ob, _, _, h1, h2, _⟩ := hM
    exact ⟨ob, h1, h2.2.1⟩
  rw [m.trees]
  refine Calls.callWith_builtin rfl (Calls.evalArgs_plain (Calls.spliced_cons (thn (he.run pins s1 σ H1 (fun y H2 => ∃ z o v, y = .str z ∧ PySem.W.nsIn X.K a z = some o ∧ RelV v (o.getD .none) ∧ Q v H2) I1 ⟨W, st, env, S, E, p.bind.mono fun dy st1 p1 y H2 W2 T2 S2 R2 => ?_⟩) fun iv s2 ⟨y, H2, I2, ry, z, o, v, ez, eo, rv, q2⟩ => Calls.spliced_nil ?_)))
  · split at p1
    · rename_i z
      cases R2
      obtain ⟨o, eo, g1, g2⟩ := hz z
      cases hl : tLook t z with
      | some i =>
        obtain ⟨u, rfl, ru⟩ := g1 i hl
        rw [hl] at p1
        exact ⟨z, _, .int i, rfl, eo, ru, p1 (.int i) H2 W2 T2 S2 (.int i)⟩
      | none =>
        cases g2 hl
        rw [hl] at p1
        exact ⟨z, _, .non, rfl, eo, rfl, p1 .non H2 W2 T2 S2 .non⟩
    · exact (show False from p1).elim
  · subst ez
    obtain ⟨tk, rfl⟩ := (show ∃ t, iv = Value.str z t from ry)
    have hM2 := PySem.W.mapOf_K (prog := X.prog) (w := X.w) I2.kIn D.at_ D.lit
    refine call_meetsIn PySem.F.slot_dict_get hM2.typeIs PySem.F.entry_dict_get (PySem.F.args_dict_get_2 _ _) (meets_dict_get (strKind X.prog X.w) a (strKind_is X.prog X.w z tk) D.low) ⟨_, hM2, ?_⟩
    rw [PySem.W.find_K D.at_ eo]
    exact ⟨v, H2, I2.tok _, rv, q2⟩
theorem dTab2 (h : kF x t X.w X.K X.mg) (hg : Gl X x) (hdb : (x == ("__debug__" : Str)) = false) (he : PE X e (tE X.K c Wx me)) (hf : PE X f (tE X.K c Wx mf)) (m : M2 X (.Name x pos) "get" apos e f cpos) : PE X (.Call (.Attribute (.Name x pos) "get" apos) [e, f] [] cpos) (tE X.K c Wx (mTab2 t me mf)) := by
  obtain ⟨a, es, n, hm, D, hz⟩ := h
  have ho : PE X (.Name x pos) (tC (.ref a)) := pe_glob hg hm rfl hdb
  refine ⟨fun pins s σ H Q I h => ?_⟩
  obtain ⟨W, st, env, S, E, p⟩ := h
  refine wpAny_Call_method m.base m.few m.line PySem.F.plainAttrs_dict PySem.F.slot_dict_get PySem.F.type_dict_get (thn (ho.run pins s σ H (fun v H1 => v = .ref a ∧ H1 = H) I ⟨rfl, rfl⟩) fun u s1 ⟨x, H1, I1, rx, ex, eH⟩ => ?_)
  subst ex
  subst eH
  obtain rfl : u = Value.ref a := rx
  have hM := PySem.W.mapOf_K (prog := X.prog) (w := X.w) I1.kIn D.at_ D.lit
  refine ⟨hM.typeIs, fun b q => ?_, ?_⟩
  · cases q
    obtain ⟨ob, _, _, h1, h2, _⟩ := hM
    exact ⟨ob, h1, h2.2.1⟩
  rw [m.trees]
  refine Calls.callWith_builtin rfl (Calls.evalArgs_plain (Calls.spliced_cons (thn (he.run pins s1 σ H1 (fun y H2 => tE X.K c Wx mf σ H2 fun d H3 => ∃ z o v, y = .str z ∧ PySem.W.nsIn X.K a z = some o ∧ (∀ u, RelV d u → RelV v (o.getD u)) ∧ Q v H3) I1 ⟨W, st, env, S, E, p.bind.mono fun dy st1 p1 y H2 W2 T2 S2 R2 => ⟨W2, st1, env, S2, E.step S T2, (p1.bind.at T2).mono fun dd st2 p2 d H3 W3 T3 S3 R3 => ?_⟩⟩) fun iv s2 ⟨y, H2, I2, ry, q2⟩ => Calls.spliced_cons (thn (hf.run pins s2 σ H2 _ I2 q2) fun fv s3 ⟨d, H3, I3, rd, z, o, v, ez, eo, rv, q3⟩ => Calls.spliced_nil ?_))))
  · split at p2
    · rename_i z
      cases R2
      obtain ⟨o, eo, g1, g2⟩ := hz z
      cases hl : tLook t z with
      | some i =>
        obtain ⟨u, rfl, ru⟩ := g1 i hl
        rw [hl] at p2
        exact ⟨z, _, .int i, rfl, eo, fun _ _ => ru, p2 (.int i) H3 W3 (T2.trans T3) S3 (.int i)⟩
      | none =>
        cases g2 hl
        rw [hl] at p2
        exact ⟨z, _, d, rfl, eo, fun _ r => r, p2 d H3 W3 (T2.trans T3) S3 R3⟩
    · exact (show False from p2).elim
  · subst ez
    obtain ⟨tk, rfl⟩ := (show ∃ t, iv = Value.str z t from ry)
    have hM2 := PySem.W.mapOf_K (prog := X.prog) (w := X.w) I3.kIn D.at_ D.lit
    refine call_meetsIn PySem.F.slot_dict_get hM2.typeIs PySem.F.entry_dict_get (PySem.F.args_dict_get_3 _ _ _) (meets_dict_get_default (strKind X.prog X.w) a (strKind_is X.prog X.w z tk) D.low fv) ⟨_, hM2, ?_⟩
    rw [PySem.W.find_K D.at_ eo]
    exact ⟨v, H3, I3.tok _, rv _ rd, q3⟩
end
/-! ### a dict display, as a cell -/
def mPrs : List (ME × ME) → Call → Env → St → R (List (D × D))
  | [] => fun _ _ st => .ok [] st
  | (k, v) :: r => fun c env st => (k c env st).bind fun x st1 => (v c env st1).bind fun y st2 => (mPrs r c env st2).bind fun ps st3 => .ok ((x, y) :: ps) st3
def mDisp (ps : List (ME × ME)) : ME := fun c env st => (mPrs ps c env (st ++ [.dct [] []])).bind fun kvs st1 => match st1[st.length]? with
  | some (.dct [] []) => if (kvs.all fun p => keyish p.1) && decide (kvs.length ≤ 15) then .ok (.ref st.length) (st1.set st.length (.dct (dPuts [] [] kvs).1 (dPuts [] [] kvs).2)) else .no
  | _ => .no
inductive PrV (K : PySem.W.Frag) (H : Hp) (W : Wd) : List (V × V) → List (D × D) → Prop
  | nil : PrV K H W [] []
  | cons {x y : V} {e d : D} {ps : List (V × V)} {eds : List (D × D)} : Rep K H W x e → Rep K H W y d → PrV K H W ps eds → PrV K H W ((x, y) :: ps) ((e, d) :: eds)
theorem prV_keys {K : PySem.W.Frag} {H : Hp} {W : Wd} {ps : List (V × V)} {eds : List (D × D)} (h : PrV K H W ps eds) (hk : (eds.all fun p => keyish p.1) = true) : ∃ kvs : List (Key × V), ps = kvs.map (fun kv => (kV kv.1, kv.2)) ∧ Prd K H W kvs eds ∧ kvs.length = eds.length := by
  induction h with
  | nil => exact ⟨[], rfl, .nil, rfl⟩
  | @cons x y e d ps eds hx hy _ ih =>
    rw [List.all_cons, Bool.and_eq_true] at hk
    obtain ⟨kvs, e1, e2, e3⟩ := ih hk.2
    obtain ⟨k, rfl⟩ := key_rep hx hk.1
    exact ⟨(k, y) :: kvs, by rw [e1]; rfl, .cons hx hy e2, by simp [e3]⟩
section
variable {X : Cx} {c : Call} {Wx : WX} {pos : Pos}
def tPr (K : PySem.W.Frag) (c : Call) (Wx : WX) (ps : List (ME × ME)) : List (TE × TE) := ps.map fun p => (tE K c Wx p.1, tE K c Wx p.2)
theorem dPrNil : PPs X pos [] [] (tPr X.K c Wx []) := pps_nil
theorem dPrCons {k v : Expr} {mk mv : ME} {ks : List (Option Expr)} {vs : List Expr} {ps : List (ME × ME)} (hk : PE X k (tE X.K c Wx mk)) (hv : PE X v (tE X.K c Wx mv)) (hr : PPs X pos ks vs (tPr X.K c Wx ps)) : PPs X pos (some k :: ks) (v :: vs) (tPr X.K c Wx ((mk, mv) :: ps)) := pps_cons hk hv hr
theorem prs_t {K : PySem.W.Frag} {σ : L2.St} {env : Env} : ∀ {ps : List (ME × ME)} {H : Hp} {W : Wd} {st : St} {Q : List (V × V) → Hp → Prop}, Sim K H W st → EnvR K H W σ env →
    Post K Wx σ H W (mPrs ps c env st) (fun eds st1 => ∀ vs H1 W1, Step H W H1 W1 → Sim K H1 W1 st1 → PrV K H1 W1 vs eds → Q vs H1) → tPairs (tPr K c Wx ps) σ H Q
  | [], H, W, st, Q, S, E, p => p [] H W (Step.refl _ _) S .nil
  | (mk, mv) :: ps, H, W, st, Q, S, E, p => by
    refine ⟨W, st, env, S, E, p.bind.mono fun dx st1 p1 x H1 W1 T1 S1 R1 => ⟨W1, st1, env, S1, E.step S T1, (p1.bind.at T1).mono fun dy st2 p2 y H2 W2 T2 S2 R2 => ?_⟩⟩
    refine prs_t (ps := ps) S2 (E.step S (T1.trans T2)) ((p2.bind.at (T1.trans T2)).mono fun eds st3 p3 vs H3 W3 T3 S3 R3 => ?_)
    exact p3 _ H3 W3 ((T1.trans T2).trans T3) S3 (.cons (R1.step S1 (T2.trans T3)) (R2.step S2 T3) R3)
theorem dDisp {ks : List (Option Expr)} {vs : List Expr} {ps : List (ME × ME)} (h : PPs X pos ks vs (tPr X.K c Wx ps)) (hall : ks.all (·.isSome) = true) (hl : ks.length = vs.length) (h0 : ks ≠ []) (h15 : ks.length ≤ 15) : PE X (.Dict ks vs pos) (tE X.K c Wx (mDisp ps)) :=
  PE.weak (pe_disp h hall hl h0 h15) fun σ H Q h => by
    obtain ⟨W, st, env, S, E, p⟩ := h
    intro a ha
    have T := Step.cell S (o := .dK []) ha
    have S' := S.newcell (c := .dct [] []) ha ⟨[], upd_same, .nil, .nil⟩
    have hra : (W.rho ++ [a])[st.length]? = some a := by
      rw [← S.len]
      simp
    refine prs_t S' (E.step S T) ((p.bind.at T).mono fun eds st1 p1 vs H1 W1 T1 S1 R1 => ?_)
    split at p1
    · rename_i hc
      split at p1
      · rename_i hk
        obtain ⟨hk1, hk2⟩ := (Bool.and_eq_true _ _).mp hk
        have hk2 := of_decide_eq_true hk2
        have hr1 : W1.rho[st.length]? = some a := T1.rho hra
        obtain ⟨kvs0, hv, rk, rv⟩ := S1.cell _ a _ hr1 hc
        have : kvs0 = [] := by
          cases kvs0 with
          | nil => rfl
          | cons q r => cases rk
        subst this
        obtain ⟨kvs, e1, e2, e3⟩ := prV_keys R1 hk1
        refine ⟨hv, kvs, e1, by omega, ?_⟩
        have T2 := Step.write S1 (o := .dK (mergeK [] kvs)) hr1
        have pr := puts_rep e2 (kvs := []) .nil .nil
        exact p1 _ _ W1 ((T.trans T1).trans T2) (S1.write hr1 ⟨_, upd_same, pr.1.step S1 T2, pr.2.step S1 T2⟩) (.ref hr1)
      · exact (show False from p1).elim
    · exact (show False from p1).elim
end
end RP
end
section
set_option Elab.async false
set_option linter.all false
set_option maxRecDepth 100000
set_option maxHeartbeats 1000000
/-! sorted(set(..)) as a cell. -/
namespace RP
open PySem PySem.Spec PyProof.Rows L2
noncomputable def mSortSetM (a : ME) : ME := fun c env st => (a c env st).bind fun x st1 => match sortSetD st1 x with
  | some (.lst ds) => .ok (.ref st1.length) (st1 ++ [.lst ds])
  | _ => .no
section
variable {X : Cx} {c : Call} {Wx : WX} {a : Expr} {ma : ME} {p p2 q pos : Pos}
theorem dSortSetM (hc : X.calm = true) (hg : Gl X "sorted") (hm : X.mg "sorted" = none) (hg2 : Gl X "set") (hm2 : X.mg "set" = none) (ha : PE X a (tE X.K c Wx ma)) (na : starEach [a] X.env = (false, eval a X.env) :: starEach [] X.env) :
    PE X (.Call (.Name "sorted" p) [.Call (.Name "set" p2) [a] [] q] [] pos) (tE X.K c Wx (mSortSetM ma)) := by
  refine ⟨fun pins s σ H Q I h => ?_⟩
  refine Call_ (ld_blt I hg hm (by decide +kernel : bootBuiltins "sorted" = some (.builtin "sorted")) ?_)
  refine PyProof.Rows.callWith_builtin1 (PyProof.Rows.args_cons ?_ rfl) rfl rfl
  refine Call_ (ld_blt I hg2 hm2 boot_set ?_)
  obtain ⟨W, st, env, S, En, pp⟩ := h
  refine PyProof.Rows.callWith_type1 (PyProof.Rows.args_cons (thn (ha.run pins s σ H (fun x H1 => ∃ W1 st1 dx ds, Step H W H1 W1 ∧ Sim X.K H1 W1 st1 ∧ Rep X.K H1 W1 x dx ∧ sortSetD st1 dx = some (.lst ds) ∧ Aft X.K H W Q (.ref st1.length) (st1 ++ [.lst ds])) I ⟨W, st, env, S, En, pp.bind.mono fun dx st1 p1 x H1 W1 T1 S1 R1 => ?_⟩) fun v s1 ⟨x, H1, I1, r1, q1⟩ => PyProof.Rows.args_nil ?_) na) na rfl
  · split at p1
    · rename_i ds e
      exact ⟨W1, st1, dx, ds, T1, S1, R1, e, p1⟩
    · exact (show False from p1).elim
  · obtain ⟨W1, st1, dx, d0, T1, S1, R1, e, qq⟩ := q1
    have sw := R1.saw S1
    unfold sortSetD at e
    generalize see st1 dx = ex at sw e
    split at e
    · rename_i ds
      split at e
      · rename_i ss hs
        split at e
        · rename_i hn
          cases e
          obtain ⟨l, xs, rfl, hl, r⟩ := saw_lst sw
          cases r1
          refine set_run hc I1 hl r hs (by omega) fun h' tk b ys hS hp I2 => ?_
          refine PyProof.Rows.args_nil ?_
          have hyl : ys.length ≤ ss.length := by
            have := hS.nd.length_le_of_subset (fun z hz => mem_dedup.mp (hp.mem_iff.mp hz))
            exact this
          have hnd := hS.nd
          replace hS : SetS X.prog X.w ({ s1 with heap := h', toks := tk } : Shared).heap b ys := hS
          generalize ({ s1 with heap := h', toks := tk } : Shared) = s2 at I2 hS ⊢
          refine sorted_setS (s := s2) hS (I2.ok.hd hc) (by omega) fun s' pp out cc zs k1 g1 o1 hp0 hg1 hI pz sz => ?_
          have ez : zs = sortS (dedup ss) := sortS_eq (pz.trans hp) sz
          have hlen : (zs.map V.str).length ≤ sizeLine := by rw [List.length_map, pz.length_eq, sizeLine_eq]; omega
          have hn1 : H1 pp = none := I2.hok.fresh hp0
          have J : Inv X pins σ (upd H1 pp (.lst (zs.map V.str))) { s2 with heap := s'.heap, gens := s'.gens, drawn := s'.drawn, toks := s'.toks } :=
            I2.call (ch := []) (Un.laid k1 hp0 hn1) (I2.hok.laid k1 hp0 ⟨hlen, out.toList, cc, vals_of_strs hI, hg1⟩) (by rw [g1]; exact I2.bare) (fun _ z => nomatch z)
          have es : s' = { s2 with heap := s'.heap, gens := s'.gens, drawn := s'.drawn, toks := s'.toks } := by
            cases s'
            cases s2
            cases o1
            rfl
          rw [es]
          refine ⟨.ref pp, _, J, rfl, ?_⟩
          have rs : ∀ l : List Str, Reps X.K H1 W1 (l.map V.str) (l.map D.str) := by
            intro l
            induction l with
            | nil => exact .nil
            | cons y l ih => exact .cons (.str y) ih
          refine newCell S1 (rs zs) (fun v H' W' T S' R => ?_) pp hn1
          rw [ez] at S'
          exact qq v H' W' (T1.trans T) S' R
        · cases e
      · cases e
    · cases e
end
end RP
end
section
set_option Elab.async false
set_option linter.all false
set_option maxRecDepth 100000
/-! A calculus for the denotations: what is wanted behind them. -/
namespace RP
open PySem
def Ok {α : Type} (r : R α) (Q : α → St → Prop) : Prop := match r with
  | .ok a st => Q a st
  | _ => False
def OkS (r : RS) (qn : Env → St → Prop) (qr : D → St → Prop) (qb qc : Env → St → Prop) : Prop := match r with
  | .nx env st => qn env st
  | .rt d st => qr d st
  | .bk env st => qb env st
  | .ct env st => qc env st
  | _ => False
section
variable {α β : Type} {r : R α} {Q Q' : α → St → Prop} {c : Call} {env : Env} {st : St} {d : D}
theorem Ok.mono (h : Ok r Q) (hq : ∀ a st, Q a st → Q' a st) : Ok r Q' := by
  cases r with
  | ok a st => exact hq a st h
  | er x st => exact h
  | no => exact h
theorem Ok.ex (h : Ok r Q) : ∃ a st, r = .ok a st ∧ Q a st := by
  cases r with
  | ok a st => exact ⟨a, st, rfl, h⟩
  | er x st => exact h.elim
  | no => exact h.elim
theorem ok_ok {a : α} : Ok (R.ok a st) Q ↔ Q a st := Iff.rfl
theorem ok_no : Ok (R.no : R α) Q ↔ False := Iff.rfl
theorem ok_er {x : Xc} : Ok (R.er x st : R α) Q ↔ False := Iff.rfl
theorem ok_bind {k : α → St → R β} {P : β → St → Prop} : Ok (r.bind k) P ↔ Ok r fun a st => Ok (k a st) P := by cases r <;> exact Iff.rfl
theorem ok_of {o : Option α} : Ok (R.of o st) Q ↔ ∃ a, o = some a ∧ Q a st := by
  cases o with
  | none => exact ⟨fun h => h.elim, fun ⟨a, e, _⟩ => by cases e⟩
  | some a => exact ⟨fun h => ⟨a, rfl, h⟩, fun ⟨b, e, h⟩ => by cases e; exact h⟩
theorem ok_of_some {a : α} : Ok (R.of (some a) st) Q ↔ Q a st := Iff.rfl
theorem ok_if {p : Prop} [Decidable p] {r' : R α} : Ok (if p then r else r') Q ↔ if p then Ok r Q else Ok r' Q := by
  by_cases h : p <;> simp [h]
end
section
variable {c : Call} {env : Env} {st : St} {d : D} {Q : D → St → Prop} {QB : Bool → St → Prop} {QA : List D → St → Prop} {ma mb me : ME} {ta tb : MT} {ms : List ME}
theorem ok_var {i : Nat} : Ok (mVar i c env st) Q ↔ ∃ d, env[i]? = some (some d) ∧ Q d st := by
  unfold mVar
  split
  · rename_i d h
    exact ⟨fun q => ⟨d, h, q⟩, fun ⟨e, h', q⟩ => by rw [h] at h'; cases h'; exact q⟩
  · rename_i h
    exact ⟨fun q => q.elim, fun ⟨e, h', q⟩ => (h e h').elim⟩
theorem ok_cst : Ok (mCst d c env st) Q ↔ Q d st := Iff.rfl
theorem ok_nil : Ok (mArgs [] c env st) QA ↔ QA [] st := Iff.rfl
theorem ok_cons : Ok (mArgs (ma :: ms) c env st) QA ↔ Ok (ma c env st) fun d st1 => Ok (mArgs ms c env st1) fun ds st2 => QA (d :: ds) st2 := by
  show Ok (R.bind _ _) _ ↔ _
  rw [ok_bind]
  simp only [ok_bind, ok_ok]
theorem ok_tup : Ok (mTup ms c env st) Q ↔ Ok (mArgs ms c env st) fun ds st1 => Q (.tup ds) st1 := by show Ok (R.bind _ _) _ ↔ _; simp only [ok_bind, ok_ok]
theorem ok_lst : Ok (mLst ms c env st) Q ↔ Ok (mArgs ms c env st) fun ds st1 => Q (.lst ds) st1 := by show Ok (R.bind _ _) _ ↔ _; simp only [ok_bind, ok_ok]
theorem ok_lstM : Ok (mLstM ms c env st) Q ↔ Ok (mArgs ms c env st) fun ds st1 => Q (.ref st1.length) (st1 ++ [.lst ds]) := by show Ok (R.bind _ _) _ ↔ _; simp only [ok_bind, ok_ok]
theorem ok_op2 {f : St → D → D → Option D} : Ok (mOp2 f ma mb c env st) Q ↔ Ok (ma c env st) fun x st1 => Ok (mb c env st1) fun y st2 => ∃ d, f st2 x y = some d ∧ Q d st2 := by show Ok (R.bind _ _) _ ↔ _; simp only [ok_bind, ok_of]
theorem ok_op1 {f : St → D → Option D} : Ok (mOp1 f ma c env st) Q ↔ Ok (ma c env st) fun x st1 => ∃ d, f st1 x = some d ∧ Q d st1 := by show Ok (R.bind _ _) _ ↔ _; simp only [ok_bind, ok_of]
theorem ok_blt {f : St → List D → Option D} : Ok (mBlt f ms c env st) Q ↔ Ok (mArgs ms c env st) fun ds st1 => ∃ d, f st1 ds = some d ∧ Q d st1 := by show Ok (R.bind _ _) _ ↔ _; simp only [ok_bind, ok_of]
theorem ok_listM : Ok (mListM ma c env st) Q ↔ Ok (ma c env st) fun x st1 => ∃ xs, listD st1 x = some (.lst xs) ∧ Q (.ref st1.length) (st1 ++ [.lst xs]) := by
  show Ok (R.bind _ _) _ ↔ _
  simp only [ok_bind]
  refine iff_of_eq (congrArg (Ok (ma c env st)) (funext fun x => funext fun st1 => propext ?_))
  split
  · rename_i xs h
    exact ⟨fun q => ⟨xs, h, q⟩, fun ⟨ys, e, q⟩ => by rw [h] at e; cases e; exact q⟩
  · rename_i h
    exact ⟨fun q => q.elim, fun ⟨ys, e, q⟩ => (h ys e).elim⟩
theorem ok_chain {f g : St → D → D → Option D} : Ok (mChain f g ma mb me c env st) Q ↔ Ok (ma c env st) fun x st1 => Ok (mb c env st1) fun y st2 => (f st2 x y = some (.bl true) ∧ Ok (me c env st2) fun z st3 => ∃ d, g st3 y z = some d ∧ Q d st3) ∨ (f st2 x y = some (.bl false) ∧ Q (.bl false) st2) := by
  show Ok (R.bind _ _) _ ↔ _
  simp only [ok_bind]
  refine iff_of_eq (congrArg (Ok (ma c env st)) (funext fun x => funext fun st1 => congrArg (Ok (mb c env st1)) (funext fun y => funext fun st2 => propext ?_)))
  split
  · rename_i h; simp [h, ok_bind, ok_of]
  · rename_i h; simp [h, ok_ok]
  · rename_i h1 h2; simp only [ok_no, false_iff]; exact fun z => z.elim (fun y => h1 y.1) (fun y => h2 y.1)
theorem ok_and : Ok (mAnd ma mb c env st) Q ↔ Ok (ma c env st) fun x st1 => ∃ b, tru st1 x = some b ∧ (if b = true then Ok (mb c env st1) Q else Q x st1) := by
  show Ok (R.bind _ _) _ ↔ _
  simp only [ok_bind]
  refine iff_of_eq (congrArg (Ok (ma c env st)) (funext fun x => funext fun st1 => propext ?_))
  cases h : tru st1 x with
  | none => simp [ok_no]
  | some b => cases b <;> simp [ok_ok]
theorem ok_or : Ok (mOr ma mb c env st) Q ↔ Ok (ma c env st) fun x st1 => ∃ b, tru st1 x = some b ∧ (if b = true then Q x st1 else Ok (mb c env st1) Q) := by
  show Ok (R.bind _ _) _ ↔ _
  simp only [ok_bind]
  refine iff_of_eq (congrArg (Ok (ma c env st)) (funext fun x => funext fun st1 => propext ?_))
  cases h : tru st1 x with
  | none => simp [ok_no]
  | some b => cases b <;> simp [ok_ok]
theorem ok_not : Ok (mNot ma c env st) Q ↔ Ok (ma c env st) fun x st1 => ∃ b, tru st1 x = some b ∧ Q (.bl (!b)) st1 := by
  show Ok (R.bind _ _) _ ↔ _
  simp only [ok_bind, ok_of]
  refine iff_of_eq (congrArg (Ok (ma c env st)) (funext fun x => funext fun st1 => propext ?_))
  cases h : tru st1 x with
  | none => simp
  | some b => simp
theorem ok_tval : Ok (tVal ma c env st) QB ↔ Ok (ma c env st) fun x st1 => ∃ b, tru st1 x = some b ∧ QB b st1 := by show Ok (R.bind _ _) _ ↔ _; simp only [ok_bind, ok_of]
theorem ok_band : Ok (bAnd ta tb c env st) QB ↔ Ok (ta c env st) fun x st1 => if x = true then Ok (tb c env st1) QB else QB false st1 := by
  show Ok (R.bind _ _) _ ↔ _
  rw [ok_bind]
  simp only [ok_if, ok_ok]
theorem ok_bor : Ok (bOr ta tb c env st) QB ↔ Ok (ta c env st) fun x st1 => if x = true then QB true st1 else Ok (tb c env st1) QB := by
  show Ok (R.bind _ _) _ ↔ _
  rw [ok_bind]
  simp only [ok_if, ok_ok]
theorem ok_bnot : Ok (bNot ta c env st) QB ↔ Ok (ta c env st) fun x st1 => QB (!x) st1 := by show Ok (R.bind _ _) _ ↔ _; simp only [ok_bind, ok_ok]
theorem ok_yes : Ok (tYesM c env st) QB ↔ QB true st := Iff.rfl
theorem ok_mif : Ok (mIf ta ma mb c env st) Q ↔ Ok (ta c env st) fun x st1 => if x = true then Ok (ma c env st1) Q else Ok (mb c env st1) Q := by
  show Ok (R.bind _ _) _ ↔ _
  rw [ok_bind]
  simp only [ok_if]
theorem ok_callM {f : Str} : Ok (mCallM f ms c env st) Q ↔ Ok (mArgs ms c env st) fun ds st1 => Ok (c f ds st1) Q := by show Ok (R.bind _ _) _ ↔ _; simp only [ok_bind]
theorem ok_call {f : Str} : Ok (mCall f ms c env st) Q ↔ Ok (mArgs ms c env st) fun ds st1 => Ok (ice st1 (c f ds st1)) Q := by show Ok (R.bind _ _) _ ↔ _; simp only [ok_bind]
theorem ok_lm {f : Meth} : Ok (mLm f ma ms c env st) Q ↔ Ok (ma c env st) fun x st1 => isL st1 x = true ∧ Ok (mArgs ms c env st1) fun ds st2 => ∃ d st3, f st2 x ds = some (d, st3) ∧ Q d st3 := by
  show Ok (R.bind _ _) _ ↔ _
  simp only [ok_bind, ok_if, ok_no]
  refine iff_of_eq (congrArg (Ok (ma c env st)) (funext fun x => funext fun st1 => propext ?_))
  by_cases h : isL st1 x = true
  · simp only [h, if_true, true_and]
    refine iff_of_eq (congrArg (Ok (mArgs ms c env st1)) (funext fun ds => funext fun st2 => propext ?_))
    cases h2 : f st2 x ds with
    | none => simp [ok_no]
    | some p => obtain ⟨d, st3⟩ := p; exact ⟨fun q => ⟨d, st3, rfl, q⟩, fun ⟨_, _, e, q⟩ => by cases e; exact q⟩
  · simp [h]
theorem ok_sm {f : SMeth} : Ok (mSm f ma ms c env st) Q ↔ Ok (ma c env st) fun x st1 => ∃ z, x = .str z ∧ Ok (mArgs ms c env st1) fun ds st2 => ∃ d, f st2 z ds = some d ∧ Q d st2 := by
  show Ok (R.bind _ _) _ ↔ _
  simp only [ok_bind]
  refine iff_of_eq (congrArg (Ok (ma c env st)) (funext fun x => funext fun st1 => propext ?_))
  cases x <;> simp [ok_no, ok_bind, ok_of]
theorem ok_get1 : Ok (mGet1 ma mb c env st) Q ↔ Ok (ma c env st) fun x st1 => isDc st1 x = true ∧ Ok (mb c env st1) fun y st2 => ∃ ks vs, see st2 x = .dct ks vs ∧ keyish y = true ∧ Q ((look ks vs y).getD .non) st2 := by
  show Ok (R.bind _ _) _ ↔ _
  simp only [ok_bind, ok_if, ok_no]
  refine iff_of_eq (congrArg (Ok (ma c env st)) (funext fun x => funext fun st1 => propext ?_))
  by_cases h : isDc st1 x = true
  · simp only [h, if_true, true_and]
    refine iff_of_eq (congrArg (Ok (mb c env st1)) (funext fun y => funext fun st2 => propext ?_))
    split
    · rename_i ks vs h2
      by_cases hk : keyish y = true
      · rw [if_pos hk]
        exact ⟨fun q => ⟨ks, vs, h2, hk, q⟩, fun ⟨ks', vs', e, _, q⟩ => by rw [h2] at e; cases e; exact q⟩
      · rw [if_neg hk]
        exact ⟨fun q => q.elim, fun ⟨_, _, _, k, _⟩ => (hk k).elim⟩
    · rename_i h2
      exact ⟨fun q => q.elim, fun ⟨ks', vs', e, _⟩ => (h2 _ _ e).elim⟩
  · simp [h]
theorem ok_get2 : Ok (mGet2 ma mb me c env st) Q ↔ Ok (ma c env st) fun x st1 => isDc st1 x = true ∧ Ok (mb c env st1) fun y st2 => Ok (me c env st2) fun z st3 => ∃ ks vs, see st3 x = .dct ks vs ∧ keyish y = true ∧ Q ((look ks vs y).getD z) st3 := by
  show Ok (R.bind _ _) _ ↔ _
  simp only [ok_bind, ok_if, ok_no]
  refine iff_of_eq (congrArg (Ok (ma c env st)) (funext fun x => funext fun st1 => propext ?_))
  by_cases h : isDc st1 x = true
  · simp only [h, if_true, true_and]
    refine iff_of_eq (congrArg (Ok (mb c env st1)) (funext fun y => funext fun st2 => congrArg (Ok (me c env st2)) (funext fun z => funext fun st3 => propext ?_)))
    split
    · rename_i ks vs h2
      by_cases hk : keyish y = true
      · rw [if_pos hk]
        exact ⟨fun q => ⟨ks, vs, h2, hk, q⟩, fun ⟨ks', vs', e, _, q⟩ => by rw [h2] at e; cases e; exact q⟩
      · rw [if_neg hk]
        exact ⟨fun q => q.elim, fun ⟨_, _, _, k, _⟩ => (hk k).elim⟩
    · rename_i h2
      exact ⟨fun q => q.elim, fun ⟨ks', vs', e, _⟩ => (h2 _ _ e).elim⟩
  · simp [h]
theorem ok_addM : Ok (mAddM ma mb c env st) Q ↔ Ok (ma c env st) fun x st1 => Ok (mb c env st1) fun y st2 => ∃ xs ys, see st2 x = .lst xs ∧ see st2 y = .lst ys ∧ xs.length + ys.length ≤ big ∧ Q (.ref st2.length) (st2 ++ [.lst (xs ++ ys)]) := by
  show Ok (R.bind _ _) _ ↔ _
  simp only [ok_bind]
  refine iff_of_eq (congrArg (Ok (ma c env st)) (funext fun x => funext fun st1 => congrArg (Ok (mb c env st1)) (funext fun y => funext fun st2 => propext ?_)))
  split
  · rename_i xs ys e1 e2
    by_cases h : xs.length + ys.length ≤ big
    · rw [if_pos h]
      exact ⟨fun q => ⟨xs, ys, e1, e2, h, q⟩, fun ⟨xs', ys', f1, f2, _, q⟩ => by rw [e1] at f1; rw [e2] at f2; cases f1; cases f2; exact q⟩
    · rw [if_neg h]
      exact ⟨fun q => q.elim, fun ⟨xs', ys', f1, f2, k, _⟩ => by rw [e1] at f1; rw [e2] at f2; cases f1; cases f2; exact (h k).elim⟩
  · rename_i hno
    exact ⟨fun q => q.elim, fun ⟨xs', ys', f1, f2, _⟩ => (hno _ _ f1 f2).elim⟩
theorem ok_optN {QO : Option Int → St → Prop} : Ok (optI none c env st) QO ↔ QO none st := Iff.rfl
theorem ok_optS {QO : Option Int → St → Prop} : Ok (optI (some me) c env st) QO ↔ Ok (me c env st) fun d st1 => ∃ i, d = .int i ∧ QO (some i) st1 := by
  show Ok (R.bind _ _) _ ↔ _
  simp only [ok_bind]
  refine iff_of_eq (congrArg (Ok (me c env st)) (funext fun x => funext fun st1 => propext ?_))
  cases x <;> simp [ok_no, ok_ok]
theorem ok_slice {lo hi : Option ME} : Ok (mSlice ma lo hi c env st) Q ↔ Ok (ma c env st) fun x st1 => Ok (optI lo c env st1) fun i st2 => Ok (optI hi c env st2) fun j st3 => ∃ d, sliceD st3 x i j = some d ∧ Q d st3 := by show Ok (R.bind _ _) _ ↔ _; simp only [ok_bind, ok_of]
theorem ok_ival {QI : List D × Option Nat → St → Prop} : Ok (iVal ma c env st) QI ↔ Ok (ma c env st) fun x st1 => ∃ p, itD st1 x = some p ∧ QI p st1 := by show Ok (R.bind _ _) _ ↔ _; simp only [ok_bind, ok_of]
theorem ok_range1 {QI : List D × Option Nat → St → Prop} : Ok (iRange1 ma c env st) QI ↔ Ok (ma c env st) fun x st1 => ∃ n : Int, x = .int n ∧ (-(big : Int) ≤ n ∧ n ≤ (big : Int)) ∧ QI ((List.range n.toNat).map fun (k : Nat) => .int k, none) st1 := by
  show Ok (R.bind _ _) _ ↔ _
  simp only [ok_bind]
  refine iff_of_eq (congrArg (Ok (ma c env st)) (funext fun x => funext fun st1 => propext ?_))
  cases x <;> simp [ok_no, ok_ok, ok_if]
theorem ok_range2 {QI : List D × Option Nat → St → Prop} : Ok (iRange2 ma mb c env st) QI ↔ Ok (ma c env st) fun x st1 => Ok (mb c env st1) fun y st2 => ∃ m n : Int, x = .int m ∧ y = .int n ∧ (-(big : Int) ≤ m ∧ m ≤ (big : Int) ∧ -(big : Int) ≤ n ∧ n ≤ (big : Int)) ∧ QI ((List.range (n - m).toNat).map fun (k : Nat) => .int (m + k), none) st2 := by
  show Ok (R.bind _ _) _ ↔ _
  simp only [ok_bind]
  refine iff_of_eq (congrArg (Ok (ma c env st)) (funext fun x => funext fun st1 => congrArg (Ok (mb c env st1)) (funext fun y => funext fun st2 => propext ?_)))
  cases x <;> cases y <;> simp [ok_no, ok_ok, ok_if, and_assoc]
theorem ok_zip {QI : List D × Option Nat → St → Prop} : Ok (iZip ma mb c env st) QI ↔ Ok (ma c env st) fun x st1 => Ok (mb c env st1) fun y st2 => ∃ xs ys, x = .tup xs ∧ y = .tup ys ∧ QI (List.zipWith (fun x y => D.tup [x, y]) xs ys, none) st2 := by
  show Ok (R.bind _ _) _ ↔ _
  simp only [ok_bind, ok_cons, ok_nil]
  refine iff_of_eq (congrArg (Ok (ma c env st)) (funext fun x => funext fun st1 => congrArg (Ok (mb c env st1)) (funext fun y => funext fun st2 => propext ?_)))
  cases x <;> cases y <;> simp [ok_no, ok_ok]
theorem ok_comp {own : List Nat} {it : MI} {g : MG} {ts : MT} {elt : ME} : Ok (mComp own it g ts elt c env st) Q ↔ Ok (it c env st) fun p st1 => Ok (compL c p.2 p.1 g ts elt (wipeE env own) p.1 st1) fun ys st2 => Q (.lst ys) st2 := by show Ok (R.bind _ _) _ ↔ _; simp only [ok_bind, ok_ok]
theorem ok_compM {own : List Nat} {it : MI} {g : MG} {ts : MT} {elt : ME} : Ok (mCompM own it g ts elt c env st) Q ↔ Ok (it c env st) fun p st1 => Ok (compL c p.2 p.1 g ts elt (wipeE env own) p.1 st1) fun ys st2 => Q (.ref st2.length) (st2 ++ [.lst ys]) := by show Ok (R.bind _ _) _ ↔ _; simp only [ok_bind, ok_ok]
end
section
variable {c : Call} {env : Env} {st : St} {qn qb qc : Env → St → Prop} {qr : D → St → Prop} {me mo mi : ME} {ta : MT} {a b : MS} {g : MG} {it : MI}
theorem OkS.mono {r : RS} {qn' qb' qc' : Env → St → Prop} {qr' : D → St → Prop} (h : OkS r qn qr qb qc) (hn : ∀ e s, qn e s → qn' e s) (hr : ∀ e s, qr e s → qr' e s) (hb : ∀ e s, qb e s → qb' e s) (hc : ∀ e s, qc e s → qc' e s) : OkS r qn' qr' qb' qc' := by
  cases r with
  | nx e s => exact hn e s h
  | rt e s => exact hr e s h
  | bk e s => exact hb e s h
  | ct e s => exact hc e s h
  | er x e s => exact h
  | no => exact h
theorem s_nx {e : Env} {s : St} : OkS (.nx e s) qn qr qb qc ↔ qn e s := Iff.rfl
theorem s_ofR {α : Type} {r : R α} {k : α → St → RS} : OkS (RS.ofR r env k) qn qr qb qc ↔ Ok r fun x st1 => OkS (k x st1) qn qr qb qc := by cases r <;> exact Iff.rfl
theorem s_skip : OkS (sSkip c env st) qn qr qb qc ↔ qn env st := Iff.rfl
theorem s_seq : OkS (sSeq a b c env st) qn qr qb qc ↔ OkS (a c env st) (fun e s => OkS (b c e s) qn qr qb qc) qr qb qc := by
  show OkS (RS.bind (a c env st) _) _ _ _ _ ↔ _
  cases a c env st <;> exact Iff.rfl
theorem seq_mid (P : Env → St → Prop) (h1 : OkS (a c env st) P qr qb qc) (h2 : ∀ e s, P e s → OkS (b c e s) qn qr qb qc) : OkS (sSeq a b c env st) qn qr qb qc := s_seq.mpr (h1.mono h2 (fun _ _ h => h) (fun _ _ h => h) (fun _ _ h => h))
theorem s_expr : OkS (sExpr me c env st) qn qr qb qc ↔ Ok (me c env st) fun _ st1 => qn env st1 := by show OkS (RS.ofR _ _ _) _ _ _ _ ↔ _; rw [s_ofR]; exact Iff.rfl
theorem s_asg : OkS (sAsg g me c env st) qn qr qb qc ↔ Ok (me c env st) fun d st1 => ∃ env1, g d env = some env1 ∧ qn env1 st1 := by
  show OkS (RS.ofR _ _ _) _ _ _ _ ↔ _
  rw [s_ofR]
  refine iff_of_eq (congrArg (Ok (me c env st)) (funext fun x => funext fun st1 => propext ?_))
  cases h : g x env with
  | none => simp [OkS]
  | some e => simp [OkS]
theorem s_put : OkS (sPut mo mi me c env st) qn qr qb qc ↔ Ok (me c env st) fun d st1 => Ok (mo c env st1) fun x st2 => Ok (mi c env st2) fun y st3 => ∃ st4, putIx st3 x y d = some st4 ∧ qn env st4 := by
  show OkS (RS.ofR _ _ _) _ _ _ _ ↔ _
  rw [s_ofR]
  simp only [s_ofR]
  refine iff_of_eq (congrArg (Ok (me c env st)) (funext fun d => funext fun st1 => congrArg (Ok (mo c env st1)) (funext fun x => funext fun st2 => congrArg (Ok (mi c env st2)) (funext fun y => funext fun st3 => propext ?_))))
  cases h : putIx st3 x y d with
  | none => simp [OkS]
  | some e => simp [OkS]
theorem s_ret : OkS (sRet me c env st) qn qr qb qc ↔ Ok (me c env st) qr := by show OkS (RS.ofR _ _ _) _ _ _ _ ↔ _; rw [s_ofR]; exact Iff.rfl
theorem s_retN : OkS (sRetN c env st) qn qr qb qc ↔ qr .non st := Iff.rfl
theorem s_brk : OkS (sBrk c env st) qn qr qb qc ↔ qb env st := Iff.rfl
theorem s_cnt : OkS (sCnt c env st) qn qr qb qc ↔ qc env st := Iff.rfl
theorem s_if : OkS (sIf ta a b c env st) qn qr qb qc ↔ Ok (ta c env st) fun x st1 => if x = true then OkS (a c env st1) qn qr qb qc else OkS (b c env st1) qn qr qb qc := by
  show OkS (RS.ofR _ _ _) _ _ _ _ ↔ _
  rw [s_ofR]
  refine iff_of_eq (congrArg (Ok (ta c env st)) (funext fun x => funext fun st1 => propext ?_))
  cases x <;> simp
theorem s_for : OkS (sFor it g a c env st) qn qr qb qc ↔ Ok (it c env st) fun p st1 => OkS (forL c p.2 p.1 g a p.1 env st1) qn qr qb qc := by show OkS (RS.ofR _ _ _) _ _ _ _ ↔ _; rw [s_ofR]
theorem s_while : OkS (sWhile ta a c env st) qn qr qb qc ↔ OkS (whileN c ta a wMost env st) qn qr qb qc := Iff.rfl
end
/-! ### loops -/
section
variable {c : Call} {gd : Option Nat} {all : List D} {g : MG} {ts : MT} {elt : ME} {a : MS}
/-- a comprehension, item by item: I is kept by the states, P tells of the made list -/
theorem comp_inv {env : Env} (I : List D → List D → St → Prop) : ∀ (xs done : List D) (ys : List D) (st : St) (Q : List D → St → Prop), I done ys st →
    (∀ (x : D) (rest done ys : List D) (st : St), done ++ x :: rest = all → I done ys st → ∃ env1, g x env = some env1 ∧ Ok (ts c env1 st) fun b st1 => if b = true then Ok (elt c env1 st1) fun y st2 => I (done ++ [x]) (ys ++ [y]) st2 else I (done ++ [x]) ys st1) →
    (∀ done ys st, I done ys st → gOk gd all st) → done ++ xs = all → (∀ ys' st', I all (ys ++ ys') st' → Q ys' st') → Ok (compL c gd all g ts elt env xs st) Q
  | [], done, ys, st, Q, h, turn, hg, he, q => by
    unfold compL
    rw [if_pos (hg _ _ _ h)]
    rw [List.append_nil] at he
    subst he
    exact q [] st (by simpa using h)
  | x :: xs, done, ys, st, Q, h, turn, hg, he, q => by
    unfold compL
    rw [if_pos (hg _ _ _ h)]
    obtain ⟨env1, e1, t1⟩ := turn x xs done ys st he h
    rw [e1]
    show Ok (R.bind (ts c env1 st).calm _) Q
    rw [ok_bind]
    have calm : ∀ {α : Type} {r : R α} {P : α → St → Prop}, Ok r P → Ok r.calm P := fun {α r P} h => by cases r <;> exact h
    refine calm (t1.mono fun b st1 t2 => ?_)
    cases b with
    | true =>
      simp only [if_true] at t2 ⊢
      rw [ok_bind]
      refine calm (t2.mono fun y st2 t3 => ?_)
      rw [ok_bind]
      refine comp_inv I xs (done ++ [x]) (ys ++ [y]) st2 _ t3 turn hg (by simpa using he) fun ys' st' t4 => ?_
      exact q (y :: ys') st' (by simpa using t4)
    | false =>
      simp only [Bool.false_eq_true, if_false] at t2 ⊢
      exact comp_inv I xs (done ++ [x]) ys st1 _ t2 turn hg (by simpa using he) q
/-- .. where nothing is changed: the items by f, those with p alone -/
theorem comp_pure {env : Env} {st : St} (p : D → Bool) (f : D → D) (hg : gOk gd all st) : ∀ (xs : List D) (Q : List D → St → Prop), (∀ x ∈ xs, ∃ env1, g x env = some env1 ∧ ts c env1 st = .ok (p x) st ∧ (p x = true → elt c env1 st = .ok (f x) st)) →
    Q ((xs.filter p).map f) st → Ok (compL c gd all g ts elt env xs st) Q
  | [], Q, turn, q => by
    unfold compL
    rw [if_pos hg]
    exact q
  | x :: xs, Q, turn, q => by
    unfold compL
    rw [if_pos hg]
    obtain ⟨env1, e1, e2, e3⟩ := turn x List.mem_cons_self
    rw [e1]
    show Ok (R.bind (ts c env1 st).calm _) Q
    rw [e2]
    show Ok (if p x = true then _ else _) Q
    rw [ok_if]
    by_cases hp : p x = true
    · rw [if_pos hp, e3 hp]
      show Ok (R.bind (compL c gd all g ts elt env xs st) fun ys st3 => R.ok (f x :: ys) st3) Q
      rw [ok_bind]
      refine comp_pure p f hg xs _ (fun y hy => turn y (List.mem_cons_of_mem _ hy)) ?_
      rw [List.filter_cons_of_pos hp] at q
      exact q
    · rw [if_neg hp]
      refine comp_pure p f hg xs _ (fun y hy => turn y (List.mem_cons_of_mem _ hy)) ?_
      rw [List.filter_cons_of_neg hp] at q
      exact q
/-- a for: I by what is done -/
theorem for_inv (I : List D → Env → St → Prop) {qn : Env → St → Prop} {qr : D → St → Prop} {qb qc : Env → St → Prop} : ∀ (xs done : List D) (env : Env) (st : St), I done env st →
    (∀ (x : D) (rest done : List D) (env : Env) (st : St), done ++ x :: rest = all → I done env st → ∃ env1, g x env = some env1 ∧ OkS (a c env1 st) (I (done ++ [x])) qr qn (I (done ++ [x]))) →
    (∀ done env st, I done env st → gOk gd all st) → done ++ xs = all → (∀ env st, I all env st → qn env st) → OkS (forL c gd all g a xs env st) qn qr qb qc
  | [], done, env, st, h, turn, hg, he, q => by
    unfold forL
    rw [if_pos (hg _ _ _ h)]
    rw [List.append_nil] at he
    subst he
    exact q env st h
  | x :: xs, done, env, st, h, turn, hg, he, q => by
    unfold forL
    rw [if_pos (hg _ _ _ h)]
    obtain ⟨env1, e1, t1⟩ := turn x xs done env st he h
    rw [e1]
    show OkS (match a c env1 st with
        | .nx env2 st2 => forL c gd all g a xs env2 st2
        | .ct env2 st2 => forL c gd all g a xs env2 st2
        | .bk env2 st2 => .nx env2 st2
        | r => r) qn qr qb qc
    generalize a c env1 st = r at t1 ⊢
    cases r with
    | nx e s => exact for_inv I xs (done ++ [x]) e s t1 turn hg (by simpa using he) q
    | ct e s => exact for_inv I xs (done ++ [x]) e s t1 turn hg (by simpa using he) q
    | bk e s => exact t1
    | rt d s => exact t1
    | er y e s => exact t1
    | no => exact t1
/-- a while: I with its measure -/
theorem while_inv {ta : MT} (I : Nat → Env → St → Prop) {qn : Env → St → Prop} {qr : D → St → Prop} {qb qc : Env → St → Prop} (turn : ∀ n env st, I n env st → Ok (ta c env st) fun b st1 => if b = true then 0 < n ∧ OkS (a c env st1) (fun e s => ∃ m, m < n ∧ I m e s) qr qn (fun e s => ∃ m, m < n ∧ I m e s) else qn env st1) :
    ∀ (N n : Nat) (env : Env) (st : St), I n env st → n < N → OkS (whileN c ta a N env st) qn qr qb qc
  | 0, n, env, st, h, hn => by omega
  | N + 1, n, env, st, h, hn => by
    unfold whileN
    rw [s_ofR]
    refine (turn n env st h).mono fun b st1 t => ?_
    cases b with
    | false =>
      simp only [Bool.false_eq_true, if_false] at t ⊢
      exact t
    | true =>
      simp only [if_true] at t ⊢
      obtain ⟨h0, t⟩ := t
      generalize a c env st1 = r at t ⊢
      cases r with
      | nx e s => obtain ⟨m, hm, i⟩ := t; exact while_inv I turn N m e s i (by omega)
      | ct e s => obtain ⟨m, hm, i⟩ := t; exact while_inv I turn N m e s i (by omega)
      | bk e s => exact t
      | rt d s => exact t
      | er y e s => exact t
      | no => exact t
end
/-! ### functions -/
theorem run_at {L : List FI} (hnd : (L.map (·.name)).Nodup) {k : Nat} {i : FI} (h : L[k]? = some i) (n : Nat) (ds : List D) (st : St) : run (tabOf L) (n + 1) i.name ds st = runFn (run (tabOf L) n) i.fn ds st := by
  show (match tabOf L i.name with | some fn => runFn (run (tabOf L) n) fn ds st | none => .no) = _
  rw [tab_ok hnd k i h]
theorem ok_fn {f : Fn} {c : Call} {ds : List D} {st : St} {Q : D → St → Prop} (hl : ds.length = f.np) (h : OkS (f.body c (ds.map some ++ List.replicate (f.ns - f.np) none) st) (fun _ st1 => Ok (gc st .non st1) Q) (fun d st1 => Ok (gc st d st1) Q) (fun _ _ => False) (fun _ _ => False)) : Ok (runFn c f ds st) Q := by
  unfold runFn
  rw [if_pos hl]
  generalize f.body c (ds.map some ++ List.replicate (f.ns - f.np) none) st = r at h ⊢
  cases r with
  | nx e s => exact h
  | rt d s => exact h
  | bk e s => exact h.elim
  | ct e s => exact h.elim
  | er x e s => exact h.elim
  | no => exact h.elim
theorem gc_same {st st' : St} {d : D} (h : st'.length = st.length) : gc st d st' = .ok d st' := by unfold gc; rw [if_pos h]
theorem gc_val {st st' : St} {d : D} (h : st.length ≤ st'.length) (ho : Old st st') (hb : bel st.length d = true) : gc st d st' = .ok d (st'.take st.length) := by
  unfold gc
  by_cases he : st'.length = st.length
  · rw [if_pos he, ← he, List.take_length]
  · rw [if_neg he, if_pos ⟨h, ho⟩, if_pos hb]
theorem gc_ref {st st' : St} {k : Nat} {cl : Cell} (h : st.length ≤ k) (hk : st'[k]? = some cl) (ho : Old st st') (hb : belC st.length cl = true) : gc st (.ref k) st' = .ok (.ref st.length) (st'.take st.length ++ [cl]) := by
  have hl := (List.getElem?_eq_some_iff.mp hk).1
  unfold gc
  rw [if_neg (by omega), if_pos ⟨by omega, ho⟩, if_neg (by simp [bel]; omega)]
  simp [isRef, hk, hb]
theorem ice_val {st : St} {d : D} {st' : St} (h : isRef d = none) : ice st (.ok d st') = .ok d st' := by
  cases d <;> first | rfl | (simp [isRef] at h)
theorem ice_new {st : St} {xs : List D} {st' : St} (h : st'.length = st.length) (ho : Old st (st' ++ [.lst xs])) (hb : bels st.length xs = true) : ice st (.ok (.ref st.length) (st' ++ [.lst xs])) = .ok (.lst xs) st' := by
  unfold ice
  simp only
  rw [if_pos ⟨rfl, by simp [h], ho⟩]
  rw [show (st' ++ [Cell.lst xs])[st.length]? = some (.lst xs) by rw [← h]; simp]
  simp only [hb, if_true]
  rw [← h]
  simp
end RP
end
section
set_option Elab.async false
set_option linter.all false
set_option maxRecDepth 100000
/-! The single steps, as equations. -/
namespace RP
open PySem
/-- a cell, looked into -/
def seeC (n : Nat) : Option Cell → D
  | some (.lst xs) => .lst xs
  | some (.dct ks vs) => .dct ks vs
  | _ => .ref n
theorem see_ref {st : St} {n : Nat} : see st (.ref n) = seeC n st[n]? := by
  unfold see seeC
  rfl
theorem seeC_lst {n : Nat} {xs : List D} : seeC n (some (.lst xs)) = .lst xs := rfl
theorem seeC_dct {n : Nat} {ks vs : List D} : seeC n (some (.dct ks vs)) = .dct ks vs := rfl
def ixC (n : Nat) (o : Option Cell) (i : D) : Option D := match seeC n o, i with
  | .lst xs, .int i => L2.atI xs i
  | .dct ks vs, k => if keyish k then look ks vs k else none
  | _, _ => none
theorem seeC_cases (n : Nat) (o : Option Cell) : (∃ xs, seeC n o = .lst xs) ∨ (∃ ks vs, seeC n o = .dct ks vs) ∨ seeC n o = .ref n := by
  cases o with
  | none => exact .inr (.inr rfl)
  | some c =>
    cases c with
    | lst xs => exact .inl ⟨xs, rfl⟩
    | dct ks vs => exact .inr (.inl ⟨ks, vs, rfl⟩)
    | ins a b => exact .inr (.inr rfl)
theorem idx_ref {st : St} {n : Nat} {i : D} : idxD st (.ref n) i = ixC n st[n]? i := by
  unfold idxD ixC
  rw [see_ref]
  rcases seeC_cases n st[n]? with ⟨xs, e⟩ | ⟨ks, vs, e⟩ | e
  · rw [e]; cases i <;> rfl
  · rw [e]
  · rw [e]
theorem ixC_lst {n : Nat} {xs : List D} {i : Int} : ixC n (some (.lst xs)) (.int i) = L2.atI xs i := rfl
section
variable {st : St} {i j : Int} {xs ys ks vs : List D} {a b : Str} {ns : List Int} {d : D} {n : Nat}
theorem idx_lst : idxD st (.lst xs) (.int i) = L2.atI xs i := rfl
theorem idx_tup : idxD st (.tup xs) (.int i) = L2.atI xs i := rfl
theorem idx_frz : idxD st (.frz ns) (.int i) = (L2.atI ns i).map D.int := rfl
theorem idx_dctS : idxD st (.dct ks vs) (.str a) = look ks vs (.str a) := rfl
theorem at_nat {α : Type} {xs : List α} {k : Nat} : L2.atI xs (k : Int) = xs[k]? := by
  unfold L2.atI L2.ixN
  rw [if_pos (by omega)]
  by_cases h : k < xs.length
  · rw [if_pos (by omega)]; simp
  · rw [if_neg (by omega)]
    rw [List.getElem?_eq_none (by omega)]
    rfl
theorem at0 {α : Type} {xs : List α} : L2.atI xs 0 = xs[0]? := at_nat (k := 0)
theorem at1 {α : Type} {xs : List α} : L2.atI xs 1 = xs[1]? := at_nat (k := 1)
theorem at2 {α : Type} {xs : List α} : L2.atI xs 2 = xs[2]? := at_nat (k := 2)
theorem at3 {α : Type} {xs : List α} : L2.atI xs 3 = xs[3]? := at_nat (k := 3)
theorem at4 {α : Type} {xs : List α} : L2.atI xs 4 = xs[4]? := at_nat (k := 4)
theorem at_m1 {α : Type} {xs : List α} (h : 0 < xs.length) : L2.atI xs (-1) = xs[xs.length - 1]? := by
  unfold L2.atI L2.ixN
  rw [if_neg (by omega), if_pos (by omega)]
  have e : (-1 + (xs.length : Int)).toNat = xs.length - 1 := by omega
  rw [e]; rfl
theorem at_get {α : Type} {xs : List α} {r : Int} (h0 : 0 ≤ r) (h1 : r < xs.length) : ∃ x, x ∈ xs ∧ xs[r.toNat]? = some x ∧ L2.atI xs r = some x := by
  obtain ⟨k, rfl⟩ := Int.eq_ofNat_of_zero_le h0
  have hk : k < xs.length := by omega
  exact ⟨xs[k], List.getElem_mem hk, by simp, by rw [at_nat]; simp⟩
theorem add_int : addD st (.int i) (.int j) = some (.int (i + j)) := rfl
theorem add_tup (h : xs.length + ys.length ≤ big) : addD st (.tup xs) (.tup ys) = some (.tup (xs ++ ys)) := if_pos h
theorem add_lst (h : xs.length + ys.length ≤ big) : addD st (.lst xs) (.lst ys) = some (.lst (xs ++ ys)) := if_pos h
theorem add_str (h : a.length + b.length ≤ big) : addD st (.str a) (.str b) = some (.str (a ++ b)) := if_pos h
theorem sub_int : subD st (.int i) (.int j) = some (.int (i - j)) := rfl
theorem mul_int (h : (-18446744073709551616 < i ∧ i < 18446744073709551616) ∨ (-18446744073709551616 < j ∧ j < 18446744073709551616)) : mulD st (.int i) (.int j) = some (.int (i * j)) := by
  show (if _ then _ else _) = _
  rw [if_pos (by simpa using h)]
theorem mulL (h1 : -18446744073709551616 < i) (h2 : i < 18446744073709551616) : mulD st (.int i) (.int j) = some (.int (i * j)) := mul_int (.inl ⟨h1, h2⟩)
theorem mulR (h1 : -18446744073709551616 < j) (h2 : j < 18446744073709551616) : mulD st (.int i) (.int j) = some (.int (i * j)) := mul_int (.inr ⟨h1, h2⟩)
theorem mul_mod {k : Int} (h0 : 0 < k) (h1 : k < 18446744073709551616) : mulD st (.int (i % k)) (.int j) = some (.int (i % k * j)) :=
  mul_int (.inl ⟨by have := Int.emod_nonneg i (by omega : k ≠ 0); omega, by have := Int.emod_lt_of_pos i h0; omega⟩)
theorem mod_int (h : 0 < j) : modD st (.int i) (.int j) = some (.int (i % j)) := if_pos h
theorem fdiv_int (h : 0 < j) (h2 : j < 18446744073709551616) : fdivD st (.int i) (.int j) = some (.int (i / j)) := by
  show (if _ then _ else _) = _
  rw [if_pos (by simpa using ⟨h, h2⟩)]
theorem pow18 : powD st (.int 10) (.int 18) = some (.int 1000000000000000000) := rfl
theorem lt_int : ltB st (.int i) (.int j) = some (.bl (decide (i < j))) := rfl
theorem le_int : leB st (.int i) (.int j) = some (.bl (decide (i ≤ j))) := rfl
theorem gt_int : gtB st (.int i) (.int j) = some (.bl (decide (j < i))) := rfl
theorem ge_int : geB st (.int i) (.int j) = some (.bl (decide (j ≤ i))) := rfl
theorem tru_bl {b : Bool} : tru st (.bl b) = some b := rfl
theorem tru_int : tru st (.int i) = some (i != 0) := rfl
theorem tru_lst : tru st (.lst xs) = some (!xs.isEmpty) := rfl
theorem tru_tup : tru st (.tup xs) = some (!xs.isEmpty) := rfl
theorem eq_int : eqB st (.int i) (.int j) = some (.bl (i == j)) := by
  unfold eqB eqO
  simp [see, pln, dep, bD, eqD]
theorem ne_int : neB st (.int i) (.int j) = some (.bl (!(i == j))) := by
  unfold neB eqO
  simp [see, pln, dep, bD, eqD]
theorem eq_str : eqB st (.str a) (.str b) = some (.bl (a == b)) := by
  unfold eqB eqO
  simp [see, pln, dep, bD, eqD]
theorem ne_str : neB st (.str a) (.str b) = some (.bl (!(a == b))) := by
  unfold neB eqO
  simp [see, pln, dep, bD, eqD]
theorem eq_bl {x y : Bool} : eqB st (.bl x) (.bl y) = some (.bl (x == y)) := by
  unfold eqB eqO
  simp [see, pln, dep, bD, eqD]
theorem ne_bl {x y : Bool} : neB st (.bl x) (.bl y) = some (.bl (!(x == y))) := by
  unfold neB eqO
  simp [see, pln, dep, bD, eqD]
/-- o[i] = d, o a cell -/
def putC (st : St) (n : Nat) (o : Option Cell) (i d : D) : Option St := match o, i with
  | some (.lst xs), .int k => (L2.ixN xs.length k).map fun j => st.set n (.lst (xs.set j d))
  | some (.dct ks vs), k => if keyish k && decide (ks.length ≤ big) then some (st.set n (.dct (dPut ks vs k d).1 (dPut ks vs k d).2)) else none
  | _, _ => none
theorem put_ref {i : D} : putIx st (.ref n) i d = putC st n st[n]? i d := rfl
theorem putC_lst : putC st n (some (.lst xs)) (.int i) d = (L2.ixN xs.length i).map fun j => st.set n (.lst (xs.set j d)) := rfl
theorem ix_nat {m k : Nat} (h : k < m) : L2.ixN m (k : Int) = some k := by
  unfold L2.ixN
  rw [if_pos (by omega), if_pos (by omega)]
  simp
theorem ix0 {m : Nat} (h : 0 < m) : L2.ixN m 0 = some 0 := ix_nat h
theorem ix1 {m : Nat} (h : 1 < m) : L2.ixN m 1 = some 1 := ix_nat h
theorem ix2 {m : Nat} (h : 2 < m) : L2.ixN m 2 = some 2 := ix_nat h
theorem ix3 {m : Nat} (h : 3 < m) : L2.ixN m 3 = some 3 := ix_nat h
theorem ix_get {m : Nat} (h0 : 0 ≤ i) (h1 : i < m) : L2.ixN m i = some i.toNat := by
  unfold L2.ixN
  rw [if_pos h0, if_pos h1]
theorem len_lst : lenD st (.lst xs) = some (.int xs.length) := rfl
theorem len_tup : lenD st (.tup xs) = some (.int xs.length) := rfl
theorem len_frz : lenD st (.frz ns) = some (.int ns.length) := rfl
def lenC (n : Nat) (o : Option Cell) : Option D := match seeC n o with
  | .lst xs => some (.int xs.length)
  | .dct ks _ => some (.int ks.length)
  | _ => none
theorem len_ref : lenD st (.ref n) = lenC n st[n]? := by
  unfold lenD lenC
  rw [see_ref]
  rcases seeC_cases n st[n]? with ⟨xs, e⟩ | ⟨ks, vs, e⟩ | e
  · rw [e]
  · rw [e]
  · rw [e]
theorem lenC_lst : lenC n (some (.lst xs)) = some (.int xs.length) := rfl
theorem un1_one {f : St → D → Option D} {x : D} : un1 f st [x] = f st x := rfl
theorem tuple_lst : tupleD st (.lst xs) = some (.tup xs) := rfl
theorem tuple_tup : tupleD st (.tup xs) = some (.tup xs) := rfl
theorem list_lst : listD st (.lst xs) = some (.lst xs) := rfl
theorem list_tup : listD st (.tup xs) = some (.lst xs) := rfl
theorem tuple_ref {n : Nat} (h : st[n]? = some (.lst xs)) : tupleD st (.ref n) = some (.tup xs) := by
  unfold tupleD
  rw [see_ref, h]
  rfl
theorem slice_tup {lo hi : Option Int} : sliceD st (.tup xs) lo hi = some (.tup (cut xs lo hi)) := rfl
theorem slice_lst {lo hi : Option Int} : sliceD st (.lst xs) lo hi = some (.lst (cut xs lo hi)) := rfl
theorem it_tup : itD st (.tup xs) = some (xs, none) := rfl
theorem it_lst : itD st (.lst xs) = some (xs, none) := rfl
theorem it_ref (h : st[n]? = some (.lst xs)) : itD st (.ref n) = some (xs, some n) := by
  unfold itD
  simp only
  rw [h]
theorem cut_from1 {α : Type} {x : α} {l : List α} : cut (x :: l) (some 1) none = l := by
  unfold cut HT.sIx
  simp only [List.length_cons]
  rw [if_neg (by omega)]
  have e : min (1 : Int).toNat (l.length + 1) = 1 := by
    show min 1 (l.length + 1) = 1
    omega
  rw [e]
  simp
theorem cut_to {α : Type} {l : List α} {k : Nat} : cut l none (some (k : Int)) = l.take k := by
  unfold cut HT.sIx
  simp only
  rw [if_neg (by omega)]
  simp only [Int.toNat_natCast, Nat.sub_zero, List.drop_zero]
  rw [List.take_eq_take_iff]
  omega
theorem cut_from {α : Type} {l : List α} {k : Nat} : cut l (some (k : Int)) none = l.drop k := by
  unfold cut HT.sIx
  simp only
  rw [if_neg (by omega)]
  simp only [Int.toNat_natCast]
  by_cases h : k ≤ l.length
  · rw [Nat.min_eq_left h, List.take_of_length_le (by simp)]
  · rw [Nat.min_eq_right (by omega), List.drop_of_length_le (by omega), List.drop_of_length_le (by omega)]
    simp
theorem isL_ref (h : st[n]? = some (.lst xs)) : isL st (.ref n) = true := by
  unfold isL
  simp only
  rw [h]
theorem append_ref (h : st[n]? = some (.lst xs)) (hb : xs.length < big) : xAppend st (.ref n) [d] = some (.non, st.set n (.lst (xs ++ [d]))) := by
  unfold xAppend
  simp only
  rw [h]
  simp only
  rw [if_pos hb]
theorem insert_ref (h : st[n]? = some (.lst xs)) (hb : xs.length < big) (h0 : 0 ≤ i) (h1 : i < (big : Int)) : xInsert st (.ref n) [.int i, d] = some (.non, st.set n (.lst (xs.take i.toNat ++ [d] ++ xs.drop i.toNat))) := by
  unfold xInsert
  simp only
  rw [h]
  simp only
  rw [if_pos ⟨hb, h0, h1⟩]
theorem extend_ref (h : st[n]? = some (.lst xs)) (hb : xs.length + ys.length ≤ big) : xExtend st (.ref n) [.lst ys] = some (.non, st.set n (.lst (xs ++ ys))) := by
  unfold xExtend
  simp only
  rw [h]
  simp only [see]
  rw [if_pos hb]
end
/-! ### cells -/
theorem Old.refl (st : St) : Old st st := fun i c hi h => .inl h

theorem at_new {st : St} {c : Cell} : (st ++ [c])[st.length]? = some c := by simp
theorem set_new {st : St} {c c' : Cell} : (st ++ [c]).set st.length c' = st ++ [c'] := by simp [List.set_append]
theorem at_old {st : St} {c : Cell} {n : Nat} (h : n < st.length) : (st ++ [c])[n]? = st[n]? := List.getElem?_append_left h
theorem set_old {st : St} {c c' : Cell} {n : Nat} (h : n < st.length) : (st ++ [c]).set n c' = st.set n c' ++ [c] := by simp [List.set_append, h]
section
variable {st : St}
theorem plns_strs : ∀ {fs : List Str}, plns (fs.map D.str) = true
  | [] => rfl
  | f :: fs => by simp [plns, pln, plns_strs]
theorem pln_strs {fs : List Str} : pln (.lst (fs.map D.str)) = true := by simp [pln, plns_strs]
theorem any_strs {s : Str} : ∀ {fs : List Str}, ((fs.map D.str).any fun z => eqD z (.str s)) = decide (s ∈ fs)
  | [] => rfl
  | f :: fs => by
    simp only [List.map_cons, List.any_cons, any_strs, eqD]
    by_cases h : f = s
    · subst h; simp
    · have h' : ¬ s = f := fun z => h z.symm
      simp [h, h']
theorem in_strs {s : Str} {fs : List Str} : inB st (.str s) (.lst (fs.map D.str)) = some (.bl (decide (s ∈ fs))) := by
  unfold inB inO
  simp [see, pln, plns_strs, dep, bD, any_strs, -List.any_map]
theorem nin_strs {s : Str} {fs : List Str} : ninB st (.str s) (.lst (fs.map D.str)) = some (.bl (!decide (s ∈ fs))) := by
  unfold ninB inO
  simp [see, pln, plns_strs, dep, bD, any_strs, -List.any_map]
theorem in_ref {x : D} {n : Nat} {xs : List D} (h : st[n]? = some (.lst xs)) : inB st x (.ref n) = inB st x (.lst xs) := by
  unfold inB inO
  rw [see_ref, h]
  rfl
theorem nin_ref {x : D} {n : Nat} {xs : List D} (h : st[n]? = some (.lst xs)) : ninB st x (.ref n) = ninB st x (.lst xs) := by
  unfold ninB inO
  rw [see_ref, h]
  rfl
theorem asBools_map : ∀ {bs : List Bool}, asBools (bs.map D.bl) = some bs
  | [] => rfl
  | b :: bs => by simp [asBools, asBools_map]
theorem all_bls {bs : List Bool} : allD st (.lst (bs.map D.bl)) = some (.bl (bs.all id)) := by
  unfold allD
  simp [see, asBools_map]
theorem any_bls {bs : List Bool} : anyD st (.lst (bs.map D.bl)) = some (.bl (bs.any id)) := by
  unfold anyD
  simp [see, asBools_map]
theorem plns_bls : ∀ {bs : List Bool}, plns (bs.map D.bl) = true
  | [] => rfl
  | f :: fs => by simp [plns, pln, plns_bls]
theorem any_bls_eq {v : Bool} : ∀ {bs : List Bool}, ((bs.map D.bl).any fun z => eqD z (.bl v)) = bs.any (· == v)
  | [] => rfl
  | f :: fs => by simp only [List.map_cons, List.any_cons, any_bls_eq, eqD]
theorem nin_bls {v : Bool} {bs : List Bool} : ninB st (.bl v) (.lst (bs.map D.bl)) = some (.bl (!bs.any (· == v))) := by
  unfold ninB inO
  simp [see, pln, plns_bls, dep, bD, any_bls_eq, -List.any_map]
theorem in_bls {v : Bool} {bs : List Bool} : inB st (.bl v) (.lst (bs.map D.bl)) = some (.bl (bs.any (· == v))) := by
  unfold inB inO
  simp [see, pln, plns_bls, dep, bD, any_bls_eq, -List.any_map]
end

/-! ### two lists, one beside the other -/
inductive Al {α β : Type} (R : α → β → Prop) : List α → List β → Prop
  | nil : Al R [] []
  | cons {x : α} {y : β} {xs : List α} {ys : List β} : R x y → Al R xs ys → Al R (x :: xs) (y :: ys)
section
variable {α β : Type} {R R' : α → β → Prop}
theorem Al.append : ∀ {xs xs' : List α} {ys ys' : List β}, Al R xs ys → Al R xs' ys' → Al R (xs ++ xs') (ys ++ ys')
  | _, _, _, _, .nil, h => h
  | _, _, _, _, .cons r h, h' => .cons r (h.append h')
theorem Al.length : ∀ {xs : List α} {ys : List β}, Al R xs ys → xs.length = ys.length
  | _, _, .nil => rfl
  | _, _, .cons _ h => by simp [h.length]
theorem Al.get : ∀ {xs : List α} {ys : List β}, Al R xs ys → ∀ {k : Nat} {x : α}, xs[k]? = some x → ∃ y, ys[k]? = some y ∧ R x y
  | _, _, .nil, k, x, h => by simp at h
  | _, _, .cons (x := x0) (y := y0) r h, 0, x, e => by
    have e' : x0 = x := by simpa using e
    subst e'
    exact ⟨y0, rfl, r⟩
  | _, _, .cons _ h, k + 1, x, e => by
    obtain ⟨y, e1, r⟩ := h.get (k := k) (x := x) (by simpa using e)
    exact ⟨y, by simpa using e1, r⟩
theorem Al.imp (hr : ∀ x y, R x y → R' x y) : ∀ {xs : List α} {ys : List β}, Al R xs ys → Al R' xs ys
  | _, _, .nil => .nil
  | _, _, .cons r h => .cons (hr _ _ r) (h.imp hr)
theorem Al.left : ∀ {xs : List α} {ys : List β}, Al R xs ys → ∀ y ∈ ys, ∃ x ∈ xs, R x y
  | _, _, .nil, y, h => by simp at h
  | _, _, .cons (x := x0) r h, y, hy => by
    rcases List.mem_cons.mp hy with e | e
    · subst e; exact ⟨x0, List.mem_cons_self, r⟩
    · obtain ⟨x, hx, q⟩ := h.left y e
      exact ⟨x, List.mem_cons_of_mem _ hx, q⟩
end
theorem bels_strs {n : Nat} : ∀ {fs : List Str}, bels n (fs.map D.str) = true
  | [] => rfl
  | f :: fs => by simp [bels, bel, bels_strs]
theorem old_app {st more : St} : Old st (st ++ more) := fun i c hi h => .inl (by rwa [List.getElem?_append_left hi] at h)
theorem ok_ice_new {st : St} {r : R D} {P : List D → Prop} {Q : D → St → Prop} (h : Ok r fun d st' => ∃ xs, d = .ref st.length ∧ st' = st ++ [.lst xs] ∧ bels st.length xs = true ∧ P xs) (hq : ∀ xs, P xs → Q (.lst xs) st) : Ok (ice st r) Q := by
  obtain ⟨d, st', rfl, xs, rfl, rfl, hb, hp⟩ := h.ex
  rw [ice_new rfl old_app hb]
  exact hq xs hp
theorem ok_ice_val {st : St} {r : R D} {Q : D → St → Prop} (h : Ok r fun d st' => isRef d = none ∧ Q d st') : Ok (ice st r) Q := by
  obtain ⟨d, st', rfl, hi, hq⟩ := h.ex
  rw [ice_val hi]
  exact hq
theorem gc_new {st : St} {xs : List D} (hb : bels st.length xs = true) : gc st (.ref st.length) (st ++ [.lst xs]) = .ok (.ref st.length) (st ++ [.lst xs]) := by
  rw [gc_ref (st' := st ++ [.lst xs]) (cl := .lst xs) (Nat.le_refl _) at_new old_app (show belC st.length (.lst xs) = true from hb)]
  simp
end RP
end
section
set_option Elab.async false
set_option linter.all false
set_option maxRecDepth 100000
/-! One cell that goes on (the feed), and cells of one's own behind. -/
namespace RP
open PySem
section
variable {FC : Cell → Prop} {n : Nat} {st S S' rest : St}
/-- the feed stands at n -/
def Fd (FC : Cell → Prop) (n : Nat) (st : St) : Prop := ∃ c, st[n]? = some c ∧ FC c
/-- the feed has gone on, new cells stand behind -/
def Fr (FC : Cell → Prop) (n : Nat) (st rest S : St) : Prop := ∃ c, FC c ∧ S = st.set n c ++ rest
theorem Fd.lt (h : Fd FC n st) : n < st.length := by
  obtain ⟨c, h, _⟩ := h
  exact (List.getElem?_eq_some_iff.mp h).1
theorem Fr.refl (h : Fd FC n st) : Fr FC n st [] st := by
  obtain ⟨c, h, hc⟩ := h
  refine ⟨c, hc, ?_⟩
  rw [List.append_nil]
  apply List.ext_getElem?
  intro i
  by_cases hi : n = i
  · subst hi
    rw [List.getElem?_set_self (List.getElem?_eq_some_iff.mp h).1, h]
  · rw [List.getElem?_set_ne hi]
theorem Fr.len (h : Fr FC n st rest S) : S.length = st.length + rest.length := by
  obtain ⟨c, _, rfl⟩ := h
  simp
theorem Fr.fd (hd : n < st.length) (h : Fr FC n st rest S) : Fd FC n S := by
  obtain ⟨c, hc, rfl⟩ := h
  exact ⟨c, by rw [List.getElem?_append_left (by simpa using hd), List.getElem?_set_self hd], hc⟩
theorem Fr.at (h : Fr FC n st rest S) (i : Nat) : S[st.length + i]? = rest[i]? := by
  obtain ⟨c, _, rfl⟩ := h
  rw [List.getElem?_append_right (by simp)]
  simp
theorem Fr.old (h : Fr FC n st rest S) {i : Nat} (hi : i < st.length) (hn : i ≠ n) : S[i]? = st[i]? := by
  obtain ⟨c, _, rfl⟩ := h
  rw [List.getElem?_append_left (by simpa using hi), List.getElem?_set_ne (Ne.symm hn)]
theorem Fr.put (h : Fr FC n st rest S) (i : Nat) (c' : Cell) : Fr FC n st (rest.set i c') (S.set (st.length + i) c') := by
  obtain ⟨c, hc, rfl⟩ := h
  refine ⟨c, hc, ?_⟩
  rw [List.set_append_right _ _ (by simp)]
  simp
theorem Fr.push (h : Fr FC n st rest S) (c' : Cell) : Fr FC n st (rest ++ [c']) (S ++ [c']) := by
  obtain ⟨c, hc, rfl⟩ := h
  exact ⟨c, hc, by rw [List.append_assoc]⟩
/-- behind a call that leaves no cell of its own -/
theorem Fr.go (hd : n < st.length) (h : Fr FC n st rest S) (h' : Fr FC n S [] S') : Fr FC n st rest S' := by
  obtain ⟨c, hc, rfl⟩ := h
  obtain ⟨c', hc', rfl⟩ := h'
  refine ⟨c', hc', ?_⟩
  rw [List.append_nil, List.set_append_left _ _ (by simpa using hd), List.set_set]
theorem Fr.gc (hF : ∀ (c : Cell) (m : Nat), FC c → belC m c = true) (h : Fr FC n st rest S) {d : D} (hb : bel st.length d = true) : ∃ S', RP.gc st d S = .ok d S' ∧ Fr FC n st [] S' := by
  obtain ⟨c, hc, rfl⟩ := h
  refine ⟨st.set n c, ?_, c, hc, by simp⟩
  rw [gc_val (by simp) ?_ hb]
  · congr 1
    rw [List.take_append_of_le_length (by simp), List.take_of_length_le (by simp)]
  · intro i x hi hx
    rw [List.getElem?_append_left (by simpa using hi)] at hx
    by_cases hn : n = i
    · subst hn
      rw [List.getElem?_set_self hi] at hx
      cases hx
      exact .inr (hF _ _ hc)
    · rw [List.getElem?_set_ne hn] at hx
      exact .inl hx
theorem Fr.ok (hF : ∀ (c : Cell) (m : Nat), FC c → belC m c = true) (h : Fr FC n st rest S) {d : D} (hb : bel st.length d = true) {Q : D → St → Prop} (q : ∀ S', Fr FC n st [] S' → Q d S') : Ok (RP.gc st d S) Q := by
  obtain ⟨S', e, h'⟩ := h.gc hF hb
  rw [e]
  exact q S' h'
end
section
variable {c : Call} {env : Env} {st : St} {Q : List D → St → Prop} {i m : Nat} {elt : ME} {all : List D}
theorem comp_map {g : MG} (f : D → D) {xs : List D} (hall : all = xs) (h : ∀ x ∈ xs, ∃ env1, g x env = some env1 ∧ Ok (elt c env1 st) fun d st' => d = f x ∧ st' = st) (q : Q (xs.map f) st) : Ok (compL c none all g tYesM elt env all st) Q := by
  subst hall
  refine comp_pure (fun _ => true) f (fun n h => by cases h) all Q ?_ (by rw [List.filter_eq_self.mpr (fun _ _ => rfl)]; exact q)
  intro x hx
  obtain ⟨env1, e1, h1⟩ := h x hx
  obtain ⟨d, st', e, rfl, rfl⟩ := h1.ex
  exact ⟨env1, e1, rfl, fun _ => e⟩
theorem comp_rng (f : Nat → D) (hi : i < env.length) (hall : all = (List.range m).map fun (k : Nat) => D.int k) (h : ∀ k, k < m → Ok (elt c (env.set i (some (.int k))) st) fun d st' => d = f k ∧ st' = st) (q : Q ((List.range m).map f) st) :
    Ok (compL c none all (gNm i) tYesM elt env all st) Q := by
  refine comp_map (fun d => match d with | .int k => f k.toNat | _ => .non) hall ?_ ?_
  · intro x hx
    obtain ⟨k, hk, rfl⟩ := List.mem_map.mp hx
    exact ⟨env.set i (some (.int k)), by unfold gNm; rw [if_pos hi], by simpa using h k (by simpa using hk)⟩
  · rw [List.map_map]
    exact q
/-- .. the state goes on -/
theorem comp_go {g : MG} (I : List D → List D → St → Prop) {xs : List D} (hall : all = xs) (h0 : I [] [] st) (h : ∀ (x : D) (done ys : List D) (st : St), x ∈ xs → I done ys st → ∃ env1, g x env = some env1 ∧ Ok (elt c env1 st) fun y st' => I (done ++ [x]) (ys ++ [y]) st')
    (q : ∀ ys st', I xs ys st' → Q ys st') : Ok (compL c none all g tYesM elt env all st) Q := by
  subst hall
  refine comp_inv I all [] [] st Q h0 ?_ (fun _ _ _ _ n h => by cases h) rfl fun ys st' hi => q ys st' (by simpa using hi)
  intro x rest done ys st' he hi
  obtain ⟨env1, e1, h1⟩ := h x done ys st' (by rw [← he]; simp) hi
  exact ⟨env1, e1, by rw [ok_yes]; simpa using h1⟩
end
section
variable {α : Type} {c : Call} {env : Env} {st : St} {Q : List D → St → Prop} {elt : ME} {ts : MT} {all : List D} {gd : Option Nat} {g : MG} {e : α → D}
theorem enc_at {as : List α} {done rest : List D} {x : D} (h : done ++ x :: rest = as.map e) : ∃ a r, x = e a ∧ as = as.take done.length ++ a :: r ∧ as.take (done.length + 1) = as.take done.length ++ [a] := by
  have hl : done.length < as.length := by
    have := congrArg List.length h
    simp at this
    omega
  have hx : (as.map e)[done.length]? = some x := by rw [← h]; simp
  rw [List.getElem?_map, List.getElem?_eq_getElem hl] at hx
  refine ⟨as[done.length], as.drop (done.length + 1), (Option.some.inj hx).symm, ?_, ?_⟩
  · rw [← List.drop_eq_getElem_cons hl, List.take_append_drop]
  · rw [List.take_succ, List.getElem?_eq_getElem hl]
    rfl
/-- a comprehension over things of a kind: I by what is done, made, and the state -/
theorem comp_gen (as : List α) (I : List α → List D → St → Prop) (hall : all = as.map e) (h0 : I [] [] st)
    (turn : ∀ (a : α) (rest done : List α) (ys : List D) (st : St), as = done ++ a :: rest → I done ys st → ∃ env1, g (e a) env = some env1 ∧ Ok (ts c env1 st) fun b st1 => if b = true then Ok (elt c env1 st1) fun y st2 => I (done ++ [a]) (ys ++ [y]) st2 else I (done ++ [a]) ys st1)
    (hg : ∀ done ys st, I done ys st → gOk gd all st) (q : ∀ ys st', I as ys st' → Q ys st') : Ok (compL c gd all g ts elt env all st) Q := by
  subst hall
  refine comp_inv (fun done ys st => I (as.take done.length) ys st) (as.map e) [] [] st Q (by simpa using h0) ?_ (fun done ys st => hg _ ys st) rfl fun ys st' h => q ys st' (by simpa using h)
  intro x rest done ys st he hi
  obtain ⟨a, r, rfl, ha, ht⟩ := enc_at he
  have := turn a r _ ys st ha hi
  simpa only [List.length_append, List.length_singleton, ht] using this
/-- .. nothing is changed -/
theorem comp_encF (as : List α) (p : α → Bool) (f : α → D) (hall : all = as.map e) (hg : gOk gd all st) (h : ∀ a ∈ as, ∃ env1, g (e a) env = some env1 ∧ (Ok (ts c env1 st) fun b st' => b = p a ∧ st' = st) ∧ (p a = true → Ok (elt c env1 st) fun d st' => d = f a ∧ st' = st)) (q : Q ((as.filter p).map f) st) : Ok (compL c gd all g ts elt env all st) Q := by
  refine comp_gen as (fun done ys st' => st' = st ∧ ys = (done.filter p).map f) hall ⟨rfl, rfl⟩ ?_ (fun _ _ _ hi => by rw [hi.1]; exact hg) (fun ys st' hi => by rw [hi.1, hi.2]; exact q)
  rintro a rest done ys st' ha ⟨rfl, rfl⟩
  obtain ⟨env1, e1, h1, h2⟩ := h a (by rw [ha]; simp)
  refine ⟨env1, e1, h1.mono ?_⟩
  rintro b st1 ⟨rfl, rfl⟩
  by_cases hp : p a = true
  · rw [if_pos hp]
    refine (h2 hp).mono ?_
    rintro d st2 ⟨rfl, rfl⟩
    exact ⟨rfl, by simp [hp]⟩
  · rw [if_neg hp]
    exact ⟨rfl, by simp [hp]⟩
theorem comp_enc (as : List α) (f : α → D) (hall : all = as.map e) (hg : gOk gd all st) (h : ∀ a ∈ as, ∃ env1, g (e a) env = some env1 ∧ Ok (elt c env1 st) fun d st' => d = f a ∧ st' = st) (q : Q (as.map f) st) : Ok (compL c gd all g tYesM elt env all st) Q :=
  comp_encF as (fun _ => true) f hall hg (fun a ha => by
    obtain ⟨env1, e1, h1⟩ := h a ha
    exact ⟨env1, e1, ⟨rfl, rfl⟩, fun _ => h1⟩) (by rw [List.filter_eq_self.mpr (fun _ _ => rfl)]; exact q)
/-- a for over things of a kind -/
theorem for_gen {a : MS} (as : List α) (I : List α → Env → St → Prop) {qn : Env → St → Prop} {qr : D → St → Prop} {qb qc : Env → St → Prop} (hall : all = as.map e) (h0 : I [] env st)
    (turn : ∀ (x : α) (rest done : List α) (env : Env) (st : St), as = done ++ x :: rest → I done env st → ∃ env1, g (e x) env = some env1 ∧ OkS (a c env1 st) (I (done ++ [x])) qr qn (I (done ++ [x])))
    (hg : ∀ done env st, I done env st → gOk gd all st) (q : ∀ env st, I as env st → qn env st) : OkS (forL c gd all g a all env st) qn qr qb qc := by
  subst hall
  refine for_inv (fun done env st => I (as.take done.length) env st) (as.map e) [] env st (by simpa using h0) ?_ (fun done env st => hg _ env st) rfl fun env st h => q env st (by simpa using h)
  intro x rest done env st he hi
  obtain ⟨a', r, rfl, ha, ht⟩ := enc_at he
  have := turn a' r _ env st ha hi
  simpa only [List.length_append, List.length_singleton, ht] using this
theorem gNone {xs : List D} : gOk none xs st := fun n h => by cases h
end
theorem zip_one {α β : Type} : ∀ {xs : List α} {ys : List β}, xs.Nodup → ∀ {a : α} {k k' : β}, (a, k) ∈ xs.zip ys → (a, k') ∈ xs.zip ys → k = k'
  | [], _, _, a, k, k', h, _ => by simp at h
  | x :: xs, [], _, a, k, k', h, _ => by simp at h
  | x :: xs, y :: ys, nd, a, k, k', h, h' => by
    rw [List.nodup_cons] at nd
    rw [List.zip_cons_cons, List.mem_cons] at h h'
    rcases h with h | h
    · cases h
      rcases h' with h' | h'
      · cases h'; rfl
      · exact (nd.1 (List.of_mem_zip h').1).elim
    · rcases h' with h' | h'
      · cases h'
        exact (nd.1 (List.of_mem_zip h).1).elim
      · exact zip_one nd.2 h h'
theorem range_zip {α β γ : Type} (f : α → β → γ) {a : α} {b : β} {xs : List α} {ys : List β} {n : Nat} (h1 : xs.length = n) (h2 : ys.length = n) : (List.range n).map (fun k => f (xs.getD k a) (ys.getD k b)) = (xs.zip ys).map fun p => f p.1 p.2 := by
  apply List.ext_getElem?
  intro i
  by_cases hi : i < n
  · have e1 : xs[i]? = some (xs[i]'(by omega)) := by simp
    have e2 : ys[i]? = some (ys[i]'(by omega)) := by simp
    have e3 : (xs.zip ys)[i]? = some (xs[i]'(by omega), ys[i]'(by omega)) := by rw [List.getElem?_zip_eq_some]; exact ⟨e1, e2⟩
    rw [List.getElem?_map, List.getElem?_map, e3, List.getElem?_range hi]
    simp [List.getD, e1, e2]
  · rw [List.getElem?_eq_none (by simp; omega), List.getElem?_eq_none (by simp; omega)]
end RP
end
section
set_option Elab.async false
set_option linter.all false
set_option maxRecDepth 100000
/-! Plain data: what holds of all of it; trees, signs, tables as Lean's own data. -/
namespace RP
open PySem
mutual
/-- plain data without truths -/
def nob : D → Bool
  | .tup xs => nobs xs
  | .lst xs => nobs xs
  | .non => true
  | .int _ => true
  | .str _ => true
  | _ => false
def nobs : List D → Bool
  | [] => true
  | x :: xs => nob x && nobs xs
end
theorem nobs_iff : ∀ {xs : List D}, nobs xs = true ↔ ∀ x ∈ xs, nob x = true
  | [] => by simp [nobs]
  | x :: xs => by simp [nobs, nobs_iff (xs := xs)]
theorem plns_iff : ∀ {xs : List D}, plns xs = true ↔ ∀ x ∈ xs, pln x = true
  | [] => by simp [plns]
  | x :: xs => by simp [plns, plns_iff (xs := xs)]
theorem bels_iff {m : Nat} : ∀ {xs : List D}, bels m xs = true ↔ ∀ x ∈ xs, bel m x = true
  | [] => by simp [bels]
  | x :: xs => by simp [bels, bels_iff (xs := xs)]
mutual
theorem pln_nob : ∀ {d : D}, nob d = true → pln d = true
  | .tup xs, h => by simpa [pln] using plns_nob (by simpa [nob] using h)
  | .lst xs, h => by simpa [pln] using plns_nob (by simpa [nob] using h)
  | .non, _ => rfl
  | .int _, _ => rfl
  | .str _, _ => rfl
  | .bl _, h => by simp [nob] at h
  | .dct _ _, h => by simp [nob] at h
  | .set _, h => by simp [nob] at h
  | .frz _, h => by simp [nob] at h
  | .ref _, h => by simp [nob] at h
theorem plns_nob : ∀ {ds : List D}, nobs ds = true → plns ds = true
  | [], _ => rfl
  | d :: ds, h => by
    have h' : nob d = true ∧ nobs ds = true := by simpa [nobs] using h
    simp [plns, pln_nob h'.1, plns_nob h'.2]
end
mutual
theorem bel_pln {m : Nat} : ∀ {d : D}, pln d = true → bel m d = true
  | .tup xs, h => by simpa [bel] using bels_pln (by simpa [pln] using h)
  | .lst xs, h => by simpa [bel] using bels_pln (by simpa [pln] using h)
  | .non, _ => rfl
  | .int _, _ => rfl
  | .str _, _ => rfl
  | .bl _, h => rfl
  | .dct _ _, h => by simp [pln] at h
  | .set _, h => by simp [pln] at h
  | .frz _, h => by simp [pln] at h
  | .ref _, h => by simp [pln] at h
theorem bels_pln {m : Nat} : ∀ {ds : List D}, plns ds = true → bels m ds = true
  | [], _ => rfl
  | d :: ds, h => by
    have h' : pln d = true ∧ plns ds = true := by simpa [plns] using h
    simp [bels, bel_pln h'.1, bels_pln h'.2]
end
theorem isRef_pln {d : D} (h : pln d = true) : isRef d = none := by
  cases d <;> first | rfl | simp [pln] at h
theorem see_pln {st : St} {d : D} (h : pln d = true) : see st d = d := by
  cases d <;> first | rfl | simp [pln] at h
mutual
theorem eqD_nob : ∀ {d e : D}, nob d = true → nob e = true → (eqD d e = true ↔ d = e)
  | .non, e, _, he => by cases e <;> simp_all [eqD, nob]
  | .int i, e, _, he => by cases e <;> simp_all [eqD, nob]
  | .str x, e, _, he => by cases e <;> simp_all [eqD, nob]
  | .tup xs, e, hd, he => by
    cases e with
    | tup ys => simpa [eqD] using eqDs_nob (d := xs) (e := ys) (by simpa [nob] using hd) (by simpa [nob] using he)
    | _ => simp_all [eqD, nob]
  | .lst xs, e, hd, he => by
    cases e with
    | lst ys => simpa [eqD] using eqDs_nob (d := xs) (e := ys) (by simpa [nob] using hd) (by simpa [nob] using he)
    | _ => simp_all [eqD, nob]
  | .bl _, _, h, _ => by simp [nob] at h
  | .dct _ _, _, h, _ => by simp [nob] at h
  | .set _, _, h, _ => by simp [nob] at h
  | .frz _, _, h, _ => by simp [nob] at h
  | .ref _, _, h, _ => by simp [nob] at h
theorem eqDs_nob : ∀ {d e : List D}, nobs d = true → nobs e = true → (eqDs d e = true ↔ d = e)
  | [], [], _, _ => by simp [eqDs]
  | [], y :: ys, _, _ => by simp [eqDs]
  | x :: xs, [], _, _ => by simp [eqDs]
  | x :: xs, y :: ys, hd, he => by
    have h1 : nob x = true ∧ nobs xs = true := by simpa [nobs] using hd
    have h2 : nob y = true ∧ nobs ys = true := by simpa [nobs] using he
    simp [eqDs, eqD_nob h1.1 h2.1, eqDs_nob h1.2 h2.2]
end
open Classical in
theorem eqD_dec {d e : D} (hd : nob d = true) (he : nob e = true) : eqD d e = decide (d = e) := by
  have := eqD_nob hd he
  by_cases h : d = e
  · rw [decide_eq_true h]; exact this.mpr h
  · rw [decide_eq_false h]; cases q : eqD d e with
    | true => exact (h (this.mp q)).elim
    | false => rfl
theorem deps_le : ∀ {xs : List D} {n : Nat}, (∀ x ∈ xs, dep x ≤ n) → deps xs ≤ n
  | [], n, _ => by simp [deps]
  | x :: xs, n, h => by
    rw [deps]
    exact Nat.max_le.mpr ⟨h x List.mem_cons_self, deps_le fun y hy => h y (List.mem_cons_of_mem _ hy)⟩
theorem le_deps : ∀ {xs : List D} {x : D}, x ∈ xs → dep x ≤ deps xs
  | x :: xs, y, h => by
    rw [deps]
    rcases List.mem_cons.mp h with rfl | h
    · exact Nat.le_max_left _ _
    · exact Nat.le_trans (le_deps h) (Nat.le_max_right _ _)
section
variable {st : St} {d e : D} {xs : List D}
open Classical
theorem eqO_nob (hd : nob d = true) (he : nob e = true) (h : dep d ≤ 100) : eqO st d e = some (decide (d = e)) := by
  unfold eqO
  rw [see_pln (pln_nob hd), see_pln (pln_nob he), if_pos (by simp [pln_nob hd, pln_nob he]; omega), eqD_dec hd he]
theorem eq_nob (hd : nob d = true) (he : nob e = true) (h : dep d ≤ 100) : eqB st d e = some (.bl (decide (d = e))) := by
  unfold eqB
  rw [eqO_nob hd he h]; rfl
theorem ne_nob (hd : nob d = true) (he : nob e = true) (h : dep d ≤ 100) : neB st d e = some (.bl (!decide (d = e))) := by
  unfold neB
  rw [eqO_nob hd he h]; rfl
theorem any_nob (hd : nob d = true) (he : nobs xs = true) : (xs.any fun z => eqD z d) = decide (d ∈ xs) := by
  have h1 : ∀ x ∈ xs, eqD x d = decide (x = d) := fun x hx => eqD_dec (nobs_iff.mp he x hx) hd
  have : (xs.any fun z => eqD z d) = true ↔ d ∈ xs := by
    rw [List.any_eq_true]
    constructor
    · rintro ⟨x, hx, h⟩
      rw [h1 x hx] at h
      rw [← of_decide_eq_true h]; exact hx
    · intro h
      exact ⟨d, h, by rw [h1 d h]; simp⟩
  by_cases h : d ∈ xs
  · rw [decide_eq_true h]; exact this.mpr h
  · rw [decide_eq_false h]
    cases q : (xs.any fun z => eqD z d) with
    | true => exact (h (this.mp q)).elim
    | false => rfl
theorem inO_tup (hd : nob d = true) (he : nobs xs = true) (h : dep d ≤ 100) : inO st d (.tup xs) = some (decide (d ∈ xs)) := by
  have h1 : see st (.tup xs) = .tup xs := rfl
  unfold inO
  simp only [h1, see_pln (pln_nob hd)]
  rw [if_pos (by simp [pln_nob hd, plns_nob he]; omega), any_nob hd he]
theorem inO_lst (hd : nob d = true) (he : nobs xs = true) (h : dep d ≤ 100) : inO st d (.lst xs) = some (decide (d ∈ xs)) := by
  have h1 : see st (.lst xs) = .lst xs := rfl
  unfold inO
  simp only [h1, see_pln (pln_nob hd)]
  rw [if_pos (by simp [pln_nob hd, plns_nob he]; omega), any_nob hd he]
theorem inO_ref {n : Nat} (hn : st[n]? = some (.lst xs)) (hd : nob d = true) (he : nobs xs = true) (h : dep d ≤ 100) : inO st d (.ref n) = some (decide (d ∈ xs)) := by
  have h1 : see st (.ref n) = .lst xs := by simp [see, hn]
  unfold inO
  simp only [h1, see_pln (pln_nob hd)]
  rw [if_pos (by simp [pln_nob hd, plns_nob he]; omega), any_nob hd he]
theorem in_tup (hd : nob d = true) (he : nobs xs = true) (h : dep d ≤ 100) : inB st d (.tup xs) = some (.bl (decide (d ∈ xs))) := by unfold inB; rw [inO_tup hd he h]; rfl
theorem in_lst (hd : nob d = true) (he : nobs xs = true) (h : dep d ≤ 100) : inB st d (.lst xs) = some (.bl (decide (d ∈ xs))) := by unfold inB; rw [inO_lst hd he h]; rfl
theorem in_refl {n : Nat} (hn : st[n]? = some (.lst xs)) (hd : nob d = true) (he : nobs xs = true) (h : dep d ≤ 100) : inB st d (.ref n) = some (.bl (decide (d ∈ xs))) := by unfold inB; rw [inO_ref hn hd he h]; rfl
theorem nin_tup (hd : nob d = true) (he : nobs xs = true) (h : dep d ≤ 100) : ninB st d (.tup xs) = some (.bl (!decide (d ∈ xs))) := by unfold ninB; rw [inO_tup hd he h]; rfl
theorem nin_lst (hd : nob d = true) (he : nobs xs = true) (h : dep d ≤ 100) : ninB st d (.lst xs) = some (.bl (!decide (d ∈ xs))) := by unfold ninB; rw [inO_lst hd he h]; rfl
theorem nin_refl {n : Nat} (hn : st[n]? = some (.lst xs)) (hd : nob d = true) (he : nobs xs = true) (h : dep d ≤ 100) : ninB st d (.ref n) = some (.bl (!decide (d ∈ xs))) := by unfold ninB; rw [inO_ref hn hd he h]; rfl
end
theorem neB_see {st : St} {d e d' e' : D} (h1 : see st d = d') (h2 : see st e = e') (p1 : pln d' = true) (p2 : pln e' = true) : neB st d e = neB st d' e' := by
  unfold neB eqO
  rw [h1, h2, see_pln p1, see_pln p2]
theorem eqB_see {st : St} {d e d' e' : D} (h1 : see st d = d') (h2 : see st e = e') (p1 : pln d' = true) (p2 : pln e' = true) : eqB st d e = eqB st d' e' := by
  unfold eqB eqO
  rw [h1, h2, see_pln p1, see_pln p2]
theorem see_cell {st : St} {n : Nat} {xs : List D} (h : st[n]? = some (.lst xs)) : see st (.ref n) = .lst xs := by simp [see, h]
/-! ### trees -/
/-- trees, patterns, shapes -/
inductive Pt where
  | unk (x : Str)
  | nd (f : Str) (ks : List Pt)
  deriving Inhabited
mutual
def encT : Pt → D
  | .unk x => .str x
  | .nd f ks => .tup (.str f :: encTs ks)
def encTs : List Pt → List D
  | [] => []
  | t :: ts => encT t :: encTs ts
end
theorem encTs_map : ∀ {ts : List Pt}, encTs ts = ts.map encT
  | [] => rfl
  | t :: ts => by rw [encTs, encTs_map]; rfl
theorem encT_nd {f : Str} {ks : List Pt} : encT (.nd f ks) = .tup (.str f :: ks.map encT) := by rw [encT, encTs_map]
theorem encT_unk {x : Str} : encT (.unk x) = .str x := by rw [encT]
theorem Pt.ind {P : Pt → Prop} (unk : ∀ x, P (.unk x)) (nd : ∀ f ks, (∀ t ∈ ks, P t) → P (.nd f ks)) : ∀ t, P t
  | .unk x => unk x
  | .nd f ks => nd f ks fun t _ => Pt.ind unk nd t
mutual
/-- how many stand within one another -/
def hgt : Pt → Nat
  | .unk _ => 0
  | .nd _ ks => hgts ks + 1
def hgts : List Pt → Nat
  | [] => 0
  | t :: ts => max (hgt t) (hgts ts)
end
mutual
/-- how many signs and unknowns -/
def siz : Pt → Nat
  | .unk _ => 1
  | .nd _ ks => 1 + sizs ks
def sizs : List Pt → Nat
  | [] => 0
  | t :: ts => siz t + sizs ts
end
theorem hgts_le : ∀ {ts : List Pt} {n : Nat}, hgts ts ≤ n ↔ ∀ t ∈ ts, hgt t ≤ n
  | [], n => by simp [hgts]
  | t :: ts, n => by simp [hgts, Nat.max_le, hgts_le (ts := ts)]
theorem hgt_mem {ts : List Pt} {t : Pt} (h : t ∈ ts) : hgt t ≤ hgts ts := hgts_le.mp (Nat.le_refl _) t h
theorem sizs_sum : ∀ {ts : List Pt}, sizs ts = (ts.map siz).sum
  | [] => rfl
  | t :: ts => by simp [sizs, sizs_sum]
theorem siz_mem : ∀ {ts : List Pt} {t : Pt}, t ∈ ts → siz t ≤ sizs ts
  | u :: ts, t, h => by
    rw [sizs]
    rcases List.mem_cons.mp h with rfl | h
    · omega
    · have := siz_mem h; omega
theorem siz_pos : ∀ t : Pt, 0 < siz t
  | .unk _ => by rw [siz]; omega
  | .nd _ _ => by rw [siz]; omega
theorem nob_T : ∀ t : Pt, nob (encT t) = true := Pt.ind (fun x => by rw [encT_unk]; rfl) fun f ks ih => by
  rw [encT_nd]
  simp only [nob, nobs, Bool.true_and]
  rw [nobs_iff]
  intro x hx
  obtain ⟨t, ht, rfl⟩ := List.mem_map.mp hx
  exact ih t ht
theorem dep_T : ∀ t : Pt, dep (encT t) = hgt t
  | .unk x => by rw [encT, dep, hgt]; intro a h; cases h; intro a h; cases h
  | .nd f ks => by
    have hd : ∀ ks : List Pt, (∀ t ∈ ks, dep (encT t) = hgt t) → deps (ks.map encT) = hgts ks := by
      intro ks
      induction ks with
      | nil => intro _; rfl
      | cons t ts ih => intro h; rw [List.map_cons, deps, hgts, h t List.mem_cons_self, ih fun u hu => h u (List.mem_cons_of_mem _ hu)]
    rw [encT_nd, dep, deps, hgt, hd ks fun t ht => dep_T t]
    simp [dep]
mutual
theorem encT_inj : ∀ {t u : Pt}, encT t = encT u → t = u
  | .unk x, .unk y, h => by rw [encT, encT] at h; cases h; rfl
  | .unk x, .nd g ls, h => by rw [encT, encT] at h; cases h
  | .nd f ks, .unk y, h => by rw [encT, encT] at h; cases h
  | .nd f ks, .nd g ls, h => by
    rw [encT, encT] at h
    simp only [D.tup.injEq, List.cons.injEq, D.str.injEq] at h
    rw [h.1, encTs_inj h.2]
theorem encTs_inj : ∀ {ts us : List Pt}, encTs ts = encTs us → ts = us
  | [], [], _ => rfl
  | [], u :: us, h => by rw [encTs, encTs] at h; cases h
  | t :: ts, [], h => by rw [encTs, encTs] at h; cases h
  | t :: ts, u :: us, h => by
    rw [encTs, encTs] at h
    simp only [List.cons.injEq] at h
    rw [encT_inj h.1, encTs_inj h.2]
end
theorem encT_iff {t u : Pt} : encT t = encT u ↔ t = u := ⟨encT_inj, fun h => by rw [h]⟩
theorem pln_T (t : Pt) : pln (encT t) = true := pln_nob (nob_T t)
theorem isRef_T (t : Pt) : isRef (encT t) = none := isRef_pln (pln_T t)
theorem bel_T {m : Nat} (t : Pt) : bel m (encT t) = true := bel_pln (pln_T t)
theorem nobs_Ts {ts : List Pt} : nobs (ts.map encT) = true := nobs_iff.mpr fun x hx => by
  obtain ⟨t, _, rfl⟩ := List.mem_map.mp hx
  exact nob_T t
/-! ### signs, trees of them -/
abbrev Sg := List (Str × Nat)
structure One (sg : Sg) : Prop where
  one : ∀ a k k', (a, k) ∈ sg → (a, k') ∈ sg → k = k'
  le : ∀ p ∈ sg, p.2 ≤ 3
def encS (sg : Sg) : D := .tup (sg.map fun p => D.tup [.str p.1, .int p.2])
structure Sgn (sg : Sg) : Prop where
  one : One sg
  nd : (sg.map (·.1)).Nodup
  lo : 0 < sg.length
  hi : sg.length ≤ 6
  bare : ∃ p ∈ sg, p.2 = 0
/-- a tree of signs -/
inductive TreeOf (sg : Sg) : Pt → Prop
  | mk {f : Str} {ks : List Pt} : (f, ks.length) ∈ sg → (∀ t ∈ ks, TreeOf sg t) → TreeOf sg (.nd f ks)
theorem nob_S (sg : Sg) : nob (encS sg) = true := by
  unfold encS
  rw [nob, nobs_iff]
  intro x hx
  obtain ⟨p, _, rfl⟩ := List.mem_map.mp hx
  rfl
/-! ### tables of sorts -/
/-- a row: a name, the sorts of its children -/
abbrev Row := Str × List Str
abbrev Tb := List (Str × List Row)
def encR (r : Row) : D := .tup (.str r.1 :: r.2.map D.str)
def encTb (tb : Tb) : D := .tup (tb.map fun e => D.tup [.str e.1, .tup (e.2.map encR)])
structure TabOk (sg : Sg) (tb : Tb) : Prop where
  nd : (tb.map (·.1)).Nodup
  lo : 0 < tb.length
  hi : tb.length ≤ 4
  row : ∀ e ∈ tb, ∀ r ∈ e.2, (r.1, r.2.length) ∈ sg
  srt : ∀ e ∈ tb, ∀ r ∈ e.2, ∀ s ∈ r.2, s ∈ tb.map (·.1)
  few : ∀ e ∈ tb, e.2.length ≤ 8
  rnd : ∀ e ∈ tb, e.2.Nodup
theorem nob_strs {l : List Str} : nobs (l.map D.str) = true := nobs_iff.mpr fun x hx => by
  obtain ⟨s, _, rfl⟩ := List.mem_map.mp hx
  rfl
theorem map_inj {α β : Type} {f : α → β} (hf : ∀ a b, f a = f b → a = b) : ∀ {l m : List α}, l.map f = m.map f → l = m
  | [], [], _ => rfl
  | [], _ :: _, h => by cases h
  | _ :: _, [], h => by cases h
  | a :: l, b :: m, h => by
    simp only [List.map_cons, List.cons.injEq] at h
    rw [hf a b h.1, map_inj hf h.2]
theorem strs_inj {l m : List Str} (h : l.map D.str = m.map D.str) : l = m := map_inj (fun _ _ h => by cases h; rfl) h
theorem nob_R (r : Row) : nob (encR r) = true := by
  unfold encR
  rw [nob, nobs, nob_strs]
  rfl
theorem encR_inj {r q : Row} (h : encR r = encR q) : r = q := by
  unfold encR at h
  simp only [D.tup.injEq, List.cons.injEq, D.str.injEq] at h
  exact Prod.ext h.1 (strs_inj h.2)
theorem dep_strs {l : List Str} : deps (l.map D.str) = 0 := by
  induction l with
  | nil => rfl
  | cons x l ih => rw [List.map_cons, deps, ih]; simp [dep]
theorem dep_R (r : Row) : dep (encR r) = 1 := by
  unfold encR
  rw [dep, deps, dep_strs]
  simp [dep]
theorem nob_Rs {rs : List Row} : nobs (rs.map encR) = true := nobs_iff.mpr fun x hx => by
  obtain ⟨r, _, rfl⟩ := List.mem_map.mp hx
  exact nob_R r
theorem nob_Tb (tb : Tb) : nob (encTb tb) = true := by
  unfold encTb
  rw [nob, nobs_iff]
  intro x hx
  obtain ⟨p, _, rfl⟩ := List.mem_map.mp hx
  simp [nob, nobs, nob_Rs]
theorem mem_map_inj {α β : Type} {f : α → β} (hf : ∀ a b, f a = f b → a = b) {l : List α} {a : α} : f a ∈ l.map f ↔ a ∈ l := by
  rw [List.mem_map]
  constructor
  · rintro ⟨b, hb, e⟩
    rw [← hf b a e]; exact hb
  · intro h; exact ⟨a, h, rfl⟩
/-! ### the sorts of a tree -/
def inAt (gs : List (List Str)) (ss : List Str) (k : Nat) : Bool := match gs[k]?, ss[k]? with
  | some g, some z => decide (z ∈ g)
  | _, _ => true
theorem inAt_eq {gs : List (List Str)} {ss : List Str} {k : Nat} {g : List Str} {z : Str} (h1 : gs[k]? = some g) (h2 : ss[k]? = some z) : inAt gs ss k = decide (z ∈ g) := by
  unfold inAt
  rw [h1, h2]
def rowFits (f : Str) (gs : List (List Str)) (r : Row) : Bool := r.1 == f && (List.range gs.length).all (inAt gs r.2)
def rowsSorts (tb : Tb) (f : Str) (gs : List (List Str)) : List Str := (tb.filter fun e => e.2.any (rowFits f gs)).map (·.1)
mutual
def sortsOf (tb : Tb) : Pt → List Str
  | .unk _ => []
  | .nd f ks => rowsSorts tb f (sortsOfs tb ks)
def sortsOfs (tb : Tb) : List Pt → List (List Str)
  | [] => []
  | t :: ts => sortsOf tb t :: sortsOfs tb ts
end
theorem sortsOfs_map {tb : Tb} : ∀ {ts : List Pt}, sortsOfs tb ts = ts.map (sortsOf tb)
  | [] => rfl
  | t :: ts => by rw [sortsOfs, sortsOfs_map]; rfl
theorem rowFits_iff {f : Str} {gs : List (List Str)} {r : Row} (hl : r.1 = f → r.2.length = gs.length) : rowFits f gs r = true ↔ r.1 = f ∧ ∀ (k : Nat) (z : Str) (g : List Str), r.2[k]? = some z → gs[k]? = some g → z ∈ g := by
  unfold rowFits
  rw [Bool.and_eq_true, beq_iff_eq, List.all_eq_true]
  constructor
  · rintro ⟨h1, h2⟩
    refine ⟨h1, fun k z g hz hg => ?_⟩
    have := h2 k (by simpa using (List.getElem?_eq_some_iff.mp hg).1)
    rw [inAt_eq hg hz] at this
    exact of_decide_eq_true this
  · rintro ⟨h1, h2⟩
    refine ⟨h1, fun k hk => ?_⟩
    have hk' : k < gs.length := by simpa using hk
    have hl' := hl h1
    have e1 : gs[k]? = some gs[k] := by simp
    have e2 : r.2[k]? = some (r.2[k]'(by omega)) := by simp
    rw [inAt_eq e1 e2]
    exact decide_eq_true (h2 k _ _ e2 e1)
theorem mem_rowsSorts {tb : Tb} {f s : Str} {gs : List (List Str)} : s ∈ rowsSorts tb f gs ↔ ∃ rows, (s, rows) ∈ tb ∧ ∃ r ∈ rows, rowFits f gs r = true := by
  unfold rowsSorts
  rw [List.mem_map]
  constructor
  · rintro ⟨⟨z, rows⟩, h, rfl⟩
    obtain ⟨h1, h2⟩ := List.mem_filter.mp h
    obtain ⟨r, hr, hf⟩ := List.any_eq_true.mp h2
    exact ⟨rows, h1, r, hr, hf⟩
  · rintro ⟨rows, h1, r, hr, hf⟩
    exact ⟨(s, rows), List.mem_filter.mpr ⟨h1, List.any_eq_true.mpr ⟨r, hr, hf⟩⟩, rfl⟩
/-! ### sorts within others -/
abbrev Rel := List (Str × Str)
def encPr (p : Str × Str) : D := .tup [.str p.1, .str p.2]
theorem encPr_inj {p q : Str × Str} (h : encPr p = encPr q) : p = q := by
  unfold encPr at h
  simp only [D.tup.injEq, List.cons.injEq, D.str.injEq, and_true] at h
  exact Prod.ext h.1 h.2
theorem nob_Pr (p : Str × Str) : nob (encPr p) = true := rfl
theorem dep_Pr (p : Str × Str) : dep (encPr p) = 1 := by simp [encPr, dep, deps]
theorem nob_Prs {l : Rel} : nobs (l.map encPr) = true := nobs_iff.mpr fun x hx => by
  obtain ⟨r, _, rfl⟩ := List.mem_map.mp hx
  exact nob_Pr r
def rowsAt (tb : Tb) (s : Str) : List Row := ((tb.find? fun e => e.1 == s).map (·.2)).getD []
def rowIn (rel : Rel) (r q : Row) : Bool := q.1 == r.1 && (List.zip r.2 q.2).all fun p => decide (p ∈ rel)
def hasRow (rel : Rel) (r : Row) (rows : List Row) : Bool := rows.any (rowIn rel r)
def relOk (tb : Tb) (rel : Rel) (p : Str × Str) : Bool := (rowsAt tb p.1).all fun r => hasRow rel r (rowsAt tb p.2)
def relStep (tb : Tb) (rel : Rel) : Rel := rel.filter (relOk tb rel)
def relAll (tb : Tb) : Rel := tb.flatMap fun e => tb.map fun f => (e.1, f.1)
def chain (tb : Tb) : Nat → Rel
  | 0 => relAll tb
  | k + 1 => relStep tb (chain tb k)
theorem chain_sub {tb : Tb} : ∀ {k : Nat} {p : Str × Str}, p ∈ chain tb k → p ∈ relAll tb
  | 0, _, h => h
  | k + 1, p, h => chain_sub (List.mem_filter.mp h).1
theorem mem_relAll {tb : Tb} {p : Str × Str} : p ∈ relAll tb ↔ p.1 ∈ tb.map (·.1) ∧ p.2 ∈ tb.map (·.1) := by
  unfold relAll
  simp only [List.mem_flatMap, List.mem_map]
  constructor
  · rintro ⟨e, he, f, hf, rfl⟩
    exact ⟨⟨e, he, rfl⟩, f, hf, rfl⟩
  · rintro ⟨⟨e, he, h1⟩, f, hf, h2⟩
    exact ⟨e, he, f, hf, Prod.ext h1 h2⟩
theorem relAll_len {tb : Tb} (h : tb.length ≤ 4) : (relAll tb).length ≤ 16 := by
  unfold relAll
  have key : ∀ l : Tb, (l.flatMap fun e => tb.map fun f => (e.1, f.1)).length = l.length * tb.length := by
    intro l
    induction l with
    | nil => simp
    | cons e l ih => rw [List.flatMap_cons, List.length_append, ih, List.length_map, List.length_cons, Nat.succ_mul]; omega
  rw [key]
  have := Nat.mul_le_mul h h
  omega
theorem relStep_len {tb : Tb} {rel : Rel} : (relStep tb rel).length ≤ rel.length := List.length_filter_le _ _
theorem relStep_eq {tb : Tb} {rel : Rel} (h : (relStep tb rel).length = rel.length) : relStep tb rel = rel := by
  unfold relStep at h ⊢
  exact List.filter_eq_self.mpr (List.length_filter_eq_length_iff.mp h)
theorem chain_fix {tb : Tb} {k : Nat} (h : relStep tb (chain tb k) = chain tb k) : ∀ m, chain tb (k + m) = chain tb k
  | 0 => rfl
  | m + 1 => by
    show relStep tb (chain tb (k + m)) = _
    rw [chain_fix h m, h]
structure IsW (tb : Tb) (rel : Rel) : Prop where
  ch : ∃ k, rel = chain tb k
  fix : relStep tb rel = rel
theorem IsW.uniq {tb : Tb} {r q : Rel} (h : IsW tb r) (h' : IsW tb q) : r = q := by
  obtain ⟨⟨k, rfl⟩, f1⟩ := h
  obtain ⟨⟨m, rfl⟩, f2⟩ := h'
  rw [← chain_fix f1 m, ← chain_fix f2 k, Nat.add_comm]
theorem chain_len (tb : Tb) : ∀ k, (∃ j, j < k ∧ relStep tb (chain tb j) = chain tb j) ∨ (chain tb k).length + k ≤ (relAll tb).length
  | 0 => .inr (Nat.le_refl _)
  | k + 1 => by
    rcases chain_len tb k with ⟨j, hj, h⟩ | h
    · exact .inl ⟨j, by omega, h⟩
    · by_cases hf : relStep tb (chain tb k) = chain tb k
      · exact .inl ⟨k, by omega, hf⟩
      · right
        have h1 := relStep_len (tb := tb) (rel := chain tb k)
        have h2 : (relStep tb (chain tb k)).length ≠ (chain tb k).length := fun e => hf (relStep_eq e)
        show (relStep tb (chain tb k)).length + (k + 1) ≤ _
        omega
theorem isW_ex (tb : Tb) : ∃ rel, IsW tb rel := by
  rcases chain_len tb ((relAll tb).length + 1) with ⟨j, _, h⟩ | h
  · exact ⟨_, ⟨j, rfl⟩, h⟩
  · omega
noncomputable def withinR (tb : Tb) : Rel := Classical.choose (isW_ex tb)
theorem withinR_is (tb : Tb) : IsW tb (withinR tb) := Classical.choose_spec (isW_ex tb)
theorem IsW.eq {tb : Tb} {r : Rel} (h : IsW tb r) : r = withinR tb := h.uniq (withinR_is tb)
theorem find_mem {tb : Tb} (nd : (tb.map (·.1)).Nodup) {s : Str} {rows : List Row} (h : (s, rows) ∈ tb) : tb.find? (fun e => e.1 == s) = some (s, rows) := by
  induction tb with
  | nil => cases h
  | cons e tb ih =>
    rw [List.map_cons, List.nodup_cons] at nd
    rw [List.find?_cons]
    rcases List.mem_cons.mp h with rfl | h
    · simp
    · have : e.1 ≠ s := fun z => nd.1 (by rw [z]; exact List.mem_map.mpr ⟨_, h, rfl⟩)
      have hb : (e.1 == s) = false := by simpa using this
      rw [hb]
      exact ih nd.2 h
theorem rowsAt_mem {tb : Tb} (nd : (tb.map (·.1)).Nodup) {s : Str} {rows : List Row} (h : (s, rows) ∈ tb) : rowsAt tb s = rows := by
  unfold rowsAt
  rw [find_mem nd h]
  rfl
theorem mem_at {tb : Tb} (nd : (tb.map (·.1)).Nodup) {s : Str} (h : s ∈ tb.map (·.1)) : (s, rowsAt tb s) ∈ tb := by
  obtain ⟨⟨z, rows⟩, he, rfl⟩ := List.mem_map.mp h
  rw [show rowsAt tb z = rows from rowsAt_mem nd he]
  exact he
theorem mem_sortsOf {tb : Tb} (nd : (tb.map (·.1)).Nodup) {f s : Str} {ks : List Pt} : s ∈ sortsOf tb (.nd f ks) ↔ s ∈ tb.map (·.1) ∧ ∃ r ∈ rowsAt tb s, rowFits f (sortsOfs tb ks) r = true := by
  rw [sortsOf, mem_rowsSorts]
  constructor
  · rintro ⟨rows, h, r, hr, hf⟩
    exact ⟨List.mem_map.mpr ⟨_, h, rfl⟩, r, by rw [rowsAt_mem nd h]; exact hr, hf⟩
  · rintro ⟨h, r, hr, hf⟩
    exact ⟨_, mem_at nd h, r, hr, hf⟩
theorem row_len {sg : Sg} {tb : Tb} (one : One sg) (htb : TabOk sg tb) {s : Str} {r : Row} {n : Nat} (hs : s ∈ tb.map (·.1)) (hr : r ∈ rowsAt tb s) (hn : (r.1, n) ∈ sg) : r.2.length = n := one.one _ _ _ (htb.row _ (mem_at htb.nd hs) _ hr) hn
theorem zip_all {α β : Type} {p : α × β → Bool} : ∀ {xs : List α} {ys : List β}, (List.zip xs ys).all p = true → ∀ {k : Nat} {x : α} {y : β}, xs[k]? = some x → ys[k]? = some y → p (x, y) = true
  | [], _, _, k, x, y, h, _ => by simp at h
  | _ :: _, [], _, k, x, y, _, h => by simp at h
  | a :: xs, b :: ys, h, 0, x, y, h1, h2 => by
    simp at h1 h2
    subst h1 h2
    rw [List.zip_cons_cons, List.all_cons, Bool.and_eq_true] at h
    exact h.1
  | a :: xs, b :: ys, h, k + 1, x, y, h1, h2 => by
    rw [List.zip_cons_cons, List.all_cons, Bool.and_eq_true] at h
    exact zip_all h.2 (by simpa using h1) (by simpa using h2)
/-- trees of the one sort are of the other one -/
theorem within_sound {sg : Sg} {tb : Tb} (one : One sg) (htb : TabOk sg tb) {rel : Rel} (hw : IsW tb rel) : ∀ (t : Pt), TreeOf sg t → ∀ p ∈ rel, p.1 ∈ sortsOf tb t → p.2 ∈ sortsOf tb t
  | .unk x, ht, _, _, _ => by cases ht
  | .nd f ks, .mk hn hk, p, hp, h1 => by
    obtain ⟨k, hch⟩ := hw.ch
    have hall := mem_relAll.mp (chain_sub (by rw [← hch]; exact hp))
    have hok : relOk tb rel p = true := by
      have := hw.fix
      rw [← this] at hp
      exact (List.mem_filter.mp hp).2
    obtain ⟨hs, r, hr, hf⟩ := (mem_sortsOf htb.nd).mp h1
    have hgl : (sortsOfs tb ks).length = ks.length := by rw [sortsOfs_map, List.length_map]
    have hr1 : ∀ {s : Str} {r : Row}, s ∈ tb.map (·.1) → r ∈ rowsAt tb s → r.1 = f → r.2.length = (sortsOfs tb ks).length := fun hs hr e => by
      rw [hgl]
      exact row_len one htb hs hr (by rw [e]; exact hn)
    obtain ⟨e1, hall1⟩ := (rowFits_iff (hr1 hs hr)).mp hf
    obtain ⟨q, hq, hqi⟩ := List.any_eq_true.mp (List.all_eq_true.mp hok r hr)
    unfold rowIn at hqi
    rw [Bool.and_eq_true, beq_iff_eq] at hqi
    have e2 : q.1 = f := hqi.1.trans e1
    refine (mem_sortsOf htb.nd).mpr ⟨hall.2, q, hq, (rowFits_iff (hr1 hall.2 hq)).mpr ⟨e2, fun k z g hz hg => ?_⟩⟩
    have hkl : k < r.2.length := by
      rw [hr1 hs hr e1]
      exact (List.getElem?_eq_some_iff.mp hg).1
    have hy : r.2[k]? = some r.2[k] := by simp
    have hz1 := hall1 k _ g hy hg
    have hpair := of_decide_eq_true (zip_all hqi.2 hy hz)
    rw [sortsOfs_map, List.getElem?_map] at hg
    obtain ⟨t, ht, rfl⟩ := Option.map_eq_some_iff.mp hg
    exact within_sound one htb hw t (hk t (List.mem_of_getElem? ht)) _ hpair hz1
/-! ### a tuple of pairs as a dict -/
theorem dPuts_new {α : Type} (k : α → Str) (v : α → D) : ∀ (as done : List α), ((done ++ as).map k).Nodup → dPuts (done.map fun a => D.str (k a)) (done.map v) (as.map fun a => (D.str (k a), v a)) = ((done ++ as).map (fun a => D.str (k a)), (done ++ as).map v)
  | [], done, _ => by simp [dPuts]
  | a :: as, done, h => by
    have h' : ((done ++ [a] ++ as).map k).Nodup := by simpa using h
    have ih := dPuts_new k v as (done ++ [a]) h'
    rw [List.map_cons, dPuts]
    have hno : (done.map fun a => D.str (k a)).any (fun z => eqD z (.str (k a))) = false := by
      rw [List.any_eq_false]
      intro x hx
      obtain ⟨b, hb, rfl⟩ := List.mem_map.mp hx
      simp only [eqD, beq_iff_eq]
      intro e
      rw [List.map_append, List.nodup_append] at h
      exact h.2.2 (k b) (List.mem_map.mpr ⟨b, hb, rfl⟩) (k a) (by simp) e
    unfold dPut
    rw [if_neg (by rw [hno]; exact Bool.false_ne_true)]
    simp only
    rw [show (done.map fun a => D.str (k a)) ++ [D.str (k a)] = (done ++ [a]).map fun a => D.str (k a) by simp, show done.map v ++ [v a] = (done ++ [a]).map v by simp, ih]
    simp
theorem prs_pairs {α : Type} (k : α → Str) (v : α → D) : ∀ (as : List α), prs (as.map fun a => D.tup [.str (k a), v a]) = some (as.map fun a => (D.str (k a), v a))
  | [] => rfl
  | a :: as => by
    rw [List.map_cons, prs, if_pos (show keyish (D.str (k a)) = true from rfl), prs_pairs k v as]
    rfl
theorem dict_tup {α : Type} {st : St} (k : α → Str) (v : α → D) (as : List α) (h : (as.map k).Nodup) : dictD st (.tup (as.map fun a => D.tup [.str (k a), v a])) = some (.dct (as.map fun a => D.str (k a)) (as.map v)) := by
  unfold dictD
  simp only [see]
  rw [prs_pairs]
  have := dPuts_new k v as [] (by simpa using h)
  simp only [List.map_nil, List.nil_append] at this
  simp [this]
theorem look_map {α : Type} (k : α → Str) (v : α → D) (s : Str) : ∀ (as : List α), look (as.map fun a => D.str (k a)) (as.map v) (.str s) = (as.find? fun a => k a == s).map v
  | [] => rfl
  | a :: as => by
    rw [List.map_cons, List.map_cons, look, List.find?_cons]
    by_cases h : k a = s
    · subst h
      rw [if_pos (by simp [eqD])]
      simp
    · have hb : (k a == s) = false := by simpa using h
      rw [if_neg (by simp [eqD, h]), hb, look_map k v s as]
theorem dict_tb {st : St} {tb : Tb} (nd : (tb.map (·.1)).Nodup) : dictD st (encTb tb) = some (.dct (tb.map fun e => D.str e.1) (tb.map fun e => D.tup (e.2.map encR))) := dict_tup (fun e : Str × List Row => e.1) (fun e => D.tup (e.2.map encR)) tb nd
theorem idx_tb {st : St} {tb : Tb} (nd : (tb.map (·.1)).Nodup) {s : Str} (hs : s ∈ tb.map (·.1)) : idxD st (.dct (tb.map fun e => D.str e.1) (tb.map fun e => D.tup (e.2.map encR))) (.str s) = some (.tup ((rowsAt tb s).map encR)) := by
  rw [idx_dctS, look_map (fun e : Str × List Row => e.1) (fun e => D.tup (e.2.map encR)) s tb, find_mem nd (mem_at nd hs)]
  rfl
end RP
end
section
set_option Elab.async false
set_option linter.all false
set_option maxRecDepth 100000
/-! Any things: plain data of bounded sizes; names. -/
namespace RP
open PySem
/-- plain data: at most d within one another, nothing longer than L -/
inductive Thg (L : Nat) : Nat → D → Prop
  | non {d : Nat} : Thg L d .non
  | bl {d : Nat} (b : Bool) : Thg L d (.bl b)
  | int {d : Nat} (i : Int) : Thg L d (.int i)
  | str {d : Nat} (x : Str) : x.length ≤ L → Thg L d (.str x)
  | tup {d : Nat} {xs : List D} : xs.length ≤ L → (∀ x ∈ xs, Thg L d x) → Thg L (d + 1) (.tup xs)
  | lst {d : Nat} {xs : List D} : xs.length ≤ L → (∀ x ∈ xs, Thg L d x) → Thg L (d + 1) (.lst xs)
theorem Thg.mono {L L' : Nat} (hL : L ≤ L') : ∀ {d d' : Nat} {x : D}, d ≤ d' → Thg L d x → Thg L' d' x := by
  intro d d' x hd h
  induction h generalizing d' with
  | non => exact .non
  | bl b => exact .bl b
  | int i => exact .int i
  | str x h => exact .str x (by omega)
  | tup h _ ih =>
    obtain ⟨e, rfl⟩ : ∃ e, d' = e + 1 := ⟨d' - 1, by omega⟩
    exact .tup (by omega) fun x hx => ih x hx (by omega)
  | lst h _ ih =>
    obtain ⟨e, rfl⟩ : ∃ e, d' = e + 1 := ⟨d' - 1, by omega⟩
    exact .lst (by omega) fun x hx => ih x hx (by omega)
theorem Thg.pln {L : Nat} {d : Nat} {x : D} (h : Thg L d x) : pln x = true := by
  induction h with
  | non => rfl
  | bl b => rfl
  | int i => rfl
  | str x h => rfl
  | tup h _ ih => rw [RP.pln]; exact plns_iff.mpr ih
  | lst h _ ih => rw [RP.pln]; exact plns_iff.mpr ih
theorem Thg.dep {L : Nat} {d : Nat} {x : D} (h : Thg L d x) : dep x ≤ d := by
  induction h with
  | non => simp [RP.dep]
  | bl b => simp [RP.dep]
  | int i => simp [RP.dep]
  | str x h => simp [RP.dep]
  | tup h _ ih => rw [RP.dep]; have := deps_le ih; omega
  | lst h _ ih => rw [RP.dep]; have := deps_le ih; omega
theorem Thg.ref {L : Nat} {d : Nat} {x : D} (h : Thg L d x) : isRef x = none := isRef_pln h.pln
theorem Thg.bel {L : Nat} {d m : Nat} {x : D} (h : Thg L d x) : bel m x = true := bel_pln h.pln
theorem Thg.see {L : Nat} {d : Nat} {x : D} {st : St} (h : Thg L d x) : see st x = x := see_pln h.pln
/-- signs of names of these letters -/
def lettersL : List Nat := (List.range 26).map (· + 97)
def figuresL : List Nat := (List.range 10).map (· + 48)
def nameB (x : Str) : Bool := decide (1 ≤ x.length) && (decide (x.length ≤ 8) && x.cps.toList.all fun c => decide (c ∈ lettersL))
def isNameB : D → Bool
  | .str x => nameB x
  | _ => false
theorem letters_eq : (("abcdefghijklmnopqrstuvwxyz" : Str).cps.toList) = lettersL := by decide +kernel
theorem figures_eq : (("0123456789" : Str).cps.toList) = figuresL := by decide +kernel
def signsOf (z : Str) : List D := z.cps.toList.map fun c => D.str ⟨#[c]⟩
theorem it_str {st : St} {z : Str} (h : z.length ≤ big) : itD st (.str z) = some (signsOf z, none) := if_pos h
theorem in_sign {st : St} {c : Nat} {z : Str} : inB st (.str ⟨#[c]⟩) (.str z) = some (.bl (decide (c ∈ z.cps.toList))) := rfl
theorem nin_sign {st : St} {c : Nat} {z : Str} : ninB st (.str ⟨#[c]⟩) (.str z) = some (.bl (!decide (c ∈ z.cps.toList))) := rfl
theorem len_str {st : St} {z : Str} (h : z.length ≤ big) : lenD st (.str z) = some (.int z.length) := if_pos h
theorem len_pln {st : St} {xs : List D} : lenD st (.tup xs) = some (.int xs.length) := rfl
/-- the kinds -/
def isStrB : D → Bool
  | .str _ => true
  | _ => false
def isTupB : D → Bool
  | .tup _ => true
  | _ => false
def isLstB : D → Bool
  | .lst _ => true
  | _ => false
def isIntB : D → Bool
  | .int _ => true
  | .bl _ => true
  | _ => false
def isBlB : D → Bool
  | .bl _ => true
  | _ => false
section
variable {L d : Nat} {x : D} {st : St}
theorem isi_str (h : Thg L d x) : isiD .str st x = some (.bl (isStrB x)) := by cases h <;> rfl
theorem isi_tup (h : Thg L d x) : isiD .tuple st x = some (.bl (isTupB x)) := by cases h <;> rfl
theorem isi_lst (h : Thg L d x) : isiD .list st x = some (.bl (isLstB x)) := by cases h <;> rfl
theorem isi_int (h : Thg L d x) : isiD .int st x = some (.bl (isIntB x)) := by cases h <;> rfl
theorem isi_bl (h : Thg L d x) : isiD .bool st x = some (.bl (isBlB x)) := by cases h <;> rfl
end
theorem ok_dctM {c : Call} {env : Env} {st : St} {Q : D → St → Prop} : Ok (mDctM c env st) Q ↔ Q (.ref st.length) (st ++ [.dct [] []]) := Iff.rfl
end RP
end
section
set_option Elab.async false
set_option linter.all false
set_option maxRecDepth 100000
set_option maxHeartbeats 1000000
/-! Unknowns, patterns, rules as plain data; sizes. -/
namespace RP
open PySem
theorem chain2 {a : Bool} {p q : Prop} (h : if a = true then p else q) : (D.bl a = D.bl true ∧ p) ∨ (D.bl a = D.bl false ∧ q) := by
  cases a with
  | true => exact .inl ⟨rfl, by simpa using h⟩
  | false => exact .inr ⟨rfl, by simpa using h⟩
theorem all_signs {z : Str} {l : List Nat} {st : St} : allD st (.lst (z.cps.toList.map fun c => D.bl (decide (c ∈ l)))) = some (.bl (z.cps.toList.all fun c => decide (c ∈ l))) := by
  have e : (z.cps.toList.map fun c => D.bl (decide (c ∈ l))) = (z.cps.toList.map fun c => decide (c ∈ l)).map D.bl := by rw [List.map_map]; rfl
  rw [e, all_bls, List.all_map]
  rfl
theorem asStrs_map : ∀ {ss : List Str}, asStrs (ss.map D.str) = some ss
  | [] => rfl
  | s :: ss => by rw [List.map_cons, asStrs, asStrs_map]; rfl
theorem lenSet_strs {st : St} {ss : List Str} (h : ss.length ≤ 4000) : lenSetD st (.lst (ss.map D.str)) = some (.int (dedup ss).length) := by
  unfold lenSetD
  simp only [see, asStrs_map]
  rw [if_pos h]
theorem nobs_ints {l : List Int} : nobs (l.map D.int) = true := nobs_iff.mpr fun x hx => by
  obtain ⟨i, _, rfl⟩ := List.mem_map.mp hx
  rfl
theorem in_ints {st : St} {i : Int} {l : List Int} : inB st (.int i) (.lst (l.map D.int)) = some (.bl (decide (i ∈ l))) := by
  rw [in_lst rfl nobs_ints (by simp [dep])]
  rw [decide_eq_decide.mpr (mem_map_inj (f := D.int) (fun a b h => by cases h; rfl))]
theorem nin_ints {st : St} {i : Int} {l : List Int} : ninB st (.int i) (.lst (l.map D.int)) = some (.bl (!decide (i ∈ l))) := by
  rw [nin_lst rfl nobs_ints (by simp [dep])]
  rw [decide_eq_decide.mpr (mem_map_inj (f := D.int) (fun a b h => by cases h; rfl))]
theorem nin_intsT {st : St} {i : Int} {l : List Int} : ninB st (.int i) (.tup (l.map D.int)) = some (.bl (!decide (i ∈ l))) := by
  rw [nin_tup rfl nobs_ints (by simp [dep])]
  rw [decide_eq_decide.mpr (mem_map_inj (f := D.int) (fun a b h => by cases h; rfl))]
theorem eq_noneL {st : St} {l : List Nat} {p : Nat → Bool} : eqB st (.lst ((l.filter fun c => !p c).map fun c => D.str ⟨#[c]⟩)) (.lst []) = some (.bl (l.all p)) := by
  have e : ((l.filter fun c => !p c).map fun c => D.str ⟨#[c]⟩) = ((l.filter fun c => !p c).map fun c => (⟨#[c]⟩ : Str)).map D.str := by rw [List.map_map]; rfl
  rw [e, eq_nob (by rw [nob]; exact nob_strs) rfl (by rw [dep, dep_strs]; decide)]
  congr 2
  rw [Bool.eq_iff_iff]
  simp [List.filter_eq_nil_iff]
theorem idx_str {st : St} {z : Str} {i : Int} {c : Nat} (hz : z.length ≤ big) (h : L2.atI z.cps.toList i = some c) : idxD st (.str z) (.int i) = some (.str ⟨#[c]⟩) := by
  show (if z.length ≤ big then _ else _) = _
  rw [if_pos hz, h]
  rfl
theorem slice_str {st : St} {z : Str} {lo hi : Option Int} (hz : z.length ≤ big) : sliceD st (.str z) lo hi = some (.str ⟨(cut z.cps.toList lo hi).toArray⟩) := if_pos hz
def hdS (z : Str) : Str := ⟨(cut z.cps.toList none (some 1)).toArray⟩
def tlS (z : Str) : Str := ⟨(cut z.cps.toList (some 1) none).toArray⟩
def fsS (z : Str) : Str := match z.cps.toList with
  | c :: _ => ⟨#[c]⟩
  | [] => ""
theorem tlS_len {z : Str} : (tlS z).length ≤ z.length := by
  unfold tlS
  have : (cut z.cps.toList (some 1) none).length ≤ z.cps.toList.length := by
    unfold cut
    rw [List.length_take, List.length_drop]
    omega
  simpa [Str.length] using this
theorem fs_idx {st : St} {z : Str} (hz : z.length ≤ big) (h : 1 ≤ z.length) : idxD st (.str z) (.int 0) = some (.str (fsS z)) := by
  unfold fsS
  cases hc : z.cps.toList with
  | nil =>
    have : z.length = 0 := by
      show z.cps.size = 0
      rw [← Array.length_toList, hc]; rfl
    omega
  | cons c r => exact idx_str hz (by rw [hc]; exact at0)
/-- a name or a number behind the sign -/
def unkS (z : Str) : Bool := (hdS z == ("?" : Str)) && (nameB (tlS z) || ((decide (1 ≤ (tlS z).length) && decide ((tlS z).length ≤ 9)) && (((tlS z).cps.toList.all fun c => decide (c ∈ figuresL)) && ((tlS z == ("0" : Str)) || !(fsS (tlS z) == ("0" : Str))))))
def unkB : D → Bool
  | .str z => unkS z
  | _ => false
theorem ne_noneL {st : St} {l : List Nat} {p : Nat → Bool} : neB st (.lst ((l.filter fun c => !p c).map fun c => D.str ⟨#[c]⟩)) (.lst []) = some (.bl (!(l.all p))) := by
  have e : ((l.filter fun c => !p c).map fun c => D.str ⟨#[c]⟩) = ((l.filter fun c => !p c).map fun c => (⟨#[c]⟩ : Str)).map D.str := by rw [List.map_map]; rfl
  rw [e, ne_nob (by rw [nob]; exact nob_strs) rfl (by rw [dep, dep_strs]; decide)]
  congr 2
  rw [Bool.eq_iff_iff]
  simp [List.filter_eq_nil_iff]
/-- patterns made of signs -/
def patB (sg : Sg) : Nat → D → Bool
  | _, .str z => unkS z
  | d + 1, .tup (.str f :: ks) => decide ((f, ks.length) ∈ sg) && ks.all (patB sg d)
  | _, _ => false
theorem nin_dct {st : St} {f : Str} {ks vs : List D} : ninB st (.str f) (.dct ks vs) = some (.bl (!(look ks vs (.str f)).isSome)) := rfl
theorem nin_fls {st : St} {bs : List Bool} : ninB st (.bl false) (.lst (bs.map D.bl)) = some (.bl (bs.all id)) := by
  have h1 : see st (.lst (bs.map D.bl)) = .lst (bs.map D.bl) := rfl
  have h2 : see st (.bl false) = .bl false := rfl
  have h3 : pln (.bl false) = true := rfl
  have h4 : dep (.bl false) = 0 := rfl
  unfold ninB inO
  simp only [h1, h2]
  rw [if_pos (by rw [h3, plns_bls, h4]; simp)]
  simp only [Option.map_some, bD]
  congr 2
  rw [Bool.eq_iff_iff]
  simp [List.any_eq_true, List.all_eq_true, eqD]
theorem in_fls {st : St} {bs : List Bool} : inB st (.bl false) (.lst (bs.map D.bl)) = some (.bl (!(bs.all id))) := by
  have h1 : see st (.lst (bs.map D.bl)) = .lst (bs.map D.bl) := rfl
  have h2 : see st (.bl false) = .bl false := rfl
  have h3 : pln (.bl false) = true := rfl
  have h4 : dep (.bl false) = 0 := rfl
  unfold inB inO
  simp only [h1, h2]
  rw [if_pos (by rw [h3, plns_bls, h4]; simp)]
  simp only [bD, Option.map_some]
  congr 2
  rw [Bool.eq_iff_iff]
  simp [List.any_eq_true, List.all_eq_true, eqD]
theorem find_sg {sg : Sg} (hs : One sg) {f : Str} {n : Nat} : (∃ p, sg.find? (fun p => p.1 == f) = some p ∧ p.1 = f ∧ p ∈ sg ∧ ((f, n) ∈ sg ↔ n = p.2)) ∨ (sg.find? (fun p => p.1 == f) = none ∧ ¬ (f, n) ∈ sg) := by
  cases h : sg.find? (fun p => p.1 == f) with
  | none =>
    refine .inr ⟨rfl, fun hm => ?_⟩
    have := List.find?_eq_none.mp h _ hm
    simp at this
  | some p =>
    have h1 : p.1 = f := by simpa using List.find?_some h
    have h2 := List.mem_of_find?_eq_some h
    refine .inl ⟨p, rfl, h1, h2, fun hm => ?_, fun hn => ?_⟩
    · exact hs.one f _ _ hm (by rw [← h1]; exact h2)
    · rw [hn, ← h1]; exact h2
theorem pat_nil {sg : Sg} {d : Nat} : patB sg d (.tup []) = false := by cases d <;> rfl
mutual
/-- how many things stand in it -/
def dsz : D → Nat
  | .tup xs => 1 + dszs xs
  | .lst xs => 1 + dszs xs
  | _ => 1
def dszs : List D → Nat
  | [] => 0
  | x :: xs => dsz x + dszs xs
end
theorem dszs_app {xs ys : List D} : dszs (xs ++ ys) = dszs xs + dszs ys := by
  induction xs with
  | nil => simp [dszs]
  | cons x xs ih => rw [List.cons_append, dszs, dszs, ih]; omega
theorem dsz_pos : ∀ {x : D}, 1 ≤ dsz x
  | .tup xs => by rw [dsz]; omega
  | .lst xs => by rw [dsz]; omega
  | .non => Nat.le_refl 1
  | .bl _ => Nat.le_refl 1
  | .int _ => Nat.le_refl 1
  | .str _ => Nat.le_refl 1
  | .dct _ _ => Nat.le_refl 1
  | .set _ => Nat.le_refl 1
  | .frz _ => Nat.le_refl 1
  | .ref _ => Nat.le_refl 1
theorem dsz_tup {xs : List D} : dsz (.tup xs) = 1 + dszs xs := by rw [dsz]
theorem dsz_lst {xs : List D} : dsz (.lst xs) = 1 + dszs xs := by rw [dsz]
theorem dsz_str {z : Str} : dsz (.str z) = 1 := rfl
theorem dsz_mem : ∀ {xs : List D} {x : D}, x ∈ xs → dsz x ≤ dszs xs
  | y :: ys, x, h => by
    rw [dszs]
    rcases List.mem_cons.mp h with e | h
    · rw [e]; omega
    · have := dsz_mem h; omega
theorem dsz_T : ∀ {t : Pt}, siz t ≤ dsz (encT t) ∧ dsz (encT t) ≤ 2 * siz t := by
  refine @(Pt.ind ?_ ?_)
  · intro x
    rw [encT_unk, siz]
    exact ⟨Nat.le_refl 1, by rw [dsz_str]; omega⟩
  · intro f ks ih
    rw [encT_nd, siz, dsz_tup, dszs, dsz_str]
    have : ∀ ks : List Pt, (∀ t ∈ ks, siz t ≤ dsz (encT t) ∧ dsz (encT t) ≤ 2 * siz t) → sizs ks ≤ dszs (ks.map encT) ∧ dszs (ks.map encT) ≤ 2 * sizs ks := by
      intro ks
      induction ks with
      | nil => intro _; simp [sizs, dszs]
      | cons t ts ih =>
        intro h
        have h1 := h t (by simp)
        have h2 := ih fun u hu => h u (by simp [hu])
        rw [List.map_cons, sizs, dszs]
        omega
    have := this ks ih
    omega
mutual
/-- the unknowns, in order -/
def unks : Pt → List Str
  | .unk x => [x]
  | .nd _ ks => unkss ks
def unkss : List Pt → List Str
  | [] => []
  | t :: ts => unks t ++ unkss ts
end
theorem unkss_app {ts us : List Pt} : unkss (ts ++ us) = unkss ts ++ unkss us := by
  induction ts with
  | nil => rfl
  | cons t ts ih => rw [List.cons_append, unkss, unkss, ih, List.append_assoc]
theorem unks_len : ∀ {t : Pt}, (unks t).length ≤ siz t := by
  refine @(Pt.ind ?_ ?_)
  · intro x; rw [unks, siz]; simp
  · intro f ks ih
    rw [unks, siz]
    have : ∀ ks : List Pt, (∀ t ∈ ks, (unks t).length ≤ siz t) → (unkss ks).length ≤ sizs ks := by
      intro ks
      induction ks with
      | nil => intro _; simp [unkss]
      | cons t ts ih =>
        intro h
        have h1 := h t (by simp)
        have h2 := ih fun u hu => h u (by simp [hu])
        rw [unkss, sizs, List.length_append]
        omega
    have := this ks ih
    omega
theorem unkss_len {ks : List Pt} : (unkss ks).length ≤ sizs ks := by
  induction ks with
  | nil => simp [unkss]
  | cons t ts ih => rw [unkss, sizs, List.length_append]; have := unks_len (t := t); omega
theorem unkss_mem {ts : List Pt} {s : Str} : s ∈ unkss ts ↔ ∃ t ∈ ts, s ∈ unks t := by
  induction ts with
  | nil => simp [unkss]
  | cons t ts ih => rw [unkss, List.mem_append, ih]; simp
/-- a pattern of signs -/
inductive PatOf (sg : Sg) : Pt → Prop
  | unk {z : Str} : unkS z = true → PatOf sg (.unk z)
  | nd {f : Str} {ks : List Pt} : (f, ks.length) ∈ sg → (∀ t ∈ ks, PatOf sg t) → PatOf sg (.nd f ks)
theorem pat_of {sg : Sg} : ∀ {d : Nat} {x : D}, patB sg d x = true → ∃ t, x = encT t ∧ PatOf sg t ∧ hgt t ≤ d := by
  intro d
  induction d with
  | zero =>
    intro x h
    match x, h with
    | .str z, h => exact ⟨.unk z, encT_unk.symm, .unk h, by rw [hgt]; omega⟩
    | .tup [], h => simp [patB] at h
    | .tup (_ :: _), h => simp [patB] at h
  | succ d ih =>
    intro x h
    match x, h with
    | .str z, h => exact ⟨.unk z, encT_unk.symm, .unk h, by rw [hgt]; omega⟩
    | .tup (.str f :: ks), h =>
      simp only [patB, Bool.and_eq_true, decide_eq_true_eq] at h
      have hk := List.all_eq_true.mp h.2
      have : ∀ ks : List D, (∀ x ∈ ks, patB sg d x = true) → ∃ ts : List Pt, ks = ts.map encT ∧ ∀ t ∈ ts, PatOf sg t ∧ hgt t ≤ d := by
        intro ks
        induction ks with
        | nil => intro _; exact ⟨[], rfl, by simp⟩
        | cons x ks ih2 =>
          intro h
          obtain ⟨t, e, h1, h2⟩ := ih (h x (by simp))
          obtain ⟨ts, e2, h3⟩ := ih2 fun y hy => h y (by simp [hy])
          refine ⟨t :: ts, by rw [e, e2]; rfl, fun u hu => ?_⟩
          rcases List.mem_cons.mp hu with e | hu
          · rw [e]; exact ⟨h1, h2⟩
          · exact h3 u hu
      obtain ⟨ts, rfl, ht⟩ := this ks hk
      refine ⟨.nd f ts, encT_nd.symm, .nd (by simpa using h.1) fun t hm => (ht t hm).1, ?_⟩
      rw [hgt]
      have := (hgts_le (ts := ts) (n := d)).mpr fun t hm => (ht t hm).2
      omega
theorem of_pat {sg : Sg} : ∀ {t : Pt}, PatOf sg t → ∀ d, hgt t ≤ d → patB sg d (encT t) = true := by
  intro t ht
  induction ht with
  | unk h => intro d _; rw [encT_unk]; cases d <;> exact h
  | nd hm _ ih =>
    rename_i f ks _
    intro d hd
    rw [hgt] at hd
    obtain ⟨e, rfl⟩ : ∃ e, d = e + 1 := ⟨d - 1, by omega⟩
    rw [encT_nd, patB, List.length_map, decide_eq_true hm, Bool.true_and, List.all_eq_true]
    intro x hx
    obtain ⟨u, hu, rfl⟩ := List.mem_map.mp hx
    exact ih u hu e (by have := hgt_mem hu; omega)
theorem asInts_map : ∀ {l : List Int}, asInts (l.map D.int) = some l
  | [] => rfl
  | i :: l => by rw [List.map_cons, asInts, asInts_map]; rfl
theorem sum_nats {st : St} {l : List Nat} : sumD st (.lst (l.map fun (k : Nat) => D.int k)) = some (.int l.sum) := by
  have e : (l.map fun (k : Nat) => D.int k) = (l.map fun (k : Nat) => (k : Int)).map D.int := by rw [List.map_map]; rfl
  unfold sumD
  simp only [see]
  rw [e, asInts_map]
  simp only [Option.map_some, Option.some.injEq, D.int.injEq]
  induction l with
  | nil => rfl
  | cons k l ih => rw [List.map_cons, List.sum_cons, ih (by rw [List.map_map]; rfl), List.sum_cons]; omega
theorem isi_strT {st : St} {z : Str} : isiD .str st (.str z) = some (.bl true) := rfl
theorem isi_strN {st : St} {xs : List D} : isiD .str st (.tup xs) = some (.bl false) := rfl
theorem dedup_le : ∀ {l : List Str}, (dedup l).length ≤ l.length
  | [] => Nat.le_refl 0
  | x :: xs => by
    rw [dedup]
    have ih := dedup_le (l := xs)
    split
    · simp; omega
    · simp; omega
theorem dedup_nd : ∀ {l : List Str}, (dedup l).length = l.length ↔ l.Nodup
  | [] => by simp [dedup]
  | x :: xs => by
    rw [dedup, List.nodup_cons, ← dedup_nd (l := xs)]
    have := dedup_le (l := xs)
    split
    · rename_i h
      rw [mem_dedup] at h
      simp only [List.length_cons]
      constructor
      · intro; omega
      · rintro ⟨h', _⟩; exact (h' h).elim
    · rename_i h
      rw [mem_dedup] at h
      simp only [List.length_cons]
      constructor
      · intro; exact ⟨h, by omega⟩
      · rintro ⟨_, h'⟩; omega
open Classical
/-- a rule of signs -/
structure RuleP (sg : Sg) (a : Str) (l r : Pt) : Prop where
  nm : nameB a = true
  pl : PatOf sg l
  pr : PatOf sg r
  nd : ∃ f ks, l = .nd f ks
  sl : siz l ≤ 12
  sr : siz r ≤ 12
  un : (unks l).Nodup
  sub : ∀ s ∈ unks r, s ∈ unks l
def IsRule (sg : Sg) (x : D) : Prop := ∃ a l r, x = .tup [.str a, encT l, encT r] ∧ RuleP sg a l r
def nmOf : D → Str
  | .tup (.str a :: _) => a
  | _ => ""
def IsRules (sg : Sg) (x : D) : Prop := ∃ xs, x = .tup xs ∧ xs.length ≤ 6 ∧ (∀ y ∈ xs, IsRule sg y) ∧ (xs.map nmOf).Nodup
theorem rule_inv {sg : Sg} {a l r : D} (h : IsRule sg (.tup [a, l, r])) : ∃ a' l' r', a = .str a' ∧ l = encT l' ∧ r = encT r' ∧ RuleP sg a' l' r' := by
  obtain ⟨a', l', r', e, h⟩ := h
  simp only [D.tup.injEq, List.cons.injEq, and_true] at e
  exact ⟨a', l', r', e.1, e.2.1, e.2.2, h⟩
theorem all_in {st : St} {l u : List Str} : allD st (.lst (l.map fun s => D.bl (decide (s ∈ u)))) = some (.bl (decide (∀ s ∈ l, s ∈ u))) := by
  have e : (l.map fun s => D.bl (decide (s ∈ u))) = (l.map fun s => decide (s ∈ u)).map D.bl := by rw [List.map_map]; rfl
  rw [e, all_bls, List.all_map]
  congr 2
  rw [Bool.eq_iff_iff, List.all_eq_true]
  simp
theorem cut_len {α : Type} {l : List α} {lo hi : Option Int} : (cut l lo hi).length ≤ l.length := by
  unfold cut
  rw [List.length_take, List.length_drop]
  omega
theorem cut_mem {α : Type} {l : List α} {lo hi : Option Int} {x : α} (h : x ∈ cut l lo hi) : x ∈ l := List.mem_of_mem_drop (List.mem_of_mem_take h)
theorem rev_tup {st : St} {xs : List D} : revD st (.tup xs) = some (.tup xs.reverse) := rfl
theorem neg_int {st : St} {i : Int} : negD st (.int i) = some (.int (-i)) := rfl
theorem mul_tup2 {st : St} {xs : List D} (h : xs.length ≤ 1000) : mulD st (.tup xs) (.int 2) = some (.tup (xs ++ xs)) := by
  show (if _ then _ else _) = _
  rw [if_pos (by simp [h])]
  simp [List.replicate]
def oddL : List D := [.non, .bl true, .bl false, .int 0, .int 1, .int 3, .int 4, .int (-1), .str "", .str "A", .str "a", .str "abcdefghi", .str "?", .str "?x", .str "?00", .str "?1", .str "a b", .lst [], .tup []]
theorem thg_odd {L d : Nat} (hL : 9 ≤ L) {x : D} (h : x ∈ oddL) : Thg L (d + 1) x := by
  have hs : ∀ s : Str, s.length ≤ 9 → Thg L (d + 1) (.str s) := fun s hs => .str s (by omega)
  simp only [oddL, List.mem_cons, List.not_mem_nil, or_false] at h
  rcases h with rfl | rfl | rfl | rfl | rfl | rfl | rfl | rfl | rfl | rfl | rfl | rfl | rfl | rfl | rfl | rfl | rfl | rfl | rfl
  all_goals first | exact .non | exact .bl _ | exact .int _ | exact hs _ (by decide) | exact .lst (by simp) (by simp) | exact .tup (by simp) (by simp)
theorem odd_sz : ∀ x ∈ oddL, dsz x ≤ 1 := by
  intro x h
  simp only [oddL, List.mem_cons, List.not_mem_nil, or_false] at h
  rcases h with rfl | rfl | rfl | rfl | rfl | rfl | rfl | rfl | rfl | rfl | rfl | rfl | rfl | rfl | rfl | rfl | rfl | rfl | rfl
  all_goals first | exact Nat.le_refl 1 | simp [dsz, dszs]
theorem dszs_cut {xs : List D} {lo hi : Option Int} : dszs (cut xs lo hi) ≤ dszs xs := by
  have h1 : ∀ (l : List D) (k : Nat), dszs (l.take k) ≤ dszs l := fun l k => by
    conv => rhs; rw [← List.take_append_drop k l]
    rw [dszs_app]; omega
  have h2 : ∀ (l : List D) (k : Nat), dszs (l.drop k) ≤ dszs l := fun l k => by
    conv => rhs; rw [← List.take_append_drop k l]
    rw [dszs_app]; omega
  unfold cut
  exact Nat.le_trans (h1 _ _) (h2 _ _)
theorem dszs_rev {xs : List D} : dszs xs.reverse = dszs xs := by
  induction xs with
  | nil => rfl
  | cons x xs ih => rw [List.reverse_cons, dszs_app, ih, dszs, dszs, dszs]; omega
theorem ne_strsL {st : St} {l : List Str} : neB st (.lst (l.map D.str)) (.lst []) = some (.bl (!decide (l = []))) := by
  rw [ne_nob (by rw [nob]; exact nob_strs) rfl (by rw [dep, dep_strs]; decide)]
  congr 2
  rw [Bool.eq_iff_iff]
  simp
end RP
end
section
set_option Elab.async false
set_option linter.all false
set_option maxRecDepth 100000
set_option maxHeartbeats 1000000
/-! Plans as plain data; what is shown of them. -/
namespace RP
open PySem
mutual
/-- leaves that are shown in few signs -/
def okD : D → Bool
  | .non => true
  | .bl _ => true
  | .int i => decide (0 ≤ i) && decide (i ≤ 1000)
  | .str x => x.cps.toList.all fun c => decide (c < 16 ^ 8)
  | .tup xs => okDs xs
  | .lst xs => okDs xs
  | _ => false
def okDs : List D → Bool
  | [] => true
  | x :: xs => okD x && okDs xs
end
theorem int_short {i : Int} (h0 : 0 ≤ i) (h1 : i ≤ 1000) : i.natAbs.log2 < 1920 ∧ (PyData.shown (.int i)).length ≤ 20 := by
  have all : ∀ k : Fin 1001, ((k.val : Int)).natAbs.log2 < 1920 ∧ (PyData.shown (.int (k.val : Int))).length ≤ 20 := by decide +kernel
  have := all ⟨i.toNat, by omega⟩
  simpa [Int.toNat_of_nonneg h0] using this
mutual
theorem okD_all : ∀ d : D, okD d = true → pln d = true ∧ (toPy d).showable = true ∧ (toPy d).leavesShort 20 = true
  | .non, _ => by simp [pln, toPy, PyData.showable, PyData.leavesShort]
  | .bl b, _ => by simp [pln, toPy, PyData.showable, PyData.leavesShort]
  | .int i, h => by
    simp only [okD, Bool.and_eq_true, decide_eq_true_eq] at h
    have := int_short h.1 h.2
    exact ⟨by simp [pln], by simpa [toPy, PyData.showable] using this.1, by simpa [toPy, PyData.leavesShort] using this.2⟩
  | .str x, h => by exact ⟨by simp [pln], by simp [toPy, PyData.showable], by simpa [toPy, PyData.leavesShort, okD] using h⟩
  | .tup xs, h => by
    have := okDs_all xs (by simpa [okD] using h)
    simpa [pln, toPy, PyData.showable, PyData.leavesShort] using this
  | .lst xs, h => by
    have := okDs_all xs (by simpa [okD] using h)
    simpa [pln, toPy, PyData.showable, PyData.leavesShort] using this
  | .dct _ _, h => by simp [okD] at h
  | .set _, h => by simp [okD] at h
  | .frz _, h => by simp [okD] at h
  | .ref _, h => by simp [okD] at h
theorem okDs_all : ∀ ds : List D, okDs ds = true → plns ds = true ∧ PyData.showableAll (toPys ds) = true ∧ PyData.leavesShortAll 20 (toPys ds) = true
  | [], _ => by simp [plns, toPys, PyData.showableAll, PyData.leavesShortAll]
  | d :: ds, h => by
    simp only [okDs, Bool.and_eq_true] at h
    have h1 := okD_all d h.1
    have h2 := okDs_all ds h.2
    simp [plns, toPys, PyData.showableAll, PyData.leavesShortAll, h1, h2]
end
abbrev blk (d : D) : Nat := (toPy d).bulk
theorem repr_ok {st : St} {d : D} (hs : see st d = d) (h : okD d = true) (hb : blk d ≤ 40000) (hd : (toPy d).depth ≤ 90) : reprD st d = some (.str (toPy d).shown) := by
  obtain ⟨h1, h2, h3⟩ := okD_all d h
  have h4 := PyData.shown_le_bulk 20 (by decide) (toPy d) h3
  unfold reprD
  rw [hs, if_pos]
  simp only [h1, h2, Bool.true_and, Bool.and_eq_true, decide_eq_true_eq]
  refine ⟨?_, hd⟩
  have : (20 + 2) * (toPy d).bulk ≤ 22 * 40000 := Nat.mul_le_mul_left _ hb
  unfold big
  omega
theorem okDs_of : ∀ {l : List D}, (∀ x ∈ l, okD x = true) → okDs l = true
  | [], _ => rfl
  | x :: l, h => by simp [okDs, h x List.mem_cons_self, okDs_of fun y hy => h y (List.mem_cons_of_mem _ hy)]
theorem depth_kids {n : Nat} : ∀ {ks : List D}, (∀ t ∈ ks, (toPy t).depth ≤ n) → PyData.depthAll (toPys ks) ≤ n
  | [], _ => by simp [toPys, PyData.depthAll]
  | k :: ks, h => by
    have h1 := h k List.mem_cons_self
    have h2 := depth_kids fun t ht => h t (List.mem_cons_of_mem _ ht)
    simp only [toPys, PyData.depthAll]
    omega

theorem eq_strsL {st : St} {l : List Str} : eqB st (.lst (l.map D.str)) (.lst []) = some (.bl (decide (l = []))) := by
  rw [eq_nob (by rw [nob]; exact nob_strs) rfl (by rw [dep, dep_strs]; decide)]
  congr 2
  rw [Bool.eq_iff_iff]
  simp
/-- a short text -/
def sS (x : Str) : Bool := decide (x.length ≤ 9) && x.cps.toList.all fun c => decide (c < 16 ^ 8)
/-- all texts of a tree are short -/
inductive ShT : Pt → Prop
  | unk {x : Str} : sS x = true → ShT (.unk x)
  | nd {f : Str} {ks : List Pt} : sS f = true → (∀ t ∈ ks, ShT t) → ShT (.nd f ks)
theorem sS_name {x : Str} (h : nameB x = true) : sS x = true := by
  unfold nameB at h
  simp only [Bool.and_eq_true, decide_eq_true_eq] at h
  unfold sS
  rw [Bool.and_eq_true]
  refine ⟨decide_eq_true (by omega), ?_⟩
  rw [List.all_eq_true] at h ⊢
  intro c hc
  have h1 := of_decide_eq_true (h.2.2 c hc)
  have : ∀ c ∈ lettersL, c < 16 ^ 8 := by decide +kernel
  exact decide_eq_true (this c h1)
theorem okD_T {t : Pt} (h : ShT t) : okD (encT t) = true := by
  induction h with
  | unk h =>
    rw [encT_unk, okD]
    unfold sS at h
    rw [Bool.and_eq_true] at h
    exact h.2
  | nd h _ ih =>
    rw [encT_nd, okD, okDs, okD]
    unfold sS at h
    rw [Bool.and_eq_true] at h
    rw [h.2, Bool.true_and]
    refine okDs_of fun x hx => ?_
    obtain ⟨t, ht, rfl⟩ := List.mem_map.mp hx
    exact ih t ht
theorem blk_T {t : Pt} (h : ShT t) : blk (encT t) + 1 ≤ 11 * siz t := by
  induction h with
  | @unk x h =>
    unfold sS at h
    simp only [Bool.and_eq_true, decide_eq_true_eq] at h
    have h1 : x.cps.size ≤ 9 := h.1
    rw [encT_unk, siz]
    simp only [blk, toPy, PyData.bulk]
    omega
  | @nd f ks h _ ih =>
    unfold sS at h
    simp only [Bool.and_eq_true, decide_eq_true_eq] at h
    have h1 : f.cps.size ≤ 9 := h.1
    rw [encT_nd, siz]
    have : ∀ ks : List Pt, (∀ t ∈ ks, blk (encT t) + 1 ≤ 11 * siz t) → PyData.bulkAll (toPys (ks.map encT)) ≤ 11 * sizs ks := by
      intro ks
      induction ks with
      | nil => intro _; simp [toPys, PyData.bulkAll, sizs]
      | cons k ks ih2 =>
        intro h
        have h1 := h k List.mem_cons_self
        have h2 := ih2 fun t ht => h t (List.mem_cons_of_mem _ ht)
        simp only [List.map_cons, toPys, PyData.bulkAll, sizs]
        simp only [blk] at h1
        omega
    have := this ks ih
    simp only [blk, toPy, toPys, PyData.bulk, PyData.bulkAll]
    omega
theorem depth_T : ∀ t : Pt, (toPy (encT t)).depth ≤ hgt t := Pt.ind (fun x => by rw [encT_unk]; simp [toPy, PyData.depth]) fun f ks ih => by
  rw [encT_nd, hgt]
  have h2 := depth_kids (n := hgts ks) (ks := ks.map encT) fun x hx => by
    obtain ⟨t, ht, rfl⟩ := List.mem_map.mp hx
    exact Nat.le_trans (ih t ht) (hgt_mem ht)
  simp only [toPy, toPys, PyData.depth, PyData.depthAll]
  omega
def shT (t : Pt) : Str := (toPy (encT t)).shown
theorem repr_T {st : St} {t : Pt} (h : ShT t) (hs : siz t ≤ 3000) (hh : hgt t ≤ 90) : reprD st (encT t) = some (.str (shT t)) :=
  repr_ok (see_pln (pln_T t)) (okD_T h) (by have := blk_T h; omega) (Nat.le_trans (depth_T t) hh)
theorem toPyXs_map : ∀ {xs : List D}, toPyXs xs = xs.map toPyX
  | [] => by simp [toPyXs]
  | x :: xs => by simp [toPyXs, toPyXs_map (xs := xs)]
theorem toPys_map : ∀ {xs : List D}, toPys xs = xs.map toPy
  | [] => by simp [toPys]
  | x :: xs => by simp [toPys, toPys_map (xs := xs)]
theorem plds_iff : ∀ {xs : List D}, plds xs = true ↔ ∀ x ∈ xs, pld x = true
  | [] => by simp [plds]
  | x :: xs => by simp [plds, plds_iff (xs := xs)]
theorem pld_T : ∀ t : Pt, pld (encT t) = true := Pt.ind (fun x => by rw [encT_unk]; simp [pld]) fun f ks ih => by
  rw [encT_nd, pld, plds, plds_iff.mpr]
  · simp [pld]
  · intro x hx
    obtain ⟨t, ht, rfl⟩ := List.mem_map.mp hx
    exact ih t ht
theorem toPyX_T : ∀ t : Pt, toPyX (encT t) = toPy (encT t) := Pt.ind (fun x => by rw [encT_unk]; simp [toPy, toPyX]) fun f ks ih => by
  rw [encT_nd]
  simp only [toPy, toPyX, toPys, toPyXs, toPyXs_map, toPys_map]
  congr 2
  rw [List.map_map, List.map_map]
  exact List.map_congr_left fun t ht => ih t ht
theorem keysOk_strs : ∀ {l : List Str}, keysOk (l.map D.str) = true
  | [] => rfl
  | x :: l => by rw [List.map_cons, keysOk]; exact keysOk_strs
abbrev Kp := List (Str × Pt)
def kpD (kts : Kp) : D := .dct (kts.map fun p => D.str p.1) (kts.map fun p => encT p.2)
theorem kpD_py {kts : Kp} : toPyX (kpD kts) = .dict (kts.map fun p => (.str p.1, toPy (encT p.2))) := by
  unfold kpD
  rw [toPyX, toPyXs_map, toPyXs_map]
  congr 1
  rw [List.map_map, List.map_map]
  induction kts with
  | nil => rfl
  | cons p kts ih =>
    simp only [List.map_cons, List.zip_cons_cons, ih, Function.comp, toPyX, toPyX_T]
theorem kpD_pld {kts : Kp} : pld (kpD kts) = true := by
  unfold kpD
  have h1 : keysOk (kts.map fun p => D.str p.1) = true := by
    have := keysOk_strs (l := kts.map (·.1))
    rwa [List.map_map] at this
  rw [pld, h1, plds_iff.mpr, plds_iff.mpr]
  · simp
  · intro x hx
    obtain ⟨t, ht, rfl⟩ := List.mem_map.mp hx
    exact pld_T t.2
  · intro x hx
    obtain ⟨t, ht, rfl⟩ := List.mem_map.mp hx
    simp [pld]
theorem kp_all {kts : Kp} (h : ∀ p ∈ kts, sS p.1 = true ∧ ShT p.2 ∧ siz p.2 ≤ 1000 ∧ hgt p.2 ≤ 80) : PyData.showableKv (kts.map fun p => (.str p.1, toPy (encT p.2))) = true ∧ PyData.leavesShortKv 20 (kts.map fun p => (.str p.1, toPy (encT p.2))) = true ∧ PyData.bulkKv (kts.map fun p => (.str p.1, toPy (encT p.2))) ≤ 11020 * kts.length ∧ PyData.depthKv (kts.map fun p => (.str p.1, toPy (encT p.2))) ≤ 80 := by
  induction kts with
  | nil => simp [PyData.showableKv, PyData.leavesShortKv, PyData.bulkKv, PyData.depthKv]
  | cons p kts ih =>
    obtain ⟨i1, i2, i3, i4⟩ := ih fun q hq => h q (by simp [hq])
    obtain ⟨h1, h2, h3, h4⟩ := h p (by simp)
    obtain ⟨_, o2, o3⟩ := okD_all _ (okD_T h2)
    have b := blk_T h2
    have dd := depth_T p.2
    unfold sS at h1
    simp only [Bool.and_eq_true, decide_eq_true_eq] at h1
    have hl : p.1.cps.size ≤ 9 := h1.1
    simp only [List.map_cons, PyData.showableKv, PyData.leavesShortKv, PyData.bulkKv, PyData.depthKv, PyData.showable, PyData.leavesShort, PyData.bulk, PyData.depth, i1, i2, o2, o3, Bool.true_and, Bool.and_true, List.length_cons]
    refine ⟨trivial, h1.2, ?_, by omega⟩
    simp only [blk] at b
    omega
theorem reprX_T {t : Pt} {kts : Kp} (ht : ShT t) (hs : siz t ≤ 1000) (hh : hgt t ≤ 80) (hl : kts.length ≤ 3) (h : ∀ p ∈ kts, sS p.1 = true ∧ ShT p.2 ∧ siz p.2 ≤ 1000 ∧ hgt p.2 ≤ 80) : ∃ z, ∀ st : St, reprX st (.tup [encT t, kpD kts]) = some (.str z) := by
  obtain ⟨i1, i2, i3, i4⟩ := kp_all h
  obtain ⟨_, o2, o3⟩ := okD_all _ (okD_T ht)
  have b := blk_T ht
  have dd := depth_T t
  have e : toPyX (.tup [encT t, kpD kts]) = .tuple [toPy (encT t), .dict (kts.map fun p => (.str p.1, toPy (encT p.2)))] := by
    simp only [toPyX, toPyXs, toPyX_T, kpD_py]
  refine ⟨(toPyX (.tup [encT t, kpD kts])).shown, fun st => ?_⟩
  unfold reprX
  rw [if_pos]
  have hl2 : (toPyX (.tup [encT t, kpD kts])).leavesShort 20 = true := by
    rw [e]
    simp only [PyData.leavesShort, PyData.leavesShortAll, o3, i2, Bool.true_and, Bool.and_true]
  have h4 := PyData.shown_le_bulk 20 (by decide) _ hl2
  have hb : (toPyX (.tup [encT t, kpD kts])).bulk ≤ 45000 := by
    rw [e]
    simp only [PyData.bulk, PyData.bulkAll]
    simp only [blk] at b
    omega
  have h5 : (20 + 2) * (toPyX (.tup [encT t, kpD kts])).bulk ≤ 22 * 45000 := Nat.mul_le_mul_left _ hb
  simp only [Bool.and_eq_true, decide_eq_true_eq]
  refine ⟨⟨⟨⟨?_, rfl⟩, ?_⟩, ?_⟩, ?_⟩
  · rw [pld, plds, plds, plds, pld_T, kpD_pld]
    rfl
  · rw [e]
    simp only [PyData.showable, PyData.showableAll, o2, i1, Bool.true_and, Bool.and_true]
  · unfold big
    omega
  · rw [e]
    simp only [PyData.depth, PyData.depthAll]
    omega
/-! ### plans -/
def words0 : List Str := ["stay", "never"]
def words2 : List Str := ["then", "else"]
def words9 : List Str := ["try", "not", "again", "one", "all", "down", "up", "find", "dig"]
/-- plans over rules' names and open names -/
inductive PlanOk (ns os : List Str) : Pt → Prop
  | leaf {w : Str} : w ∈ words0 → PlanOk ns os (.nd w [])
  | any {x : Str} : x ∈ os → PlanOk ns os (.nd "any" [.unk x])
  | use {x : Str} : x ∈ ns → PlanOk ns os (.nd "use" [.unk x])
  | one {w : Str} {p : Pt} : w ∈ words9 → PlanOk ns os p → PlanOk ns os (.nd w [p])
  | two {w : Str} {p q : Pt} : w ∈ words2 → PlanOk ns os p → PlanOk ns os q → PlanOk ns os (.nd w [p, q])
mutual
/-- how many things -/
def ths : Pt → Nat
  | .unk _ => 0
  | .nd _ ks => 1 + thss ks
def thss : List Pt → Nat
  | [] => 0
  | t :: ts => ths t + thss ts
end
section
variable {ns os : List Str} {t : Pt}
theorem leaf_ne {w : Str} (h : w ∈ words0) : w ≠ "any" ∧ w ≠ "use" ∧ sS w = true := by
  have : ∀ w ∈ words0, w ≠ "any" ∧ w ≠ "use" ∧ sS w = true := by decide +kernel
  exact this w h
theorem one_ne {w : Str} (h : w ∈ words9) : w ≠ "any" ∧ w ≠ "use" ∧ sS w = true := by
  have : ∀ w ∈ words9, w ≠ "any" ∧ w ≠ "use" ∧ sS w = true := by decide +kernel
  exact this w h
theorem two_ne {w : Str} (h : w ∈ words2) : w ≠ "any" ∧ w ≠ "use" ∧ sS w = true := by
  have : ∀ w ∈ words2, w ≠ "any" ∧ w ≠ "use" ∧ sS w = true := by decide +kernel
  exact this w h
theorem PlanOk.siz (h : PlanOk ns os t) : siz t ≤ 2 * ths t := by
  induction h with
  | leaf _ => simp [RP.siz, sizs, ths, thss]
  | any _ => simp [RP.siz, sizs, ths, thss]
  | use _ => simp [RP.siz, sizs, ths, thss]
  | one _ _ ih => simp [RP.siz, sizs, ths, thss]; omega
  | two _ _ _ i1 i2 => simp [RP.siz, sizs, ths, thss]; omega
theorem PlanOk.hgt (h : PlanOk ns os t) : hgt t ≤ ths t := by
  induction h with
  | leaf _ => simp [RP.hgt, hgts, ths, thss]
  | any _ => simp [RP.hgt, hgts, ths, thss]
  | use _ => simp [RP.hgt, hgts, ths, thss]
  | one _ _ ih => simp [RP.hgt, hgts, ths, thss]; omega
  | two _ _ _ i1 i2 => simp [RP.hgt, hgts, ths, thss]; omega
theorem PlanOk.pos (h : PlanOk ns os t) : 1 ≤ ths t := by
  cases h <;> simp [ths, thss] <;> omega
theorem PlanOk.sh (h : PlanOk ns os t) (h1 : ∀ x ∈ ns, sS x = true) (h2 : ∀ x ∈ os, sS x = true) : ShT t := by
  induction h with
  | leaf h => exact .nd (leaf_ne h).2.2 (by simp)
  | any h => exact .nd (by decide) fun t ht => by rw [List.mem_singleton.mp ht]; exact .unk (h2 _ h)
  | use h => exact .nd (by decide) fun t ht => by rw [List.mem_singleton.mp ht]; exact .unk (h1 _ h)
  | one h _ ih => exact .nd (one_ne h).2.2 fun t ht => by rw [List.mem_singleton.mp ht]; exact ih
  | two h _ _ i1 i2 =>
      refine .nd (two_ne h).2.2 fun t ht => ?_
      simp only [List.mem_cons, List.not_mem_nil, or_false] at ht
      rcases ht with rfl | rfl
      · exact i1
      · exact i2
theorem PlanOk.mono {os' : List Str} (h : PlanOk ns os t) (h2 : ∀ x ∈ os, x ∈ os') : PlanOk ns os' t := by
  induction h with
  | leaf h => exact .leaf h
  | any h => exact .any (h2 _ h)
  | use h => exact .use h
  | one h _ ih => exact .one h ih
  | two h _ _ i1 i2 => exact .two h i1 i2
end
mutual
/-- others in the places of the open ones -/
def closeP (f : Str → Pt) : Pt → Pt
  | .unk x => .unk x
  | .nd w [.unk x] => if w = "any" then f x else .nd w [.unk x]
  | .nd w ks => .nd w (closePs f ks)
def closePs (f : Str → Pt) : List Pt → List Pt
  | [] => []
  | t :: ts => closeP f t :: closePs f ts
end
section
variable {ns os : List Str} {t : Pt} {f : Str → Pt}
theorem closePs_map : ∀ {ts : List Pt}, closePs f ts = ts.map (closeP f)
  | [] => by rw [closePs]; rfl
  | t :: ts => by rw [closePs, closePs_map]; rfl
theorem close_any {x : Str} : closeP f (.nd "any" [.unk x]) = f x := by rw [closeP]; rfl
theorem close_nd {w : Str} {ks : List Pt} (h : w ≠ "any") : closeP f (.nd w ks) = .nd w (ks.map (closeP f)) := by
  match ks with
  | [.unk x] => rw [closeP, if_neg h, List.map_singleton, closeP]
  | [] => rw [closeP, closePs_map]; intro x hx; cases hx
  | [.nd g ls] => rw [closeP, closePs_map]; intro x hx; cases hx
  | a :: b :: r => rw [closeP, closePs_map]; intro x hx; cases hx
theorem close_siz {M : Nat} (h : PlanOk ns os t) (hf : ∀ x ∈ os, siz (f x) ≤ M) (hM : 2 ≤ M) : siz (closeP f t) ≤ M * ths t := by
  induction h with
  | leaf h => rw [close_nd (leaf_ne h).1]; simp [siz, sizs, ths, thss]; omega
  | any h => rw [close_any]; have := hf _ h; simp [ths, thss]; omega
  | use h => rw [close_nd (by decide)]; simp [closeP, siz, sizs, ths, thss]; omega
  | one h _ ih =>
    rw [close_nd (one_ne h).1]
    simp only [List.map_cons, List.map_nil, siz, sizs, ths, thss, Nat.mul_add, Nat.mul_one, Nat.mul_zero]
    omega
  | two h _ _ i1 i2 =>
    rw [close_nd (two_ne h).1]
    simp only [List.map_cons, List.map_nil, siz, sizs, ths, thss, Nat.mul_add, Nat.mul_one, Nat.mul_zero]
    omega
theorem close_hgt {H : Nat} (h : PlanOk ns os t) (hf : ∀ x ∈ os, hgt (f x) ≤ H) : hgt (closeP f t) ≤ ths t + H := by
  induction h with
  | leaf h => rw [close_nd (leaf_ne h).1]; simp [hgt, hgts, ths, thss]
  | any h => rw [close_any]; have := hf _ h; simp [ths, thss]; omega
  | use h => rw [close_nd (by decide)]; simp [closeP, hgt, hgts, ths, thss]
  | one h _ ih => rw [close_nd (one_ne h).1]; simp [hgt, hgts, ths, thss]; omega
  | two h _ _ i1 i2 => rw [close_nd (two_ne h).1]; simp [hgt, hgts, ths, thss]; omega
theorem close_ok {os' : List Str} (h : PlanOk ns os t) (hf : ∀ x ∈ os, PlanOk ns os' (f x)) : PlanOk ns os' (closeP f t) := by
  induction h with
  | leaf h => rw [close_nd (leaf_ne h).1]; exact .leaf h
  | any h => rw [close_any]; exact hf _ h
  | use h => rw [close_nd (by decide)]; simp only [List.map_cons, List.map_nil, closeP]; exact .use h
  | one h _ ih => rw [close_nd (one_ne h).1]; exact .one h ih
  | two h _ _ i1 i2 => rw [close_nd (two_ne h).1]; exact .two h i1 i2
theorem close_no (h : PlanOk ns [] t) : closeP f t = t := by
  generalize ho : ([] : List Str) = os at h
  induction h with
  | leaf h => rw [close_nd (leaf_ne h).1]; rfl
  | any h => rw [← ho] at h; cases h
  | use h => rw [close_nd (by decide)]; simp only [List.map_cons, List.map_nil, closeP]
  | one h _ ih => rw [close_nd (one_ne h).1]; simp [ih]
  | two h _ _ i1 i2 => rw [close_nd (two_ne h).1]; simp [i1, i2]
end
theorem if_mid {ta : MT} {a b : MS} {c : Call} {env : Env} {st : St} {qn : Env → St → Prop} {qr : D → St → Prop} {qb qc : Env → St → Prop} (P : Bool → St → Prop) (h : Ok (ta c env st) P) (h1 : ∀ S, P true S → OkS (a c env S) qn qr qb qc) (h2 : ∀ S, P false S → OkS (b c env S) qn qr qb qc) : OkS (sIf ta a b c env st) qn qr qb qc := by
  refine s_if.mpr (h.mono ?_)
  intro x S hx
  cases x with
  | true => rw [if_pos rfl]; exact h1 S hx
  | false => rw [if_neg (by simp)]; exact h2 S hx
theorem pick_str {l : List Str} {r : Int} (h0 : 0 ≤ r) (h1 : r < l.length) : ∃ z, z ∈ l ∧ L2.atI (l.map D.str) r = some (.str z) := by
  obtain ⟨z, hz, _, hz2⟩ := at_get (xs := l) h0 h1
  obtain ⟨k, rfl⟩ := Int.eq_ofNat_of_zero_le h0
  rw [at_nat] at hz2
  exact ⟨z, hz, by rw [at_nat, List.getElem?_map, hz2]; rfl⟩
theorem dict_lst {α : Type} {st : St} (k : α → Str) (v : α → D) (as : List α) (h : (as.map k).Nodup) : dictD st (.lst (as.map fun a => D.tup [.str (k a), v a])) = some (.dct (as.map fun a => D.str (k a)) (as.map v)) := dict_tup (st := st) k v as h
/-- what stands at a name -/
def kpF (kts : Kp) (x : Str) : Pt := ((kts.find? fun p => p.1 == x).map (·.2)).getD (.unk "")
theorem kp_find {kts : Kp} {x : Str} (h : x ∈ kts.map (·.1)) : ∃ p ∈ kts, kts.find? (fun p => p.1 == x) = some p ∧ p.2 = kpF kts x := by
  unfold kpF
  cases hf : kts.find? fun p => p.1 == x with
  | none =>
    obtain ⟨p, hp, rfl⟩ := List.mem_map.mp h
    have := List.find?_eq_none.mp hf p hp
    simp at this
  | some p => exact ⟨p, List.mem_of_find?_eq_some hf, rfl, rfl⟩
theorem kp_look {kts : Kp} {x : Str} (h : x ∈ kts.map (·.1)) : look (kts.map fun p => D.str p.1) (kts.map fun p => encT p.2) (.str x) = some (encT (kpF kts x)) := by
  obtain ⟨p, _, e, e2⟩ := kp_find h
  rw [look_map (fun p : Str × Pt => p.1) (fun p => encT p.2), e, ← e2]
  rfl
theorem kp_mem {kts : Kp} {x : Str} (h : x ∈ kts.map (·.1)) : ∃ p ∈ kts, p.2 = kpF kts x := by
  obtain ⟨p, hp, _, e2⟩ := kp_find h
  exact ⟨p, hp, e2⟩
theorem dPut_new {kts : Kp} {x : Str} {t : Pt} (h : x ∉ kts.map (·.1)) : dPut (kts.map fun p => D.str p.1) (kts.map fun p => encT p.2) (.str x) (encT t) = ((kts ++ [(x, t)]).map fun p => D.str p.1, (kts ++ [(x, t)]).map fun p => encT p.2) := by
  have : ((kts.map fun p => D.str p.1).any fun k => eqD k (.str x)) = false := by
    rw [List.any_eq_false]
    intro d hd
    obtain ⟨p, hp, rfl⟩ := List.mem_map.mp hd
    have : p.1 ≠ x := fun e => h (by rw [← e]; exact List.mem_map_of_mem hp)
    simp [eqD, this]
  unfold dPut
  rw [this]
  simp
end RP
end
section
set_option Elab.async false
set_option linter.all false
set_option maxRecDepth 100000
set_option maxHeartbeats 1000000
/-! What is a plan; its parts. -/
namespace RP
open PySem
def tabA : Tbl := [("stay", 0), ("never", 0), ("use", 0), ("any", 0), ("then", 2), ("else", 2), ("try", 1), ("not", 1), ("again", 1)]
def tabB : Tbl := [("one", 1), ("all", 1), ("down", 1), ("up", 1), ("find", 1), ("dig", 1)]
def allW : List Str := (tabA ++ tabB).map (·.1)
/-- how many plans stand behind a word -/
def wAr (w : Str) : Option Nat := ((tLook tabA w).orElse fun _ => tLook tabB w).map Int.toNat
def wArD (w : Str) : D := ((tLook tabA w).map D.int).getD (((tLook tabB w).map D.int).getD .non)
theorem tLook_mem {t : Tbl} {w : Str} {i : Int} (h : tLook t w = some i) : (w, i) ∈ t := by
  unfold tLook at h
  obtain ⟨p, hp, rfl⟩ := Option.map_eq_some_iff.mp h
  have h1 : p.1 = w := by simpa using List.find?_some hp
  rw [← h1]
  exact List.mem_of_find?_eq_some hp
theorem wArD_eq (w : Str) : wArD w = match wAr w with | some m => .int m | none => .non := by
  have nn : ∀ p ∈ tabA ++ tabB, 0 ≤ p.2 := by decide +kernel
  unfold wArD wAr
  cases h1 : tLook tabA w with
  | some i =>
    have := nn _ (List.mem_append_left _ (tLook_mem h1))
    simp only [Option.map_some, Option.getD_some, Option.orElse_some]
    rw [Int.toNat_of_nonneg this]
  | none =>
    cases h2 : tLook tabB w with
    | some i =>
      have := nn _ (List.mem_append_right _ (tLook_mem h2))
      simp only [Option.map_some, Option.getD_some, Option.map_none, Option.getD_none, Option.orElse_none]
      rw [Int.toNat_of_nonneg this]
    | none => simp
theorem wAr_0 {w : Str} (h : w ∈ words0) : wAr w = some 0 := by
  have : ∀ w ∈ words0, wAr w = some 0 := by decide +kernel
  exact this w h
theorem wAr_1 {w : Str} (h : w ∈ words9) : wAr w = some 1 := by
  have : ∀ w ∈ words9, wAr w = some 1 := by decide +kernel
  exact this w h
theorem wAr_2 {w : Str} (h : w ∈ words2) : wAr w = some 2 := by
  have : ∀ w ∈ words2, wAr w = some 2 := by decide +kernel
  exact this w h
theorem wAr_use : wAr "use" = some 0 := by decide +kernel
theorem wAr_any : wAr "any" = some 0 := by decide +kernel
theorem wAr_mem {w : Str} {m : Nat} (h : wAr w = some m) : w ∈ allW := by
  unfold wAr at h
  obtain ⟨i, hi, _⟩ := Option.map_eq_some_iff.mp h
  unfold allW
  cases h1 : tLook tabA w with
  | some j => exact List.mem_map.mpr ⟨_, List.mem_append_left _ (tLook_mem h1), rfl⟩
  | none =>
    rw [h1] at hi
    have hi : tLook tabB w = some i := by simpa using hi
    exact List.mem_map.mpr ⟨_, List.mem_append_right _ (tLook_mem hi), rfl⟩
theorem wAr_inv {w : Str} {m : Nat} (h : wAr w = some m) (h1 : w ≠ "use") (h2 : w ≠ "any") : (m = 0 ∧ w ∈ words0) ∨ (m = 1 ∧ w ∈ words9) ∨ (m = 2 ∧ w ∈ words2) := by
  have all : ∀ w ∈ allW, w ≠ "use" → w ≠ "any" → (wAr w = some 0 ∧ w ∈ words0) ∨ (wAr w = some 1 ∧ w ∈ words9) ∨ (wAr w = some 2 ∧ w ∈ words2) := by decide +kernel
  rcases all w (wAr_mem h) h1 h2 with ⟨a, b⟩ | ⟨a, b⟩ | ⟨a, b⟩
  · rw [h] at a; exact .inl ⟨Option.some.inj a, b⟩
  · rw [h] at a; exact .inr (.inl ⟨Option.some.inj a, b⟩)
  · rw [h] at a; exact .inr (.inr ⟨Option.some.inj a, b⟩)
def oneIn (ns : List Str) : List D → Bool
  | [.str x] => decide (x ∈ ns)
  | _ => false
def oneNm : List D → Bool
  | [x] => isNameB x
  | _ => false
/-- a plan's shape -/
def planB (ns : List Str) : Nat → D → Bool
  | d + 1, .tup (.str w :: r) => if w = "use" then oneIn ns r else if w = "any" then oneNm r else match wAr w with
    | some m => decide (r.length = m) && r.all (planB ns d)
    | none => false
  | _, _ => false
/-- plans over names -/
inductive PlanQ (N O : Str → Prop) : Pt → Prop
  | leaf {w : Str} : w ∈ words0 → PlanQ N O (.nd w [])
  | any {x : Str} : O x → PlanQ N O (.nd "any" [.unk x])
  | use {x : Str} : N x → PlanQ N O (.nd "use" [.unk x])
  | one {w : Str} {p : Pt} : w ∈ words9 → PlanQ N O p → PlanQ N O (.nd w [p])
  | two {w : Str} {p q : Pt} : w ∈ words2 → PlanQ N O p → PlanQ N O q → PlanQ N O (.nd w [p, q])
theorem PlanOk.q {ns os : List Str} {t : Pt} {N O : Str → Prop} (h : PlanOk ns os t) (h1 : ∀ x ∈ ns, N x) (h2 : ∀ x ∈ os, O x) : PlanQ N O t := by
  induction h with
  | leaf h => exact .leaf h
  | any h => exact .any (h2 _ h)
  | use h => exact .use (h1 _ h)
  | one h _ ih => exact .one h ih
  | two h _ _ i1 i2 => exact .two h i1 i2
theorem planB_t {ns : List Str} : ∀ {d : Nat} {x : D}, planB ns d x = true → ∃ t, x = encT t ∧ PlanQ (· ∈ ns) (fun x => nameB x = true) t ∧ hgt t ≤ d := by
  intro d
  induction d with
  | zero => intro x h; simp [planB] at h
  | succ d ih =>
    intro x h
    unfold planB at h
    split at h
    · rename_i _ _ d' w r hd
      obtain rfl : d = d' := by omega
      by_cases hu : w = "use"
      · rw [if_pos hu] at h
        unfold oneIn at h
        split at h
        · rename_i x
          refine ⟨.nd w [.unk x], by rw [encT_nd, List.map_singleton, encT_unk], ?_, by simp [hgt, hgts]⟩
          rw [hu]
          exact .use (of_decide_eq_true h)
        · cases h
      rw [if_neg hu] at h
      by_cases ha : w = "any"
      · rw [if_pos ha] at h
        unfold oneNm at h
        split at h
        · rename_i x
          unfold isNameB at h
          split at h
          · rename_i x
            refine ⟨.nd w [.unk x], by rw [encT_nd, List.map_singleton, encT_unk], ?_, by simp [hgt, hgts]⟩
            rw [ha]
            exact .any h
          · cases h
        · cases h
      rw [if_neg ha] at h
      split at h
      · rename_i m hm
        rw [Bool.and_eq_true] at h
        have hl := of_decide_eq_true h.1
        have hk := List.all_eq_true.mp h.2
        rcases wAr_inv hm hu ha with ⟨rfl, hw⟩ | ⟨rfl, hw⟩ | ⟨rfl, hw⟩
        · match r, hl with
          | [], _ => exact ⟨.nd w [], by rw [encT_nd]; rfl, .leaf hw, by simp [hgt, hgts]⟩
        · match r, hl, hk with
          | [y], _, hk =>
            obtain ⟨t, rfl, p, q⟩ := ih (hk y (by simp))
            exact ⟨.nd w [t], by rw [encT_nd]; rfl, .one hw p, by simp [hgt, hgts]; omega⟩
        · match r, hl, hk with
          | [y, z], _, hk =>
            obtain ⟨t, rfl, p, q⟩ := ih (hk y (by simp))
            obtain ⟨u, rfl, p2, q2⟩ := ih (hk z (by simp))
            exact ⟨.nd w [t, u], by rw [encT_nd]; rfl, .two hw p p2, by simp [hgt, hgts]; omega⟩
      · cases h
    · cases h
theorem planB_of {ns : List Str} {t : Pt} (h : PlanQ (· ∈ ns) (fun x => nameB x = true) t) : ∀ d, hgt t ≤ d → planB ns d (encT t) = true := by
  induction h with
  | leaf hw =>
    intro d hd
    obtain ⟨d, rfl⟩ : ∃ e, d = e + 1 := ⟨d - 1, by simp [hgt] at hd; omega⟩
    rw [encT_nd, planB, if_neg (leaf_ne hw).2.1, if_neg (leaf_ne hw).1, wAr_0 hw]
    rfl
  | any hx =>
    intro d hd
    obtain ⟨d, rfl⟩ : ∃ e, d = e + 1 := ⟨d - 1, by simp [hgt] at hd; omega⟩
    rw [encT_nd, planB, if_neg (by decide), if_pos rfl, List.map_singleton, encT_unk]
    exact hx
  | use hx =>
    intro d hd
    obtain ⟨d, rfl⟩ : ∃ e, d = e + 1 := ⟨d - 1, by simp [hgt] at hd; omega⟩
    rw [encT_nd, planB, if_pos rfl, List.map_singleton, encT_unk]
    exact decide_eq_true hx
  | one hw _ ih =>
    intro d hd
    simp only [hgt, hgts] at hd
    obtain ⟨d, rfl⟩ : ∃ e, d = e + 1 := ⟨d - 1, by omega⟩
    rw [encT_nd, planB, if_neg (one_ne hw).2.1, if_neg (one_ne hw).1, wAr_1 hw]
    simp [ih d (by omega)]
  | two hw _ _ i1 i2 =>
    intro d hd
    simp only [hgt, hgts] at hd
    obtain ⟨d, rfl⟩ : ∃ e, d = e + 1 := ⟨d - 1, by omega⟩
    rw [encT_nd, planB, if_neg (two_ne hw).2.1, if_neg (two_ne hw).1, wAr_2 hw]
    simp [i1 d (by omega), i2 d (by omega)]
mutual
/-- how many tuples stand in it -/
def tupN : D → Nat
  | .tup xs => 1 + tupNs xs
  | _ => 0
def tupNs : List D → Nat
  | [] => 0
  | x :: xs => tupN x + tupNs xs
end
theorem tupNs_map {ks : List Pt} (h : ∀ t ∈ ks, tupN (encT t) = ths t) : tupNs (ks.map encT) = thss ks := by
  induction ks with
  | nil => simp [tupNs, thss]
  | cons t ts ih => rw [List.map_cons, tupNs, thss, h t (by simp), ih fun u hu => h u (by simp [hu])]
theorem tupN_T : ∀ t : Pt, tupN (encT t) = ths t := Pt.ind (fun x => by rw [encT_unk, tupN, ths]; intro a h; cases h) fun f ks ih => by
  rw [encT_nd, tupN, tupNs, ths, tupNs_map ih]
  simp [tupN]
/-- the plans behind the word -/
def inr : Pt → List Pt
  | .nd w ks => if w = "use" ∨ w = "any" then [] else ks
  | .unk _ => []
theorem inr_no {w : Str} {ks : List Pt} (h : w = "use" ∨ w = "any") : inr (.nd w ks) = [] := by
  show (if w = "use" ∨ w = "any" then [] else ks) = []
  rw [if_pos h]
theorem inr_yes {w : Str} {ks : List Pt} (h : w ≠ "any" ∧ w ≠ "use" ∧ sS w = true) : inr (.nd w ks) = ks := by
  show (if w = "use" ∨ w = "any" then [] else ks) = ks
  rw [if_neg (by simp [h.1, h.2.1])]
section
open Classical
mutual
/-- the parts, each once -/
noncomputable def partsP : Pt → List Pt
  | .unk x => [.unk x]
  | .nd w ks => if w = "use" ∨ w = "any" then [.nd w ks] else partsF [.nd w ks] ks
noncomputable def partsF : List Pt → List Pt → List Pt
  | f, [] => f
  | f, k :: ks => partsF (f ++ (partsP k).filter fun p => !decide (p ∈ f)) ks
end
end
open Classical
theorem partsF_snoc {k : Pt} : ∀ {ks f : List Pt}, partsF f (ks ++ [k]) = partsF f ks ++ (partsP k).filter fun p => !decide (p ∈ partsF f ks)
  | [], f => by rw [List.nil_append, partsF, partsF, partsF]
  | j :: ks, f => by rw [List.cons_append, partsF, partsF_snoc, partsF]
theorem parts_inr {t : Pt} : partsP t = partsF [t] (inr t) := by
  cases t with
  | unk x => rw [partsP, inr, partsF]
  | nd w ks =>
    rw [partsP, inr]
    by_cases h : w = "use" ∨ w = "any"
    · rw [if_pos h, if_pos h, partsF]
    · rw [if_neg h, if_neg h]
section
variable {N O : Str → Prop} {t : Pt}
theorem partsF_all {P : Pt → Prop} : ∀ {ks f : List Pt}, (∀ p ∈ f, P p) → (∀ k ∈ ks, ∀ p ∈ partsP k, P p) → ∀ p ∈ partsF f ks, P p
  | [], f, hf, _ => by rw [partsF]; exact hf
  | k :: ks, f, hf, hk => by
    rw [partsF]
    refine partsF_all (fun p hp => ?_) fun j hj => hk j (by simp [hj])
    rcases List.mem_append.mp hp with z | z
    · exact hf p z
    · exact hk k (by simp) p (List.mem_filter.mp z).1
theorem partsF_len : ∀ {ks f : List Pt}, (∀ k ∈ ks, (partsP k).length ≤ ths k) → (partsF f ks).length ≤ f.length + thss ks
  | [], f, _ => by rw [partsF, thss]; omega
  | k :: ks, f, hk => by
    rw [partsF, thss]
    have h1 := partsF_len (ks := ks) (f := f ++ (partsP k).filter fun p => !decide (p ∈ f)) fun j hj => hk j (by simp [hj])
    have h2 := hk k (by simp)
    have h3 : ((partsP k).filter fun p => !decide (p ∈ f)).length ≤ (partsP k).length := List.length_filter_le _ _
    rw [List.length_append] at h1
    omega
theorem PlanQ.inr_ok (h : PlanQ N O t) : ∀ k ∈ inr t, PlanQ N O k ∧ hgt k + 1 ≤ hgt t := by
  cases h with
  | leaf hw => rw [inr_yes (leaf_ne hw)]; simp
  | any hx => rw [inr_no (.inr rfl)]; simp
  | use hx => rw [inr_no (.inl rfl)]; simp
  | one hw hp => rw [inr_yes (one_ne hw)]; intro k hk; rw [List.mem_singleton.mp hk]; exact ⟨hp, by simp [hgt, hgts]⟩
  | two hw hp hq =>
    rw [inr_yes (two_ne hw)]
    intro k hk
    simp only [List.mem_cons, List.not_mem_nil, or_false] at hk
    rcases hk with rfl | rfl
    · exact ⟨hp, by simp [hgt, hgts]; omega⟩
    · exact ⟨hq, by simp [hgt, hgts]; omega⟩
theorem PlanQ.ths_inr (h : PlanQ N O t) : ths t = 1 + thss (inr t) := by
  cases h with
  | leaf hw => rw [inr_yes (leaf_ne hw)]; simp [ths, thss]
  | any hx => rw [inr_no (.inr rfl)]; simp [ths, thss]
  | use hx => rw [inr_no (.inl rfl)]; simp [ths, thss]
  | one hw hp => rw [inr_yes (one_ne hw)]; simp [ths, thss]
  | two hw hp hq => rw [inr_yes (two_ne hw)]; simp [ths, thss]
theorem PlanQ.ar (h : PlanQ N O t) : ∃ w r, encT t = .tup (.str w :: r) ∧ ∃ m, wAr w = some m ∧ r.take m = (inr t).map encT := by
  cases h with
  | leaf hw => exact ⟨_, _, encT_nd, 0, wAr_0 hw, by rw [inr_yes (leaf_ne hw)]; rfl⟩
  | any hx => exact ⟨_, _, encT_nd, 0, wAr_any, by rw [inr_no (.inr rfl)]; rfl⟩
  | use hx => exact ⟨_, _, encT_nd, 0, wAr_use, by rw [inr_no (.inl rfl)]; rfl⟩
  | one hw hp => exact ⟨_, _, encT_nd, 1, wAr_1 hw, by rw [inr_yes (one_ne hw)]; rfl⟩
  | two hw hp hq => exact ⟨_, _, encT_nd, 2, wAr_2 hw, by rw [inr_yes (two_ne hw)]; rfl⟩
theorem parts_all : ∀ {n : Nat} {t : Pt}, hgt t ≤ n → PlanQ N O t → (∀ p ∈ partsP t, PlanQ N O p ∧ hgt p ≤ hgt t) ∧ (partsP t).length ≤ ths t
  | 0, t, hn, h => by cases h <;> simp [hgt] at hn
  | n + 1, t, hn, h => by
    have hi := h.inr_ok
    rw [parts_inr, h.ths_inr]
    have ih : ∀ k ∈ inr t, (∀ p ∈ partsP k, PlanQ N O p ∧ hgt p ≤ hgt k) ∧ (partsP k).length ≤ ths k := fun k hk => parts_all (n := n) (by have := (hi k hk).2; omega) (hi k hk).1
    refine ⟨partsF_all (fun p hp => ?_) fun k hk p hp => ?_, ?_⟩
    · rw [List.mem_singleton.mp hp]; exact ⟨h, Nat.le_refl _⟩
    · have := (ih k hk).1 p hp
      exact ⟨this.1, by have := (hi k hk).2; omega⟩
    · have := partsF_len (f := [t]) fun k hk => (ih k hk).2
      simpa using this
end
def isAnyB : Pt → Bool
  | .nd w _ => decide (w = "any")
  | .unk _ => false
def nmO : Pt → Str
  | .nd _ [.unk x] => x
  | _ => ""
/-- names of open ones, each once, sorted -/
noncomputable def opensP (t : Pt) : List Str := sortS (dedup (((partsP t).filter isAnyB).map nmO))
theorem sortSet_strs {st : St} {ss : List Str} (h : ss.length < 64) : sortSetD st (.lst (ss.map D.str)) = some (.lst ((sortS (dedup ss)).map D.str)) := by
  unfold sortSetD
  simp only [see, asStrs_map]
  rw [if_pos h]
end RP
end
section
set_option Elab.async false
set_option linter.all false
set_option maxRecDepth 100000
set_option maxHeartbeats 4000000
namespace RP
open PySem L2

def top (i : Nat) : Stmt := PySem.Challenge.pw_ruleplans_k06_plans_and_their_parts.main.body.getD i (.Pass ⟨0, 0, 0, 0⟩)
abbrev s_is_name : Stmt := top 2
def n_is_name : List Str := ["thing", "sign"]
noncomputable def b_is_name : MS :=
  (sRet (mAnd (mOp1 (isiD .str) (mVar 0)) (mAnd (mChain leB leB (mCst (.int 1)) (mBlt (un1 lenD) [(mVar 0)]) (mCst (.int 8))) (mBlt (un1 allD) [(mComp [1] (iVal (mVar 0)) (gNm 1) tYesM (mOp2 inB (mVar 1) (mCst (.str "abcdefghijklmnopqrstuvwxyz"))))]))))
noncomputable def i_is_name : FI := ⟨"is_name", s_is_name, ["thing"], n_is_name, ⟨1, 2, b_is_name⟩⟩
abbrev s_many_inner : Stmt := top 7
def n_many_inner : List Str := ["word"]
noncomputable def b_many_inner : MS :=
  (sRet (mTab2 [("stay", 0), ("never", 0), ("use", 0), ("any", 0), ("then", 2), ("else", 2), ("try", 1), ("not", 1), ("again", 1)] (mVar 0) (mTab1 [("one", 1), ("all", 1), ("down", 1), ("up", 1), ("find", 1), ("dig", 1)] (mVar 0))))
noncomputable def i_many_inner : FI := ⟨"many_inner", s_many_inner, ["word"], n_many_inner, ⟨1, 1, b_many_inner⟩⟩
abbrev s_inner_of : Stmt := top 8
def n_inner_of : List Str := ["plan"]
noncomputable def b_inner_of : MS :=
  (sRet (mSlice (mVar 0) (some (mCst (.int 1))) (some (mOp2 addD (mCst (.int 1)) (mCall "many_inner" [(mOp2 idxD (mVar 0) (mCst (.int 0)))])))))
noncomputable def i_inner_of : FI := ⟨"inner_of", s_inner_of, ["plan"], n_inner_of, ⟨1, 1, b_inner_of⟩⟩
abbrev s_is_plan_shape : Stmt := top 9
def n_is_plan_shape : List Str := ["rules", "thing", "many", "one"]
noncomputable def b_is_plan_shape : MS :=
  (sSeq (sIf (RP.bOr (bNot (tVal (mOp1 (isiD .tuple) (mVar 1)))) (RP.bOr (tVal (mOp2 eqB (mBlt (un1 lenD) [(mVar 1)]) (mCst (.int 0)))) (bNot (tVal (mOp1 (isiD .str) (mOp2 idxD (mVar 1) (mCst (.int 0)))))))) (sRet (mCst (.bl false))) sSkip)
  (sSeq (sAsg (gNm 2) (mCall "many_inner" [(mOp2 idxD (mVar 1) (mCst (.int 0)))]))
  (sSeq (sIf (tVal (mOp2 isB (mVar 2) (mCst .non))) (sRet (mCst (.bl false))) sSkip)
  (sSeq (sIf (tVal (mOp2 eqB (mOp2 idxD (mVar 1) (mCst (.int 0))) (mCst (.str "use")))) (sRet (mAnd (mOp2 eqB (mBlt (un1 lenD) [(mVar 1)]) (mCst (.int 2))) (mAnd (mOp1 (isiD .str) (mOp2 idxD (mVar 1) (mCst (.int 1)))) (mOp2 inB (mOp2 idxD (mVar 1) (mCst (.int 1))) (mComp [3] (iVal (mVar 0)) (gNm 3) tYesM (mOp2 idxD (mVar 3) (mCst (.int 0)))))))) sSkip)
  (sSeq (sIf (tVal (mOp2 eqB (mOp2 idxD (mVar 1) (mCst (.int 0))) (mCst (.str "any")))) (sRet (mAnd (mOp2 eqB (mBlt (un1 lenD) [(mVar 1)]) (mCst (.int 2))) (mCall "is_name" [(mOp2 idxD (mVar 1) (mCst (.int 1)))]))) sSkip)
  (sRet (mAnd (mOp2 eqB (mBlt (un1 lenD) [(mVar 1)]) (mOp2 addD (mCst (.int 1)) (mVar 2))) (mBlt (un1 allD) [(mComp [3] (iVal (mSlice (mVar 1) (some (mCst (.int 1))) none)) (gNm 3) tYesM (mCall "is_plan_shape" [(mVar 0), (mVar 3)]))]))))))))
noncomputable def i_is_plan_shape : FI := ⟨"is_plan_shape", s_is_plan_shape, ["rules", "thing"], n_is_plan_shape, ⟨2, 4, b_is_plan_shape⟩⟩
abbrev s_things_within : Stmt := top 10
def n_things_within : List Str := ["plan", "one"]
noncomputable def b_things_within : MS :=
  (sRet (mOp2 addD (mCst (.int 1)) (mBlt (un1 sumD) [(mComp [1] (iVal (mCall "inner_of" [(mVar 0)])) (gNm 1) tYesM (mCall "things_within" [(mVar 1)]))])))
noncomputable def i_things_within : FI := ⟨"things_within", s_things_within, ["plan"], n_things_within, ⟨1, 2, b_things_within⟩⟩
abbrev s_is_plan : Stmt := top 11
def n_is_plan : List Str := ["rules", "thing"]
noncomputable def b_is_plan : MS :=
  (sRet (mAnd (mCall "is_plan_shape" [(mVar 0), (mVar 1)]) (mOp2 leB (mCall "things_within" [(mVar 1)]) (mCst (.int 14)))))
noncomputable def i_is_plan : FI := ⟨"is_plan", s_is_plan, ["rules", "thing"], n_is_plan, ⟨2, 2, b_is_plan⟩⟩
abbrev s_parts_of : Stmt := top 12
def n_parts_of : List Str := ["plan", "found", "one", "part"]
noncomputable def b_parts_of : MS :=
  (sSeq (sAsg (gNm 1) (mLstM [(mVar 0)]))
  (sSeq (sFor (iVal (mCall "inner_of" [(mVar 0)])) (gNm 2) (sExpr (mLm xExtend (mVar 1) [(mComp [3] (iVal (mCall "parts_of" [(mVar 2)])) (gNm 3) (tVal (mOp2 ninB (mVar 3) (mVar 1))) (mVar 3))])))
  (sRet (mVar 1))))
noncomputable def i_parts_of : FI := ⟨"parts_of", s_parts_of, ["plan"], n_parts_of, ⟨1, 4, b_parts_of⟩⟩
abbrev s_open_names : Stmt := top 13
def n_open_names : List Str := ["plan", "part"]
noncomputable def b_open_names : MS :=
  (sRet (mSortSetM (mComp [1] (iVal (mCall "parts_of" [(mVar 0)])) (gNm 1) (tVal (mOp2 eqB (mOp2 idxD (mVar 1) (mCst (.int 0))) (mCst (.str "any")))) (mOp2 idxD (mVar 1) (mCst (.int 1))))))
noncomputable def i_open_names : FI := ⟨"open_names", s_open_names, ["plan"], n_open_names, ⟨1, 2, b_open_names⟩⟩
abbrev s__law_feed : Stmt := top 15
def n__law_feed : List Str := ["_law_script"]
noncomputable def b__law_feed : MS :=
  (sRet (mLstM [(mVar 0), (mCst (.int 0)), (mCst (.int 0)), (mCst (.int 0))]))
noncomputable def i__law_feed : FI := ⟨"_law_feed", s__law_feed, ["_law_script"], n__law_feed, ⟨1, 1, b__law_feed⟩⟩
abbrev s__law_draw : Stmt := top 16
def n__law_draw : List Str := ["_law_feed_here", "_law_many", "_law_script", "_law_cell", "_law_mixed", "_law_figure"]
noncomputable def b__law_draw : MS :=
  (sSeq (sAsg (gNm 2) (mOp2 idxD (mVar 0) (mCst (.int 0))))
  (sSeq (sPut (mVar 0) (mCst (.int 3)) (mOp2 addD (mOp2 idxD (mVar 0) (mCst (.int 3))) (mCst (.int 1))))
  (sSeq (sIf (RP.bAnd (tVal (mOp2 eqB (mOp2 idxD (mVar 0) (mCst (.int 2))) (mCst (.int 0)))) (tVal (mOp2 ltB (mOp2 idxD (mVar 0) (mCst (.int 1))) (mBlt (un1 lenD) [(mVar 2)])))) (sSeq (sPut (mVar 0) (mCst (.int 2)) (mOp2 fdivD (mBlt (un1 absD) [(mOp2 idxD (mVar 2) (mOp2 idxD (mVar 0) (mCst (.int 1))))]) (mOp2 powD (mCst (.int 10)) (mCst (.int 18)))))
  (sPut (mVar 0) (mCst (.int 1)) (mOp2 addD (mOp2 idxD (mVar 0) (mCst (.int 1))) (mCst (.int 1))))) sSkip)
  (sSeq (sIf (tVal (mOp2 gtB (mOp2 idxD (mVar 0) (mCst (.int 2))) (mCst (.int 0)))) (sSeq (sAsg (gNm 5) (mOp2 modD (mOp2 idxD (mVar 0) (mCst (.int 2))) (mVar 1)))
  (sSeq (sPut (mVar 0) (mCst (.int 2)) (mOp2 fdivD (mOp2 idxD (mVar 0) (mCst (.int 2))) (mVar 1)))
  (sRet (mVar 5)))) sSkip)
  (sSeq (sAsg (gNm 3) (mCst (.int 0)))
  (sSeq (sIf (tVal (mOp2 gtB (mBlt (un1 lenD) [(mVar 2)]) (mCst (.int 0)))) (sAsg (gNm 3) (mOp2 idxD (mVar 2) (mOp2 modD (mOp2 idxD (mVar 0) (mCst (.int 3))) (mBlt (un1 lenD) [(mVar 2)])))) sSkip)
  (sSeq (sAsg (gNm 4) (mOp2 modD (mOp2 addD (mOp2 addD (mOp2 mulD (mOp2 modD (mVar 3) (mCst (.int 2147483647))) (mCst (.int 48271))) (mOp2 mulD (mOp2 idxD (mVar 0) (mCst (.int 3))) (mCst (.int 7919)))) (mCst (.int 12345))) (mCst (.int 2147483629))))
  (sSeq (sAsg (gNm 4) (mOp2 modD (mOp2 mulD (mVar 4) (mOp2 addD (mVar 4) (mCst (.int 40692)))) (mCst (.int 2147483587))))
  (sRet (mOp2 modD (mOp2 modD (mOp2 mulD (mVar 4) (mCst (.int 16807))) (mCst (.int 2147483563))) (mVar 1)))))))))))
noncomputable def i__law_draw : FI := ⟨"_law_draw", s__law_draw, ["_law_feed_here", "_law_many"], n__law_draw, ⟨2, 6, b__law_draw⟩⟩
abbrev s__law_signs : Stmt := top 17
def n__law_signs : List Str := ["_law_feed_here", "_law_most", "_law_pool", "_law_start", "_law_stride", "_law_many", "_law_counts", "_law_turn", "_law_k"]
noncomputable def b__law_signs : MS :=
  (sSeq (sAsg (gNm 2) (mLst [(mCst (.str "a")), (mCst (.str "ab")), (mCst (.str "f")), (mCst (.str "fa")), (mCst (.str "b")), (mCst (.str "use")), (mCst (.str "stay")), (mCst (.str "zzzzzzzz"))]))
  (sSeq (sAsg (gNm 3) (mCall "_law_draw" [(mVar 0), (mCst (.int 8))]))
  (sSeq (sAsg (gNm 4) (mOp2 idxD (mLst [(mCst (.int 1)), (mCst (.int 3)), (mCst (.int 5)), (mCst (.int 7))]) (mCall "_law_draw" [(mVar 0), (mCst (.int 4))])))
  (sSeq (sAsg (gNm 5) (mOp2 addD (mCst (.int 2)) (mCall "_law_draw" [(mVar 0), (mOp2 subD (mVar 1) (mCst (.int 1)))])))
  (sSeq (sAsg (gNm 6) (mOp2 addD (mLst [(mCst (.int 0))]) (mComp [8] (iRange1 (mOp2 subD (mVar 5) (mCst (.int 1)))) (gNm 8) tYesM (mOp2 idxD (mLst [(mCst (.int 0)), (mCst (.int 1)), (mCst (.int 1)), (mCst (.int 2)), (mCst (.int 2)), (mCst (.int 3))]) (mCall "_law_draw" [(mVar 0), (mCst (.int 6))])))))
  (sSeq (sAsg (gNm 7) (mCall "_law_draw" [(mVar 0), (mVar 5)]))
  (sSeq (sAsg (gNm 6) (mOp2 addD (mSlice (mVar 6) (some (mVar 7)) none) (mSlice (mVar 6) none (some (mVar 7)))))
  (sRet (mBlt (un1 tupleD) [(mComp [8] (iRange1 (mVar 5)) (gNm 8) tYesM (mTup [(mOp2 idxD (mVar 2) (mOp2 modD (mOp2 addD (mVar 3) (mOp2 mulD (mVar 4) (mVar 8))) (mCst (.int 8)))), (mOp2 idxD (mVar 6) (mVar 8))]))])))))))))
noncomputable def i__law_signs : FI := ⟨"_law_signs", s__law_signs, ["_law_feed_here", "_law_most"], n__law_signs, ⟨2, 9, b__law_signs⟩⟩
abbrev s__law_left : Stmt := top 18
def n__law_left : List Str := ["_law_feed_here", "_law_signs_here", "_law_deep", "_law_seen", "_law_unknowns", "_law_some", "_law_name", "_law_many", "_law_one", "_law_k"]
noncomputable def b__law_left : MS :=
  (sSeq (sAsg (gNm 4) (mLst [(mCst (.str "?x")), (mCst (.str "?y")), (mCst (.str "?0")), (mCst (.str "?z")), (mCst (.str "?10")), (mCst (.str "?stay")), (mCst (.str "?7")), (mCst (.str "?xy")), (mCst (.str "?a")), (mCst (.str "?2")), (mCst (.str "?abcdefgh")), (mCst (.str "?12"))]))
  (sSeq (sIf (RP.bAnd (tVal (mOp2 ltB (mVar 2) (mCst (.int 2)))) (RP.bOr (tVal (mOp2 eqB (mVar 2) (mCst (.int 0)))) (tVal (mOp2 gtB (mCall "_law_draw" [(mVar 0), (mCst (.int 3))]) (mCst (.int 0)))))) (sSeq (sExpr (mLm xAppend (mVar 3) [(mOp2 idxD (mVar 4) (mBlt (un1 lenD) [(mVar 3)]))]))
  (sRet (mOp2 idxD (mVar 3) (mOp1 negD (mCst (.int 1)))))) sSkip)
  (sSeq (sAsg (gNm 5) (mComp [8] (iVal (mVar 1)) (gNm 8) (RP.bOr (tVal (mOp2 eqB (mVar 2) (mCst (.int 2)))) (tVal (mOp2 ltB (mOp2 idxD (mVar 8) (mCst (.int 1))) (mCst (.int 2))))) (mVar 8)))
  (sSeq (sAsg (gTp [6, 7]) (mOp2 idxD (mVar 5) (mCall "_law_draw" [(mVar 0), (mBlt (un1 lenD) [(mVar 5)])])))
  (sRet (mOp2 addD (mTup [(mVar 6)]) (mBlt (un1 tupleD) [(mComp [9] (iRange1 (mVar 7)) (gNm 9) tYesM (mCall "_law_left" [(mVar 0), (mVar 1), (mOp2 subD (mVar 2) (mCst (.int 1))), (mVar 3)]))])))))))
noncomputable def i__law_left : FI := ⟨"_law_left", s__law_left, ["_law_feed_here", "_law_signs_here", "_law_deep", "_law_seen"], n__law_left, ⟨4, 10, b__law_left⟩⟩
abbrev s__law_right : Stmt := top 19
def n__law_right : List Str := ["_law_feed_here", "_law_signs_here", "_law_deep", "_law_seen", "_law_some", "_law_name", "_law_many", "_law_one", "_law_k"]
noncomputable def b__law_right : MS :=
  (sSeq (sIf (RP.bAnd (tVal (mOp2 neB (mVar 3) (mLst []))) (RP.bOr (tVal (mOp2 eqB (mVar 2) (mCst (.int 0)))) (tVal (mOp2 eqB (mCall "_law_draw" [(mVar 0), (mCst (.int 3))]) (mCst (.int 0)))))) (sRet (mOp2 idxD (mVar 3) (mCall "_law_draw" [(mVar 0), (mBlt (un1 lenD) [(mVar 3)])]))) sSkip)
  (sSeq (sAsg (gNm 4) (mComp [7] (iVal (mVar 1)) (gNm 7) (tVal (mOp2 leB (mOp2 idxD (mVar 7) (mCst (.int 1))) (mVar 2))) (mVar 7)))
  (sSeq (sAsg (gTp [5, 6]) (mOp2 idxD (mVar 4) (mCall "_law_draw" [(mVar 0), (mBlt (un1 lenD) [(mVar 4)])])))
  (sRet (mOp2 addD (mTup [(mVar 5)]) (mBlt (un1 tupleD) [(mComp [8] (iRange1 (mVar 6)) (gNm 8) tYesM (mCall "_law_right" [(mVar 0), (mVar 1), (mBlt minD [(mOp2 subD (mVar 2) (mCst (.int 1))), (mCst (.int 1))]), (mVar 3)]))]))))))
noncomputable def i__law_right : FI := ⟨"_law_right", s__law_right, ["_law_feed_here", "_law_signs_here", "_law_deep", "_law_seen"], n__law_right, ⟨4, 9, b__law_right⟩⟩
abbrev s__law_rules : Stmt := top 20
def n__law_rules : List Str := ["_law_feed_here", "_law_signs_here", "_law_most", "_law_rules_here", "_law_names", "_law_start", "_law_k", "_law_seen", "_law_left_here", "_law_right_here"]
noncomputable def b__law_rules : MS :=
  (sSeq (sAsg (gNm 3) (mLstM []))
  (sSeq (sAsg (gNm 4) (mLst [(mCst (.str "r")), (mCst (.str "f")), (mCst (.str "ra")), (mCst (.str "a")), (mCst (.str "use")), (mCst (.str "s"))]))
  (sSeq (sAsg (gNm 5) (mCall "_law_draw" [(mVar 0), (mCst (.int 6))]))
  (sSeq (sFor (iRange1 (mOp2 addD (mCst (.int 1)) (mCall "_law_draw" [(mVar 0), (mVar 2)]))) (gNm 6) (sSeq (sAsg (gNm 7) (mLstM []))
  (sSeq (sAsg (gNm 8) (mCall "_law_left" [(mVar 0), (mVar 1), (mCst (.int 2)), (mVar 7)]))
  (sSeq (sAsg (gNm 9) (mCall "_law_right" [(mVar 0), (mVar 1), (mOp2 idxD (mLst [(mCst (.int 0)), (mCst (.int 1)), (mCst (.int 2)), (mCst (.int 3))]) (mCall "_law_draw" [(mVar 0), (mCst (.int 4))])), (mVar 7)]))
  (sExpr (mLm xAppend (mVar 3) [(mTup [(mOp2 idxD (mVar 4) (mOp2 modD (mOp2 addD (mVar 5) (mVar 6)) (mCst (.int 6)))), (mVar 8), (mVar 9)])]))))))
  (sRet (mBlt (un1 tupleD) [(mVar 3)]))))))
noncomputable def i__law_rules : FI := ⟨"_law_rules", s__law_rules, ["_law_feed_here", "_law_signs_here", "_law_most"], n__law_rules, ⟨3, 10, b__law_rules⟩⟩
abbrev s__law_plan : Stmt := top 21
def n__law_plan : List Str := ["_law_feed_here", "_law_names", "_law_size", "_law_opens", "_law_words", "_law_way", "_law_first", "_law_one"]
noncomputable def b__law_plan : MS :=
  (sSeq (sIf (RP.bOr (tVal (mOp2 ltB (mVar 2) (mCst (.int 2)))) (tVal (mOp2 eqB (mCall "_law_draw" [(mVar 0), (mCst (.int 8))]) (mCst (.int 0))))) (sSeq (sAsg (gNm 5) (mCall "_law_draw" [(mVar 0), (mCst (.int 6))]))
  (sSeq (sIf (RP.bOr (tVal (mOp2 ltB (mVar 5) (mCst (.int 1)))) (RP.bAnd (tVal (mOp2 ltB (mVar 5) (mCst (.int 2)))) (tVal (mOp2 eqB (mVar 3) (mLst []))))) (sRet (mOp2 idxD (mLst [(mTup [(mCst (.str "stay"))]), (mTup [(mCst (.str "never"))])]) (mCall "_law_draw" [(mVar 0), (mCst (.int 2))]))) sSkip)
  (sSeq (sIf (RP.bAnd (tVal (mOp2 neB (mVar 3) (mLst []))) (tVal (mOp2 ltB (mVar 5) (mCst (.int 3))))) (sRet (mTup [(mCst (.str "any")), (mOp2 idxD (mVar 3) (mCall "_law_draw" [(mVar 0), (mBlt (un1 lenD) [(mVar 3)])]))])) sSkip)
  (sRet (mIf (tVal (mOp2 neB (mVar 1) (mLst []))) (mTup [(mCst (.str "use")), (mOp2 idxD (mVar 1) (mCall "_law_draw" [(mVar 0), (mBlt (un1 lenD) [(mVar 1)])]))]) (mTup [(mCst (.str "stay"))])))))) sSkip)
  (sSeq (sAsg (gNm 4) (mLst [(mCst (.str "try")), (mCst (.str "not")), (mCst (.str "again")), (mCst (.str "one")), (mCst (.str "all")), (mCst (.str "down")), (mCst (.str "up")), (mCst (.str "find")), (mCst (.str "dig"))]))
  (sSeq (sIf (RP.bAnd (tVal (mOp2 gtB (mVar 2) (mCst (.int 2)))) (tVal (mOp2 eqB (mCall "_law_draw" [(mVar 0), (mCst (.int 2))]) (mCst (.int 0))))) (sSeq (sAsg (gNm 6) (mOp2 addD (mCst (.int 1)) (mCall "_law_draw" [(mVar 0), (mOp2 subD (mVar 2) (mCst (.int 2)))])))
  (sSeq (sAsg (gNm 7) (mCall "_law_plan" [(mVar 0), (mVar 1), (mVar 6), (mVar 3)]))
  (sRet (mTup [(mOp2 idxD (mLst [(mCst (.str "then")), (mCst (.str "else"))]) (mCall "_law_draw" [(mVar 0), (mCst (.int 2))])), (mVar 7), (mCall "_law_plan" [(mVar 0), (mVar 1), (mOp2 subD (mOp2 subD (mVar 2) (mCst (.int 1))) (mVar 6)), (mVar 3)])])))) sSkip)
  (sRet (mTup [(mOp2 idxD (mVar 4) (mCall "_law_draw" [(mVar 0), (mCst (.int 9))])), (mCall "_law_plan" [(mVar 0), (mVar 1), (mOp2 subD (mVar 2) (mCst (.int 1))), (mVar 3)])])))))
noncomputable def i__law_plan : FI := ⟨"_law_plan", s__law_plan, ["_law_feed_here", "_law_names", "_law_size", "_law_opens"], n__law_plan, ⟨4, 8, b__law_plan⟩⟩
abbrev s__law_inner : Stmt := top 22
def n__law_inner : List Str := ["_law_plan_here", "_law_one"]
noncomputable def b__law_inner : MS :=
  (sRet (mComp [1] (iVal (mSlice (mVar 0) (some (mCst (.int 1))) none)) (gNm 1) (tVal (mOp1 (isiD .tuple) (mVar 1))) (mVar 1)))
noncomputable def i__law_inner : FI := ⟨"_law_inner", s__law_inner, ["_law_plan_here"], n__law_inner, ⟨1, 2, b__law_inner⟩⟩
abbrev s__law_parts : Stmt := top 23
def n__law_parts : List Str := ["_law_plan_here", "_law_found", "_law_one", "_law_part"]
noncomputable def b__law_parts : MS :=
  (sSeq (sAsg (gNm 1) (mLst [(mVar 0)]))
  (sSeq (sFor (iVal (mCall "_law_inner" [(mVar 0)])) (gNm 2) (sAsg (gNm 1) (mOp2 addD (mVar 1) (mComp [3] (iVal (mCall "_law_parts" [(mVar 2)])) (gNm 3) (tVal (mOp2 ninB (mVar 3) (mVar 1))) (mVar 3)))))
  (sRet (mVar 1))))
noncomputable def i__law_parts : FI := ⟨"_law_parts", s__law_parts, ["_law_plan_here"], n__law_parts, ⟨1, 4, b__law_parts⟩⟩
abbrev s__law_bent : Stmt := top 24
def n__law_bent : List Str := ["_law_feed_here", "_law_thing", "_law_others", "_law_some", "_law_k"]
noncomputable def b__law_bent : MS :=
  (sSeq (sIf (RP.bAnd (tVal (mOp1 (isiD .tuple) (mVar 1))) (RP.bAnd (tVal (mOp2 gtB (mBlt (un1 lenD) [(mVar 1)]) (mCst (.int 0)))) (tVal (mOp2 gtB (mCall "_law_draw" [(mVar 0), (mCst (.int 5))]) (mCst (.int 0)))))) (sSeq (sAsg (gNm 4) (mCall "_law_draw" [(mVar 0), (mBlt (un1 lenD) [(mVar 1)])]))
  (sRet (mOp2 addD (mOp2 addD (mSlice (mVar 1) none (some (mVar 4))) (mTup [(mCall "_law_bent" [(mVar 0), (mOp2 idxD (mVar 1) (mVar 4)), (mVar 2)])])) (mSlice (mVar 1) (some (mOp2 addD (mVar 4) (mCst (.int 1)))) none)))) sSkip)
  (sSeq (sIf (tVal (mOp1 (isiD .tuple) (mVar 1))) (sSeq (sAsg (gNm 3) (mLst [(mBlt (un1 listD) [(mVar 1)]), (mOp2 addD (mVar 1) (mSlice (mVar 1) none (some (mCst (.int 1))))), (mSlice (mVar 1) (some (mCst (.int 1))) none), (mSlice (mVar 1) none (some (mOp1 negD (mCst (.int 1))))), (mOp1 revD (mVar 1)), (mTup []), (mCst .non), (mOp2 addD (mVar 1) (mTup [(mCst (.int 0))])), (mOp2 mulD (mVar 1) (mCst (.int 2)))]))
  (sRet (mOp2 idxD (mVar 3) (mCall "_law_draw" [(mVar 0), (mCst (.int 9))])))) sSkip)
  (sSeq (sAsg (gNm 3) (mLst [(mCst .non), (mCst (.bl true)), (mCst (.bl false)), (mCst (.int 0)), (mCst (.int 1)), (mCst (.int 3)), (mCst (.int 4)), (mOp1 negD (mCst (.int 1))), (mCst (.str "")), (mCst (.str "A")), (mCst (.str "a")), (mCst (.str "abcdefghi")), (mCst (.str "?")), (mCst (.str "?x")), (mCst (.str "?00")), (mCst (.str "?1")), (mCst (.str "a b")), (mLst []), (mTup [])]))
  (sSeq (sAsg (gNm 3) (mOp2 addD (mVar 3) (mVar 2)))
  (sRet (mOp2 idxD (mVar 3) (mCall "_law_draw" [(mVar 0), (mBlt (un1 lenD) [(mVar 3)])])))))))
noncomputable def i__law_bent : FI := ⟨"_law_bent", s__law_bent, ["_law_feed_here", "_law_thing", "_law_others"], n__law_bent, ⟨3, 5, b__law_bent⟩⟩
abbrev s__law_is_name : Stmt := top 25
def n__law_is_name : List Str := ["_law_thing", "_law_sign"]
noncomputable def b__law_is_name : MS :=
  (sSeq (sIf (RP.bOr (bNot (tVal (mOp1 (isiD .str) (mVar 0)))) (bNot (tVal (mChain ltB ltB (mCst (.int 0)) (mBlt (un1 lenD) [(mVar 0)]) (mCst (.int 9)))))) (sRet (mCst (.bl false))) sSkip)
  (sRet (mOp2 eqB (mComp [1] (iVal (mVar 0)) (gNm 1) (tVal (mOp2 ninB (mVar 1) (mCst (.str "abcdefghijklmnopqrstuvwxyz")))) (mVar 1)) (mLst []))))
noncomputable def i__law_is_name : FI := ⟨"_law_is_name", s__law_is_name, ["_law_thing"], n__law_is_name, ⟨1, 2, b__law_is_name⟩⟩
abbrev s__law_is_plan : Stmt := top 26
def n__law_is_plan : List Str := ["_law_rules_here", "_law_thing", "_law_box", "_law_many", "_law_word", "_law_one"]
noncomputable def b__law_is_plan : MS :=
  (sSeq (sAsg (gNm 3) (mDisp [((mCst (.str "stay")), (mCst (.int 0))), ((mCst (.str "never")), (mCst (.int 0))), ((mCst (.str "then")), (mCst (.int 2))), ((mCst (.str "else")), (mCst (.int 2))), ((mCst (.str "try")), (mCst (.int 1))), ((mCst (.str "not")), (mCst (.int 1))), ((mCst (.str "again")), (mCst (.int 1))), ((mCst (.str "one")), (mCst (.int 1)))]))
  (sSeq (sFor (iVal (mTup [(mCst (.str "all")), (mCst (.str "down")), (mCst (.str "up")), (mCst (.str "find")), (mCst (.str "dig"))])) (gNm 4) (sPut (mVar 3) (mVar 4) (mCst (.int 1))))
  (sSeq (sPut (mVar 2) (mCst (.int 0)) (mOp2 addD (mOp2 idxD (mVar 2) (mCst (.int 0))) (mCst (.int 1))))
  (sSeq (sIf (RP.bOr (bNot (tVal (mOp1 (isiD .tuple) (mVar 1)))) (RP.bOr (tVal (mOp2 eqB (mBlt (un1 lenD) [(mVar 1)]) (mCst (.int 0)))) (bNot (tVal (mOp1 (isiD .str) (mOp2 idxD (mVar 1) (mCst (.int 0)))))))) (sRet (mCst (.bl false))) sSkip)
  (sSeq (sIf (tVal (mOp2 eqB (mOp2 idxD (mVar 1) (mCst (.int 0))) (mCst (.str "use")))) (sRet (mAnd (mOp2 eqB (mBlt (un1 lenD) [(mVar 1)]) (mCst (.int 2))) (mAnd (mOp1 (isiD .str) (mOp2 idxD (mVar 1) (mCst (.int 1)))) (mOp2 inB (mOp2 idxD (mVar 1) (mCst (.int 1))) (mComp [5] (iVal (mVar 0)) (gNm 5) tYesM (mOp2 idxD (mVar 5) (mCst (.int 0)))))))) sSkip)
  (sSeq (sIf (tVal (mOp2 eqB (mOp2 idxD (mVar 1) (mCst (.int 0))) (mCst (.str "any")))) (sRet (mAnd (mOp2 eqB (mBlt (un1 lenD) [(mVar 1)]) (mCst (.int 2))) (mCall "_law_is_name" [(mOp2 idxD (mVar 1) (mCst (.int 1)))]))) sSkip)
  (sSeq (sIf (RP.bOr (tVal (mOp2 ninB (mOp2 idxD (mVar 1) (mCst (.int 0))) (mVar 3))) (tVal (mOp2 neB (mOp2 subD (mBlt (un1 lenD) [(mVar 1)]) (mCst (.int 1))) (mOp2 idxD (mVar 3) (mOp2 idxD (mVar 1) (mCst (.int 0))))))) (sRet (mCst (.bl false))) sSkip)
  (sRet (mOp2 ninB (mCst (.bl false)) (mComp [5] (iVal (mSlice (mVar 1) (some (mCst (.int 1))) none)) (gNm 5) tYesM (mCall "_law_is_plan" [(mVar 0), (mVar 5), (mVar 2)])))))))))))
noncomputable def i__law_is_plan : FI := ⟨"_law_is_plan", s__law_is_plan, ["_law_rules_here", "_law_thing", "_law_box"], n__law_is_plan, ⟨3, 6, b__law_is_plan⟩⟩
abbrev s__law_plan_right : Stmt := top 27
def n__law_plan_right : List Str := ["_law_rules_here", "_law_thing", "_law_box", "_law_due", "_law_found"]
noncomputable def b__law_plan_right : MS :=
  (sSeq (sAsg (gNm 2) (mLstM [(mCst (.int 0))]))
  (sSeq (sAsg (gNm 3) (mAnd (mCall "_law_is_plan" [(mVar 0), (mVar 1), (mVar 2)]) (mOp2 ltB (mOp2 idxD (mVar 2) (mCst (.int 0))) (mCst (.int 15)))))
  (sSeq (sAsg (gNm 4) (mCall "is_plan" [(mVar 0), (mVar 1)]))
  (sRet (mAnd (mOp1 (isiD .bool) (mVar 4)) (mOp2 eqB (mVar 4) (mVar 3)))))))
noncomputable def i__law_plan_right : FI := ⟨"_law_plan_right", s__law_plan_right, ["_law_rules_here", "_law_thing"], n__law_plan_right, ⟨2, 5, b__law_plan_right⟩⟩
abbrev s__law_parts_right : Stmt := top 28
def n__law_parts_right : List Str := ["_law_plan_here", "_law_opens", "_law_again", "_law_found", "_law_names", "_law_part"]
noncomputable def b__law_parts_right : MS :=
  (sSeq (sAsg (gNm 1) (mOp1 sortSetD (mComp [5] (iVal (mCall "_law_parts" [(mVar 0)])) (gNm 5) (tVal (mOp2 eqB (mOp2 idxD (mVar 5) (mCst (.int 0))) (mCst (.str "any")))) (mOp2 idxD (mVar 5) (mCst (.int 1))))))
  (sSeq (sFor (iRange1 (mCst (.int 2))) (gNm 2) (sSeq (sAsg (gNm 3) (mCallM "parts_of" [(mVar 0)]))
  (sSeq (sAsg (gNm 4) (mCallM "open_names" [(mVar 0)]))
  (sSeq (sIf (RP.bOr (bNot (tVal (mOp1 (isiD .list) (mVar 3)))) (RP.bOr (tVal (mOp2 neB (mVar 3) (mCall "_law_parts" [(mVar 0)]))) (RP.bOr (bNot (tVal (mOp1 (isiD .list) (mVar 4)))) (tVal (mOp2 neB (mVar 4) (mVar 1)))))) (sRet (mCst (.bl false))) sSkip)
  (sSeq (sExpr (mLm xClear (mVar 3) []))
  (sExpr (mLm xAppend (mVar 4) [(mCst (.str "zz"))])))))))
  (sRet (mCst (.bl true)))))
noncomputable def i__law_parts_right : FI := ⟨"_law_parts_right", s__law_parts_right, ["_law_plan_here"], n__law_parts_right, ⟨1, 6, b__law_parts_right⟩⟩
abbrev s_law : Stmt := top 29
def n_law : List Str := ["_law_script", "_law_feed_here", "_law_signs_here", "_law_rules_here", "_law_names", "_law_plan_here", "_law_things", "_law_many", "_law_k", "_law_tower", "_law_bent_here", "_law_rule", "_law_thing"]
noncomputable def b_law : MS :=
  (sSeq (sAsg (gNm 1) (mCallM "_law_feed" [(mVar 0)]))
  (sSeq (sAsg (gNm 2) (mCall "_law_signs" [(mVar 1), (mCst (.int 5))]))
  (sSeq (sAsg (gNm 3) (mSlice (mCall "_law_rules" [(mVar 1), (mVar 2), (mCst (.int 4))]) (some (mCall "_law_draw" [(mVar 1), (mCst (.int 2))])) none))
  (sSeq (sAsg (gNm 4) (mComp [11] (iVal (mVar 3)) (gNm 11) tYesM (mOp2 idxD (mVar 11) (mCst (.int 0)))))
  (sSeq (sAsg (gNm 5) (mCall "_law_plan" [(mVar 1), (mVar 4), (mOp2 addD (mCst (.int 1)) (mCall "_law_draw" [(mVar 1), (mCst (.int 14))])), (mLst [(mCst (.str "x")), (mCst (.str "xa")), (mCst (.str "use"))])]))
  (sSeq (sIf (RP.bOr (tVal (mOp2 isnB (mCall "is_plan" [(mVar 3), (mVar 5)]) (mCst (.bl true)))) (bNot (tVal (mCall "_law_parts_right" [(mVar 5)])))) (sRet (mCst (.bl false))) sSkip)
  (sSeq (sAsg (gNm 6) (mLst [(mCst .non), (mTup []), (mLst []), (mCst (.str "stay")), (mTup [(mCst (.str "stay"))]), (mLst [(mCst (.str "stay"))]), (mTup [(mCst (.str "stay")), (mTup [(mCst (.str "stay"))])]), (mTup [(mCst (.str "use"))]), (mTup [(mCst (.str "use")), (mCst (.str "zz"))]), (mTup [(mCst (.str "any")), (mCst (.str "A"))])]))
  (sSeq (sAsg (gNm 6) (mOp2 addD (mVar 6) (mLst [(mTup [(mCst (.str "any")), (mCst (.str "stay"))]), (mTup [(mCst (.str "then")), (mTup [(mCst (.str "stay"))])]), (mTup [(mCst (.str "use")), (mLst [(mCst (.str "r"))])]), (mTup [(mCst (.str "any")), (mTup [(mCst (.str "x"))])]), (mTup [(mCst (.str "any")), (mCst (.int 1))]), (mTup [(mCst (.bl true))])])))
  (sSeq (sFor (iVal (mTup [(mCst (.int 12)), (mCst (.int 13)), (mCst (.int 14))])) (gNm 7) (sSeq (sAsg (gNm 9) (mTup [(mCst (.str "stay"))]))
  (sSeq (sFor (iRange1 (mVar 7)) (gNm 8) (sAsg (gNm 9) (mOp2 idxD (mLst [(mTup [(mCst (.str "not")), (mVar 9)]), (mTup [(mCst (.str "try")), (mVar 9)])]) (mOp2 modD (mVar 8) (mCst (.int 2))))))
  (sAsg (gNm 6) (mOp2 addD (mVar 6) (mLst [(mVar 9), (mTup [(mCst (.str "else")), (mVar 9), (mTup [(mCst (.str "never"))])])]))))))
  (sSeq (sFor (iRange1 (mCst (.int 14))) (gNm 8) (sSeq (sAsg (gNm 10) (mCall "_law_bent" [(mVar 1), (mVar 5), (mLst [(mTup [(mCst (.str "stay"))]), (mCst (.str "stay")), (mCst (.str "use")), (mTup [(mCst (.str "never"))]), (mCst (.str "x")), (mCst (.str "then")), (mVar 5)])]))
  (sAsg (gNm 6) (mOp2 addD (mVar 6) (mLst [(mVar 10), (mCall "_law_bent" [(mVar 1), (mVar 10), (mLst [(mCst (.str "any")), (mTup [(mCst (.str "any")), (mCst (.str "x"))]), (mTup [(mCst (.str "use")), (mCst (.str "r"))])])])])))))
  (sRet (mOp2 ninB (mCst (.bl false)) (mComp [12] (iVal (mVar 6)) (gNm 12) tYesM (mCall "_law_plan_right" [(mVar 3), (mVar 12)]))))))))))))))
noncomputable def i_law : FI := ⟨"law", s_law, ["_law_script"], n_law, ⟨1, 13, b_law⟩⟩
noncomputable def LL : List FI := [i_is_name, i_many_inner, i_inner_of, i_is_plan_shape, i_things_within, i_is_plan, i_parts_of, i_open_names, i__law_feed, i__law_draw, i__law_signs, i__law_left, i__law_right, i__law_rules, i__law_plan, i__law_inner, i__law_parts, i__law_bent, i__law_is_name, i__law_is_plan, i__law_plan_right, i__law_parts_right, i_law]
noncomputable def BB : List Fc := [bF "isinstance", bF "str", bF "len", cF "LETTERS" (.str "abcdefghijklmnopqrstuvwxyz"), bF "all", kF "INNER" [("stay", 0), ("never", 0), ("use", 0), ("any", 0), ("then", 2), ("else", 2), ("try", 1), ("not", 1), ("again", 1)], kF "INNER_ALL" [("one", 1), ("all", 1), ("down", 1), ("up", 1), ("find", 1), ("dig", 1)], bF "tuple", bF "sum", cF "MOST_IN_PLAN" (.int 14), bF "sorted", bF "set", bF "abs", bF "range", bF "min", bF "list", bF "bool"]
theorem sc_is_name : FnScope n_is_name ["thing"] (defScope s_is_name) := ⟨rfl, rfl, rfl, by decide +kernel, rfl, by decide +kernel, by decide +kernel⟩
theorem ok_is_name : Body LL BB i_is_name := by
  intro P w K mg base c n f cdv A outer s H E hF hB hr hgd
  have hu : (A.deeper (PyProof.Rows.envOfC i_is_name.name (defScope i_is_name.st) s.heap.objs.size f cdv)).units + 101 < cLine := by have := hr.un; omega
  have hu1 : (A.deeper (PyProof.Rows.envOfC i_is_name.name (defScope i_is_name.st) s.heap.objs.size f cdv)).units + 1 < cLine := by have := hr.un; omega
  have ND : n_is_name.Nodup := sc_is_name.nd
  exact (sOne (sRetD (dAnd (dIsi (k := .str) rfl (hB 0 _ rfl) rfl (hB 1 _ rfl) (by decide +kernel) (dVar (i := 0) rfl (.inl rfl) rfl rfl) (by decide) rfl rfl) (dAnd (dChain op_leL op_leL kInt (dBlt call_lenL rfl (hB 2 _ rfl) (by decide +kernel) (dCons (dVar (i := 0) rfl (.inl rfl) rfl rfl) dNil rfl) (by decide) rfl rfl rfl) kInt rfl) (dOne (dBlt (call_allL rfl) rfl (hB 4 _ rfl) (by decide +kernel) (dCons (dCompV (own := [("sign", 1)]) (is := [1]) rfl rfl ND (iVald (dVar (i := 0) rfl (.inl rfl) rfl rfl)) (blkOk_by (N := n_is_name) (sc := defScope s_is_name) (by decide +kernel)) (by decide) (fun _ _ _ _ _ => (gNmd (i := 1) ND rfl (.inl rfl) (.inr rfl))) (fun _ _ _ _ _ => dPtsNil) (fun _ _ _ _ _ => (dCmp (op_inL hu) (dVar (i := 1) rfl (.inl rfl) rfl rfl) (dCstG (hB 3 _ rfl) rfl rfl) rfl)) (fun _ => rfl)) dNil rfl) (by decide) rfl rfl rfl))))))
theorem sc_many_inner : FnScope n_many_inner ["word"] (defScope s_many_inner) := ⟨rfl, rfl, rfl, by decide +kernel, rfl, by decide +kernel, by decide +kernel⟩
theorem ok_many_inner : Body LL BB i_many_inner := by
  intro P w K mg base c n f cdv A outer s H E hF hB hr hgd
  have hu : (A.deeper (PyProof.Rows.envOfC i_many_inner.name (defScope i_many_inner.st) s.heap.objs.size f cdv)).units + 101 < cLine := by have := hr.un; omega
  have hu1 : (A.deeper (PyProof.Rows.envOfC i_many_inner.name (defScope i_many_inner.st) s.heap.objs.size f cdv)).units + 1 < cLine := by have := hr.un; omega
  have ND : n_many_inner.Nodup := sc_many_inner.nd
  exact (sOne (sRetD (dTab2 (hB 5 _ rfl) rfl rfl (dVar (i := 0) rfl (.inl rfl) rfl rfl) (dTab1 (hB 6 _ rfl) rfl rfl (dVar (i := 0) rfl (.inl rfl) rfl rfl) ⟨rfl, rfl, rfl, rfl⟩) ⟨rfl, rfl, rfl, rfl⟩)))
theorem sc_inner_of : FnScope n_inner_of ["plan"] (defScope s_inner_of) := ⟨rfl, rfl, rfl, by decide +kernel, rfl, by decide +kernel, by decide +kernel⟩
theorem ok_inner_of : Body LL BB i_inner_of := by
  intro P w K mg base c n f cdv A outer s H E hF hB hr hgd
  have hu : (A.deeper (PyProof.Rows.envOfC i_inner_of.name (defScope i_inner_of.st) s.heap.objs.size f cdv)).units + 101 < cLine := by have := hr.un; omega
  have hu1 : (A.deeper (PyProof.Rows.envOfC i_inner_of.name (defScope i_inner_of.st) s.heap.objs.size f cdv)).units + 1 < cLine := by have := hr.un; omega
  have ND : n_inner_of.Nodup := sc_inner_of.nd
  exact (sOne (sRetD (dSlice (dVar (i := 0) rfl (.inl rfl) rfl rfl) (dOSome kInt) (dOSome (dOp2 op_addL kInt (dCall (hF 1 _ rfl) hr hgd rfl cx_takes (dCons (dIx (ix_L hu) (dVar (i := 0) rfl (.inl rfl) rfl rfl) kInt (fun _ _ => rfl)) dNil rfl) rfl rfl rfl rfl))))))
theorem sc_is_plan_shape : FnScope n_is_plan_shape ["rules", "thing"] (defScope s_is_plan_shape) := ⟨rfl, rfl, rfl, by decide +kernel, rfl, by decide +kernel, by decide +kernel⟩
theorem ok_is_plan_shape : Body LL BB i_is_plan_shape := by
  intro P w K mg base c n f cdv A outer s H E hF hB hr hgd
  have hu : (A.deeper (PyProof.Rows.envOfC i_is_plan_shape.name (defScope i_is_plan_shape.st) s.heap.objs.size f cdv)).units + 101 < cLine := by have := hr.un; omega
  have hu1 : (A.deeper (PyProof.Rows.envOfC i_is_plan_shape.name (defScope i_is_plan_shape.st) s.heap.objs.size f cdv)).units + 1 < cLine := by have := hr.un; omega
  have ND : n_is_plan_shape.Nodup := sc_is_plan_shape.nd
  exact (sConsD (sIfD (PW.pt (bOrD (bNotD (bVal (dIsi (k := .tuple) rfl (hB 0 _ rfl) rfl (hB 7 _ rfl) (by decide +kernel) (dVar (i := 1) rfl (.inl rfl) rfl rfl) (by decide) rfl rfl) (fun _ => rfl))) (bOrD (bCmp ib_eq (op_eqL hu) (dBlt call_lenL rfl (hB 2 _ rfl) (by decide +kernel) (dCons (dVar (i := 1) rfl (.inl rfl) rfl rfl) dNil rfl) (by decide) rfl rfl rfl) kInt rfl) (bOr1 (bNotD (bVal (dIsi (k := .str) rfl (hB 0 _ rfl) rfl (hB 1 _ rfl) (by decide +kernel) (dIx (ix_L hu) (dVar (i := 1) rfl (.inl rfl) rfl rfl) kInt (fun _ _ => rfl)) (by decide) rfl rfl) (fun _ => rfl))))))) (sOne (sRetD kBl)) sNil)
  (sConsD (sSetD (i := 2) ND rfl (.inl rfl) (dCall (hF 1 _ rfl) hr hgd rfl cx_takes (dCons (dIx (ix_L hu) (dVar (i := 1) rfl (.inl rfl) rfl rfl) kInt (fun _ _ => rfl)) dNil rfl) rfl rfl rfl rfl) rfl (.inr rfl))
  (sConsD (sIfD (bCmp ib_is op_isL (dVar (i := 2) rfl (.inl rfl) rfl rfl) kNon rfl) (sOne (sRetD kBl)) sNil)
  (sConsD (sIfD (bCmp ib_eq (op_eqL hu) (dIx (ix_L hu) (dVar (i := 1) rfl (.inl rfl) rfl rfl) kInt (fun _ _ => rfl)) kStr rfl) (sOne (sRetD (dAnd (dCmp (op_eqL hu) (dBlt call_lenL rfl (hB 2 _ rfl) (by decide +kernel) (dCons (dVar (i := 1) rfl (.inl rfl) rfl rfl) dNil rfl) (by decide) rfl rfl rfl) kInt rfl) (dAnd (dIsi (k := .str) rfl (hB 0 _ rfl) rfl (hB 1 _ rfl) (by decide +kernel) (dIx (ix_L hu) (dVar (i := 1) rfl (.inl rfl) rfl rfl) kInt (fun _ _ => rfl)) (by decide) rfl rfl) (dOne (dCmp (op_inL hu) (dIx (ix_L hu) (dVar (i := 1) rfl (.inl rfl) rfl rfl) kInt (fun _ _ => rfl)) (dCompV (own := [("one", 3)]) (is := [3]) rfl rfl ND (iVald (dVar (i := 0) rfl (.inr (.inl rfl)) rfl rfl)) (blkOk_by (N := n_is_plan_shape) (sc := defScope s_is_plan_shape) (by decide +kernel)) (by decide) (fun _ _ _ _ _ => (gNmd (i := 3) ND rfl (.inl rfl) (.inr rfl))) (fun _ _ _ _ _ => dPtsNil) (fun _ _ _ _ _ => (dIx (ix_L hu) (dVar (i := 3) rfl (.inl rfl) rfl rfl) kInt (fun _ _ => rfl))) (fun _ => rfl)) rfl)))))) sNil)
  (sConsD (sIfD (bCmp ib_eq (op_eqL hu) (dIx (ix_L hu) (dVar (i := 1) rfl (.inl rfl) rfl rfl) kInt (fun _ _ => rfl)) kStr rfl) (sOne (sRetD (dAnd (dCmp (op_eqL hu) (dBlt call_lenL rfl (hB 2 _ rfl) (by decide +kernel) (dCons (dVar (i := 1) rfl (.inl rfl) rfl rfl) dNil rfl) (by decide) rfl rfl rfl) kInt rfl) (dOne (dCall (hF 0 _ rfl) hr hgd rfl cx_takes (dCons (dIx (ix_L hu) (dVar (i := 1) rfl (.inl rfl) rfl rfl) kInt (fun _ _ => rfl)) dNil rfl) rfl rfl rfl rfl))))) sNil)
  (sOne (sRetD (dAnd (dCmp (op_eqL hu) (dBlt call_lenL rfl (hB 2 _ rfl) (by decide +kernel) (dCons (dVar (i := 1) rfl (.inl rfl) rfl rfl) dNil rfl) (by decide) rfl rfl rfl) (dOp2 op_addL kInt (dVar (i := 2) rfl (.inl rfl) rfl rfl)) rfl) (dOne (dBlt (call_allL rfl) rfl (hB 4 _ rfl) (by decide +kernel) (dCons (dCompV (own := [("one", 3)]) (is := [3]) rfl rfl ND (iVald (dSlice (dVar (i := 1) rfl (.inl rfl) rfl rfl) (dOSome kInt) dONone)) (blkOk_by (N := n_is_plan_shape) (sc := defScope s_is_plan_shape) (by decide +kernel)) (by decide) (fun _ _ _ _ _ => (gNmd (i := 3) ND rfl (.inl rfl) (.inr rfl))) (fun _ _ _ _ _ => dPtsNil) (fun _ _ _ _ _ => (dCall (hF 3 _ rfl) hr hgd rfl takes0 (dCons (dVar (i := 0) rfl (.inr (.inl rfl)) rfl rfl) (dCons (dVar (i := 3) rfl (.inl rfl) rfl rfl) dNil rfl) rfl) rfl rfl rfl rfl)) (fun _ => rfl)) dNil rfl) (by decide) rfl rfl rfl))))))))))
theorem sc_things_within : FnScope n_things_within ["plan"] (defScope s_things_within) := ⟨rfl, rfl, rfl, by decide +kernel, rfl, by decide +kernel, by decide +kernel⟩
theorem ok_things_within : Body LL BB i_things_within := by
  intro P w K mg base c n f cdv A outer s H E hF hB hr hgd
  have hu : (A.deeper (PyProof.Rows.envOfC i_things_within.name (defScope i_things_within.st) s.heap.objs.size f cdv)).units + 101 < cLine := by have := hr.un; omega
  have hu1 : (A.deeper (PyProof.Rows.envOfC i_things_within.name (defScope i_things_within.st) s.heap.objs.size f cdv)).units + 1 < cLine := by have := hr.un; omega
  have ND : n_things_within.Nodup := sc_things_within.nd
  exact (sOne (sRetD (dOp2 op_addL kInt (dBlt (call_sumL rfl) rfl (hB 8 _ rfl) (by decide +kernel) (dCons (dCompV (own := [("one", 1)]) (is := [1]) rfl rfl ND (iVald (dCall (hF 2 _ rfl) hr hgd rfl cx_takes (dCons (dVar (i := 0) rfl (.inl rfl) rfl rfl) dNil rfl) rfl rfl rfl rfl)) (blkOk_by (N := n_things_within) (sc := defScope s_things_within) (by decide +kernel)) (by decide) (fun _ _ _ _ _ => (gNmd (i := 1) ND rfl (.inl rfl) (.inr rfl))) (fun _ _ _ _ _ => dPtsNil) (fun _ _ _ _ _ => (dCall (hF 4 _ rfl) hr hgd rfl takes0 (dCons (dVar (i := 1) rfl (.inl rfl) rfl rfl) dNil rfl) rfl rfl rfl rfl)) (fun _ => rfl)) dNil rfl) (by decide) rfl rfl rfl))))
theorem sc_is_plan : FnScope n_is_plan ["rules", "thing"] (defScope s_is_plan) := ⟨rfl, rfl, rfl, by decide +kernel, rfl, by decide +kernel, by decide +kernel⟩
theorem ok_is_plan : Body LL BB i_is_plan := by
  intro P w K mg base c n f cdv A outer s H E hF hB hr hgd
  have hu : (A.deeper (PyProof.Rows.envOfC i_is_plan.name (defScope i_is_plan.st) s.heap.objs.size f cdv)).units + 101 < cLine := by have := hr.un; omega
  have hu1 : (A.deeper (PyProof.Rows.envOfC i_is_plan.name (defScope i_is_plan.st) s.heap.objs.size f cdv)).units + 1 < cLine := by have := hr.un; omega
  have ND : n_is_plan.Nodup := sc_is_plan.nd
  exact (sOne (sRetD (dAnd (dCall (hF 3 _ rfl) hr hgd rfl cx_takes (dCons (dVar (i := 0) rfl (.inl rfl) rfl rfl) (dCons (dVar (i := 1) rfl (.inl rfl) rfl rfl) dNil rfl) rfl) rfl rfl rfl rfl) (dOne (dCmp op_leL (dCall (hF 4 _ rfl) hr hgd rfl cx_takes (dCons (dVar (i := 1) rfl (.inl rfl) rfl rfl) dNil rfl) rfl rfl rfl rfl) (dCstG (hB 9 _ rfl) rfl rfl) rfl)))))
theorem sc_parts_of : FnScope n_parts_of ["plan"] (defScope s_parts_of) := ⟨rfl, rfl, rfl, by decide +kernel, rfl, by decide +kernel, by decide +kernel⟩
theorem ok_parts_of : Body LL BB i_parts_of := by
  intro P w K mg base c n f cdv A outer s H E hF hB hr hgd
  have hu : (A.deeper (PyProof.Rows.envOfC i_parts_of.name (defScope i_parts_of.st) s.heap.objs.size f cdv)).units + 101 < cLine := by have := hr.un; omega
  have hu1 : (A.deeper (PyProof.Rows.envOfC i_parts_of.name (defScope i_parts_of.st) s.heap.objs.size f cdv)).units + 1 < cLine := by have := hr.un; omega
  have ND : n_parts_of.Nodup := sc_parts_of.nd
  exact (sConsD (sSetD (i := 1) ND rfl (.inr rfl) (dLstM (dCons (dVar (i := 0) rfl (.inl rfl) rfl rfl) dNil rfl) (by decide)) rfl (.inl rfl))
  (sConsD (sForD (is := [2]) cx_passes rfl (iVald (dCall (hF 2 _ rfl) hr hgd rfl cx_takes (dCons (dVar (i := 0) rfl (.inl rfl) rfl rfl) dNil rfl) rfl rfl rfl rfl)) (gNmd (i := 2) ND rfl (.inl rfl) (.inr rfl)) (sOne (sExprD (dLm F.slot_list_extend F.type_list_extend mt_extendL (dVar (i := 1) rfl (.inr (.inl rfl)) rfl rfl) (dCons (dCompV (own := [("part", 3)]) (is := [3]) rfl rfl ND (iVald (dCall (hF 6 _ rfl) hr hgd rfl cx_takes (dCons (dVar (i := 2) rfl (.inl rfl) rfl rfl) dNil rfl) rfl rfl rfl rfl)) (blkOk_by (N := n_parts_of) (sc := defScope s_parts_of) (by decide +kernel)) (by decide) (fun _ _ _ _ _ => (gNmd (i := 3) ND rfl (.inl rfl) (.inr rfl))) (fun _ _ _ _ _ => (dPtsOne (bCmp ib_nin (op_ninL hu) (dVar (i := 3) rfl (.inl rfl) rfl rfl) (dVar (i := 1) rfl (.inr (.inl rfl)) rfl rfl) rfl))) (fun _ _ _ _ _ => (dVar (i := 3) rfl (.inl rfl) rfl rfl)) (fun _ => rfl)) dNil rfl) rfl rfl rfl rfl rfl) rfl)) (fun _ => rfl))
  (sOne (sRetD (dVar (i := 1) rfl (.inr (.inl rfl)) rfl rfl)))))
theorem sc_open_names : FnScope n_open_names ["plan"] (defScope s_open_names) := ⟨rfl, rfl, rfl, by decide +kernel, rfl, by decide +kernel, by decide +kernel⟩
theorem ok_open_names : Body LL BB i_open_names := by
  intro P w K mg base c n f cdv A outer s H E hF hB hr hgd
  have hu : (A.deeper (PyProof.Rows.envOfC i_open_names.name (defScope i_open_names.st) s.heap.objs.size f cdv)).units + 101 < cLine := by have := hr.un; omega
  have hu1 : (A.deeper (PyProof.Rows.envOfC i_open_names.name (defScope i_open_names.st) s.heap.objs.size f cdv)).units + 1 < cLine := by have := hr.un; omega
  have ND : n_open_names.Nodup := sc_open_names.nd
  exact (sOne (sRetD (dSortSetM rfl rfl (hB 10 _ rfl) rfl (hB 11 _ rfl) (dCompV (own := [("part", 1)]) (is := [1]) rfl rfl ND (iVald (dCall (hF 6 _ rfl) hr hgd rfl cx_takes (dCons (dVar (i := 0) rfl (.inl rfl) rfl rfl) dNil rfl) rfl rfl rfl rfl)) (blkOk_by (N := n_open_names) (sc := defScope s_open_names) (by decide +kernel)) (by decide) (fun _ _ _ _ _ => (gNmd (i := 1) ND rfl (.inl rfl) (.inr rfl))) (fun _ _ _ _ _ => (dPtsOne (bCmp ib_eq (op_eqL hu) (dIx (ix_L hu) (dVar (i := 1) rfl (.inl rfl) rfl rfl) kInt (fun _ _ => rfl)) kStr rfl))) (fun _ _ _ _ _ => (dIx (ix_L hu) (dVar (i := 1) rfl (.inl rfl) rfl rfl) kInt (fun _ _ => rfl))) (fun _ => rfl)) rfl)))
theorem sc__law_feed : FnScope n__law_feed ["_law_script"] (defScope s__law_feed) := ⟨rfl, rfl, rfl, by decide +kernel, rfl, by decide +kernel, by decide +kernel⟩
theorem ok__law_feed : Body LL BB i__law_feed := by
  intro P w K mg base c n f cdv A outer s H E hF hB hr hgd
  have hu : (A.deeper (PyProof.Rows.envOfC i__law_feed.name (defScope i__law_feed.st) s.heap.objs.size f cdv)).units + 101 < cLine := by have := hr.un; omega
  have hu1 : (A.deeper (PyProof.Rows.envOfC i__law_feed.name (defScope i__law_feed.st) s.heap.objs.size f cdv)).units + 1 < cLine := by have := hr.un; omega
  have ND : n__law_feed.Nodup := sc__law_feed.nd
  exact (sOne (sRetD (dLstM (dCons (dVar (i := 0) rfl (.inl rfl) rfl rfl) (dCons kInt (dCons kInt (dCons kInt dNil rfl) rfl) rfl) rfl) (by decide))))
theorem sc__law_draw : FnScope n__law_draw ["_law_feed_here", "_law_many"] (defScope s__law_draw) := ⟨rfl, rfl, rfl, by decide +kernel, rfl, by decide +kernel, by decide +kernel⟩
theorem ok__law_draw : Body LL BB i__law_draw := by
  intro P w K mg base c n f cdv A outer s H E hF hB hr hgd
  have hu : (A.deeper (PyProof.Rows.envOfC i__law_draw.name (defScope i__law_draw.st) s.heap.objs.size f cdv)).units + 101 < cLine := by have := hr.un; omega
  have hu1 : (A.deeper (PyProof.Rows.envOfC i__law_draw.name (defScope i__law_draw.st) s.heap.objs.size f cdv)).units + 1 < cLine := by have := hr.un; omega
  have ND : n__law_draw.Nodup := sc__law_draw.nd
  exact (sConsD (sSetD (i := 2) ND rfl (.inl rfl) (dIx (ix_L hu) (dVar (i := 0) rfl (.inl rfl) rfl rfl) kInt (fun _ _ => rfl)) rfl (.inr rfl))
  (sConsD (sPutD hu1 (dOp2 op_addL (dIx (ix_L hu) (dVar (i := 0) rfl (.inl rfl) rfl rfl) kInt (fun _ _ => rfl)) kInt) (dVar (i := 0) rfl (.inl rfl) rfl rfl) kInt rfl (fun _ => rfl) rfl rfl)
  (sConsD (sIfD (PW.pt (bAndD (bCmp ib_eq (op_eqL hu) (dIx (ix_L hu) (dVar (i := 0) rfl (.inl rfl) rfl rfl) kInt (fun _ _ => rfl)) kInt rfl) (bAnd1 (bCmp ib_lt op_ltL (dIx (ix_L hu) (dVar (i := 0) rfl (.inl rfl) rfl rfl) kInt (fun _ _ => rfl)) (dBlt call_lenL rfl (hB 2 _ rfl) (by decide +kernel) (dCons (dVar (i := 2) rfl (.inl rfl) rfl rfl) dNil rfl) (by decide) rfl rfl rfl) rfl)))) (sConsD (sPutD hu1 (dOp2 op_fdivL (dBlt call_absL rfl (hB 12 _ rfl) (by decide +kernel) (dCons (dIx (ix_L hu) (dVar (i := 2) rfl (.inl rfl) rfl rfl) (dIx (ix_L hu) (dVar (i := 0) rfl (.inl rfl) rfl rfl) kInt (fun _ _ => rfl)) (fun _ _ => rfl)) dNil rfl) (by decide) rfl rfl rfl) (dOp2 op_powL kInt kInt)) (dVar (i := 0) rfl (.inl rfl) rfl rfl) kInt rfl (fun _ => rfl) rfl rfl)
  (sOne (sPutD hu1 (dOp2 op_addL (dIx (ix_L hu) (dVar (i := 0) rfl (.inl rfl) rfl rfl) kInt (fun _ _ => rfl)) kInt) (dVar (i := 0) rfl (.inl rfl) rfl rfl) kInt rfl (fun _ => rfl) rfl rfl))) sNil)
  (sConsD (sIfD (bCmp ib_gt op_gtL (dIx (ix_L hu) (dVar (i := 0) rfl (.inl rfl) rfl rfl) kInt (fun _ _ => rfl)) kInt rfl) (sConsD (sSetD (i := 5) ND rfl (.inl rfl) (dOp2 op_modL (dIx (ix_L hu) (dVar (i := 0) rfl (.inl rfl) rfl rfl) kInt (fun _ _ => rfl)) (dVar (i := 1) rfl (.inl rfl) rfl rfl)) rfl (.inr rfl))
  (sConsD (sPutD hu1 (dOp2 op_fdivL (dIx (ix_L hu) (dVar (i := 0) rfl (.inl rfl) rfl rfl) kInt (fun _ _ => rfl)) (dVar (i := 1) rfl (.inl rfl) rfl rfl)) (dVar (i := 0) rfl (.inl rfl) rfl rfl) kInt rfl (fun _ => rfl) rfl rfl)
  (sOne (sRetD (dVar (i := 5) rfl (.inl rfl) rfl rfl))))) sNil)
  (sConsD (sSetD (i := 3) ND rfl (.inl rfl) kInt rfl (.inr rfl))
  (sConsD (sIfD (bCmp ib_gt op_gtL (dBlt call_lenL rfl (hB 2 _ rfl) (by decide +kernel) (dCons (dVar (i := 2) rfl (.inl rfl) rfl rfl) dNil rfl) (by decide) rfl rfl rfl) kInt rfl) (sOne (sSetD (i := 3) ND rfl (.inl rfl) (dIx (ix_L hu) (dVar (i := 2) rfl (.inl rfl) rfl rfl) (dOp2 op_modL (dIx (ix_L hu) (dVar (i := 0) rfl (.inl rfl) rfl rfl) kInt (fun _ _ => rfl)) (dBlt call_lenL rfl (hB 2 _ rfl) (by decide +kernel) (dCons (dVar (i := 2) rfl (.inl rfl) rfl rfl) dNil rfl) (by decide) rfl rfl rfl)) (fun _ _ => rfl)) rfl (.inr rfl))) sNil)
  (sConsD (sSetD (i := 4) ND rfl (.inl rfl) (dOp2 op_modL (dOp2 op_addL (dOp2 op_addL (dOp2 op_mulL (dOp2 op_modL (dVar (i := 3) rfl (.inl rfl) rfl rfl) kInt) kInt) (dOp2 op_mulL (dIx (ix_L hu) (dVar (i := 0) rfl (.inl rfl) rfl rfl) kInt (fun _ _ => rfl)) kInt)) kInt) kInt) rfl (.inr rfl))
  (sConsD (sSetD (i := 4) ND rfl (.inl rfl) (dOp2 op_modL (dOp2 op_mulL (dVar (i := 4) rfl (.inl rfl) rfl rfl) (dOp2 op_addL (dVar (i := 4) rfl (.inl rfl) rfl rfl) kInt)) kInt) rfl (.inr rfl))
  (sOne (sRetD (dOp2 op_modL (dOp2 op_modL (dOp2 op_mulL (dVar (i := 4) rfl (.inl rfl) rfl rfl) kInt) kInt) (dVar (i := 1) rfl (.inl rfl) rfl rfl))))))))))))
theorem sc__law_signs : FnScope n__law_signs ["_law_feed_here", "_law_most"] (defScope s__law_signs) := ⟨rfl, rfl, rfl, by decide +kernel, rfl, by decide +kernel, by decide +kernel⟩
theorem ok__law_signs : Body LL BB i__law_signs := by
  intro P w K mg base c n f cdv A outer s H E hF hB hr hgd
  have hu : (A.deeper (PyProof.Rows.envOfC i__law_signs.name (defScope i__law_signs.st) s.heap.objs.size f cdv)).units + 101 < cLine := by have := hr.un; omega
  have hu1 : (A.deeper (PyProof.Rows.envOfC i__law_signs.name (defScope i__law_signs.st) s.heap.objs.size f cdv)).units + 1 < cLine := by have := hr.un; omega
  have ND : n__law_signs.Nodup := sc__law_signs.nd
  exact (sConsD (sSetD (i := 2) ND rfl (.inr rfl) (dLst (dCons kStr (dCons kStr (dCons kStr (dCons kStr (dCons kStr (dCons kStr (dCons kStr (dCons kStr dNil rfl) rfl) rfl) rfl) rfl) rfl) rfl) rfl) (by decide)) rfl (.inl rfl))
  (sConsD (sSetD (i := 3) ND rfl (.inr rfl) (dCall (hF 9 _ rfl) hr hgd rfl cx_takes (dCons (dVar (i := 0) rfl (.inr (.inl rfl)) rfl rfl) (dCons kInt dNil rfl) rfl) rfl rfl rfl rfl) rfl (.inl rfl))
  (sConsD (sSetD (i := 4) ND rfl (.inr rfl) (dIx (ix_L hu) (dLst (dCons kInt (dCons kInt (dCons kInt (dCons kInt dNil rfl) rfl) rfl) rfl) (by decide)) (dCall (hF 9 _ rfl) hr hgd rfl cx_takes (dCons (dVar (i := 0) rfl (.inr (.inl rfl)) rfl rfl) (dCons kInt dNil rfl) rfl) rfl rfl rfl rfl) (fun _ _ => rfl)) rfl (.inl rfl))
  (sConsD (sSetD (i := 5) ND rfl (.inl rfl) (dOp2 op_addL kInt (dCall (hF 9 _ rfl) hr hgd rfl cx_takes (dCons (dVar (i := 0) rfl (.inr (.inl rfl)) rfl rfl) (dCons (dOp2 op_subL (dVar (i := 1) rfl (.inl rfl) rfl rfl) kInt) dNil rfl) rfl) rfl rfl rfl rfl)) rfl (.inr rfl))
  (sConsD (sSetD (i := 6) ND rfl (.inr rfl) (dOp2 op_addL (dLst (dCons kInt dNil rfl) (by decide)) (dCompV (own := [("_law_k", 8)]) (is := [8]) rfl rfl ND (iRange1d rfl (hB 13 _ rfl) (dOp2 op_subL (dVar (i := 5) rfl (.inl rfl) rfl rfl) kInt) rfl) (blkOk_by (N := n__law_signs) (sc := defScope s__law_signs) (by decide +kernel)) (by decide) (fun _ _ _ _ _ => (gNmd (i := 8) ND rfl (.inl rfl) (.inr rfl))) (fun _ _ _ _ _ => dPtsNil) (fun _ _ _ _ _ => (dIx (ix_L hu) (dLst (dCons kInt (dCons kInt (dCons kInt (dCons kInt (dCons kInt (dCons kInt dNil rfl) rfl) rfl) rfl) rfl) rfl) (by decide)) (dCall (hF 9 _ rfl) hr hgd rfl takes0 (dCons (dVar (i := 0) rfl (.inr (.inl rfl)) rfl rfl) (dCons kInt dNil rfl) rfl) rfl rfl rfl rfl) (fun _ _ => rfl))) (fun _ => rfl))) rfl (.inl rfl))
  (sConsD (sSetD (i := 7) ND rfl (.inl rfl) (dCall (hF 9 _ rfl) hr hgd rfl cx_takes (dCons (dVar (i := 0) rfl (.inr (.inl rfl)) rfl rfl) (dCons (dVar (i := 5) rfl (.inl rfl) rfl rfl) dNil rfl) rfl) rfl rfl rfl rfl) rfl (.inr rfl))
  (sConsD (sSetD (i := 6) ND rfl (.inr rfl) (dOp2 op_addL (dSlice (dVar (i := 6) rfl (.inr (.inl rfl)) rfl rfl) (dOSome (dVar (i := 7) rfl (.inl rfl) rfl rfl)) dONone) (dSlice (dVar (i := 6) rfl (.inr (.inl rfl)) rfl rfl) dONone (dOSome (dVar (i := 7) rfl (.inl rfl) rfl rfl)))) rfl (.inl rfl))
  (sOne (sRetD (dTy call_tupleL rfl (hB 7 _ rfl) (by decide +kernel) (dCons (dCompV (own := [("_law_k", 8)]) (is := [8]) rfl rfl ND (iRange1d rfl (hB 13 _ rfl) (dVar (i := 5) rfl (.inl rfl) rfl rfl) rfl) (blkOk_by (N := n__law_signs) (sc := defScope s__law_signs) (by decide +kernel)) (by decide) (fun _ _ _ _ _ => (gNmd (i := 8) ND rfl (.inl rfl) (.inr rfl))) (fun _ _ _ _ _ => dPtsNil) (fun _ _ _ _ _ => (dTup (dCons (dIx (ix_L hu) (dVar (i := 2) rfl (.inr (.inl rfl)) rfl rfl) (dOp2 op_modL (dOp2 op_addL (dVar (i := 3) rfl (.inr (.inl rfl)) rfl rfl) (dOp2 op_mulL (dVar (i := 4) rfl (.inr (.inl rfl)) rfl rfl) (dVar (i := 8) rfl (.inl rfl) rfl rfl))) kInt) (fun _ _ => rfl)) (dCons (dIx (ix_L hu) (dVar (i := 6) rfl (.inr (.inl rfl)) rfl rfl) (dVar (i := 8) rfl (.inl rfl) rfl rfl) (fun _ _ => rfl)) dNil rfl) rfl) (by decide))) (fun _ => rfl)) dNil rfl) (by decide) rfl rfl rfl))))))))))
theorem sc__law_left : FnScope n__law_left ["_law_feed_here", "_law_signs_here", "_law_deep", "_law_seen"] (defScope s__law_left) := ⟨rfl, rfl, rfl, by decide +kernel, rfl, by decide +kernel, by decide +kernel⟩
theorem ok__law_left : Body LL BB i__law_left := by
  intro P w K mg base c n f cdv A outer s H E hF hB hr hgd
  have hu : (A.deeper (PyProof.Rows.envOfC i__law_left.name (defScope i__law_left.st) s.heap.objs.size f cdv)).units + 101 < cLine := by have := hr.un; omega
  have hu1 : (A.deeper (PyProof.Rows.envOfC i__law_left.name (defScope i__law_left.st) s.heap.objs.size f cdv)).units + 1 < cLine := by have := hr.un; omega
  have ND : n__law_left.Nodup := sc__law_left.nd
  exact (sConsD (sSetD (i := 4) ND rfl (.inl rfl) (dLst (dCons kStr (dCons kStr (dCons kStr (dCons kStr (dCons kStr (dCons kStr (dCons kStr (dCons kStr (dCons kStr (dCons kStr (dCons kStr (dCons kStr dNil rfl) rfl) rfl) rfl) rfl) rfl) rfl) rfl) rfl) rfl) rfl) rfl) (by decide)) rfl (.inr rfl))
  (sConsD (sIfD (PW.pt (bAndD (bCmp ib_lt op_ltL (dVar (i := 2) rfl (.inr (.inl rfl)) rfl rfl) kInt rfl) (bAnd1 (PW.pt (bOrD (bCmp ib_eq (op_eqL hu) (dVar (i := 2) rfl (.inr (.inl rfl)) rfl rfl) kInt rfl) (bOr1 (bCmp ib_gt op_gtL (dCall (hF 9 _ rfl) hr hgd rfl cx_takes (dCons (dVar (i := 0) rfl (.inr (.inl rfl)) rfl rfl) (dCons kInt dNil rfl) rfl) rfl rfl rfl rfl) kInt rfl))))))) (sConsD (sExprD (dLm F.slot_list_append F.type_list_append mt_appendL (dVar (i := 3) rfl (.inr (.inl rfl)) rfl rfl) (dCons (dIx (ix_L hu) (dVar (i := 4) rfl (.inl rfl) rfl rfl) (dBlt call_lenL rfl (hB 2 _ rfl) (by decide +kernel) (dCons (dVar (i := 3) rfl (.inr (.inl rfl)) rfl rfl) dNil rfl) (by decide) rfl rfl rfl) (fun _ _ => rfl)) dNil rfl) rfl rfl rfl rfl rfl) rfl)
  (sOne (sRetD (dIx (ix_L hu) (dVar (i := 3) rfl (.inr (.inl rfl)) rfl rfl) (dUn un_negL kInt) (fun _ _ => rfl))))) sNil)
  (sConsD (sSetV (own := [("_law_one", 8)]) (i := 5) (is := [8]) rfl rfl ND rfl rfl (sw_true rfl rfl rfl (by decide +kernel)) (iVald (dVar (i := 1) rfl (.inr (.inl rfl)) rfl rfl)) (blkOk_by (N := n__law_left) (sc := defScope s__law_left) (by decide +kernel)) (by decide) (fun _ _ _ _ _ => (gNmd (i := 8) ND rfl (.inl rfl) (.inr rfl))) (fun _ _ _ _ _ => (dPtsOne (PW.pt (bOrD (bCmp ib_eq (op_eqL hu) (dVar (i := 2) rfl (.inr (.inl rfl)) rfl rfl) kInt rfl) (bOr1 (bCmp ib_lt op_ltL (dIx (ix_L hu) (dVar (i := 8) rfl (.inl rfl) rfl rfl) kInt (fun _ _ => rfl)) kInt rfl)))))) (fun _ _ _ _ _ => (dVar (i := 8) rfl (.inl rfl) rfl rfl)) (fun _ => rfl))
  (sConsD (sAsgD (is := [6, 7]) (dIx (ix_L hu) (dVar (i := 5) rfl (.inl rfl) rfl rfl) (dCall (hF 9 _ rfl) hr hgd rfl cx_takes (dCons (dVar (i := 0) rfl (.inr (.inl rfl)) rfl rfl) (dCons (dBlt call_lenL rfl (hB 2 _ rfl) (by decide +kernel) (dCons (dVar (i := 5) rfl (.inl rfl) rfl rfl) dNil rfl) (by decide) rfl rfl rfl) dNil rfl) rfl) rfl rfl rfl rfl) (fun _ _ => rfl)) (gTpd rfl (gConsD (i := 6) ND rfl (.inl rfl) (.inr rfl) (gConsD (i := 7) ND rfl (.inl rfl) (.inr rfl) gNilD)) rfl rfl) rfl rfl rfl)
  (sOne (sRetD (dOp2 op_addL (dTup (dCons (dVar (i := 6) rfl (.inl rfl) rfl rfl) dNil rfl) (by decide)) (dTy call_tupleL rfl (hB 7 _ rfl) (by decide +kernel) (dCons (dCompV (own := [("_law_k", 9)]) (is := [9]) rfl rfl ND (iRange1d rfl (hB 13 _ rfl) (dVar (i := 7) rfl (.inl rfl) rfl rfl) rfl) (blkOk_by (N := n__law_left) (sc := defScope s__law_left) (by decide +kernel)) (by decide) (fun _ _ _ _ _ => (gNmd (i := 9) ND rfl (.inl rfl) (.inr rfl))) (fun _ _ _ _ _ => dPtsNil) (fun _ _ _ _ _ => (dCall (hF 11 _ rfl) hr hgd rfl takes0 (dCons (dVar (i := 0) rfl (.inr (.inl rfl)) rfl rfl) (dCons (dVar (i := 1) rfl (.inr (.inl rfl)) rfl rfl) (dCons (dOp2 op_subL (dVar (i := 2) rfl (.inr (.inl rfl)) rfl rfl) kInt) (dCons (dVar (i := 3) rfl (.inr (.inl rfl)) rfl rfl) dNil rfl) rfl) rfl) rfl) rfl rfl rfl rfl)) (fun _ => rfl)) dNil rfl) (by decide) rfl rfl rfl))))))))
theorem sc__law_right : FnScope n__law_right ["_law_feed_here", "_law_signs_here", "_law_deep", "_law_seen"] (defScope s__law_right) := ⟨rfl, rfl, rfl, by decide +kernel, rfl, by decide +kernel, by decide +kernel⟩
theorem ok__law_right : Body LL BB i__law_right := by
  intro P w K mg base c n f cdv A outer s H E hF hB hr hgd
  have hu : (A.deeper (PyProof.Rows.envOfC i__law_right.name (defScope i__law_right.st) s.heap.objs.size f cdv)).units + 101 < cLine := by have := hr.un; omega
  have hu1 : (A.deeper (PyProof.Rows.envOfC i__law_right.name (defScope i__law_right.st) s.heap.objs.size f cdv)).units + 1 < cLine := by have := hr.un; omega
  have ND : n__law_right.Nodup := sc__law_right.nd
  exact (sConsD (sIfD (PW.pt (bAndD (bCmp ib_ne (op_neL hu) (dVar (i := 3) rfl (.inr (.inl rfl)) rfl rfl) (dLst dNil (by decide)) rfl) (bAnd1 (PW.pt (bOrD (bCmp ib_eq (op_eqL hu) (dVar (i := 2) rfl (.inr (.inl rfl)) rfl rfl) kInt rfl) (bOr1 (bCmp ib_eq (op_eqL hu) (dCall (hF 9 _ rfl) hr hgd rfl cx_takes (dCons (dVar (i := 0) rfl (.inr (.inl rfl)) rfl rfl) (dCons kInt dNil rfl) rfl) rfl rfl rfl rfl) kInt rfl))))))) (sOne (sRetD (dIx (ix_L hu) (dVar (i := 3) rfl (.inr (.inl rfl)) rfl rfl) (dCall (hF 9 _ rfl) hr hgd rfl cx_takes (dCons (dVar (i := 0) rfl (.inr (.inl rfl)) rfl rfl) (dCons (dBlt call_lenL rfl (hB 2 _ rfl) (by decide +kernel) (dCons (dVar (i := 3) rfl (.inr (.inl rfl)) rfl rfl) dNil rfl) (by decide) rfl rfl rfl) dNil rfl) rfl) rfl rfl rfl rfl) (fun _ _ => rfl)))) sNil)
  (sConsD (sSetV (own := [("_law_one", 7)]) (i := 4) (is := [7]) rfl rfl ND rfl rfl (sw_true rfl rfl rfl (by decide +kernel)) (iVald (dVar (i := 1) rfl (.inr (.inl rfl)) rfl rfl)) (blkOk_by (N := n__law_right) (sc := defScope s__law_right) (by decide +kernel)) (by decide) (fun _ _ _ _ _ => (gNmd (i := 7) ND rfl (.inl rfl) (.inr rfl))) (fun _ _ _ _ _ => (dPtsOne (bCmp ib_le op_leL (dIx (ix_L hu) (dVar (i := 7) rfl (.inl rfl) rfl rfl) kInt (fun _ _ => rfl)) (dVar (i := 2) rfl (.inr (.inl rfl)) rfl rfl) rfl))) (fun _ _ _ _ _ => (dVar (i := 7) rfl (.inl rfl) rfl rfl)) (fun _ => rfl))
  (sConsD (sAsgD (is := [5, 6]) (dIx (ix_L hu) (dVar (i := 4) rfl (.inl rfl) rfl rfl) (dCall (hF 9 _ rfl) hr hgd rfl cx_takes (dCons (dVar (i := 0) rfl (.inr (.inl rfl)) rfl rfl) (dCons (dBlt call_lenL rfl (hB 2 _ rfl) (by decide +kernel) (dCons (dVar (i := 4) rfl (.inl rfl) rfl rfl) dNil rfl) (by decide) rfl rfl rfl) dNil rfl) rfl) rfl rfl rfl rfl) (fun _ _ => rfl)) (gTpd rfl (gConsD (i := 5) ND rfl (.inl rfl) (.inr rfl) (gConsD (i := 6) ND rfl (.inl rfl) (.inr rfl) gNilD)) rfl rfl) rfl rfl rfl)
  (sOne (sRetD (dOp2 op_addL (dTup (dCons (dVar (i := 5) rfl (.inl rfl) rfl rfl) dNil rfl) (by decide)) (dTy call_tupleL rfl (hB 7 _ rfl) (by decide +kernel) (dCons (dCompV (own := [("_law_k", 8)]) (is := [8]) rfl rfl ND (iRange1d rfl (hB 13 _ rfl) (dVar (i := 6) rfl (.inl rfl) rfl rfl) rfl) (blkOk_by (N := n__law_right) (sc := defScope s__law_right) (by decide +kernel)) (by decide) (fun _ _ _ _ _ => (gNmd (i := 8) ND rfl (.inl rfl) (.inr rfl))) (fun _ _ _ _ _ => dPtsNil) (fun _ _ _ _ _ => (dCall (hF 12 _ rfl) hr hgd rfl takes0 (dCons (dVar (i := 0) rfl (.inr (.inl rfl)) rfl rfl) (dCons (dVar (i := 1) rfl (.inr (.inl rfl)) rfl rfl) (dCons (dBlt (call_minL rfl) rfl (hB 14 _ rfl) (by decide +kernel) (dCons (dOp2 op_subL (dVar (i := 2) rfl (.inr (.inl rfl)) rfl rfl) kInt) (dCons kInt dNil rfl) rfl) (by decide) rfl rfl rfl) (dCons (dVar (i := 3) rfl (.inr (.inl rfl)) rfl rfl) dNil rfl) rfl) rfl) rfl) rfl rfl rfl rfl)) (fun _ => rfl)) dNil rfl) (by decide) rfl rfl rfl)))))))
theorem sc__law_rules : FnScope n__law_rules ["_law_feed_here", "_law_signs_here", "_law_most"] (defScope s__law_rules) := ⟨rfl, rfl, rfl, by decide +kernel, rfl, by decide +kernel, by decide +kernel⟩
theorem ok__law_rules : Body LL BB i__law_rules := by
  intro P w K mg base c n f cdv A outer s H E hF hB hr hgd
  have hu : (A.deeper (PyProof.Rows.envOfC i__law_rules.name (defScope i__law_rules.st) s.heap.objs.size f cdv)).units + 101 < cLine := by have := hr.un; omega
  have hu1 : (A.deeper (PyProof.Rows.envOfC i__law_rules.name (defScope i__law_rules.st) s.heap.objs.size f cdv)).units + 1 < cLine := by have := hr.un; omega
  have ND : n__law_rules.Nodup := sc__law_rules.nd
  exact (sConsD (sSetD (i := 3) ND rfl (.inl rfl) (dLstM dNil (by decide)) rfl (.inr rfl))
  (sConsD (sSetD (i := 4) ND rfl (.inl rfl) (dLst (dCons kStr (dCons kStr (dCons kStr (dCons kStr (dCons kStr (dCons kStr dNil rfl) rfl) rfl) rfl) rfl) rfl) (by decide)) rfl (.inr rfl))
  (sConsD (sSetD (i := 5) ND rfl (.inl rfl) (dCall (hF 9 _ rfl) hr hgd rfl cx_takes (dCons (dVar (i := 0) rfl (.inl rfl) rfl rfl) (dCons kInt dNil rfl) rfl) rfl rfl rfl rfl) rfl (.inr rfl))
  (sConsD (sForD (is := [6]) cx_passes rfl (iRange1d rfl (hB 13 _ rfl) (dOp2 op_addL kInt (dCall (hF 9 _ rfl) hr hgd rfl cx_takes (dCons (dVar (i := 0) rfl (.inl rfl) rfl rfl) (dCons (dVar (i := 2) rfl (.inl rfl) rfl rfl) dNil rfl) rfl) rfl rfl rfl rfl)) rfl) (gNmd (i := 6) ND rfl (.inl rfl) (.inr rfl)) (sConsD (sSetD (i := 7) ND rfl (.inl rfl) (dLstM dNil (by decide)) rfl (.inr rfl))
  (sConsD (sSetD (i := 8) ND rfl (.inl rfl) (dCall (hF 11 _ rfl) hr hgd rfl cx_takes (dCons (dVar (i := 0) rfl (.inl rfl) rfl rfl) (dCons (dVar (i := 1) rfl (.inl rfl) rfl rfl) (dCons kInt (dCons (dVar (i := 7) rfl (.inl rfl) rfl rfl) dNil rfl) rfl) rfl) rfl) rfl rfl rfl rfl) rfl (.inr rfl))
  (sConsD (sSetD (i := 9) ND rfl (.inl rfl) (dCall (hF 12 _ rfl) hr hgd rfl cx_takes (dCons (dVar (i := 0) rfl (.inl rfl) rfl rfl) (dCons (dVar (i := 1) rfl (.inl rfl) rfl rfl) (dCons (dIx (ix_L hu) (dLst (dCons kInt (dCons kInt (dCons kInt (dCons kInt dNil rfl) rfl) rfl) rfl) (by decide)) (dCall (hF 9 _ rfl) hr hgd rfl cx_takes (dCons (dVar (i := 0) rfl (.inl rfl) rfl rfl) (dCons kInt dNil rfl) rfl) rfl rfl rfl rfl) (fun _ _ => rfl)) (dCons (dVar (i := 7) rfl (.inl rfl) rfl rfl) dNil rfl) rfl) rfl) rfl) rfl rfl rfl rfl) rfl (.inr rfl))
  (sOne (sExprD (dLm F.slot_list_append F.type_list_append mt_appendL (dVar (i := 3) rfl (.inl rfl) rfl rfl) (dCons (dTup (dCons (dIx (ix_L hu) (dVar (i := 4) rfl (.inl rfl) rfl rfl) (dOp2 op_modL (dOp2 op_addL (dVar (i := 5) rfl (.inl rfl) rfl rfl) (dVar (i := 6) rfl (.inl rfl) rfl rfl)) kInt) (fun _ _ => rfl)) (dCons (dVar (i := 8) rfl (.inl rfl) rfl rfl) (dCons (dVar (i := 9) rfl (.inl rfl) rfl rfl) dNil rfl) rfl) rfl) (by decide)) dNil rfl) rfl rfl rfl rfl rfl) rfl))))) (fun _ => rfl))
  (sOne (sRetD (dTy call_tupleL rfl (hB 7 _ rfl) (by decide +kernel) (dCons (dVar (i := 3) rfl (.inl rfl) rfl rfl) dNil rfl) (by decide) rfl rfl rfl)))))))
theorem sc__law_plan : FnScope n__law_plan ["_law_feed_here", "_law_names", "_law_size", "_law_opens"] (defScope s__law_plan) := ⟨rfl, rfl, rfl, by decide +kernel, rfl, by decide +kernel, by decide +kernel⟩
theorem ok__law_plan : Body LL BB i__law_plan := by
  intro P w K mg base c n f cdv A outer s H E hF hB hr hgd
  have hu : (A.deeper (PyProof.Rows.envOfC i__law_plan.name (defScope i__law_plan.st) s.heap.objs.size f cdv)).units + 101 < cLine := by have := hr.un; omega
  have hu1 : (A.deeper (PyProof.Rows.envOfC i__law_plan.name (defScope i__law_plan.st) s.heap.objs.size f cdv)).units + 1 < cLine := by have := hr.un; omega
  have ND : n__law_plan.Nodup := sc__law_plan.nd
  exact (sConsD (sIfD (PW.pt (bOrD (bCmp ib_lt op_ltL (dVar (i := 2) rfl (.inl rfl) rfl rfl) kInt rfl) (bOr1 (bCmp ib_eq (op_eqL hu) (dCall (hF 9 _ rfl) hr hgd rfl cx_takes (dCons (dVar (i := 0) rfl (.inl rfl) rfl rfl) (dCons kInt dNil rfl) rfl) rfl rfl rfl rfl) kInt rfl)))) (sConsD (sSetD (i := 5) ND rfl (.inl rfl) (dCall (hF 9 _ rfl) hr hgd rfl cx_takes (dCons (dVar (i := 0) rfl (.inl rfl) rfl rfl) (dCons kInt dNil rfl) rfl) rfl rfl rfl rfl) rfl (.inr rfl))
  (sConsD (sIfD (PW.pt (bOrD (bCmp ib_lt op_ltL (dVar (i := 5) rfl (.inl rfl) rfl rfl) kInt rfl) (bOr1 (PW.pt (bAndD (bCmp ib_lt op_ltL (dVar (i := 5) rfl (.inl rfl) rfl rfl) kInt rfl) (bAnd1 (bCmp ib_eq (op_eqL hu) (dVar (i := 3) rfl (.inl rfl) rfl rfl) (dLst dNil (by decide)) rfl))))))) (sOne (sRetD (dIx (ix_L hu) (dLst (dCons (dTup (dCons kStr dNil rfl) (by decide)) (dCons (dTup (dCons kStr dNil rfl) (by decide)) dNil rfl) rfl) (by decide)) (dCall (hF 9 _ rfl) hr hgd rfl cx_takes (dCons (dVar (i := 0) rfl (.inl rfl) rfl rfl) (dCons kInt dNil rfl) rfl) rfl rfl rfl rfl) (fun _ _ => rfl)))) sNil)
  (sConsD (sIfD (PW.pt (bAndD (bCmp ib_ne (op_neL hu) (dVar (i := 3) rfl (.inl rfl) rfl rfl) (dLst dNil (by decide)) rfl) (bAnd1 (bCmp ib_lt op_ltL (dVar (i := 5) rfl (.inl rfl) rfl rfl) kInt rfl)))) (sOne (sRetD (dTup (dCons kStr (dCons (dIx (ix_L hu) (dVar (i := 3) rfl (.inl rfl) rfl rfl) (dCall (hF 9 _ rfl) hr hgd rfl cx_takes (dCons (dVar (i := 0) rfl (.inl rfl) rfl rfl) (dCons (dBlt call_lenL rfl (hB 2 _ rfl) (by decide +kernel) (dCons (dVar (i := 3) rfl (.inl rfl) rfl rfl) dNil rfl) (by decide) rfl rfl rfl) dNil rfl) rfl) rfl rfl rfl rfl) (fun _ _ => rfl)) dNil rfl) rfl) (by decide)))) sNil)
  (sOne (sRetD (dIf (bCmp ib_ne (op_neL hu) (dVar (i := 1) rfl (.inl rfl) rfl rfl) (dLst dNil (by decide)) rfl) (dTup (dCons kStr (dCons (dIx (ix_L hu) (dVar (i := 1) rfl (.inl rfl) rfl rfl) (dCall (hF 9 _ rfl) hr hgd rfl cx_takes (dCons (dVar (i := 0) rfl (.inl rfl) rfl rfl) (dCons (dBlt call_lenL rfl (hB 2 _ rfl) (by decide +kernel) (dCons (dVar (i := 1) rfl (.inl rfl) rfl rfl) dNil rfl) (by decide) rfl rfl rfl) dNil rfl) rfl) rfl rfl rfl rfl) (fun _ _ => rfl)) dNil rfl) rfl) (by decide)) (dTup (dCons kStr dNil rfl) (by decide)))))))) sNil)
  (sConsD (sSetD (i := 4) ND rfl (.inl rfl) (dLst (dCons kStr (dCons kStr (dCons kStr (dCons kStr (dCons kStr (dCons kStr (dCons kStr (dCons kStr (dCons kStr dNil rfl) rfl) rfl) rfl) rfl) rfl) rfl) rfl) rfl) (by decide)) rfl (.inr rfl))
  (sConsD (sIfD (PW.pt (bAndD (bCmp ib_gt op_gtL (dVar (i := 2) rfl (.inl rfl) rfl rfl) kInt rfl) (bAnd1 (bCmp ib_eq (op_eqL hu) (dCall (hF 9 _ rfl) hr hgd rfl cx_takes (dCons (dVar (i := 0) rfl (.inl rfl) rfl rfl) (dCons kInt dNil rfl) rfl) rfl rfl rfl rfl) kInt rfl)))) (sConsD (sSetD (i := 6) ND rfl (.inl rfl) (dOp2 op_addL kInt (dCall (hF 9 _ rfl) hr hgd rfl cx_takes (dCons (dVar (i := 0) rfl (.inl rfl) rfl rfl) (dCons (dOp2 op_subL (dVar (i := 2) rfl (.inl rfl) rfl rfl) kInt) dNil rfl) rfl) rfl rfl rfl rfl)) rfl (.inr rfl))
  (sConsD (sSetD (i := 7) ND rfl (.inl rfl) (dCall (hF 14 _ rfl) hr hgd rfl cx_takes (dCons (dVar (i := 0) rfl (.inl rfl) rfl rfl) (dCons (dVar (i := 1) rfl (.inl rfl) rfl rfl) (dCons (dVar (i := 6) rfl (.inl rfl) rfl rfl) (dCons (dVar (i := 3) rfl (.inl rfl) rfl rfl) dNil rfl) rfl) rfl) rfl) rfl rfl rfl rfl) rfl (.inr rfl))
  (sOne (sRetD (dTup (dCons (dIx (ix_L hu) (dLst (dCons kStr (dCons kStr dNil rfl) rfl) (by decide)) (dCall (hF 9 _ rfl) hr hgd rfl cx_takes (dCons (dVar (i := 0) rfl (.inl rfl) rfl rfl) (dCons kInt dNil rfl) rfl) rfl rfl rfl rfl) (fun _ _ => rfl)) (dCons (dVar (i := 7) rfl (.inl rfl) rfl rfl) (dCons (dCall (hF 14 _ rfl) hr hgd rfl cx_takes (dCons (dVar (i := 0) rfl (.inl rfl) rfl rfl) (dCons (dVar (i := 1) rfl (.inl rfl) rfl rfl) (dCons (dOp2 op_subL (dOp2 op_subL (dVar (i := 2) rfl (.inl rfl) rfl rfl) kInt) (dVar (i := 6) rfl (.inl rfl) rfl rfl)) (dCons (dVar (i := 3) rfl (.inl rfl) rfl rfl) dNil rfl) rfl) rfl) rfl) rfl rfl rfl rfl) dNil rfl) rfl) rfl) (by decide)))))) sNil)
  (sOne (sRetD (dTup (dCons (dIx (ix_L hu) (dVar (i := 4) rfl (.inl rfl) rfl rfl) (dCall (hF 9 _ rfl) hr hgd rfl cx_takes (dCons (dVar (i := 0) rfl (.inl rfl) rfl rfl) (dCons kInt dNil rfl) rfl) rfl rfl rfl rfl) (fun _ _ => rfl)) (dCons (dCall (hF 14 _ rfl) hr hgd rfl cx_takes (dCons (dVar (i := 0) rfl (.inl rfl) rfl rfl) (dCons (dVar (i := 1) rfl (.inl rfl) rfl rfl) (dCons (dOp2 op_subL (dVar (i := 2) rfl (.inl rfl) rfl rfl) kInt) (dCons (dVar (i := 3) rfl (.inl rfl) rfl rfl) dNil rfl) rfl) rfl) rfl) rfl rfl rfl rfl) dNil rfl) rfl) (by decide)))))))
theorem sc__law_inner : FnScope n__law_inner ["_law_plan_here"] (defScope s__law_inner) := ⟨rfl, rfl, rfl, by decide +kernel, rfl, by decide +kernel, by decide +kernel⟩
theorem ok__law_inner : Body LL BB i__law_inner := by
  intro P w K mg base c n f cdv A outer s H E hF hB hr hgd
  have hu : (A.deeper (PyProof.Rows.envOfC i__law_inner.name (defScope i__law_inner.st) s.heap.objs.size f cdv)).units + 101 < cLine := by have := hr.un; omega
  have hu1 : (A.deeper (PyProof.Rows.envOfC i__law_inner.name (defScope i__law_inner.st) s.heap.objs.size f cdv)).units + 1 < cLine := by have := hr.un; omega
  have ND : n__law_inner.Nodup := sc__law_inner.nd
  exact (sOne (sRetD (dCompV (own := [("_law_one", 1)]) (is := [1]) rfl rfl ND (iVald (dSlice (dVar (i := 0) rfl (.inl rfl) rfl rfl) (dOSome kInt) dONone)) (blkOk_by (N := n__law_inner) (sc := defScope s__law_inner) (by decide +kernel)) (by decide) (fun _ _ _ _ _ => (gNmd (i := 1) ND rfl (.inl rfl) (.inr rfl))) (fun _ _ _ _ _ => (dPtsOne (bVal (dIsi (k := .tuple) rfl (hB 0 _ rfl) rfl (hB 7 _ rfl) (by decide +kernel) (dVar (i := 1) rfl (.inl rfl) rfl rfl) (by decide) rfl rfl) (fun _ => rfl)))) (fun _ _ _ _ _ => (dVar (i := 1) rfl (.inl rfl) rfl rfl)) (fun _ => rfl))))
theorem sc__law_parts : FnScope n__law_parts ["_law_plan_here"] (defScope s__law_parts) := ⟨rfl, rfl, rfl, by decide +kernel, rfl, by decide +kernel, by decide +kernel⟩
theorem ok__law_parts : Body LL BB i__law_parts := by
  intro P w K mg base c n f cdv A outer s H E hF hB hr hgd
  have hu : (A.deeper (PyProof.Rows.envOfC i__law_parts.name (defScope i__law_parts.st) s.heap.objs.size f cdv)).units + 101 < cLine := by have := hr.un; omega
  have hu1 : (A.deeper (PyProof.Rows.envOfC i__law_parts.name (defScope i__law_parts.st) s.heap.objs.size f cdv)).units + 1 < cLine := by have := hr.un; omega
  have ND : n__law_parts.Nodup := sc__law_parts.nd
  exact (sConsD (sSetD (i := 1) ND rfl (.inr rfl) (dLst (dCons (dVar (i := 0) rfl (.inl rfl) rfl rfl) dNil rfl) (by decide)) rfl (.inl rfl))
  (sConsD (sForD (is := [2]) cx_passes rfl (iVald (dCall (hF 15 _ rfl) hr hgd rfl cx_takes (dCons (dVar (i := 0) rfl (.inl rfl) rfl rfl) dNil rfl) rfl rfl rfl rfl)) (gNmd (i := 2) ND rfl (.inl rfl) (.inr rfl)) (sOne (sSetD (i := 1) ND rfl (.inr rfl) (dOp2 op_addL (dVar (i := 1) rfl (.inr (.inl rfl)) rfl rfl) (dCompV (own := [("_law_part", 3)]) (is := [3]) rfl rfl ND (iVald (dCall (hF 16 _ rfl) hr hgd rfl cx_takes (dCons (dVar (i := 2) rfl (.inl rfl) rfl rfl) dNil rfl) rfl rfl rfl rfl)) (blkOk_by (N := n__law_parts) (sc := defScope s__law_parts) (by decide +kernel)) (by decide) (fun _ _ _ _ _ => (gNmd (i := 3) ND rfl (.inl rfl) (.inr rfl))) (fun _ _ _ _ _ => (dPtsOne (bCmp ib_nin (op_ninL hu) (dVar (i := 3) rfl (.inl rfl) rfl rfl) (dVar (i := 1) rfl (.inr (.inl rfl)) rfl rfl) rfl))) (fun _ _ _ _ _ => (dVar (i := 3) rfl (.inl rfl) rfl rfl)) (fun _ => rfl))) rfl (.inl rfl))) (fun _ => rfl))
  (sOne (sRetD (dVar (i := 1) rfl (.inr (.inl rfl)) rfl rfl)))))
theorem sc__law_bent : FnScope n__law_bent ["_law_feed_here", "_law_thing", "_law_others"] (defScope s__law_bent) := ⟨rfl, rfl, rfl, by decide +kernel, rfl, by decide +kernel, by decide +kernel⟩
theorem ok__law_bent : Body LL BB i__law_bent := by
  intro P w K mg base c n f cdv A outer s H E hF hB hr hgd
  have hu : (A.deeper (PyProof.Rows.envOfC i__law_bent.name (defScope i__law_bent.st) s.heap.objs.size f cdv)).units + 101 < cLine := by have := hr.un; omega
  have hu1 : (A.deeper (PyProof.Rows.envOfC i__law_bent.name (defScope i__law_bent.st) s.heap.objs.size f cdv)).units + 1 < cLine := by have := hr.un; omega
  have ND : n__law_bent.Nodup := sc__law_bent.nd
  exact (sConsD (sIfD (PW.pt (bAndD (bVal (dIsi (k := .tuple) rfl (hB 0 _ rfl) rfl (hB 7 _ rfl) (by decide +kernel) (dVar (i := 1) rfl (.inl rfl) rfl rfl) (by decide) rfl rfl) (fun _ => rfl)) (bAndD (bCmp ib_gt op_gtL (dBlt call_lenL rfl (hB 2 _ rfl) (by decide +kernel) (dCons (dVar (i := 1) rfl (.inl rfl) rfl rfl) dNil rfl) (by decide) rfl rfl rfl) kInt rfl) (bAnd1 (bCmp ib_gt op_gtL (dCall (hF 9 _ rfl) hr hgd rfl cx_takes (dCons (dVar (i := 0) rfl (.inl rfl) rfl rfl) (dCons kInt dNil rfl) rfl) rfl rfl rfl rfl) kInt rfl))))) (sConsD (sSetD (i := 4) ND rfl (.inl rfl) (dCall (hF 9 _ rfl) hr hgd rfl cx_takes (dCons (dVar (i := 0) rfl (.inl rfl) rfl rfl) (dCons (dBlt call_lenL rfl (hB 2 _ rfl) (by decide +kernel) (dCons (dVar (i := 1) rfl (.inl rfl) rfl rfl) dNil rfl) (by decide) rfl rfl rfl) dNil rfl) rfl) rfl rfl rfl rfl) rfl (.inr rfl))
  (sOne (sRetD (dOp2 op_addL (dOp2 op_addL (dSlice (dVar (i := 1) rfl (.inl rfl) rfl rfl) dONone (dOSome (dVar (i := 4) rfl (.inl rfl) rfl rfl))) (dTup (dCons (dCall (hF 17 _ rfl) hr hgd rfl cx_takes (dCons (dVar (i := 0) rfl (.inl rfl) rfl rfl) (dCons (dIx (ix_L hu) (dVar (i := 1) rfl (.inl rfl) rfl rfl) (dVar (i := 4) rfl (.inl rfl) rfl rfl) (fun _ _ => rfl)) (dCons (dVar (i := 2) rfl (.inl rfl) rfl rfl) dNil rfl) rfl) rfl) rfl rfl rfl rfl) dNil rfl) (by decide))) (dSlice (dVar (i := 1) rfl (.inl rfl) rfl rfl) (dOSome (dOp2 op_addL (dVar (i := 4) rfl (.inl rfl) rfl rfl) kInt)) dONone))))) sNil)
  (sConsD (sIfD (bVal (dIsi (k := .tuple) rfl (hB 0 _ rfl) rfl (hB 7 _ rfl) (by decide +kernel) (dVar (i := 1) rfl (.inl rfl) rfl rfl) (by decide) rfl rfl) (fun _ => rfl)) (sConsD (sSetD (i := 3) ND rfl (.inl rfl) (dLst (dCons (dTy call_listL rfl (hB 15 _ rfl) (by decide +kernel) (dCons (dVar (i := 1) rfl (.inl rfl) rfl rfl) dNil rfl) (by decide) rfl rfl rfl) (dCons (dOp2 op_addL (dVar (i := 1) rfl (.inl rfl) rfl rfl) (dSlice (dVar (i := 1) rfl (.inl rfl) rfl rfl) dONone (dOSome kInt))) (dCons (dSlice (dVar (i := 1) rfl (.inl rfl) rfl rfl) (dOSome kInt) dONone) (dCons (dSlice (dVar (i := 1) rfl (.inl rfl) rfl rfl) dONone (dOSome (dUn un_negL kInt))) (dCons (dRev (dVar (i := 1) rfl (.inl rfl) rfl rfl)) (dCons (dTup dNil (by decide)) (dCons kNon (dCons (dOp2 op_addL (dVar (i := 1) rfl (.inl rfl) rfl rfl) (dTup (dCons kInt dNil rfl) (by decide))) (dCons (dOp2 op_mulL (dVar (i := 1) rfl (.inl rfl) rfl rfl) kInt) dNil rfl) rfl) rfl) rfl) rfl) rfl) rfl) rfl) rfl) (by decide)) rfl (.inr rfl))
  (sOne (sRetD (dIx (ix_L hu) (dVar (i := 3) rfl (.inl rfl) rfl rfl) (dCall (hF 9 _ rfl) hr hgd rfl cx_takes (dCons (dVar (i := 0) rfl (.inl rfl) rfl rfl) (dCons kInt dNil rfl) rfl) rfl rfl rfl rfl) (fun _ _ => rfl))))) sNil)
  (sConsD (sSetD (i := 3) ND rfl (.inl rfl) (dLst (dCons kNon (dCons kBl (dCons kBl (dCons kInt (dCons kInt (dCons kInt (dCons kInt (dCons (dUn un_negL kInt) (dCons kStr (dCons kStr (dCons kStr (dCons kStr (dCons kStr (dCons kStr (dCons kStr (dCons kStr (dCons kStr (dCons (dLst dNil (by decide)) (dCons (dTup dNil (by decide)) dNil rfl) rfl) rfl) rfl) rfl) rfl) rfl) rfl) rfl) rfl) rfl) rfl) rfl) rfl) rfl) rfl) rfl) rfl) rfl) (by decide)) rfl (.inr rfl))
  (sConsD (sSetD (i := 3) ND rfl (.inl rfl) (dOp2 op_addL (dVar (i := 3) rfl (.inl rfl) rfl rfl) (dVar (i := 2) rfl (.inl rfl) rfl rfl)) rfl (.inr rfl))
  (sOne (sRetD (dIx (ix_L hu) (dVar (i := 3) rfl (.inl rfl) rfl rfl) (dCall (hF 9 _ rfl) hr hgd rfl cx_takes (dCons (dVar (i := 0) rfl (.inl rfl) rfl rfl) (dCons (dBlt call_lenL rfl (hB 2 _ rfl) (by decide +kernel) (dCons (dVar (i := 3) rfl (.inl rfl) rfl rfl) dNil rfl) (by decide) rfl rfl rfl) dNil rfl) rfl) rfl rfl rfl rfl) (fun _ _ => rfl))))))))
theorem sc__law_is_name : FnScope n__law_is_name ["_law_thing"] (defScope s__law_is_name) := ⟨rfl, rfl, rfl, by decide +kernel, rfl, by decide +kernel, by decide +kernel⟩
theorem ok__law_is_name : Body LL BB i__law_is_name := by
  intro P w K mg base c n f cdv A outer s H E hF hB hr hgd
  have hu : (A.deeper (PyProof.Rows.envOfC i__law_is_name.name (defScope i__law_is_name.st) s.heap.objs.size f cdv)).units + 101 < cLine := by have := hr.un; omega
  have hu1 : (A.deeper (PyProof.Rows.envOfC i__law_is_name.name (defScope i__law_is_name.st) s.heap.objs.size f cdv)).units + 1 < cLine := by have := hr.un; omega
  have ND : n__law_is_name.Nodup := sc__law_is_name.nd
  exact (sConsD (sIfD (PW.pt (bOrD (bNotD (bVal (dIsi (k := .str) rfl (hB 0 _ rfl) rfl (hB 1 _ rfl) (by decide +kernel) (dVar (i := 0) rfl (.inl rfl) rfl rfl) (by decide) rfl rfl) (fun _ => rfl))) (bOr1 (bNotD (bChain ib_lt op_ltL op_ltL kInt (dBlt call_lenL rfl (hB 2 _ rfl) (by decide +kernel) (dCons (dVar (i := 0) rfl (.inl rfl) rfl rfl) dNil rfl) (by decide) rfl rfl rfl) kInt rfl))))) (sOne (sRetD kBl)) sNil)
  (sOne (sRetD (dCmp (op_eqL hu) (dCompV (own := [("_law_sign", 1)]) (is := [1]) rfl rfl ND (iVald (dVar (i := 0) rfl (.inl rfl) rfl rfl)) (blkOk_by (N := n__law_is_name) (sc := defScope s__law_is_name) (by decide +kernel)) (by decide) (fun _ _ _ _ _ => (gNmd (i := 1) ND rfl (.inl rfl) (.inr rfl))) (fun _ _ _ _ _ => (dPtsOne (bCmp ib_nin (op_ninL hu) (dVar (i := 1) rfl (.inl rfl) rfl rfl) kStr rfl))) (fun _ _ _ _ _ => (dVar (i := 1) rfl (.inl rfl) rfl rfl)) (fun _ => rfl)) (dLst dNil (by decide)) rfl))))
theorem sc__law_is_plan : FnScope n__law_is_plan ["_law_rules_here", "_law_thing", "_law_box"] (defScope s__law_is_plan) := ⟨rfl, rfl, rfl, by decide +kernel, rfl, by decide +kernel, by decide +kernel⟩
theorem ok__law_is_plan : Body LL BB i__law_is_plan := by
  intro P w K mg base c n f cdv A outer s H E hF hB hr hgd
  have hu : (A.deeper (PyProof.Rows.envOfC i__law_is_plan.name (defScope i__law_is_plan.st) s.heap.objs.size f cdv)).units + 101 < cLine := by have := hr.un; omega
  have hu1 : (A.deeper (PyProof.Rows.envOfC i__law_is_plan.name (defScope i__law_is_plan.st) s.heap.objs.size f cdv)).units + 1 < cLine := by have := hr.un; omega
  have ND : n__law_is_plan.Nodup := sc__law_is_plan.nd
  exact (sConsD (sSetD (i := 3) ND rfl (.inl rfl) (dDisp (dPrCons kStr kInt (dPrCons kStr kInt (dPrCons kStr kInt (dPrCons kStr kInt (dPrCons kStr kInt (dPrCons kStr kInt (dPrCons kStr kInt (dPrCons kStr kInt dPrNil)))))))) rfl rfl (by simp) (by decide)) rfl (.inr rfl))
  (sConsD (sForD (is := [4]) cx_passes rfl (iVald (dTup (dCons kStr (dCons kStr (dCons kStr (dCons kStr (dCons kStr dNil rfl) rfl) rfl) rfl) rfl) (by decide))) (gNmd (i := 4) ND rfl (.inl rfl) (.inr rfl)) (sOne (sPutD hu1 kInt (dVar (i := 3) rfl (.inl rfl) rfl rfl) (dVar (i := 4) rfl (.inl rfl) rfl rfl) rfl (fun _ => rfl) rfl rfl)) (fun _ => rfl))
  (sConsD (sPutD hu1 (dOp2 op_addL (dIx (ix_L hu) (dVar (i := 2) rfl (.inr (.inl rfl)) rfl rfl) kInt (fun _ _ => rfl)) kInt) (dVar (i := 2) rfl (.inr (.inl rfl)) rfl rfl) kInt rfl (fun _ => rfl) rfl rfl)
  (sConsD (sIfD (PW.pt (bOrD (bNotD (bVal (dIsi (k := .tuple) rfl (hB 0 _ rfl) rfl (hB 7 _ rfl) (by decide +kernel) (dVar (i := 1) rfl (.inl rfl) rfl rfl) (by decide) rfl rfl) (fun _ => rfl))) (bOrD (bCmp ib_eq (op_eqL hu) (dBlt call_lenL rfl (hB 2 _ rfl) (by decide +kernel) (dCons (dVar (i := 1) rfl (.inl rfl) rfl rfl) dNil rfl) (by decide) rfl rfl rfl) kInt rfl) (bOr1 (bNotD (bVal (dIsi (k := .str) rfl (hB 0 _ rfl) rfl (hB 1 _ rfl) (by decide +kernel) (dIx (ix_L hu) (dVar (i := 1) rfl (.inl rfl) rfl rfl) kInt (fun _ _ => rfl)) (by decide) rfl rfl) (fun _ => rfl))))))) (sOne (sRetD kBl)) sNil)
  (sConsD (sIfD (bCmp ib_eq (op_eqL hu) (dIx (ix_L hu) (dVar (i := 1) rfl (.inl rfl) rfl rfl) kInt (fun _ _ => rfl)) kStr rfl) (sOne (sRetD (dAnd (dCmp (op_eqL hu) (dBlt call_lenL rfl (hB 2 _ rfl) (by decide +kernel) (dCons (dVar (i := 1) rfl (.inl rfl) rfl rfl) dNil rfl) (by decide) rfl rfl rfl) kInt rfl) (dAnd (dIsi (k := .str) rfl (hB 0 _ rfl) rfl (hB 1 _ rfl) (by decide +kernel) (dIx (ix_L hu) (dVar (i := 1) rfl (.inl rfl) rfl rfl) kInt (fun _ _ => rfl)) (by decide) rfl rfl) (dOne (dCmp (op_inL hu) (dIx (ix_L hu) (dVar (i := 1) rfl (.inl rfl) rfl rfl) kInt (fun _ _ => rfl)) (dCompV (own := [("_law_one", 5)]) (is := [5]) rfl rfl ND (iVald (dVar (i := 0) rfl (.inr (.inl rfl)) rfl rfl)) (blkOk_by (N := n__law_is_plan) (sc := defScope s__law_is_plan) (by decide +kernel)) (by decide) (fun _ _ _ _ _ => (gNmd (i := 5) ND rfl (.inl rfl) (.inr rfl))) (fun _ _ _ _ _ => dPtsNil) (fun _ _ _ _ _ => (dIx (ix_L hu) (dVar (i := 5) rfl (.inl rfl) rfl rfl) kInt (fun _ _ => rfl))) (fun _ => rfl)) rfl)))))) sNil)
  (sConsD (sIfD (bCmp ib_eq (op_eqL hu) (dIx (ix_L hu) (dVar (i := 1) rfl (.inl rfl) rfl rfl) kInt (fun _ _ => rfl)) kStr rfl) (sOne (sRetD (dAnd (dCmp (op_eqL hu) (dBlt call_lenL rfl (hB 2 _ rfl) (by decide +kernel) (dCons (dVar (i := 1) rfl (.inl rfl) rfl rfl) dNil rfl) (by decide) rfl rfl rfl) kInt rfl) (dOne (dCall (hF 18 _ rfl) hr hgd rfl cx_takes (dCons (dIx (ix_L hu) (dVar (i := 1) rfl (.inl rfl) rfl rfl) kInt (fun _ _ => rfl)) dNil rfl) rfl rfl rfl rfl))))) sNil)
  (sConsD (sIfD (PW.pt (bOrD (bCmp ib_nin (op_ninL hu) (dIx (ix_L hu) (dVar (i := 1) rfl (.inl rfl) rfl rfl) kInt (fun _ _ => rfl)) (dVar (i := 3) rfl (.inl rfl) rfl rfl) rfl) (bOr1 (bCmp ib_ne (op_neL hu) (dOp2 op_subL (dBlt call_lenL rfl (hB 2 _ rfl) (by decide +kernel) (dCons (dVar (i := 1) rfl (.inl rfl) rfl rfl) dNil rfl) (by decide) rfl rfl rfl) kInt) (dIx (ix_L hu) (dVar (i := 3) rfl (.inl rfl) rfl rfl) (dIx (ix_L hu) (dVar (i := 1) rfl (.inl rfl) rfl rfl) kInt (fun _ _ => rfl)) (fun _ _ => rfl)) rfl)))) (sOne (sRetD kBl)) sNil)
  (sOne (sRetD (dCmp (op_ninL hu) kBl (dCompV (own := [("_law_one", 5)]) (is := [5]) rfl rfl ND (iVald (dSlice (dVar (i := 1) rfl (.inl rfl) rfl rfl) (dOSome kInt) dONone)) (blkOk_by (N := n__law_is_plan) (sc := defScope s__law_is_plan) (by decide +kernel)) (by decide) (fun _ _ _ _ _ => (gNmd (i := 5) ND rfl (.inl rfl) (.inr rfl))) (fun _ _ _ _ _ => dPtsNil) (fun _ _ _ _ _ => (dCall (hF 19 _ rfl) hr hgd rfl takes0 (dCons (dVar (i := 0) rfl (.inr (.inl rfl)) rfl rfl) (dCons (dVar (i := 5) rfl (.inl rfl) rfl rfl) (dCons (dVar (i := 2) rfl (.inr (.inl rfl)) rfl rfl) dNil rfl) rfl) rfl) rfl rfl rfl rfl)) (fun _ => rfl)) rfl))))))))))
theorem sc__law_plan_right : FnScope n__law_plan_right ["_law_rules_here", "_law_thing"] (defScope s__law_plan_right) := ⟨rfl, rfl, rfl, by decide +kernel, rfl, by decide +kernel, by decide +kernel⟩
theorem ok__law_plan_right : Body LL BB i__law_plan_right := by
  intro P w K mg base c n f cdv A outer s H E hF hB hr hgd
  have hu : (A.deeper (PyProof.Rows.envOfC i__law_plan_right.name (defScope i__law_plan_right.st) s.heap.objs.size f cdv)).units + 101 < cLine := by have := hr.un; omega
  have hu1 : (A.deeper (PyProof.Rows.envOfC i__law_plan_right.name (defScope i__law_plan_right.st) s.heap.objs.size f cdv)).units + 1 < cLine := by have := hr.un; omega
  have ND : n__law_plan_right.Nodup := sc__law_plan_right.nd
  exact (sConsD (sSetD (i := 2) ND rfl (.inl rfl) (dLstM (dCons kInt dNil rfl) (by decide)) rfl (.inr rfl))
  (sConsD (sSetD (i := 3) ND rfl (.inl rfl) (dAnd (dCall (hF 19 _ rfl) hr hgd rfl cx_takes (dCons (dVar (i := 0) rfl (.inl rfl) rfl rfl) (dCons (dVar (i := 1) rfl (.inl rfl) rfl rfl) (dCons (dVar (i := 2) rfl (.inl rfl) rfl rfl) dNil rfl) rfl) rfl) rfl rfl rfl rfl) (dOne (dCmp op_ltL (dIx (ix_L hu) (dVar (i := 2) rfl (.inl rfl) rfl rfl) kInt (fun _ _ => rfl)) kInt rfl))) rfl (.inr rfl))
  (sConsD (sSetD (i := 4) ND rfl (.inl rfl) (dCall (hF 5 _ rfl) hr hgd rfl cx_takes (dCons (dVar (i := 0) rfl (.inl rfl) rfl rfl) (dCons (dVar (i := 1) rfl (.inl rfl) rfl rfl) dNil rfl) rfl) rfl rfl rfl rfl) rfl (.inr rfl))
  (sOne (sRetD (dAnd (dIsi (k := .bool) rfl (hB 0 _ rfl) rfl (hB 16 _ rfl) (by decide +kernel) (dVar (i := 4) rfl (.inl rfl) rfl rfl) (by decide) rfl rfl) (dOne (dCmp (op_eqL hu) (dVar (i := 4) rfl (.inl rfl) rfl rfl) (dVar (i := 3) rfl (.inl rfl) rfl rfl) rfl))))))))
theorem sc__law_parts_right : FnScope n__law_parts_right ["_law_plan_here"] (defScope s__law_parts_right) := ⟨rfl, rfl, rfl, by decide +kernel, rfl, by decide +kernel, by decide +kernel⟩
theorem ok__law_parts_right : Body LL BB i__law_parts_right := by
  intro P w K mg base c n f cdv A outer s H E hF hB hr hgd
  have hu : (A.deeper (PyProof.Rows.envOfC i__law_parts_right.name (defScope i__law_parts_right.st) s.heap.objs.size f cdv)).units + 101 < cLine := by have := hr.un; omega
  have hu1 : (A.deeper (PyProof.Rows.envOfC i__law_parts_right.name (defScope i__law_parts_right.st) s.heap.objs.size f cdv)).units + 1 < cLine := by have := hr.un; omega
  have ND : n__law_parts_right.Nodup := sc__law_parts_right.nd
  exact (sConsD (sSetD (i := 1) ND rfl (.inl rfl) (dSortSet rfl rfl (hB 10 _ rfl) rfl (hB 11 _ rfl) (dCompV (own := [("_law_part", 5)]) (is := [5]) rfl rfl ND (iVald (dCall (hF 16 _ rfl) hr hgd rfl cx_takes (dCons (dVar (i := 0) rfl (.inl rfl) rfl rfl) dNil rfl) rfl rfl rfl rfl)) (blkOk_by (N := n__law_parts_right) (sc := defScope s__law_parts_right) (by decide +kernel)) (by decide) (fun _ _ _ _ _ => (gNmd (i := 5) ND rfl (.inl rfl) (.inr rfl))) (fun _ _ _ _ _ => (dPtsOne (bCmp ib_eq (op_eqL hu) (dIx (ix_L hu) (dVar (i := 5) rfl (.inl rfl) rfl rfl) kInt (fun _ _ => rfl)) kStr rfl))) (fun _ _ _ _ _ => (dIx (ix_L hu) (dVar (i := 5) rfl (.inl rfl) rfl rfl) kInt (fun _ _ => rfl))) (fun _ => rfl)) rfl) rfl (.inr rfl))
  (sConsD (sForD (is := [2]) cx_passes rfl (iRange1d rfl (hB 13 _ rfl) kInt rfl) (gNmd (i := 2) ND rfl (.inl rfl) (.inr rfl)) (sConsD (sSetD (i := 3) ND rfl (.inl rfl) (dCallM (hF 6 _ rfl) hr hgd rfl cx_takes (dCons (dVar (i := 0) rfl (.inl rfl) rfl rfl) dNil rfl) rfl rfl rfl rfl) rfl (.inr rfl))
  (sConsD (sSetD (i := 4) ND rfl (.inl rfl) (dCallM (hF 7 _ rfl) hr hgd rfl cx_takes (dCons (dVar (i := 0) rfl (.inl rfl) rfl rfl) dNil rfl) rfl rfl rfl rfl) rfl (.inr rfl))
  (sConsD (sIfD (PW.pt (bOrD (bNotD (bVal (dIsi (k := .list) rfl (hB 0 _ rfl) rfl (hB 15 _ rfl) (by decide +kernel) (dVar (i := 3) rfl (.inl rfl) rfl rfl) (by decide) rfl rfl) (fun _ => rfl))) (bOrD (bCmp ib_ne (op_neL hu) (dVar (i := 3) rfl (.inl rfl) rfl rfl) (dCall (hF 16 _ rfl) hr hgd rfl cx_takes (dCons (dVar (i := 0) rfl (.inl rfl) rfl rfl) dNil rfl) rfl rfl rfl rfl) rfl) (bOrD (bNotD (bVal (dIsi (k := .list) rfl (hB 0 _ rfl) rfl (hB 15 _ rfl) (by decide +kernel) (dVar (i := 4) rfl (.inl rfl) rfl rfl) (by decide) rfl rfl) (fun _ => rfl))) (bOr1 (bCmp ib_ne (op_neL hu) (dVar (i := 4) rfl (.inl rfl) rfl rfl) (dVar (i := 1) rfl (.inl rfl) rfl rfl) rfl)))))) (sOne (sRetD kBl)) sNil)
  (sConsD (sExprD (dLm0 F.slot_list_clear F.type_list_clear mt_clearL (dVar (i := 3) rfl (.inl rfl) rfl rfl) rfl rfl) rfl)
  (sOne (sExprD (dLm F.slot_list_append F.type_list_append mt_appendL (dVar (i := 4) rfl (.inl rfl) rfl rfl) (dCons kStr dNil rfl) rfl rfl rfl rfl rfl) rfl)))))) (fun _ => rfl))
  (sOne (sRetD kBl))))
theorem sc_law : FnScope n_law ["_law_script"] (defScope s_law) := ⟨rfl, rfl, rfl, by decide +kernel, rfl, by decide +kernel, by decide +kernel⟩
theorem ok_law : Body LL BB i_law := by
  intro P w K mg base c n f cdv A outer s H E hF hB hr hgd
  have hu : (A.deeper (PyProof.Rows.envOfC i_law.name (defScope i_law.st) s.heap.objs.size f cdv)).units + 101 < cLine := by have := hr.un; omega
  have hu1 : (A.deeper (PyProof.Rows.envOfC i_law.name (defScope i_law.st) s.heap.objs.size f cdv)).units + 1 < cLine := by have := hr.un; omega
  have ND : n_law.Nodup := sc_law.nd
  exact (sConsD (sSetD (i := 1) ND rfl (.inl rfl) (dCallM (hF 8 _ rfl) hr hgd rfl cx_takes (dCons (dVar (i := 0) rfl (.inl rfl) rfl rfl) dNil rfl) rfl rfl rfl rfl) rfl (.inr rfl))
  (sConsD (sSetD (i := 2) ND rfl (.inl rfl) (dCall (hF 10 _ rfl) hr hgd rfl cx_takes (dCons (dVar (i := 1) rfl (.inl rfl) rfl rfl) (dCons kInt dNil rfl) rfl) rfl rfl rfl rfl) rfl (.inr rfl))
  (sConsD (sSetD (i := 3) ND rfl (.inr rfl) (dSlice (dCall (hF 13 _ rfl) hr hgd rfl cx_takes (dCons (dVar (i := 1) rfl (.inl rfl) rfl rfl) (dCons (dVar (i := 2) rfl (.inl rfl) rfl rfl) (dCons kInt dNil rfl) rfl) rfl) rfl rfl rfl rfl) (dOSome (dCall (hF 9 _ rfl) hr hgd rfl cx_takes (dCons (dVar (i := 1) rfl (.inl rfl) rfl rfl) (dCons kInt dNil rfl) rfl) rfl rfl rfl rfl)) dONone) rfl (.inl rfl))
  (sConsD (sSetV (own := [("_law_rule", 11)]) (i := 4) (is := [11]) rfl rfl ND rfl rfl (sw_true rfl rfl rfl (by decide +kernel)) (iVald (dVar (i := 3) rfl (.inr (.inl rfl)) rfl rfl)) (blkOk_by (N := n_law) (sc := defScope s_law) (by decide +kernel)) (by decide) (fun _ _ _ _ _ => (gNmd (i := 11) ND rfl (.inl rfl) (.inr rfl))) (fun _ _ _ _ _ => dPtsNil) (fun _ _ _ _ _ => (dIx (ix_L hu) (dVar (i := 11) rfl (.inl rfl) rfl rfl) kInt (fun _ _ => rfl))) (fun _ => rfl))
  (sConsD (sSetD (i := 5) ND rfl (.inl rfl) (dCall (hF 14 _ rfl) hr hgd rfl cx_takes (dCons (dVar (i := 1) rfl (.inl rfl) rfl rfl) (dCons (dVar (i := 4) rfl (.inl rfl) rfl rfl) (dCons (dOp2 op_addL kInt (dCall (hF 9 _ rfl) hr hgd rfl cx_takes (dCons (dVar (i := 1) rfl (.inl rfl) rfl rfl) (dCons kInt dNil rfl) rfl) rfl rfl rfl rfl)) (dCons (dLst (dCons kStr (dCons kStr (dCons kStr dNil rfl) rfl) rfl) (by decide)) dNil rfl) rfl) rfl) rfl) rfl rfl rfl rfl) rfl (.inr rfl))
  (sConsD (sIfD (PW.pt (bOrD (bCmp ib_isn op_isnL (dCall (hF 5 _ rfl) hr hgd rfl cx_takes (dCons (dVar (i := 3) rfl (.inr (.inl rfl)) rfl rfl) (dCons (dVar (i := 5) rfl (.inl rfl) rfl rfl) dNil rfl) rfl) rfl rfl rfl rfl) kBl rfl) (bOr1 (bNotD (bVal (dCall (hF 21 _ rfl) hr hgd rfl cx_takes (dCons (dVar (i := 5) rfl (.inl rfl) rfl rfl) dNil rfl) rfl rfl rfl rfl) (fun _ => rfl)))))) (sOne (sRetD kBl)) sNil)
  (sConsD (sSetD (i := 6) ND rfl (.inl rfl) (dLst (dCons kNon (dCons (dTup dNil (by decide)) (dCons (dLst dNil (by decide)) (dCons kStr (dCons (dTup (dCons kStr dNil rfl) (by decide)) (dCons (dLst (dCons kStr dNil rfl) (by decide)) (dCons (dTup (dCons kStr (dCons (dTup (dCons kStr dNil rfl) (by decide)) dNil rfl) rfl) (by decide)) (dCons (dTup (dCons kStr dNil rfl) (by decide)) (dCons (dTup (dCons kStr (dCons kStr dNil rfl) rfl) (by decide)) (dCons (dTup (dCons kStr (dCons kStr dNil rfl) rfl) (by decide)) dNil rfl) rfl) rfl) rfl) rfl) rfl) rfl) rfl) rfl) rfl) (by decide)) rfl (.inr rfl))
  (sConsD (sSetD (i := 6) ND rfl (.inl rfl) (dOp2 op_addL (dVar (i := 6) rfl (.inl rfl) rfl rfl) (dLst (dCons (dTup (dCons kStr (dCons kStr dNil rfl) rfl) (by decide)) (dCons (dTup (dCons kStr (dCons (dTup (dCons kStr dNil rfl) (by decide)) dNil rfl) rfl) (by decide)) (dCons (dTup (dCons kStr (dCons (dLst (dCons kStr dNil rfl) (by decide)) dNil rfl) rfl) (by decide)) (dCons (dTup (dCons kStr (dCons (dTup (dCons kStr dNil rfl) (by decide)) dNil rfl) rfl) (by decide)) (dCons (dTup (dCons kStr (dCons kInt dNil rfl) rfl) (by decide)) (dCons (dTup (dCons kBl dNil rfl) (by decide)) dNil rfl) rfl) rfl) rfl) rfl) rfl) (by decide))) rfl (.inr rfl))
  (sConsD (sForD (is := [7]) cx_passes rfl (iVald (dTup (dCons kInt (dCons kInt (dCons kInt dNil rfl) rfl) rfl) (by decide))) (gNmd (i := 7) ND rfl (.inl rfl) (.inr rfl)) (sConsD (sSetD (i := 9) ND rfl (.inl rfl) (dTup (dCons kStr dNil rfl) (by decide)) rfl (.inr rfl))
  (sConsD (sForD (is := [8]) cx_passes rfl (iRange1d rfl (hB 13 _ rfl) (dVar (i := 7) rfl (.inl rfl) rfl rfl) rfl) (gNmd (i := 8) ND rfl (.inl rfl) (.inr rfl)) (sOne (sSetD (i := 9) ND rfl (.inl rfl) (dIx (ix_L hu) (dLst (dCons (dTup (dCons kStr (dCons (dVar (i := 9) rfl (.inl rfl) rfl rfl) dNil rfl) rfl) (by decide)) (dCons (dTup (dCons kStr (dCons (dVar (i := 9) rfl (.inl rfl) rfl rfl) dNil rfl) rfl) (by decide)) dNil rfl) rfl) (by decide)) (dOp2 op_modL (dVar (i := 8) rfl (.inl rfl) rfl rfl) kInt) (fun _ _ => rfl)) rfl (.inr rfl))) (fun _ => rfl))
  (sOne (sSetD (i := 6) ND rfl (.inl rfl) (dOp2 op_addL (dVar (i := 6) rfl (.inl rfl) rfl rfl) (dLst (dCons (dVar (i := 9) rfl (.inl rfl) rfl rfl) (dCons (dTup (dCons kStr (dCons (dVar (i := 9) rfl (.inl rfl) rfl rfl) (dCons (dTup (dCons kStr dNil rfl) (by decide)) dNil rfl) rfl) rfl) (by decide)) dNil rfl) rfl) (by decide))) rfl (.inr rfl))))) (fun _ => rfl))
  (sConsD (sForD (is := [8]) cx_passes rfl (iRange1d rfl (hB 13 _ rfl) kInt rfl) (gNmd (i := 8) ND rfl (.inl rfl) (.inr rfl)) (sConsD (sSetD (i := 10) ND rfl (.inl rfl) (dCall (hF 17 _ rfl) hr hgd rfl cx_takes (dCons (dVar (i := 1) rfl (.inl rfl) rfl rfl) (dCons (dVar (i := 5) rfl (.inl rfl) rfl rfl) (dCons (dLst (dCons (dTup (dCons kStr dNil rfl) (by decide)) (dCons kStr (dCons kStr (dCons (dTup (dCons kStr dNil rfl) (by decide)) (dCons kStr (dCons kStr (dCons (dVar (i := 5) rfl (.inl rfl) rfl rfl) dNil rfl) rfl) rfl) rfl) rfl) rfl) rfl) (by decide)) dNil rfl) rfl) rfl) rfl rfl rfl rfl) rfl (.inr rfl))
  (sOne (sSetD (i := 6) ND rfl (.inl rfl) (dOp2 op_addL (dVar (i := 6) rfl (.inl rfl) rfl rfl) (dLst (dCons (dVar (i := 10) rfl (.inl rfl) rfl rfl) (dCons (dCall (hF 17 _ rfl) hr hgd rfl cx_takes (dCons (dVar (i := 1) rfl (.inl rfl) rfl rfl) (dCons (dVar (i := 10) rfl (.inl rfl) rfl rfl) (dCons (dLst (dCons kStr (dCons (dTup (dCons kStr (dCons kStr dNil rfl) rfl) (by decide)) (dCons (dTup (dCons kStr (dCons kStr dNil rfl) rfl) (by decide)) dNil rfl) rfl) rfl) (by decide)) dNil rfl) rfl) rfl) rfl rfl rfl rfl) dNil rfl) rfl) (by decide))) rfl (.inr rfl)))) (fun _ => rfl))
  (sOne (sRetD (dCmp (op_ninL hu) kBl (dCompV (own := [("_law_thing", 12)]) (is := [12]) rfl rfl ND (iVald (dVar (i := 6) rfl (.inl rfl) rfl rfl)) (blkOk_by (N := n_law) (sc := defScope s_law) (by decide +kernel)) (by decide) (fun _ _ _ _ _ => (gNmd (i := 12) ND rfl (.inl rfl) (.inr rfl))) (fun _ _ _ _ _ => dPtsNil) (fun _ _ _ _ _ => (dCall (hF 20 _ rfl) hr hgd rfl takes0 (dCons (dVar (i := 3) rfl (.inr (.inl rfl)) rfl rfl) (dCons (dVar (i := 12) rfl (.inl rfl) rfl rfl) dNil rfl) rfl) rfl rfl rfl rfl)) (fun _ => rfl)) rfl)))))))))))))
end RP
end
section
set_option Elab.async false
set_option linter.all false
set_option maxRecDepth 100000
set_option maxHeartbeats 4000000
namespace RP
open PySem L2
def d_is_name : He.DefD := ⟨("is_name", none), "is_name", "is_name", defArgs s_is_name, defBody s_is_name, defScope s_is_name, [], []⟩
def d_many_inner : He.DefD := ⟨("many_inner", none), "many_inner", "many_inner", defArgs s_many_inner, defBody s_many_inner, defScope s_many_inner, [], []⟩
def d_inner_of : He.DefD := ⟨("inner_of", none), "inner_of", "inner_of", defArgs s_inner_of, defBody s_inner_of, defScope s_inner_of, [], []⟩
def d_is_plan_shape : He.DefD := ⟨("is_plan_shape", none), "is_plan_shape", "is_plan_shape", defArgs s_is_plan_shape, defBody s_is_plan_shape, defScope s_is_plan_shape, [], []⟩
def d_things_within : He.DefD := ⟨("things_within", none), "things_within", "things_within", defArgs s_things_within, defBody s_things_within, defScope s_things_within, [], []⟩
def d_is_plan : He.DefD := ⟨("is_plan", none), "is_plan", "is_plan", defArgs s_is_plan, defBody s_is_plan, defScope s_is_plan, [], []⟩
def d_parts_of : He.DefD := ⟨("parts_of", none), "parts_of", "parts_of", defArgs s_parts_of, defBody s_parts_of, defScope s_parts_of, [], []⟩
def d_open_names : He.DefD := ⟨("open_names", none), "open_names", "open_names", defArgs s_open_names, defBody s_open_names, defScope s_open_names, [], []⟩
def d__law_feed : He.DefD := ⟨("_law_feed", none), "_law_feed", "_law_feed", defArgs s__law_feed, defBody s__law_feed, defScope s__law_feed, [], []⟩
def d__law_draw : He.DefD := ⟨("_law_draw", none), "_law_draw", "_law_draw", defArgs s__law_draw, defBody s__law_draw, defScope s__law_draw, [], []⟩
def d__law_signs : He.DefD := ⟨("_law_signs", none), "_law_signs", "_law_signs", defArgs s__law_signs, defBody s__law_signs, defScope s__law_signs, [], []⟩
def d__law_left : He.DefD := ⟨("_law_left", none), "_law_left", "_law_left", defArgs s__law_left, defBody s__law_left, defScope s__law_left, [], []⟩
def d__law_right : He.DefD := ⟨("_law_right", none), "_law_right", "_law_right", defArgs s__law_right, defBody s__law_right, defScope s__law_right, [], []⟩
def d__law_rules : He.DefD := ⟨("_law_rules", none), "_law_rules", "_law_rules", defArgs s__law_rules, defBody s__law_rules, defScope s__law_rules, [], []⟩
def d__law_plan : He.DefD := ⟨("_law_plan", none), "_law_plan", "_law_plan", defArgs s__law_plan, defBody s__law_plan, defScope s__law_plan, [], []⟩
def d__law_inner : He.DefD := ⟨("_law_inner", none), "_law_inner", "_law_inner", defArgs s__law_inner, defBody s__law_inner, defScope s__law_inner, [], []⟩
def d__law_parts : He.DefD := ⟨("_law_parts", none), "_law_parts", "_law_parts", defArgs s__law_parts, defBody s__law_parts, defScope s__law_parts, [], []⟩
def d__law_bent : He.DefD := ⟨("_law_bent", none), "_law_bent", "_law_bent", defArgs s__law_bent, defBody s__law_bent, defScope s__law_bent, [], []⟩
def d__law_is_name : He.DefD := ⟨("_law_is_name", none), "_law_is_name", "_law_is_name", defArgs s__law_is_name, defBody s__law_is_name, defScope s__law_is_name, [], []⟩
def d__law_is_plan : He.DefD := ⟨("_law_is_plan", none), "_law_is_plan", "_law_is_plan", defArgs s__law_is_plan, defBody s__law_is_plan, defScope s__law_is_plan, [], []⟩
def d__law_plan_right : He.DefD := ⟨("_law_plan_right", none), "_law_plan_right", "_law_plan_right", defArgs s__law_plan_right, defBody s__law_plan_right, defScope s__law_plan_right, [], []⟩
def d__law_parts_right : He.DefD := ⟨("_law_parts_right", none), "_law_parts_right", "_law_parts_right", defArgs s__law_parts_right, defBody s__law_parts_right, defScope s__law_parts_right, [], []⟩
def d_law : He.DefD := ⟨("law", none), "law", "law", defArgs s_law, defBody s_law, defScope s_law, [], []⟩
def fnD : List He.DefD := [d_is_name, d_many_inner, d_inner_of, d_is_plan_shape, d_things_within, d_is_plan, d_parts_of, d_open_names, d__law_feed, d__law_draw, d__law_signs, d__law_left, d__law_right, d__law_rules, d__law_plan, d__law_inner, d__law_parts, d__law_bent, d__law_is_name, d__law_is_plan, d__law_plan_right, d__law_parts_right, d_law]
def faD : List He.Fa := [.glo "is_name", .glo "many_inner", .glo "inner_of", .glo "is_plan_shape", .glo "things_within", .glo "is_plan", .glo "parts_of", .glo "open_names", .glo "_law_feed", .glo "_law_draw", .glo "_law_signs", .glo "_law_left", .glo "_law_right", .glo "_law_rules", .glo "_law_plan", .glo "_law_inner", .glo "_law_parts", .glo "_law_bent", .glo "_law_is_name", .glo "_law_is_plan", .glo "_law_plan_right", .glo "_law_parts_right", .glo "law", .free "isinstance", .free "str", .free "len", .str "LETTERS" "abcdefghijklmnopqrstuvwxyz", .free "all", .glo "INNER", .glo "INNER_ALL", .free "tuple", .free "sum", .int "MOST_IN_PLAN" 14, .free "sorted", .free "set", .free "abs", .free "range", .free "min", .free "list", .free "bool"]
def exD (K : PySem.W.Frag) : Bool := He.valsB K (He.ga K "INNER") (([("stay", 0), ("never", 0), ("use", 0), ("any", 0), ("then", 2), ("else", 2), ("try", 1), ("not", 1), ("again", 1)] : Tbl).map fun p => (p.1, He.Dv.int p.2)) && (He.valsB K (He.ga K "INNER_ALL") (([("one", 1), ("all", 1), ("down", 1), ("up", 1), ("find", 1), ("dig", 1)] : Tbl).map fun p => (p.1, He.Dv.int p.2)) && (true))
def tsD : List He.Tab := [(fun K => He.ga K "INNER", ([("stay", 0), ("never", 0), ("use", 0), ("any", 0), ("then", 2), ("else", 2), ("try", 1), ("not", 1), ("again", 1)] : Tbl).map (·.1)), (fun K => He.ga K "INNER_ALL", ([("one", 1), ("all", 1), ("down", 1), ("up", 1), ("find", 1), ("dig", 1)] : Tbl).map (·.1))]
abbrev RR : PySem.W.OpenRow := PySem.W.OpenLaw.row PySem.Challenge.rw_ruleplans_k06_plans_and_their_parts
abbrev hkD : PySem.W.Hook := He.hookX 4 faD fnD tsD [] exD
def obD (s : PySem.W.SharedT) : He.AlX := He.obsX 4 faD fnD tsD [] exD (HandSHeadRun.getT s)
theorem obD_eq (s : PySem.W.SharedT) : obD s = hkD.obs s.abs := He.obsX_eq (HandSHeadRun.getT_eq s)
theorem runD (w : World) : HandSHeadRun.RunEq RR (PySem.W.view RR.prog [29]) hkD obD 2200 (["LETTERS", "is_name", "MOST_IN_PLAN", "INNER", "INNER_ALL", "many_inner", "inner_of", "is_plan_shape", "things_within", "is_plan", "parts_of", "open_names", "_law_feed", "_law_draw", "_law_signs", "_law_left", "_law_right", "_law_rules", "_law_plan", "_law_inner", "_law_parts", "_law_bent", "_law_is_name", "_law_is_plan", "_law_plan_right", "_law_parts_right"] : List Str) w :=
  PySem.W.byRow2 "special-get-raises" (P := fun w => HandSHeadRun.RunEq RR (PySem.W.view RR.prog [29]) hkD obD 2200 (["LETTERS", "is_name", "MOST_IN_PLAN", "INNER", "INNER_ALL", "many_inner", "inner_of", "is_plan_shape", "things_within", "is_plan", "parts_of", "open_names", "_law_feed", "_law_draw", "_law_signs", "_law_left", "_law_right", "_law_rules", "_law_plan", "_law_inner", "_law_parts", "_law_bent", "_law_is_name", "_law_is_plan", "_law_plan_right", "_law_parts_right"] : List Str) w) (fun w => by intro os; kernel_rfl) (fun w => by intro os; kernel_rfl) w
theorem bodies : All (Body LL BB) LL := all_cons ok_is_name (all_cons ok_many_inner (all_cons ok_inner_of (all_cons ok_is_plan_shape (all_cons ok_things_within (all_cons ok_is_plan (all_cons ok_parts_of (all_cons ok_open_names (all_cons ok__law_feed (all_cons ok__law_draw (all_cons ok__law_signs (all_cons ok__law_left (all_cons ok__law_right (all_cons ok__law_rules (all_cons ok__law_plan (all_cons ok__law_inner (all_cons ok__law_parts (all_cons ok__law_bent (all_cons ok__law_is_name (all_cons ok__law_is_plan (all_cons ok__law_plan_right (all_cons ok__law_parts_right (all_cons ok_law (all_nil)))))))))))))))))))))))
theorem scopes : All (fun i => FnScope i.N i.ps (defScope i.st)) LL := all_cons sc_is_name (all_cons sc_many_inner (all_cons sc_inner_of (all_cons sc_is_plan_shape (all_cons sc_things_within (all_cons sc_is_plan (all_cons sc_parts_of (all_cons sc_open_names (all_cons sc__law_feed (all_cons sc__law_draw (all_cons sc__law_signs (all_cons sc__law_left (all_cons sc__law_right (all_cons sc__law_rules (all_cons sc__law_plan (all_cons sc__law_inner (all_cons sc__law_parts (all_cons sc__law_bent (all_cons sc__law_is_name (all_cons sc__law_is_plan (all_cons sc__law_plan_right (all_cons sc__law_parts_right (all_cons sc_law (all_nil)))))))))))))))))))))))
theorem sizes : All (fun i => i.fn.np = i.ps.length ∧ i.fn.ns = i.N.length) LL := all_cons ⟨rfl, rfl⟩ (all_cons ⟨rfl, rfl⟩ (all_cons ⟨rfl, rfl⟩ (all_cons ⟨rfl, rfl⟩ (all_cons ⟨rfl, rfl⟩ (all_cons ⟨rfl, rfl⟩ (all_cons ⟨rfl, rfl⟩ (all_cons ⟨rfl, rfl⟩ (all_cons ⟨rfl, rfl⟩ (all_cons ⟨rfl, rfl⟩ (all_cons ⟨rfl, rfl⟩ (all_cons ⟨rfl, rfl⟩ (all_cons ⟨rfl, rfl⟩ (all_cons ⟨rfl, rfl⟩ (all_cons ⟨rfl, rfl⟩ (all_cons ⟨rfl, rfl⟩ (all_cons ⟨rfl, rfl⟩ (all_cons ⟨rfl, rfl⟩ (all_cons ⟨rfl, rfl⟩ (all_cons ⟨rfl, rfl⟩ (all_cons ⟨rfl, rfl⟩ (all_cons ⟨rfl, rfl⟩ (all_cons ⟨rfl, rfl⟩ (all_nil)))))))))))))))))))))))
theorem names : (LL.map (·.name)).Nodup := by
  show (["is_name", "many_inner", "inner_of", "is_plan_shape", "things_within", "is_plan", "parts_of", "open_names", "_law_feed", "_law_draw", "_law_signs", "_law_left", "_law_right", "_law_rules", "_law_plan", "_law_inner", "_law_parts", "_law_bent", "_law_is_name", "_law_is_plan", "_law_plan_right", "_law_parts_right", "law"] : List Str).Nodup
  decide +kernel
theorem walk {P : Program} {w : World} {K : PySem.W.Frag} {h : Heap} {mg : Str → Option Value} {f : Addr} (n : Nat) (X : K.In h) (G : h.Ns mainGlobals mg) (hfa : mg ("law" : Str) = some (.ref f)) (cx : He.SaysX faD fnD tsD [] exD w h K) :
    ∃ fd : FuncData, (∀ (s : Shared) (v : Value), BindsTo s fd ⟨[v], []⟩ [("_law_script", v)]) ∧ ∀ base : Heap, FnG P w K mg base (n + 1) f fd ["_law_script"] (spF K (run (tabOf LL) (n + 1)) "law" 1) := by
  have c : He.SaysD faD fnD K := cx.t.d
  have e0 : ∃ a fd, mg i_is_name.name = some (.ref a) ∧ FunI K i_is_name a fd ∧ Binds K fd i_is_name.ps [] := by
    obtain ⟨fd, F⟩ := c.def_ 0 (d := d_is_name) rfl
    exact ⟨_, fd, He.glo_ok X G (c.fact 0 (f := .glo "is_name") rfl), F, F.bindsN fun _ _ _ _ _ _ us hl => match us, hl with | [_], _ => rfl⟩
  have e1 : ∃ a fd, mg i_many_inner.name = some (.ref a) ∧ FunI K i_many_inner a fd ∧ Binds K fd i_many_inner.ps [] := by
    obtain ⟨fd, F⟩ := c.def_ 1 (d := d_many_inner) rfl
    exact ⟨_, fd, He.glo_ok X G (c.fact 1 (f := .glo "many_inner") rfl), F, F.bindsN fun _ _ _ _ _ _ us hl => match us, hl with | [_], _ => rfl⟩
  have e2 : ∃ a fd, mg i_inner_of.name = some (.ref a) ∧ FunI K i_inner_of a fd ∧ Binds K fd i_inner_of.ps [] := by
    obtain ⟨fd, F⟩ := c.def_ 2 (d := d_inner_of) rfl
    exact ⟨_, fd, He.glo_ok X G (c.fact 2 (f := .glo "inner_of") rfl), F, F.bindsN fun _ _ _ _ _ _ us hl => match us, hl with | [_], _ => rfl⟩
  have e3 : ∃ a fd, mg i_is_plan_shape.name = some (.ref a) ∧ FunI K i_is_plan_shape a fd ∧ Binds K fd i_is_plan_shape.ps [] := by
    obtain ⟨fd, F⟩ := c.def_ 3 (d := d_is_plan_shape) rfl
    exact ⟨_, fd, He.glo_ok X G (c.fact 3 (f := .glo "is_plan_shape") rfl), F, F.bindsN fun _ _ _ _ _ _ us hl => match us, hl with | [_, _], _ => rfl⟩
  have e4 : ∃ a fd, mg i_things_within.name = some (.ref a) ∧ FunI K i_things_within a fd ∧ Binds K fd i_things_within.ps [] := by
    obtain ⟨fd, F⟩ := c.def_ 4 (d := d_things_within) rfl
    exact ⟨_, fd, He.glo_ok X G (c.fact 4 (f := .glo "things_within") rfl), F, F.bindsN fun _ _ _ _ _ _ us hl => match us, hl with | [_], _ => rfl⟩
  have e5 : ∃ a fd, mg i_is_plan.name = some (.ref a) ∧ FunI K i_is_plan a fd ∧ Binds K fd i_is_plan.ps [] := by
    obtain ⟨fd, F⟩ := c.def_ 5 (d := d_is_plan) rfl
    exact ⟨_, fd, He.glo_ok X G (c.fact 5 (f := .glo "is_plan") rfl), F, F.bindsN fun _ _ _ _ _ _ us hl => match us, hl with | [_, _], _ => rfl⟩
  have e6 : ∃ a fd, mg i_parts_of.name = some (.ref a) ∧ FunI K i_parts_of a fd ∧ Binds K fd i_parts_of.ps [] := by
    obtain ⟨fd, F⟩ := c.def_ 6 (d := d_parts_of) rfl
    exact ⟨_, fd, He.glo_ok X G (c.fact 6 (f := .glo "parts_of") rfl), F, F.bindsN fun _ _ _ _ _ _ us hl => match us, hl with | [_], _ => rfl⟩
  have e7 : ∃ a fd, mg i_open_names.name = some (.ref a) ∧ FunI K i_open_names a fd ∧ Binds K fd i_open_names.ps [] := by
    obtain ⟨fd, F⟩ := c.def_ 7 (d := d_open_names) rfl
    exact ⟨_, fd, He.glo_ok X G (c.fact 7 (f := .glo "open_names") rfl), F, F.bindsN fun _ _ _ _ _ _ us hl => match us, hl with | [_], _ => rfl⟩
  have e8 : ∃ a fd, mg i__law_feed.name = some (.ref a) ∧ FunI K i__law_feed a fd ∧ Binds K fd i__law_feed.ps [] := by
    obtain ⟨fd, F⟩ := c.def_ 8 (d := d__law_feed) rfl
    exact ⟨_, fd, He.glo_ok X G (c.fact 8 (f := .glo "_law_feed") rfl), F, F.bindsN fun _ _ _ _ _ _ us hl => match us, hl with | [_], _ => rfl⟩
  have e9 : ∃ a fd, mg i__law_draw.name = some (.ref a) ∧ FunI K i__law_draw a fd ∧ Binds K fd i__law_draw.ps [] := by
    obtain ⟨fd, F⟩ := c.def_ 9 (d := d__law_draw) rfl
    exact ⟨_, fd, He.glo_ok X G (c.fact 9 (f := .glo "_law_draw") rfl), F, F.bindsN fun _ _ _ _ _ _ us hl => match us, hl with | [_, _], _ => rfl⟩
  have e10 : ∃ a fd, mg i__law_signs.name = some (.ref a) ∧ FunI K i__law_signs a fd ∧ Binds K fd i__law_signs.ps [] := by
    obtain ⟨fd, F⟩ := c.def_ 10 (d := d__law_signs) rfl
    exact ⟨_, fd, He.glo_ok X G (c.fact 10 (f := .glo "_law_signs") rfl), F, F.bindsN fun _ _ _ _ _ _ us hl => match us, hl with | [_, _], _ => rfl⟩
  have e11 : ∃ a fd, mg i__law_left.name = some (.ref a) ∧ FunI K i__law_left a fd ∧ Binds K fd i__law_left.ps [] := by
    obtain ⟨fd, F⟩ := c.def_ 11 (d := d__law_left) rfl
    exact ⟨_, fd, He.glo_ok X G (c.fact 11 (f := .glo "_law_left") rfl), F, F.bindsN fun _ _ _ _ _ _ us hl => match us, hl with | [_, _, _, _], _ => rfl⟩
  have e12 : ∃ a fd, mg i__law_right.name = some (.ref a) ∧ FunI K i__law_right a fd ∧ Binds K fd i__law_right.ps [] := by
    obtain ⟨fd, F⟩ := c.def_ 12 (d := d__law_right) rfl
    exact ⟨_, fd, He.glo_ok X G (c.fact 12 (f := .glo "_law_right") rfl), F, F.bindsN fun _ _ _ _ _ _ us hl => match us, hl with | [_, _, _, _], _ => rfl⟩
  have e13 : ∃ a fd, mg i__law_rules.name = some (.ref a) ∧ FunI K i__law_rules a fd ∧ Binds K fd i__law_rules.ps [] := by
    obtain ⟨fd, F⟩ := c.def_ 13 (d := d__law_rules) rfl
    exact ⟨_, fd, He.glo_ok X G (c.fact 13 (f := .glo "_law_rules") rfl), F, F.bindsN fun _ _ _ _ _ _ us hl => match us, hl with | [_, _, _], _ => rfl⟩
  have e14 : ∃ a fd, mg i__law_plan.name = some (.ref a) ∧ FunI K i__law_plan a fd ∧ Binds K fd i__law_plan.ps [] := by
    obtain ⟨fd, F⟩ := c.def_ 14 (d := d__law_plan) rfl
    exact ⟨_, fd, He.glo_ok X G (c.fact 14 (f := .glo "_law_plan") rfl), F, F.bindsN fun _ _ _ _ _ _ us hl => match us, hl with | [_, _, _, _], _ => rfl⟩
  have e15 : ∃ a fd, mg i__law_inner.name = some (.ref a) ∧ FunI K i__law_inner a fd ∧ Binds K fd i__law_inner.ps [] := by
    obtain ⟨fd, F⟩ := c.def_ 15 (d := d__law_inner) rfl
    exact ⟨_, fd, He.glo_ok X G (c.fact 15 (f := .glo "_law_inner") rfl), F, F.bindsN fun _ _ _ _ _ _ us hl => match us, hl with | [_], _ => rfl⟩
  have e16 : ∃ a fd, mg i__law_parts.name = some (.ref a) ∧ FunI K i__law_parts a fd ∧ Binds K fd i__law_parts.ps [] := by
    obtain ⟨fd, F⟩ := c.def_ 16 (d := d__law_parts) rfl
    exact ⟨_, fd, He.glo_ok X G (c.fact 16 (f := .glo "_law_parts") rfl), F, F.bindsN fun _ _ _ _ _ _ us hl => match us, hl with | [_], _ => rfl⟩
  have e17 : ∃ a fd, mg i__law_bent.name = some (.ref a) ∧ FunI K i__law_bent a fd ∧ Binds K fd i__law_bent.ps [] := by
    obtain ⟨fd, F⟩ := c.def_ 17 (d := d__law_bent) rfl
    exact ⟨_, fd, He.glo_ok X G (c.fact 17 (f := .glo "_law_bent") rfl), F, F.bindsN fun _ _ _ _ _ _ us hl => match us, hl with | [_, _, _], _ => rfl⟩
  have e18 : ∃ a fd, mg i__law_is_name.name = some (.ref a) ∧ FunI K i__law_is_name a fd ∧ Binds K fd i__law_is_name.ps [] := by
    obtain ⟨fd, F⟩ := c.def_ 18 (d := d__law_is_name) rfl
    exact ⟨_, fd, He.glo_ok X G (c.fact 18 (f := .glo "_law_is_name") rfl), F, F.bindsN fun _ _ _ _ _ _ us hl => match us, hl with | [_], _ => rfl⟩
  have e19 : ∃ a fd, mg i__law_is_plan.name = some (.ref a) ∧ FunI K i__law_is_plan a fd ∧ Binds K fd i__law_is_plan.ps [] := by
    obtain ⟨fd, F⟩ := c.def_ 19 (d := d__law_is_plan) rfl
    exact ⟨_, fd, He.glo_ok X G (c.fact 19 (f := .glo "_law_is_plan") rfl), F, F.bindsN fun _ _ _ _ _ _ us hl => match us, hl with | [_, _, _], _ => rfl⟩
  have e20 : ∃ a fd, mg i__law_plan_right.name = some (.ref a) ∧ FunI K i__law_plan_right a fd ∧ Binds K fd i__law_plan_right.ps [] := by
    obtain ⟨fd, F⟩ := c.def_ 20 (d := d__law_plan_right) rfl
    exact ⟨_, fd, He.glo_ok X G (c.fact 20 (f := .glo "_law_plan_right") rfl), F, F.bindsN fun _ _ _ _ _ _ us hl => match us, hl with | [_, _], _ => rfl⟩
  have e21 : ∃ a fd, mg i__law_parts_right.name = some (.ref a) ∧ FunI K i__law_parts_right a fd ∧ Binds K fd i__law_parts_right.ps [] := by
    obtain ⟨fd, F⟩ := c.def_ 21 (d := d__law_parts_right) rfl
    exact ⟨_, fd, He.glo_ok X G (c.fact 21 (f := .glo "_law_parts_right") rfl), F, F.bindsN fun _ _ _ _ _ _ us hl => match us, hl with | [_], _ => rfl⟩
  have e22 : ∃ a fd, mg i_law.name = some (.ref a) ∧ FunI K i_law a fd ∧ Binds K fd i_law.ps [] := by
    obtain ⟨fd, F⟩ := c.def_ 22 (d := d_law) rfl
    exact ⟨_, fd, He.glo_ok X G (c.fact 22 (f := .glo "law") rfl), F, F.bindsN fun _ _ _ _ _ _ us hl => match us, hl with | [_], _ => rfl⟩
  obtain ⟨fd, F⟩ := c.def_ 22 (d := d_law) rfl
  have e := hfa.symm.trans (He.glo_ok X G (c.fact 22 (f := .glo "law") rfl))
  cases e
  have b := FunD.bindsA (ps := ["_law_script"]) F fun _ _ _ _ _ _ us hl => match us, hl with | [_], _ => rfl
  exact ⟨fd, fun s v => b s [v] rfl, fun base => law_of (L := LL) (bs := BB) (j := i_law) n names sizes scopes bodies (all_cons e0 (all_cons e1 (all_cons e2 (all_cons e3 (all_cons e4 (all_cons e5 (all_cons e6 (all_cons e7 (all_cons e8 (all_cons e9 (all_cons e10 (all_cons e11 (all_cons e12 (all_cons e13 (all_cons e14 (all_cons e15 (all_cons e16 (all_cons e17 (all_cons e18 (all_cons e19 (all_cons e20 (all_cons e21 (all_cons e22 (all_nil)))))))))))))))))))))))) (all_cons (He.free_ok X G (c.fact 23 (f := .free "isinstance") rfl)) (all_cons (He.free_ok X G (c.fact 24 (f := .free "str") rfl)) (all_cons (He.free_ok X G (c.fact 25 (f := .free "len") rfl)) (all_cons (cF_str X G (c.fact 26 (f := .str "LETTERS" "abcdefghijklmnopqrstuvwxyz") rfl)) (all_cons (He.free_ok X G (c.fact 27 (f := .free "all") rfl)) (all_cons (kF_of X G (c.fact 28 (f := .glo "INNER") rfl) (t := [("stay", 0), ("never", 0), ("use", 0), ("any", 0), ("then", 2), ("else", 2), ("try", 1), ("not", 1), ("again", 1)]) (tabW cx.t 0 rfl) (He.ba cx.more).1) (all_cons (kF_of X G (c.fact 29 (f := .glo "INNER_ALL") rfl) (t := [("one", 1), ("all", 1), ("down", 1), ("up", 1), ("find", 1), ("dig", 1)]) (tabW cx.t 1 rfl) (He.ba (He.ba cx.more).2).1) (all_cons (He.free_ok X G (c.fact 30 (f := .free "tuple") rfl)) (all_cons (He.free_ok X G (c.fact 31 (f := .free "sum") rfl)) (all_cons (cF_int X G (c.fact 32 (f := .int "MOST_IN_PLAN" 14) rfl)) (all_cons (He.free_ok X G (c.fact 33 (f := .free "sorted") rfl)) (all_cons (He.free_ok X G (c.fact 34 (f := .free "set") rfl)) (all_cons (He.free_ok X G (c.fact 35 (f := .free "abs") rfl)) (all_cons (He.free_ok X G (c.fact 36 (f := .free "range") rfl)) (all_cons (He.free_ok X G (c.fact 37 (f := .free "min") rfl)) (all_cons (He.free_ok X G (c.fact 38 (f := .free "list") rfl)) (all_cons (He.free_ok X G (c.fact 39 (f := .free "bool") rfl)) (all_nil)))))))))))))))))) 22 rfl rfl F base⟩
noncomputable abbrev CC (n : Nat) : Call := run (tabOf LL) n
theorem r_is_name (n : Nat) (ds : List D) (st : St) : CC (n + 1) "is_name" ds st = runFn (CC n) ⟨1, 2, b_is_name⟩ ds st := run_at names (k := 0) (i := i_is_name) rfl n ds st
theorem r_many_inner (n : Nat) (ds : List D) (st : St) : CC (n + 1) "many_inner" ds st = runFn (CC n) ⟨1, 1, b_many_inner⟩ ds st := run_at names (k := 1) (i := i_many_inner) rfl n ds st
theorem r_inner_of (n : Nat) (ds : List D) (st : St) : CC (n + 1) "inner_of" ds st = runFn (CC n) ⟨1, 1, b_inner_of⟩ ds st := run_at names (k := 2) (i := i_inner_of) rfl n ds st
theorem r_is_plan_shape (n : Nat) (ds : List D) (st : St) : CC (n + 1) "is_plan_shape" ds st = runFn (CC n) ⟨2, 4, b_is_plan_shape⟩ ds st := run_at names (k := 3) (i := i_is_plan_shape) rfl n ds st
theorem r_things_within (n : Nat) (ds : List D) (st : St) : CC (n + 1) "things_within" ds st = runFn (CC n) ⟨1, 2, b_things_within⟩ ds st := run_at names (k := 4) (i := i_things_within) rfl n ds st
theorem r_is_plan (n : Nat) (ds : List D) (st : St) : CC (n + 1) "is_plan" ds st = runFn (CC n) ⟨2, 2, b_is_plan⟩ ds st := run_at names (k := 5) (i := i_is_plan) rfl n ds st
theorem r_parts_of (n : Nat) (ds : List D) (st : St) : CC (n + 1) "parts_of" ds st = runFn (CC n) ⟨1, 4, b_parts_of⟩ ds st := run_at names (k := 6) (i := i_parts_of) rfl n ds st
theorem r_open_names (n : Nat) (ds : List D) (st : St) : CC (n + 1) "open_names" ds st = runFn (CC n) ⟨1, 2, b_open_names⟩ ds st := run_at names (k := 7) (i := i_open_names) rfl n ds st
theorem r__law_feed (n : Nat) (ds : List D) (st : St) : CC (n + 1) "_law_feed" ds st = runFn (CC n) ⟨1, 1, b__law_feed⟩ ds st := run_at names (k := 8) (i := i__law_feed) rfl n ds st
theorem r__law_draw (n : Nat) (ds : List D) (st : St) : CC (n + 1) "_law_draw" ds st = runFn (CC n) ⟨2, 6, b__law_draw⟩ ds st := run_at names (k := 9) (i := i__law_draw) rfl n ds st
theorem r__law_signs (n : Nat) (ds : List D) (st : St) : CC (n + 1) "_law_signs" ds st = runFn (CC n) ⟨2, 9, b__law_signs⟩ ds st := run_at names (k := 10) (i := i__law_signs) rfl n ds st
theorem r__law_left (n : Nat) (ds : List D) (st : St) : CC (n + 1) "_law_left" ds st = runFn (CC n) ⟨4, 10, b__law_left⟩ ds st := run_at names (k := 11) (i := i__law_left) rfl n ds st
theorem r__law_right (n : Nat) (ds : List D) (st : St) : CC (n + 1) "_law_right" ds st = runFn (CC n) ⟨4, 9, b__law_right⟩ ds st := run_at names (k := 12) (i := i__law_right) rfl n ds st
theorem r__law_rules (n : Nat) (ds : List D) (st : St) : CC (n + 1) "_law_rules" ds st = runFn (CC n) ⟨3, 10, b__law_rules⟩ ds st := run_at names (k := 13) (i := i__law_rules) rfl n ds st
theorem r__law_plan (n : Nat) (ds : List D) (st : St) : CC (n + 1) "_law_plan" ds st = runFn (CC n) ⟨4, 8, b__law_plan⟩ ds st := run_at names (k := 14) (i := i__law_plan) rfl n ds st
theorem r__law_inner (n : Nat) (ds : List D) (st : St) : CC (n + 1) "_law_inner" ds st = runFn (CC n) ⟨1, 2, b__law_inner⟩ ds st := run_at names (k := 15) (i := i__law_inner) rfl n ds st
theorem r__law_parts (n : Nat) (ds : List D) (st : St) : CC (n + 1) "_law_parts" ds st = runFn (CC n) ⟨1, 4, b__law_parts⟩ ds st := run_at names (k := 16) (i := i__law_parts) rfl n ds st
theorem r__law_bent (n : Nat) (ds : List D) (st : St) : CC (n + 1) "_law_bent" ds st = runFn (CC n) ⟨3, 5, b__law_bent⟩ ds st := run_at names (k := 17) (i := i__law_bent) rfl n ds st
theorem r__law_is_name (n : Nat) (ds : List D) (st : St) : CC (n + 1) "_law_is_name" ds st = runFn (CC n) ⟨1, 2, b__law_is_name⟩ ds st := run_at names (k := 18) (i := i__law_is_name) rfl n ds st
theorem r__law_is_plan (n : Nat) (ds : List D) (st : St) : CC (n + 1) "_law_is_plan" ds st = runFn (CC n) ⟨3, 6, b__law_is_plan⟩ ds st := run_at names (k := 19) (i := i__law_is_plan) rfl n ds st
theorem r__law_plan_right (n : Nat) (ds : List D) (st : St) : CC (n + 1) "_law_plan_right" ds st = runFn (CC n) ⟨2, 5, b__law_plan_right⟩ ds st := run_at names (k := 20) (i := i__law_plan_right) rfl n ds st
theorem r__law_parts_right (n : Nat) (ds : List D) (st : St) : CC (n + 1) "_law_parts_right" ds st = runFn (CC n) ⟨1, 6, b__law_parts_right⟩ ds st := run_at names (k := 21) (i := i__law_parts_right) rfl n ds st
theorem r_law (n : Nat) (ds : List D) (st : St) : CC (n + 1) "law" ds st = runFn (CC n) ⟨1, 13, b_law⟩ ds st := run_at names (k := 22) (i := i_law) rfl n ds st
end RP
open PySem PySem.W PySem.Calls PyProof.Rows
theorem holds_of (n : Nat) (hn : L2.Room (n + 1) callerA) (hl : ∀ ns : List Int, ns.length ≤ 63 → ∃ st, RP.run (RP.tabOf RP.LL) (n + 1) "law" [.frz ns] [] = .ok (.bl true) st) : PySem.Challenge.rw_ruleplans_k06_plans_and_their_parts.Holds := by
  w_on; o_law
  refine HandSHeadRun.head_any (r := OpenLaw.row PySem.Challenge.rw_ruleplans_k06_plans_and_their_parts) (q := view (OpenLaw.row PySem.Challenge.rw_ruleplans_k06_plans_and_their_parts).prog [29]) (H := RP.hkD) (ob := RP.obD) (M := 2200) (loose := (["LETTERS", "is_name", "MOST_IN_PLAN", "INNER", "INNER_ALL", "many_inner", "inner_of", "is_plan_shape", "things_within", "is_plan", "parts_of", "open_names", "_law_feed", "_law_draw", "_law_signs", "_law_left", "_law_right", "_law_rules", "_law_plan", "_law_inner", "_law_parts", "_law_bent", "_law_is_name", "_law_is_plan", "_law_plan_right", "_law_parts_right"] : List Str)) (d := HandSHeadRun.topDef (OpenLaw.row PySem.Challenge.rw_ruleplans_k06_plans_and_their_parts).prog 29) (kwd := []) RP.obD_eq
    (by kernel_rfl) (fun s => by kernel_rfl) RP.runD (by kernel_rfl) (by kernel_rfl) (by kernel_rfl) (by rfl) (by first | assumption | decide +kernel) (by decide +kernel) ⟨rfl, rfl, rfl, rfl, rfl, by decide +kernel⟩ ?hw ?hc
  case hw => w_witness2
  case hc =>
    refine RP.walk_ofG (l := PySem.Challenge.rw_ruleplans_k06_plans_and_their_parts) (n := 63) (k := n + 1) (x := "_law_script") rfl (by decide) (by kernel_rfl) hn ?F
    intro w mg fa h Y G hmg0
    obtain ⟨K, KX, c⟩ := Y
    have hmg : mg ("law" : PySem.Str) = some (.ref fa) := by
      have e : (HandSHeadRun.topDef (OpenLaw.row PySem.Challenge.rw_ruleplans_k06_plans_and_their_parts).prog 29).name = ("law" : PySem.Str) := by kernel_rfl
      rw [← e]
      exact hmg0
    obtain ⟨fd, hb, hF⟩ := RP.walk (P := (PySem.Challenge.rw_ruleplans_k06_plans_and_their_parts).prog) (w := w) n KX G hmg c
    exact ⟨K, fd, RP.spF K (RP.run (RP.tabOf RP.LL) (n + 1)) "law" 1, KX, hb, fun H a ns hl1 hO hS => RP.sp_start hO hS (hl ns hl1), hF⟩
end
section
set_option Elab.async false
set_option linter.all false
set_option maxRecDepth 100000
set_option maxHeartbeats 4000000
namespace RP
open PySem
/-- the feed -/
def FC (c : Cell) : Prop := ∃ (ns : List Int) (a b k : Int), c = .lst [.frz ns, .int a, .int b, .int k] ∧ 0 ≤ a
theorem fcB (c : Cell) (m : Nat) (h : FC c) : belC m c = true := by
  obtain ⟨ns, a, b, k, rfl, _⟩ := h
  simp [belC, bels, bel]
abbrev Go (n : Nat) (st st' : St) : Prop := Fr FC n st [] st'
theorem draw_ok {n j : Nat} {st : St} {m : Int} (h : Fd FC n st) (hm : 0 < m) (hm2 : m < 1000) : Ok (CC (j + 1) "_law_draw" [.ref n, .int m] st) fun d st' => ∃ r : Int, d = .int r ∧ 0 ≤ r ∧ r < m ∧ Go n st st' := by
  obtain ⟨_, h, ns, a, b, k, rfl, ha⟩ := h
  have hl : n < st.length := (List.getElem?_eq_some_iff.mp h).1
  rw [r__law_draw]
  refine ok_fn rfl ?_
  unfold b__law_draw
  have hm3 : m < 18446744073709551616 := by omega
  have habs : ∀ (st : St) (i : Int), absD st (.int i) = some (.int (if i < 0 then -i else i)) := fun _ _ => rfl
  have fin : ∀ (x a' b' : Int), 0 ≤ a' → Ok (gc st (.int (x % m)) (st.set n (.lst [.frz ns, .int a', .int b', .int (k + 1)]))) fun d st' => ∃ r : Int, d = .int r ∧ 0 ≤ r ∧ r < m ∧ Go n st st' := fun x a' b' ha' => by
    rw [gc_same (by simp)]
    exact ⟨_, rfl, Int.emod_nonneg _ (by omega), Int.emod_lt_of_pos _ hm, _, ⟨_, _, _, _, rfl, ha'⟩, (List.append_nil _).symm⟩
  refine seq_mid (fun e s => e = [some (.ref n), some (.int m), some (.frz ns), none, none, none] ∧ s = st) ?_ ?_
  · simp only [ok_ok, ok_no, ok_bind, ok_of_some, ok_var, ok_cst, ok_nil, ok_cons, ok_tup, ok_lst, ok_lstM, ok_op2, ok_op1, ok_blt, ok_listM, ok_chain, ok_and, ok_or, ok_not, ok_tval, ok_band, ok_bor, ok_bnot, ok_yes, ok_mif, ok_callM, ok_call, ok_lm, ok_optN, ok_optS, ok_slice, ok_ival, ok_range1, ok_range2, ok_zip, ok_sm, ok_addM, ok_get1, ok_get2, ok_comp, ok_compM, s_skip, s_seq, s_expr, s_asg, s_put, s_ret, s_retN, s_brk, s_cnt, s_if, s_for, s_while, List.map_cons, List.map_nil, List.cons_append, List.nil_append, List.replicate, List.getElem?_cons_zero, List.getElem?_cons_succ, List.set_cons_zero, List.set_cons_succ, Option.some.injEq, exists_eq_left', exists_eq_left, Nat.reduceSub, Nat.reduceAdd, Nat.reduceMul, wipeE, gNm, gNms, gTp, D.int.injEq, true_and, and_true, List.length_cons, List.length_nil, Option.bind_some, idx_ref, ixC_lst, idx_lst, idx_tup, idx_frz, at0, at1, at2, at3, add_int, sub_int, mod_int, fdiv_int, pow18, lt_int, le_int, gt_int, ge_int, tru_bl, tru_int, eq_int, ne_int, eq_str, ne_str, eq_bl, ne_bl, put_ref, putC_lst, ix0, ix1, ix2, ix3, len_lst, len_tup, len_frz, len_ref, lenC_lst, un1_one, tuple_lst, tuple_tup, list_lst, list_tup, slice_tup, slice_lst, it_tup, it_lst, cut_from1, Option.map_some, List.set_set, Nat.reduceLT, Int.reduceLT, if_true, Int.toNat_natCast, mul_mod, mulL, mulR, Int.reduceNeg, h, and_self]
  rintro _ s ⟨rfl, e⟩
  subst s
  refine seq_mid (fun e s => e = [some (.ref n), some (.int m), some (.frz ns), none, none, none] ∧ s = st.set n (.lst [.frz ns, .int a, .int b, .int (k + 1)])) ?_ ?_
  · simp only [ok_ok, ok_no, ok_bind, ok_of_some, ok_var, ok_cst, ok_nil, ok_cons, ok_tup, ok_lst, ok_lstM, ok_op2, ok_op1, ok_blt, ok_listM, ok_chain, ok_and, ok_or, ok_not, ok_tval, ok_band, ok_bor, ok_bnot, ok_yes, ok_mif, ok_callM, ok_call, ok_lm, ok_optN, ok_optS, ok_slice, ok_ival, ok_range1, ok_range2, ok_zip, ok_sm, ok_addM, ok_get1, ok_get2, ok_comp, ok_compM, s_skip, s_seq, s_expr, s_asg, s_put, s_ret, s_retN, s_brk, s_cnt, s_if, s_for, s_while, List.map_cons, List.map_nil, List.cons_append, List.nil_append, List.replicate, List.getElem?_cons_zero, List.getElem?_cons_succ, List.set_cons_zero, List.set_cons_succ, Option.some.injEq, exists_eq_left', exists_eq_left, Nat.reduceSub, Nat.reduceAdd, Nat.reduceMul, wipeE, gNm, gNms, gTp, D.int.injEq, true_and, and_true, List.length_cons, List.length_nil, Option.bind_some, idx_ref, ixC_lst, idx_lst, idx_tup, idx_frz, at0, at1, at2, at3, add_int, sub_int, mod_int, fdiv_int, pow18, lt_int, le_int, gt_int, ge_int, tru_bl, tru_int, eq_int, ne_int, eq_str, ne_str, eq_bl, ne_bl, put_ref, putC_lst, ix0, ix1, ix2, ix3, len_lst, len_tup, len_frz, len_ref, lenC_lst, un1_one, tuple_lst, tuple_tup, list_lst, list_tup, slice_tup, slice_lst, it_tup, it_lst, cut_from1, Option.map_some, List.set_set, Nat.reduceLT, Int.reduceLT, if_true, Int.toNat_natCast, mul_mod, mulL, mulR, Int.reduceNeg, h, and_self]
  rintro _ _ ⟨rfl, rfl⟩
  refine seq_mid (fun e s => e = [some (.ref n), some (.int m), some (.frz ns), none, none, none] ∧ ∃ a' b' : Int, 0 ≤ a' ∧ s = st.set n (.lst [.frz ns, .int a', .int b', .int (k + 1)])) ?_ ?_
  · simp only [ok_ok, ok_no, ok_bind, ok_of_some, ok_var, ok_cst, ok_nil, ok_cons, ok_tup, ok_lst, ok_lstM, ok_op2, ok_op1, ok_blt, ok_listM, ok_chain, ok_and, ok_or, ok_not, ok_tval, ok_band, ok_bor, ok_bnot, ok_yes, ok_mif, ok_callM, ok_call, ok_lm, ok_optN, ok_optS, ok_slice, ok_ival, ok_range1, ok_range2, ok_zip, ok_sm, ok_addM, ok_get1, ok_get2, ok_comp, ok_compM, s_skip, s_seq, s_expr, s_asg, s_put, s_ret, s_retN, s_brk, s_cnt, s_if, s_for, s_while, List.map_cons, List.map_nil, List.cons_append, List.nil_append, List.replicate, List.getElem?_cons_zero, List.getElem?_cons_succ, List.set_cons_zero, List.set_cons_succ, Option.some.injEq, exists_eq_left', exists_eq_left, Nat.reduceSub, Nat.reduceAdd, Nat.reduceMul, wipeE, gNm, gNms, gTp, D.int.injEq, true_and, and_true, List.length_cons, List.length_nil, Option.bind_some, idx_ref, ixC_lst, idx_lst, idx_tup, idx_frz, at0, at1, at2, at3, add_int, sub_int, mod_int, fdiv_int, pow18, lt_int, le_int, gt_int, ge_int, tru_bl, tru_int, eq_int, ne_int, eq_str, ne_str, eq_bl, ne_bl, put_ref, putC_lst, ix0, ix1, ix2, ix3, len_lst, len_tup, len_frz, len_ref, lenC_lst, un1_one, tuple_lst, tuple_tup, list_lst, list_tup, slice_tup, slice_lst, it_tup, it_lst, cut_from1, Option.map_some, List.set_set, Nat.reduceLT, Int.reduceLT, if_true, Int.toNat_natCast, mul_mod, mulL, mulR, Int.reduceNeg, h, hl, List.getElem?_set_self, List.length_set]
    by_cases hb : b = 0
    · rw [if_pos (by simpa using hb)]
      by_cases hal : a < ns.length
      · rw [if_pos (by simpa using hal)]
        obtain ⟨x, _, _, hx⟩ := at_get (xs := ns) ha hal
        simp only [hx, habs, List.map_cons, List.map_nil, List.cons_append, List.nil_append, List.replicate, List.getElem?_cons_zero, List.getElem?_cons_succ, List.set_cons_zero, List.set_cons_succ, Option.some.injEq, exists_eq_left', exists_eq_left, Nat.reduceSub, Nat.reduceAdd, Nat.reduceMul, wipeE, gNm, gNms, gTp, D.int.injEq, true_and, and_true, List.length_cons, List.length_nil, Option.bind_some, idx_ref, ixC_lst, idx_lst, idx_tup, idx_frz, at0, at1, at2, at3, add_int, sub_int, mod_int, fdiv_int, pow18, lt_int, le_int, gt_int, ge_int, tru_bl, tru_int, eq_int, ne_int, eq_str, ne_str, eq_bl, ne_bl, put_ref, putC_lst, ix0, ix1, ix2, ix3, len_lst, len_tup, len_frz, len_ref, lenC_lst, un1_one, tuple_lst, tuple_tup, list_lst, list_tup, slice_tup, slice_lst, it_tup, it_lst, cut_from1, Option.map_some, List.set_set, Nat.reduceLT, Int.reduceLT, if_true, Int.toNat_natCast, mul_mod, mulL, mulR, Int.reduceNeg, hl, List.getElem?_set_self, List.length_set]
        exact ⟨_, _, by omega, rfl⟩
      · rw [if_neg (by simpa using hal)]
        exact ⟨_, _, ha, rfl⟩
    · rw [if_neg (by simpa using hb)]
      exact ⟨_, _, ha, rfl⟩
  rintro _ _ ⟨rfl, a', b', ha', rfl⟩
  refine seq_mid (fun e s => e = [some (.ref n), some (.int m), some (.frz ns), none, none, none] ∧ s = st.set n (.lst [.frz ns, .int a', .int b', .int (k + 1)])) ?_ ?_
  · simp only [ok_ok, ok_no, ok_bind, ok_of_some, ok_var, ok_cst, ok_nil, ok_cons, ok_tup, ok_lst, ok_lstM, ok_op2, ok_op1, ok_blt, ok_listM, ok_chain, ok_and, ok_or, ok_not, ok_tval, ok_band, ok_bor, ok_bnot, ok_yes, ok_mif, ok_callM, ok_call, ok_lm, ok_optN, ok_optS, ok_slice, ok_ival, ok_range1, ok_range2, ok_zip, ok_sm, ok_addM, ok_get1, ok_get2, ok_comp, ok_compM, s_skip, s_seq, s_expr, s_asg, s_put, s_ret, s_retN, s_brk, s_cnt, s_if, s_for, s_while, List.map_cons, List.map_nil, List.cons_append, List.nil_append, List.replicate, List.getElem?_cons_zero, List.getElem?_cons_succ, List.set_cons_zero, List.set_cons_succ, Option.some.injEq, exists_eq_left', exists_eq_left, Nat.reduceSub, Nat.reduceAdd, Nat.reduceMul, wipeE, gNm, gNms, gTp, D.int.injEq, true_and, and_true, List.length_cons, List.length_nil, Option.bind_some, idx_ref, ixC_lst, idx_lst, idx_tup, idx_frz, at0, at1, at2, at3, add_int, sub_int, mod_int, fdiv_int, pow18, lt_int, le_int, gt_int, ge_int, tru_bl, tru_int, eq_int, ne_int, eq_str, ne_str, eq_bl, ne_bl, put_ref, putC_lst, ix0, ix1, ix2, ix3, len_lst, len_tup, len_frz, len_ref, lenC_lst, un1_one, tuple_lst, tuple_tup, list_lst, list_tup, slice_tup, slice_lst, it_tup, it_lst, cut_from1, Option.map_some, List.set_set, Nat.reduceLT, Int.reduceLT, if_true, Int.toNat_natCast, mul_mod, mulL, mulR, Int.reduceNeg, h, hl, hm, hm3, List.getElem?_set_self, List.length_set]
    by_cases hb : 0 < b'
    · rw [if_pos (by simpa using hb)]
      exact fin _ _ _ ha'
    · rw [if_neg (by simpa using hb)]
      first | exact ⟨rfl, rfl⟩ | trivial
  rintro _ _ ⟨rfl, rfl⟩
  refine seq_mid (fun e s => e = [some (.ref n), some (.int m), some (.frz ns), some (.int 0), none, none] ∧ s = st.set n (.lst [.frz ns, .int a', .int b', .int (k + 1)])) ?_ ?_
  · simp only [ok_ok, ok_no, ok_bind, ok_of_some, ok_var, ok_cst, ok_nil, ok_cons, ok_tup, ok_lst, ok_lstM, ok_op2, ok_op1, ok_blt, ok_listM, ok_chain, ok_and, ok_or, ok_not, ok_tval, ok_band, ok_bor, ok_bnot, ok_yes, ok_mif, ok_callM, ok_call, ok_lm, ok_optN, ok_optS, ok_slice, ok_ival, ok_range1, ok_range2, ok_zip, ok_sm, ok_addM, ok_get1, ok_get2, ok_comp, ok_compM, s_skip, s_seq, s_expr, s_asg, s_put, s_ret, s_retN, s_brk, s_cnt, s_if, s_for, s_while, List.map_cons, List.map_nil, List.cons_append, List.nil_append, List.replicate, List.getElem?_cons_zero, List.getElem?_cons_succ, List.set_cons_zero, List.set_cons_succ, Option.some.injEq, exists_eq_left', exists_eq_left, Nat.reduceSub, Nat.reduceAdd, Nat.reduceMul, wipeE, gNm, gNms, gTp, D.int.injEq, true_and, and_true, List.length_cons, List.length_nil, Option.bind_some, idx_ref, ixC_lst, idx_lst, idx_tup, idx_frz, at0, at1, at2, at3, add_int, sub_int, mod_int, fdiv_int, pow18, lt_int, le_int, gt_int, ge_int, tru_bl, tru_int, eq_int, ne_int, eq_str, ne_str, eq_bl, ne_bl, put_ref, putC_lst, ix0, ix1, ix2, ix3, len_lst, len_tup, len_frz, len_ref, lenC_lst, un1_one, tuple_lst, tuple_tup, list_lst, list_tup, slice_tup, slice_lst, it_tup, it_lst, cut_from1, Option.map_some, List.set_set, Nat.reduceLT, Int.reduceLT, if_true, Int.toNat_natCast, mul_mod, mulL, mulR, Int.reduceNeg, and_self]
  rintro _ _ ⟨rfl, rfl⟩
  refine seq_mid (fun e s => (∃ x : Int, e = [some (.ref n), some (.int m), some (.frz ns), some (.int x), none, none]) ∧ s = st.set n (.lst [.frz ns, .int a', .int b', .int (k + 1)])) ?_ ?_
  · simp only [ok_ok, ok_no, ok_bind, ok_of_some, ok_var, ok_cst, ok_nil, ok_cons, ok_tup, ok_lst, ok_lstM, ok_op2, ok_op1, ok_blt, ok_listM, ok_chain, ok_and, ok_or, ok_not, ok_tval, ok_band, ok_bor, ok_bnot, ok_yes, ok_mif, ok_callM, ok_call, ok_lm, ok_optN, ok_optS, ok_slice, ok_ival, ok_range1, ok_range2, ok_zip, ok_sm, ok_addM, ok_get1, ok_get2, ok_comp, ok_compM, s_skip, s_seq, s_expr, s_asg, s_put, s_ret, s_retN, s_brk, s_cnt, s_if, s_for, s_while, List.map_cons, List.map_nil, List.cons_append, List.nil_append, List.replicate, List.getElem?_cons_zero, List.getElem?_cons_succ, List.set_cons_zero, List.set_cons_succ, Option.some.injEq, exists_eq_left', exists_eq_left, Nat.reduceSub, Nat.reduceAdd, Nat.reduceMul, wipeE, gNm, gNms, gTp, D.int.injEq, true_and, and_true, List.length_cons, List.length_nil, Option.bind_some, idx_ref, ixC_lst, idx_lst, idx_tup, idx_frz, at0, at1, at2, at3, add_int, sub_int, mod_int, fdiv_int, pow18, lt_int, le_int, gt_int, ge_int, tru_bl, tru_int, eq_int, ne_int, eq_str, ne_str, eq_bl, ne_bl, put_ref, putC_lst, ix0, ix1, ix2, ix3, len_lst, len_tup, len_frz, len_ref, lenC_lst, un1_one, tuple_lst, tuple_tup, list_lst, list_tup, slice_tup, slice_lst, it_tup, it_lst, cut_from1, Option.map_some, List.set_set, Nat.reduceLT, Int.reduceLT, if_true, Int.toNat_natCast, mul_mod, mulL, mulR, Int.reduceNeg, h, hl, List.getElem?_set_self, List.length_set]
    by_cases hn : 0 < (ns.length : Int)
    · rw [if_pos (by simpa using hn)]
      obtain ⟨x, _, _, hx⟩ := at_get (xs := ns) (r := (k + 1) % ns.length) (Int.emod_nonneg _ (by omega)) (Int.emod_lt_of_pos _ hn)
      simp only [mod_int hn, List.map_cons, List.map_nil, List.cons_append, List.nil_append, List.replicate, List.getElem?_cons_zero, List.getElem?_cons_succ, List.set_cons_zero, List.set_cons_succ, Option.some.injEq, exists_eq_left', exists_eq_left, Nat.reduceSub, Nat.reduceAdd, Nat.reduceMul, wipeE, gNm, gNms, gTp, D.int.injEq, true_and, and_true, List.length_cons, List.length_nil, Option.bind_some, idx_ref, ixC_lst, idx_lst, idx_tup, idx_frz, at0, at1, at2, at3, add_int, sub_int, mod_int, fdiv_int, pow18, lt_int, le_int, gt_int, ge_int, tru_bl, tru_int, eq_int, ne_int, eq_str, ne_str, eq_bl, ne_bl, put_ref, putC_lst, ix0, ix1, ix2, ix3, len_lst, len_tup, len_frz, len_ref, lenC_lst, un1_one, tuple_lst, tuple_tup, list_lst, list_tup, slice_tup, slice_lst, it_tup, it_lst, cut_from1, Option.map_some, List.set_set, Nat.reduceLT, Int.reduceLT, if_true, Int.toNat_natCast, mul_mod, mulL, mulR, Int.reduceNeg, hx]
      exact ⟨_, rfl⟩
    · rw [if_neg (by simpa using hn)]
      exact ⟨_, rfl⟩
  rintro _ _ ⟨⟨x, rfl⟩, rfl⟩
  simp only [ok_ok, ok_no, ok_bind, ok_of_some, ok_var, ok_cst, ok_nil, ok_cons, ok_tup, ok_lst, ok_lstM, ok_op2, ok_op1, ok_blt, ok_listM, ok_chain, ok_and, ok_or, ok_not, ok_tval, ok_band, ok_bor, ok_bnot, ok_yes, ok_mif, ok_callM, ok_call, ok_lm, ok_optN, ok_optS, ok_slice, ok_ival, ok_range1, ok_range2, ok_zip, ok_sm, ok_addM, ok_get1, ok_get2, ok_comp, ok_compM, s_skip, s_seq, s_expr, s_asg, s_put, s_ret, s_retN, s_brk, s_cnt, s_if, s_for, s_while, List.map_cons, List.map_nil, List.cons_append, List.nil_append, List.replicate, List.getElem?_cons_zero, List.getElem?_cons_succ, List.set_cons_zero, List.set_cons_succ, Option.some.injEq, exists_eq_left', exists_eq_left, Nat.reduceSub, Nat.reduceAdd, Nat.reduceMul, wipeE, gNm, gNms, gTp, D.int.injEq, true_and, and_true, List.length_cons, List.length_nil, Option.bind_some, idx_ref, ixC_lst, idx_lst, idx_tup, idx_frz, at0, at1, at2, at3, add_int, sub_int, mod_int, fdiv_int, pow18, lt_int, le_int, gt_int, ge_int, tru_bl, tru_int, eq_int, ne_int, eq_str, ne_str, eq_bl, ne_bl, put_ref, putC_lst, ix0, ix1, ix2, ix3, len_lst, len_tup, len_frz, len_ref, lenC_lst, un1_one, tuple_lst, tuple_tup, list_lst, list_tup, slice_tup, slice_lst, it_tup, it_lst, cut_from1, Option.map_some, List.set_set, Nat.reduceLT, Int.reduceLT, if_true, Int.toNat_natCast, mul_mod, mulL, mulR, Int.reduceNeg, h, hl, hm, hm3, List.getElem?_set_self, List.length_set]
  exact fin _ _ _ ha'
/-- .. as it is called -/
theorem draw_call {n j : Nat} {st : St} {m : Int} {Q : D → St → Prop} (h : Fd FC n st) (hm : 0 < m) (hm2 : m < 1000) (q : ∀ (r : Int) (st' : St), 0 ≤ r → r < m → Go n st st' → Q (.int r) st') : Ok (ice st (CC (j + 1) "_law_draw" [.ref n, .int m] st)) Q := by
  refine ok_ice_val ((draw_ok h hm hm2).mono ?_)
  rintro d st' ⟨r, rfl, h0, h1, hg⟩
  exact ⟨rfl, q r st' h0 h1 hg⟩
theorem feed_ok {ns : List Int} {j : Nat} {st : St} : Ok (CC (j + 1) "_law_feed" [.frz ns] st) fun d st' => ∃ c, d = .ref st.length ∧ st' = st ++ [c] ∧ FC c := by
  rw [r__law_feed]
  refine ok_fn rfl ?_
  unfold b__law_feed
  try simp only [ok_ok, ok_no, ok_bind, ok_of_some, ok_var, ok_cst, ok_nil, ok_cons, ok_tup, ok_lst, ok_lstM, ok_op2, ok_op1, ok_blt, ok_listM, ok_chain, ok_and, ok_or, ok_not, ok_tval, ok_band, ok_bor, ok_bnot, ok_yes, ok_mif, ok_callM, ok_call, ok_lm, ok_optN, ok_optS, ok_slice, ok_ival, ok_range1, ok_range2, ok_zip, ok_sm, ok_addM, ok_get1, ok_get2, ok_comp, ok_compM, s_skip, s_seq, s_expr, s_asg, s_put, s_ret, s_retN, s_brk, s_cnt, s_if, s_for, s_while, List.map_cons, List.map_nil, List.cons_append, List.nil_append, List.replicate, List.getElem?_cons_zero, List.getElem?_cons_succ, List.set_cons_zero, List.set_cons_succ, Option.some.injEq, exists_eq_left', exists_eq_left, Nat.reduceSub, Nat.reduceAdd, Nat.reduceMul, wipeE, gNm, gNms, gTp, D.int.injEq, true_and, and_true, List.length_cons, List.length_nil, Option.bind_some, idx_ref, ixC_lst, idx_lst, idx_tup, idx_frz, at0, at1, at2, at3, add_int, sub_int, mod_int, fdiv_int, pow18, lt_int, le_int, gt_int, ge_int, tru_bl, tru_int, eq_int, ne_int, eq_str, ne_str, eq_bl, ne_bl, put_ref, putC_lst, ix0, ix1, ix2, ix3, len_lst, len_tup, len_frz, len_ref, lenC_lst, un1_one, tuple_lst, tuple_tup, list_lst, list_tup, slice_tup, slice_lst, it_tup, it_lst, cut_from1, Option.map_some, List.set_set, Nat.reduceLT, Int.reduceLT, if_true, Int.toNat_natCast, mul_mod, mulL, mulR, Int.reduceNeg]
  rw [gc_new (by simp [bels, bel])]
  exact ⟨_, rfl, rfl, _, _, _, _, rfl, by decide⟩
def pool : List Str := ["a", "ab", "f", "fa", "b", "use", "stay", "zzzzzzzz"]
def nameAt (a b : Int) (j : Nat) : Str := (pool[((a + b * j) % 8).toNat]?).getD ""
theorem names_nodup {a b : Int} (a0 : 0 ≤ a) (a1 : a < 8) (hb : b ∈ [1, 3, 5, (7 : Int)]) {m : Nat} (hm : m ≤ 6) : ((List.range m).map (nameAt a b)).Nodup := by
  have all : ∀ a : Fin 8, ∀ b ∈ [1, 3, 5, (7 : Int)], ∀ m : Fin 7, ((List.range m.val).map (nameAt (a.val : Int) b)).Nodup := by decide +kernel
  have := all ⟨a.toNat, by omega⟩ b hb ⟨m, by omega⟩
  simpa [Int.toNat_of_nonneg a0] using this
theorem signs_ok {n j : Nat} {st : St} {mo : Nat} (h : Fd FC n st) (h2 : 2 ≤ mo) (h6 : mo ≤ 6) : Ok (CC (j + 2) "_law_signs" [.ref n, .int mo] st) fun d st' => ∃ sg, Sgn sg ∧ (∀ p ∈ sg, p.1 ∈ pool) ∧ 2 ≤ sg.length ∧ sg.length ≤ mo ∧ d = encS sg ∧ Go n st st' := by
  rw [r__law_signs]
  refine ok_fn rfl ?_
  unfold b__law_signs
  try simp only [ok_ok, ok_no, ok_bind, ok_of_some, ok_var, ok_cst, ok_nil, ok_cons, ok_tup, ok_lst, ok_lstM, ok_op2, ok_op1, ok_blt, ok_listM, ok_chain, ok_and, ok_or, ok_not, ok_tval, ok_band, ok_bor, ok_bnot, ok_yes, ok_mif, ok_callM, ok_call, ok_lm, ok_optN, ok_optS, ok_slice, ok_ival, ok_range1, ok_range2, ok_zip, ok_sm, ok_addM, ok_get1, ok_get2, ok_comp, ok_compM, s_skip, s_seq, s_expr, s_asg, s_put, s_ret, s_retN, s_brk, s_cnt, s_if, s_for, s_while, List.map_cons, List.map_nil, List.cons_append, List.nil_append, List.replicate, List.getElem?_cons_zero, List.getElem?_cons_succ, List.set_cons_zero, List.set_cons_succ, Option.some.injEq, exists_eq_left', exists_eq_left, Nat.reduceSub, Nat.reduceAdd, Nat.reduceMul, wipeE, gNm, gNms, gTp, D.int.injEq, true_and, and_true, List.length_cons, List.length_nil, Option.bind_some, idx_ref, ixC_lst, idx_lst, idx_tup, idx_frz, at0, at1, at2, at3, add_int, sub_int, mod_int, fdiv_int, pow18, lt_int, le_int, gt_int, ge_int, tru_bl, tru_int, eq_int, ne_int, eq_str, ne_str, eq_bl, ne_bl, put_ref, putC_lst, ix0, ix1, ix2, ix3, len_lst, len_tup, len_frz, len_ref, lenC_lst, un1_one, tuple_lst, tuple_tup, list_lst, list_tup, slice_tup, slice_lst, it_tup, it_lst, cut_from1, Option.map_some, List.set_set, Nat.reduceLT, Int.reduceLT, if_true, Int.toNat_natCast, mul_mod, mulL, mulR, Int.reduceNeg]
  refine draw_call h (by decide) (by decide) fun a st1 a0 a1 g1 => ?_
  try simp only [ok_ok, ok_no, ok_bind, ok_of_some, ok_var, ok_cst, ok_nil, ok_cons, ok_tup, ok_lst, ok_lstM, ok_op2, ok_op1, ok_blt, ok_listM, ok_chain, ok_and, ok_or, ok_not, ok_tval, ok_band, ok_bor, ok_bnot, ok_yes, ok_mif, ok_callM, ok_call, ok_lm, ok_optN, ok_optS, ok_slice, ok_ival, ok_range1, ok_range2, ok_zip, ok_sm, ok_addM, ok_get1, ok_get2, ok_comp, ok_compM, s_skip, s_seq, s_expr, s_asg, s_put, s_ret, s_retN, s_brk, s_cnt, s_if, s_for, s_while, List.map_cons, List.map_nil, List.cons_append, List.nil_append, List.replicate, List.getElem?_cons_zero, List.getElem?_cons_succ, List.set_cons_zero, List.set_cons_succ, Option.some.injEq, exists_eq_left', exists_eq_left, Nat.reduceSub, Nat.reduceAdd, Nat.reduceMul, wipeE, gNm, gNms, gTp, D.int.injEq, true_and, and_true, List.length_cons, List.length_nil, Option.bind_some, idx_ref, ixC_lst, idx_lst, idx_tup, idx_frz, at0, at1, at2, at3, add_int, sub_int, mod_int, fdiv_int, pow18, lt_int, le_int, gt_int, ge_int, tru_bl, tru_int, eq_int, ne_int, eq_str, ne_str, eq_bl, ne_bl, put_ref, putC_lst, ix0, ix1, ix2, ix3, len_lst, len_tup, len_frz, len_ref, lenC_lst, un1_one, tuple_lst, tuple_tup, list_lst, list_tup, slice_tup, slice_lst, it_tup, it_lst, cut_from1, Option.map_some, List.set_set, Nat.reduceLT, Int.reduceLT, if_true, Int.toNat_natCast, mul_mod, mulL, mulR, Int.reduceNeg]
  refine draw_call (g1.fd h.lt) (by decide) (by decide) fun i st2 i0 i1 g2 => ?_
  obtain ⟨x, hx, _, hx2⟩ := at_get (xs := [D.int 1, .int 3, .int 5, .int 7]) i0 (by simpa using i1)
  obtain ⟨b, hb, rfl⟩ : ∃ b : Int, b ∈ [1, 3, 5, (7 : Int)] ∧ x = .int b := by
    simp at hx ⊢
    rcases hx with rfl | rfl | rfl | rfl <;> simp
  have hb2 : -18446744073709551616 < b ∧ b < 18446744073709551616 := by simp at hb; omega
  try simp only [ok_ok, ok_no, ok_bind, ok_of_some, ok_var, ok_cst, ok_nil, ok_cons, ok_tup, ok_lst, ok_lstM, ok_op2, ok_op1, ok_blt, ok_listM, ok_chain, ok_and, ok_or, ok_not, ok_tval, ok_band, ok_bor, ok_bnot, ok_yes, ok_mif, ok_callM, ok_call, ok_lm, ok_optN, ok_optS, ok_slice, ok_ival, ok_range1, ok_range2, ok_zip, ok_sm, ok_addM, ok_get1, ok_get2, ok_comp, ok_compM, s_skip, s_seq, s_expr, s_asg, s_put, s_ret, s_retN, s_brk, s_cnt, s_if, s_for, s_while, List.map_cons, List.map_nil, List.cons_append, List.nil_append, List.replicate, List.getElem?_cons_zero, List.getElem?_cons_succ, List.set_cons_zero, List.set_cons_succ, Option.some.injEq, exists_eq_left', exists_eq_left, Nat.reduceSub, Nat.reduceAdd, Nat.reduceMul, wipeE, gNm, gNms, gTp, D.int.injEq, true_and, and_true, List.length_cons, List.length_nil, Option.bind_some, idx_ref, ixC_lst, idx_lst, idx_tup, idx_frz, at0, at1, at2, at3, add_int, sub_int, mod_int, fdiv_int, pow18, lt_int, le_int, gt_int, ge_int, tru_bl, tru_int, eq_int, ne_int, eq_str, ne_str, eq_bl, ne_bl, put_ref, putC_lst, ix0, ix1, ix2, ix3, len_lst, len_tup, len_frz, len_ref, lenC_lst, un1_one, tuple_lst, tuple_tup, list_lst, list_tup, slice_tup, slice_lst, it_tup, it_lst, cut_from1, Option.map_some, List.set_set, Nat.reduceLT, Int.reduceLT, if_true, Int.toNat_natCast, mul_mod, mulL, mulR, Int.reduceNeg, hx2]
  have g12 := g1.go h.lt g2
  refine draw_call (g12.fd h.lt) (by omega) (by omega) fun r st3 r0 r1 g3 => ?_
  obtain ⟨m, rfl⟩ := Int.eq_ofNat_of_zero_le r0
  have hm : m + 1 < mo := by omega
  have g13 := g12.go h.lt g3
  try simp only [ok_ok, ok_no, ok_bind, ok_of_some, ok_var, ok_cst, ok_nil, ok_cons, ok_tup, ok_lst, ok_lstM, ok_op2, ok_op1, ok_blt, ok_listM, ok_chain, ok_and, ok_or, ok_not, ok_tval, ok_band, ok_bor, ok_bnot, ok_yes, ok_mif, ok_callM, ok_call, ok_lm, ok_optN, ok_optS, ok_slice, ok_ival, ok_range1, ok_range2, ok_zip, ok_sm, ok_addM, ok_get1, ok_get2, ok_comp, ok_compM, s_skip, s_seq, s_expr, s_asg, s_put, s_ret, s_retN, s_brk, s_cnt, s_if, s_for, s_while, List.map_cons, List.map_nil, List.cons_append, List.nil_append, List.replicate, List.getElem?_cons_zero, List.getElem?_cons_succ, List.set_cons_zero, List.set_cons_succ, Option.some.injEq, exists_eq_left', exists_eq_left, Nat.reduceSub, Nat.reduceAdd, Nat.reduceMul, wipeE, gNm, gNms, gTp, D.int.injEq, true_and, and_true, List.length_cons, List.length_nil, Option.bind_some, idx_ref, ixC_lst, idx_lst, idx_tup, idx_frz, at0, at1, at2, at3, add_int, sub_int, mod_int, fdiv_int, pow18, lt_int, le_int, gt_int, ge_int, tru_bl, tru_int, eq_int, ne_int, eq_str, ne_str, eq_bl, ne_bl, put_ref, putC_lst, ix0, ix1, ix2, ix3, len_lst, len_tup, len_frz, len_ref, lenC_lst, un1_one, tuple_lst, tuple_tup, list_lst, list_tup, slice_tup, slice_lst, it_tup, it_lst, cut_from1, Option.map_some, List.set_set, Nat.reduceLT, Int.reduceLT, if_true, Int.toNat_natCast, mul_mod, mulL, mulR, Int.reduceNeg]
  rw [show (2 + (m : Int) - 1) = ((m + 1 : Nat) : Int) by omega, show (2 + (m : Int)) = ((m + 2 : Nat) : Int) by omega]
  refine ⟨by unfold big; omega, ?_⟩
  try simp only [Int.toNat_natCast]
  refine comp_go (fun done ys st' => Go n st st' ∧ ∃ ks : List Nat, ys = ks.map (fun (k : Nat) => D.int k) ∧ ks.length = done.length ∧ ∀ k ∈ ks, k ≤ 3) rfl ⟨g13, [], rfl, rfl, by simp⟩ ?_ ?_
  · rintro x done ys st' hx ⟨g, ks, rfl, hl, hk⟩
    try simp only [ok_ok, ok_no, ok_bind, ok_of_some, ok_var, ok_cst, ok_nil, ok_cons, ok_tup, ok_lst, ok_lstM, ok_op2, ok_op1, ok_blt, ok_listM, ok_chain, ok_and, ok_or, ok_not, ok_tval, ok_band, ok_bor, ok_bnot, ok_yes, ok_mif, ok_callM, ok_call, ok_lm, ok_optN, ok_optS, ok_slice, ok_ival, ok_range1, ok_range2, ok_zip, ok_sm, ok_addM, ok_get1, ok_get2, ok_comp, ok_compM, s_skip, s_seq, s_expr, s_asg, s_put, s_ret, s_retN, s_brk, s_cnt, s_if, s_for, s_while, List.map_cons, List.map_nil, List.cons_append, List.nil_append, List.replicate, List.getElem?_cons_zero, List.getElem?_cons_succ, List.set_cons_zero, List.set_cons_succ, Option.some.injEq, exists_eq_left', exists_eq_left, Nat.reduceSub, Nat.reduceAdd, Nat.reduceMul, wipeE, gNm, gNms, gTp, D.int.injEq, true_and, and_true, List.length_cons, List.length_nil, Option.bind_some, idx_ref, ixC_lst, idx_lst, idx_tup, idx_frz, at0, at1, at2, at3, add_int, sub_int, mod_int, fdiv_int, pow18, lt_int, le_int, gt_int, ge_int, tru_bl, tru_int, eq_int, ne_int, eq_str, ne_str, eq_bl, ne_bl, put_ref, putC_lst, ix0, ix1, ix2, ix3, len_lst, len_tup, len_frz, len_ref, lenC_lst, un1_one, tuple_lst, tuple_tup, list_lst, list_tup, slice_tup, slice_lst, it_tup, it_lst, cut_from1, Option.map_some, List.set_set, Nat.reduceLT, Int.reduceLT, if_true, Int.toNat_natCast, mul_mod, mulL, mulR, Int.reduceNeg]
    refine draw_call (g.fd h.lt) (by decide) (by decide) fun i st3 i0 i1 g3 => ?_
    obtain ⟨x, hx, _, hx2⟩ := at_get (xs := [D.int 0, .int 1, .int 1, .int 2, .int 2, .int 3]) i0 (by simpa using i1)
    obtain ⟨k, hk3, rfl⟩ : ∃ k : Nat, k ≤ 3 ∧ x = .int k := by
      simp at hx
      rcases hx with rfl | rfl | rfl | rfl
      · exact ⟨0, by decide, rfl⟩
      · exact ⟨1, by decide, rfl⟩
      · exact ⟨2, by decide, rfl⟩
      · exact ⟨3, by decide, rfl⟩
    try simp only [ok_ok, ok_no, ok_bind, ok_of_some, ok_var, ok_cst, ok_nil, ok_cons, ok_tup, ok_lst, ok_lstM, ok_op2, ok_op1, ok_blt, ok_listM, ok_chain, ok_and, ok_or, ok_not, ok_tval, ok_band, ok_bor, ok_bnot, ok_yes, ok_mif, ok_callM, ok_call, ok_lm, ok_optN, ok_optS, ok_slice, ok_ival, ok_range1, ok_range2, ok_zip, ok_sm, ok_addM, ok_get1, ok_get2, ok_comp, ok_compM, s_skip, s_seq, s_expr, s_asg, s_put, s_ret, s_retN, s_brk, s_cnt, s_if, s_for, s_while, List.map_cons, List.map_nil, List.cons_append, List.nil_append, List.replicate, List.getElem?_cons_zero, List.getElem?_cons_succ, List.set_cons_zero, List.set_cons_succ, Option.some.injEq, exists_eq_left', exists_eq_left, Nat.reduceSub, Nat.reduceAdd, Nat.reduceMul, wipeE, gNm, gNms, gTp, D.int.injEq, true_and, and_true, List.length_cons, List.length_nil, Option.bind_some, idx_ref, ixC_lst, idx_lst, idx_tup, idx_frz, at0, at1, at2, at3, add_int, sub_int, mod_int, fdiv_int, pow18, lt_int, le_int, gt_int, ge_int, tru_bl, tru_int, eq_int, ne_int, eq_str, ne_str, eq_bl, ne_bl, put_ref, putC_lst, ix0, ix1, ix2, ix3, len_lst, len_tup, len_frz, len_ref, lenC_lst, un1_one, tuple_lst, tuple_tup, list_lst, list_tup, slice_tup, slice_lst, it_tup, it_lst, cut_from1, Option.map_some, List.set_set, Nat.reduceLT, Int.reduceLT, if_true, Int.toNat_natCast, mul_mod, mulL, mulR, Int.reduceNeg, hx2]
    refine ⟨g.go h.lt g3, ks ++ [k], by simp, by simp [hl], fun q hq => ?_⟩
    rcases List.mem_append.mp hq with z | z
    · exact hk q z
    · rw [List.mem_singleton.mp z]; exact hk3
  · rintro ys st4 ⟨g, ks, rfl, hl, hk⟩
    have hl' : ks.length = m + 1 := by simpa using hl
    rw [add_lst (by simp [hl']; unfold big; omega)]
    try simp only [ok_ok, ok_no, ok_bind, ok_of_some, ok_var, ok_cst, ok_nil, ok_cons, ok_tup, ok_lst, ok_lstM, ok_op2, ok_op1, ok_blt, ok_listM, ok_chain, ok_and, ok_or, ok_not, ok_tval, ok_band, ok_bor, ok_bnot, ok_yes, ok_mif, ok_callM, ok_call, ok_lm, ok_optN, ok_optS, ok_slice, ok_ival, ok_range1, ok_range2, ok_zip, ok_sm, ok_addM, ok_get1, ok_get2, ok_comp, ok_compM, s_skip, s_seq, s_expr, s_asg, s_put, s_ret, s_retN, s_brk, s_cnt, s_if, s_for, s_while, List.map_cons, List.map_nil, List.cons_append, List.nil_append, List.replicate, List.getElem?_cons_zero, List.getElem?_cons_succ, List.set_cons_zero, List.set_cons_succ, Option.some.injEq, exists_eq_left', exists_eq_left, Nat.reduceSub, Nat.reduceAdd, Nat.reduceMul, wipeE, gNm, gNms, gTp, D.int.injEq, true_and, and_true, List.length_cons, List.length_nil, Option.bind_some, idx_ref, ixC_lst, idx_lst, idx_tup, idx_frz, at0, at1, at2, at3, add_int, sub_int, mod_int, fdiv_int, pow18, lt_int, le_int, gt_int, ge_int, tru_bl, tru_int, eq_int, ne_int, eq_str, ne_str, eq_bl, ne_bl, put_ref, putC_lst, ix0, ix1, ix2, ix3, len_lst, len_tup, len_frz, len_ref, lenC_lst, un1_one, tuple_lst, tuple_tup, list_lst, list_tup, slice_tup, slice_lst, it_tup, it_lst, cut_from1, Option.map_some, List.set_set, Nat.reduceLT, Int.reduceLT, if_true, Int.toNat_natCast, mul_mod, mulL, mulR, Int.reduceNeg]
    refine draw_call (g.fd h.lt) (by omega) (by omega) fun r st5 r0 r1 g5 => ?_
    obtain ⟨q, rfl⟩ := Int.eq_ofNat_of_zero_le r0
    have g6 := g.go h.lt g5
    try simp only [ok_ok, ok_no, ok_bind, ok_of_some, ok_var, ok_cst, ok_nil, ok_cons, ok_tup, ok_lst, ok_lstM, ok_op2, ok_op1, ok_blt, ok_listM, ok_chain, ok_and, ok_or, ok_not, ok_tval, ok_band, ok_bor, ok_bnot, ok_yes, ok_mif, ok_callM, ok_call, ok_lm, ok_optN, ok_optS, ok_slice, ok_ival, ok_range1, ok_range2, ok_zip, ok_sm, ok_addM, ok_get1, ok_get2, ok_comp, ok_compM, s_skip, s_seq, s_expr, s_asg, s_put, s_ret, s_retN, s_brk, s_cnt, s_if, s_for, s_while, List.map_cons, List.map_nil, List.cons_append, List.nil_append, List.replicate, List.getElem?_cons_zero, List.getElem?_cons_succ, List.set_cons_zero, List.set_cons_succ, Option.some.injEq, exists_eq_left', exists_eq_left, Nat.reduceSub, Nat.reduceAdd, Nat.reduceMul, wipeE, gNm, gNms, gTp, D.int.injEq, true_and, and_true, List.length_cons, List.length_nil, Option.bind_some, idx_ref, ixC_lst, idx_lst, idx_tup, idx_frz, at0, at1, at2, at3, add_int, sub_int, mod_int, fdiv_int, pow18, lt_int, le_int, gt_int, ge_int, tru_bl, tru_int, eq_int, ne_int, eq_str, ne_str, eq_bl, ne_bl, put_ref, putC_lst, ix0, ix1, ix2, ix3, len_lst, len_tup, len_frz, len_ref, lenC_lst, un1_one, tuple_lst, tuple_tup, list_lst, list_tup, slice_tup, slice_lst, it_tup, it_lst, cut_from1, Option.map_some, List.set_set, Nat.reduceLT, Int.reduceLT, if_true, Int.toNat_natCast, mul_mod, mulL, mulR, Int.reduceNeg]
    have e0 : D.int 0 :: ks.map (fun (k : Nat) => D.int k) = (0 :: ks).map (fun (k : Nat) => D.int k) := rfl
    rw [e0, cut_from, cut_to, ← List.map_drop, ← List.map_take]
    rw [add_lst (by simp [hl']; unfold big; omega), ← List.map_append]
    generalize hkk : (0 :: ks).drop q ++ (0 :: ks).take q = kk
    have hkl : kk.length = m + 2 := by
      rw [← hkk, List.length_append, List.length_drop, List.length_take]
      simp [hl']
      omega
    have hk2 : ∀ k ∈ kk, k ≤ 3 := fun k hk' => by
      rw [← hkk] at hk'
      have : k ∈ 0 :: ks := by
        rcases List.mem_append.mp hk' with z | z
        · exact List.mem_of_mem_drop z
        · exact List.mem_of_mem_take z
      rcases List.mem_cons.mp this with z | z
      · omega
      · exact hk k z
    have h0 : 0 ∈ kk := by
      rw [← hkk]
      by_cases hq : q = 0
      · subst hq; simp
      · refine List.mem_append_right _ ?_
        obtain ⟨q', rfl⟩ : ∃ q', q = q' + 1 := ⟨q - 1, by omega⟩
        simp
    try simp only [ok_ok, ok_no, ok_bind, ok_of_some, ok_var, ok_cst, ok_nil, ok_cons, ok_tup, ok_lst, ok_lstM, ok_op2, ok_op1, ok_blt, ok_listM, ok_chain, ok_and, ok_or, ok_not, ok_tval, ok_band, ok_bor, ok_bnot, ok_yes, ok_mif, ok_callM, ok_call, ok_lm, ok_optN, ok_optS, ok_slice, ok_ival, ok_range1, ok_range2, ok_zip, ok_sm, ok_addM, ok_get1, ok_get2, ok_comp, ok_compM, s_skip, s_seq, s_expr, s_asg, s_put, s_ret, s_retN, s_brk, s_cnt, s_if, s_for, s_while, List.map_cons, List.map_nil, List.cons_append, List.nil_append, List.replicate, List.getElem?_cons_zero, List.getElem?_cons_succ, List.set_cons_zero, List.set_cons_succ, Option.some.injEq, exists_eq_left', exists_eq_left, Nat.reduceSub, Nat.reduceAdd, Nat.reduceMul, wipeE, gNm, gNms, gTp, D.int.injEq, true_and, and_true, List.length_cons, List.length_nil, Option.bind_some, idx_ref, ixC_lst, idx_lst, idx_tup, idx_frz, at0, at1, at2, at3, add_int, sub_int, mod_int, fdiv_int, pow18, lt_int, le_int, gt_int, ge_int, tru_bl, tru_int, eq_int, ne_int, eq_str, ne_str, eq_bl, ne_bl, put_ref, putC_lst, ix0, ix1, ix2, ix3, len_lst, len_tup, len_frz, len_ref, lenC_lst, un1_one, tuple_lst, tuple_tup, list_lst, list_tup, slice_tup, slice_lst, it_tup, it_lst, cut_from1, Option.map_some, List.set_set, Nat.reduceLT, Int.reduceLT, if_true, Int.toNat_natCast, mul_mod, mulL, mulR, Int.reduceNeg]
    refine ⟨by unfold big; omega, ?_⟩
    try simp only [Int.toNat_natCast]
    have hnd := names_nodup a0 a1 hb (m := m + 2) (by omega)
    have hnl : ((List.range (m + 2)).map (nameAt a b)).length = m + 2 := by simp
    have hnp : ∀ x ∈ (List.range (m + 2)).map (nameAt a b), x ∈ pool := fun x hx => by
      obtain ⟨k, hk, rfl⟩ := List.mem_map.mp hx
      obtain ⟨x, hx, hx3, hx2⟩ := at_get (xs := pool) (r := (a + b * k) % 8) (Int.emod_nonneg _ (by decide)) (Int.emod_lt_of_pos _ (by decide))
      unfold nameAt
      rw [hx3]
      exact hx
    refine comp_rng (fun k => (fun (x : Str) (k : Nat) => D.tup [.str x, .int k]) (((List.range (m + 2)).map (nameAt a b)).getD k "") (kk.getD k 0)) (by simp) rfl ?_ ?_
    · intro k hk
      obtain ⟨x, hx, hx3, hx2⟩ := at_get (xs := pool) (r := (a + b * k) % 8) (Int.emod_nonneg _ (by decide)) (Int.emod_lt_of_pos _ (by decide))
      have hx4 : L2.atI (pool.map D.str) ((a + b * k) % 8) = some (.str x) := by
        obtain ⟨q, hq⟩ := Int.eq_ofNat_of_zero_le (Int.emod_nonneg (a + b * k) (by decide : (8 : Int) ≠ 0))
        rw [hq, at_nat] at hx2 ⊢
        simp [hx2]
      have hx4' : L2.atI [D.str "a", .str "ab", .str "f", .str "fa", .str "b", .str "use", .str "stay", .str "zzzzzzzz"] ((a + b * k) % 8) = some (.str x) := hx4
      have hx5 : nameAt a b k = x := by unfold nameAt; rw [hx3]; rfl
      have e1 : ((List.range (m + 2)).map (nameAt a b))[k]? = some x := by
        rw [List.getElem?_map, List.getElem?_range (by omega)]
        simp [hx5]
      have e2 : kk[k]? = some (kk[k]'(by omega)) := by simp
      simp only [ok_ok, ok_no, ok_bind, ok_of_some, ok_var, ok_cst, ok_nil, ok_cons, ok_tup, ok_lst, ok_lstM, ok_op2, ok_op1, ok_blt, ok_listM, ok_chain, ok_and, ok_or, ok_not, ok_tval, ok_band, ok_bor, ok_bnot, ok_yes, ok_mif, ok_callM, ok_call, ok_lm, ok_optN, ok_optS, ok_slice, ok_ival, ok_range1, ok_range2, ok_zip, ok_sm, ok_addM, ok_get1, ok_get2, ok_comp, ok_compM, s_skip, s_seq, s_expr, s_asg, s_put, s_ret, s_retN, s_brk, s_cnt, s_if, s_for, s_while, List.map_cons, List.map_nil, List.cons_append, List.nil_append, List.replicate, List.getElem?_cons_zero, List.getElem?_cons_succ, List.set_cons_zero, List.set_cons_succ, Option.some.injEq, exists_eq_left', exists_eq_left, Nat.reduceSub, Nat.reduceAdd, Nat.reduceMul, wipeE, gNm, gNms, gTp, D.int.injEq, true_and, and_true, List.length_cons, List.length_nil, Option.bind_some, idx_ref, ixC_lst, idx_lst, idx_tup, idx_frz, at0, at1, at2, at3, add_int, sub_int, mod_int, fdiv_int, pow18, lt_int, le_int, gt_int, ge_int, tru_bl, tru_int, eq_int, ne_int, eq_str, ne_str, eq_bl, ne_bl, put_ref, putC_lst, ix0, ix1, ix2, ix3, len_lst, len_tup, len_frz, len_ref, lenC_lst, un1_one, tuple_lst, tuple_tup, list_lst, list_tup, slice_tup, slice_lst, it_tup, it_lst, cut_from1, Option.map_some, List.set_set, Nat.reduceLT, Int.reduceLT, if_true, Int.toNat_natCast, mul_mod, mulL, mulR, Int.reduceNeg, mulL hb2.1 hb2.2, hx4', at_nat, List.getElem?_map, e1, e2, List.getD, Option.getD_some]
    · rw [range_zip (fun (x : Str) (k : Nat) => D.tup [.str x, .int k]) hnl hkl]
      generalize (List.range (m + 2)).map (nameAt a b) = nms at *
      refine Fr.ok fcB g6 ?_ fun S' g7 => ?_
      · rw [bel]
        generalize nms.zip kk = l
        induction l with
        | nil => rfl
        | cons p l ih => simp [bels, bel, ih]
      · have hzl : (nms.zip kk).length = m + 2 := by simp; omega
        obtain ⟨q0, hq0, e0⟩ := List.getElem_of_mem h0
        refine ⟨nms.zip kk, ⟨⟨fun a k k' h1 h2 => zip_one hnd h1 h2, fun p hp => hk2 p.2 (List.of_mem_zip hp).2⟩, ?_, by omega, by omega, ⟨(nms[q0]'(by omega), 0), List.mem_of_getElem? (i := q0) (by rw [List.getElem?_zip_eq_some]; exact ⟨by simp, by rw [List.getElem?_eq_getElem hq0, e0]⟩), rfl⟩⟩, fun p hp => hnp p.1 (List.of_mem_zip hp).1, by omega, by omega, rfl, g7⟩
        rw [List.map_fst_zip (by omega)]
        exact hnd
end RP
end
section
set_option Elab.async false
set_option linter.all false
set_option maxRecDepth 100000
set_option maxHeartbeats 1000000
namespace RP
open PySem
def pool12 : List Str := ["?x", "?y", "?0", "?z", "?10", "?stay", "?7", "?xy", "?a", "?2", "?abcdefgh", "?12"]
theorem pool12_unk {z : Str} (h : z ∈ pool12) : unkS z = true ∧ z.length ≤ 9 := by
  have : ∀ z ∈ pool12, unkS z = true ∧ z.length ≤ 9 := by decide +kernel
  exact this z h
theorem pool12_nd : pool12.Nodup := by decide +kernel
def seenC (k : Nat) : Cell := .lst ((pool12.take k).map D.str)
/-- the feed has gone on, k unknowns are taken -/
def Gn (n m : Nat) (st : St) (k : Nat) (S : St) : Prop := ∃ c, FC c ∧ S = (st.set n c).set m (seenC k)
section
variable {n m : Nat} {st S S' : St} {k k' : Nat}
theorem Gn.len (h : Gn n m st k S) : S.length = st.length := by
  obtain ⟨c, _, rfl⟩ := h
  simp
theorem Gn.fd (hnm : n ≠ m) (hn : n < st.length) (h : Gn n m st k S) : Fd FC n S := by
  obtain ⟨c, hc, rfl⟩ := h
  exact ⟨c, by rw [List.getElem?_set_ne (Ne.symm hnm), List.getElem?_set_self hn], hc⟩
theorem Gn.cell (hm : m < st.length) (h : Gn n m st k S) : S[m]? = some (seenC k) := by
  obtain ⟨c, hc, rfl⟩ := h
  rw [List.getElem?_set_self (by simpa using hm)]
theorem Gn.refl (hnm : n ≠ m) (h : Fd FC n st) (hm : st[m]? = some (seenC k)) : Gn n m st k st := by
  obtain ⟨c, h, hc⟩ := h
  refine ⟨c, hc, ?_⟩
  apply List.ext_getElem?
  intro i
  by_cases h1 : m = i
  · subst h1
    rw [List.getElem?_set_self (by simpa using (List.getElem?_eq_some_iff.mp hm).1), hm]
  · rw [List.getElem?_set_ne h1]
    by_cases h2 : n = i
    · subst h2
      rw [List.getElem?_set_self (List.getElem?_eq_some_iff.mp h).1, h]
    · rw [List.getElem?_set_ne h2]
theorem Gn.go (hnm : n ≠ m) (h : Gn n m st k S) (g : Go n S S') : Gn n m st k S' := by
  obtain ⟨c, hc, rfl⟩ := h
  obtain ⟨c', hc', rfl⟩ := g
  refine ⟨c', hc', ?_⟩
  rw [List.append_nil, List.set_comm _ _ (Ne.symm hnm), List.set_set]
theorem Gn.put (h : Gn n m st k S) : Gn n m st k' (S.set m (seenC k')) := by
  obtain ⟨c, hc, rfl⟩ := h
  exact ⟨c, hc, by rw [List.set_set]⟩
theorem Gn.trans (hnm : n ≠ m) (h : Gn n m st k S) (h' : Gn n m S k' S') : Gn n m st k' S' := by
  obtain ⟨c, hc, rfl⟩ := h
  obtain ⟨c', hc', rfl⟩ := h'
  refine ⟨c', hc', ?_⟩
  rw [List.set_comm (i := m) (j := n) _ _ (Ne.symm hnm), List.set_set, List.set_set]
end
def lsz : Nat → Nat
  | 0 => 1
  | 1 => 2
  | _ => 7
def lus : Nat → Nat
  | 0 => 1
  | 1 => 1
  | _ => 3
def PostL (sg : Sg) (n m d k : Nat) (st : St) (r : D) (st' : St) : Prop := ∃ t, r = encT t ∧ PatOf sg t ∧ hgt t ≤ d ∧ siz t ≤ lsz d ∧ (unks t).length ≤ lus d ∧ unks t = (pool12.drop k).take (unks t).length ∧ (d = 2 → ∃ f ks, t = .nd f ks) ∧ Gn n m st (k + (unks t).length) st'
theorem left_go {n m : Nat} {sg : Sg} (hs : Sgn sg) (hnm : n ≠ m) (d j k : Nat) (st : St) (hd2 : d ≤ 2) (h : Fd FC n st) (hm : st[m]? = some (seenC k)) (hk : k + lus d ≤ 12)
    (ih : ∀ e, d = e + 1 → ∀ (k : Nat) (st : St), Fd FC n st → st[m]? = some (seenC k) → k + lus e ≤ 12 → Ok (CC (e + j + 2) "_law_left" [.ref n, encS sg, .int e, .ref m] st) (PostL sg n m e k st)) :
    Ok (CC (d + j + 2) "_law_left" [.ref n, encS sg, .int d, .ref m] st) (PostL sg n m d k st) := by
  have hml : m < st.length := (List.getElem?_eq_some_iff.mp hm).1
  have hsl := hs.lo
  have hsh := hs.hi
  have hl1 : 1 ≤ lus d := by unfold lus; split <;> omega
  rw [show d + j + 2 = (d + j + 1) + 1 by omega, r__law_left]
  refine ok_fn rfl ?_
  unfold b__law_left
  dsimp only
  refine seq_mid (a := sAsg _ _) (fun e S => e = [some (.ref n), some (encS sg), some (.int d), some (.ref m), some (.lst (pool12.map D.str)), none, none, none, none, none] ∧ S = st) ?_ ?_
  · simp only [ok_ok, ok_no, ok_bind, ok_of_some, ok_var, ok_cst, ok_nil, ok_cons, ok_tup, ok_lst, ok_lstM, ok_op2, ok_op1, ok_blt, ok_listM, ok_chain, ok_and, ok_or, ok_not, ok_tval, ok_band, ok_bor, ok_bnot, ok_yes, ok_mif, ok_callM, ok_call, ok_lm, ok_optN, ok_optS, ok_slice, ok_ival, ok_range1, ok_range2, ok_zip, ok_sm, ok_addM, ok_get1, ok_get2, ok_comp, ok_compM, s_skip, s_seq, s_expr, s_asg, s_put, s_ret, s_retN, s_brk, s_cnt, s_if, s_for, s_while, List.map_cons, List.map_nil, List.cons_append, List.nil_append, List.replicate, List.getElem?_cons_zero, List.getElem?_cons_succ, List.set_cons_zero, List.set_cons_succ, Option.some.injEq, exists_eq_left', exists_eq_left, Nat.reduceSub, Nat.reduceAdd, Nat.reduceMul, wipeE, gNm, gNms, gTp, D.int.injEq, true_and, and_true, List.length_cons, List.length_nil, Option.bind_some, idx_ref, ixC_lst, idx_lst, idx_tup, idx_frz, at0, at1, at2, at3, add_int, sub_int, mod_int, fdiv_int, pow18, lt_int, le_int, gt_int, ge_int, tru_bl, tru_int, eq_int, ne_int, eq_str, ne_str, eq_bl, ne_bl, put_ref, putC_lst, ix0, ix1, ix2, ix3, len_lst, len_tup, len_frz, len_ref, lenC_lst, un1_one, tuple_lst, tuple_tup, list_lst, list_tup, slice_tup, slice_lst, it_tup, it_lst, cut_from1, Option.map_some, List.set_set, Nat.reduceLT, Int.reduceLT, if_true, Int.toNat_natCast, mul_mod, mulL, mulR, Int.reduceNeg]
    rfl
  rintro _ S ⟨rfl, e0⟩
  subst S
  refine seq_mid (fun e S => e = [some (.ref n), some (encS sg), some (.int d), some (.ref m), some (.lst (pool12.map D.str)), none, none, none, none, none] ∧ Gn n m st k S ∧ (d = 1 ∨ d = 2)) ?_ ?_
  · have take : ∀ S, Gn n m st k S → d ≠ 2 → isL S (D.ref m) = true ∧ ∃ d_1, lenC m S[m]? = some d_1 ∧ ∃ d_2, idxD S (D.lst (List.map D.str pool12)) d_1 = some d_2 ∧ ∃ d_3 st3, xAppend S (D.ref m) [d_2] = some (d_3, st3) ∧ ∃ d_4, negD st3 (D.int 1) = some d_4 ∧ ∃ d_5, ixC m st3[m]? d_4 = some d_5 ∧ Ok (gc st d_5 st3) (PostL sg n m d k st) := fun S g hd => by
      have hc := g.cell hml
      unfold seenC at hc
      have h12 : pool12.length = 12 := rfl
      have hlt : (pool12.take k).length = k := by rw [List.length_take]; omega
      have e1 : pool12[k]? = some (pool12[k]'(by omega)) := List.getElem?_eq_getElem _
      generalize hz : pool12[k]'(by omega) = z at e1
      have hzm : z ∈ pool12 := List.mem_of_getElem? e1
      have e2 : pool12.take (k + 1) = pool12.take k ++ [z] := by rw [List.take_succ, e1]; rfl
      have e3 : idxD S (.lst (pool12.map D.str)) (.int (k : Int)) = some (.str z) := by
        rw [idx_lst, at_nat, List.getElem?_map, e1]; rfl
      have eS : S.set m (.lst ((pool12.take k).map D.str ++ [D.str z])) = S.set m (seenC (k + 1)) := by
        unfold seenC
        rw [e2, List.map_append]
        rfl
      have hSm : m < S.length := by rw [g.len]; exact hml
      simp only [ok_ok, ok_no, ok_bind, ok_of_some, ok_var, ok_cst, ok_nil, ok_cons, ok_tup, ok_lst, ok_lstM, ok_op2, ok_op1, ok_blt, ok_listM, ok_chain, ok_and, ok_or, ok_not, ok_tval, ok_band, ok_bor, ok_bnot, ok_yes, ok_mif, ok_callM, ok_call, ok_lm, ok_optN, ok_optS, ok_slice, ok_ival, ok_range1, ok_range2, ok_zip, ok_sm, ok_addM, ok_get1, ok_get2, ok_comp, ok_compM, s_skip, s_seq, s_expr, s_asg, s_put, s_ret, s_retN, s_brk, s_cnt, s_if, s_for, s_while, List.map_cons, List.map_nil, List.cons_append, List.nil_append, List.replicate, List.getElem?_cons_zero, List.getElem?_cons_succ, List.set_cons_zero, List.set_cons_succ, Option.some.injEq, exists_eq_left', exists_eq_left, Nat.reduceSub, Nat.reduceAdd, Nat.reduceMul, wipeE, gNm, gNms, gTp, D.int.injEq, true_and, and_true, List.length_cons, List.length_nil, Option.bind_some, idx_ref, ixC_lst, idx_lst, idx_tup, idx_frz, at0, at1, at2, at3, add_int, sub_int, mod_int, fdiv_int, pow18, lt_int, le_int, gt_int, ge_int, tru_bl, tru_int, eq_int, ne_int, eq_str, ne_str, eq_bl, ne_bl, put_ref, putC_lst, ix0, ix1, ix2, ix3, len_lst, len_tup, len_frz, len_ref, lenC_lst, un1_one, tuple_lst, tuple_tup, list_lst, list_tup, slice_tup, slice_lst, it_tup, it_lst, cut_from1, Option.map_some, List.set_set, Nat.reduceLT, Int.reduceLT, if_true, Int.toNat_natCast, mul_mod, mulL, mulR, Int.reduceNeg, hc, List.length_map, hlt, e3]
      refine ⟨isL_ref hc, _, _, append_ref hc (by simp; unfold big; omega), ?_⟩
      rw [eS]
      have hc2 : (S.set m (seenC (k + 1)))[m]? = some (.lst ((pool12.take k).map D.str ++ [D.str z])) := by
        rw [List.getElem?_set_self hSm]
        unfold seenC
        rw [e2, List.map_append]
        rfl
      simp only [neg_int, List.map_cons, List.map_nil, List.cons_append, List.nil_append, List.replicate, List.getElem?_cons_zero, List.getElem?_cons_succ, List.set_cons_zero, List.set_cons_succ, Option.some.injEq, exists_eq_left', exists_eq_left, Nat.reduceSub, Nat.reduceAdd, Nat.reduceMul, wipeE, gNm, gNms, gTp, D.int.injEq, true_and, and_true, List.length_cons, List.length_nil, Option.bind_some, idx_ref, ixC_lst, idx_lst, idx_tup, idx_frz, at0, at1, at2, at3, add_int, sub_int, mod_int, fdiv_int, pow18, lt_int, le_int, gt_int, ge_int, tru_bl, tru_int, eq_int, ne_int, eq_str, ne_str, eq_bl, ne_bl, put_ref, putC_lst, ix0, ix1, ix2, ix3, len_lst, len_tup, len_frz, len_ref, lenC_lst, un1_one, tuple_lst, tuple_tup, list_lst, list_tup, slice_tup, slice_lst, it_tup, it_lst, cut_from1, Option.map_some, List.set_set, Nat.reduceLT, Int.reduceLT, if_true, Int.toNat_natCast, mul_mod, mulL, mulR, Int.reduceNeg, hc2]
      rw [at_m1 (by simp)]
      simp only [List.length_append, List.length_cons, List.length_nil, Nat.zero_add, Nat.add_sub_cancel]
      rw [List.getElem?_append_right (Nat.le_refl _), Nat.sub_self]
      refine ⟨_, rfl, ?_⟩
      rw [gc_same (by rw [List.length_set, g.len])]
      refine ⟨.unk z, encT_unk.symm, .unk (pool12_unk hzm).1, by rw [hgt]; omega, ?_, ?_, ?_, fun h => (hd h).elim, ?_⟩
      · rw [siz]; unfold lsz; split <;> omega
      · rw [unks]; exact hl1
      · rw [unks]
        show [z] = (pool12.drop k).take 1
        rw [List.drop_eq_getElem_cons (by omega), hz]
        rfl
      · rw [unks]
        exact g.put
    try simp only [ok_ok, ok_no, ok_bind, ok_of_some, ok_var, ok_cst, ok_nil, ok_cons, ok_tup, ok_lst, ok_lstM, ok_op2, ok_op1, ok_blt, ok_listM, ok_chain, ok_and, ok_or, ok_not, ok_tval, ok_band, ok_bor, ok_bnot, ok_yes, ok_mif, ok_callM, ok_call, ok_lm, ok_optN, ok_optS, ok_slice, ok_ival, ok_range1, ok_range2, ok_zip, ok_sm, ok_addM, ok_get1, ok_get2, ok_comp, ok_compM, s_skip, s_seq, s_expr, s_asg, s_put, s_ret, s_retN, s_brk, s_cnt, s_if, s_for, s_while, List.map_cons, List.map_nil, List.cons_append, List.nil_append, List.replicate, List.getElem?_cons_zero, List.getElem?_cons_succ, List.set_cons_zero, List.set_cons_succ, Option.some.injEq, exists_eq_left', exists_eq_left, Nat.reduceSub, Nat.reduceAdd, Nat.reduceMul, wipeE, gNm, gNms, gTp, D.int.injEq, true_and, and_true, List.length_cons, List.length_nil, Option.bind_some, idx_ref, ixC_lst, idx_lst, idx_tup, idx_frz, at0, at1, at2, at3, add_int, sub_int, mod_int, fdiv_int, pow18, lt_int, le_int, gt_int, ge_int, tru_bl, tru_int, eq_int, ne_int, eq_str, ne_str, eq_bl, ne_bl, put_ref, putC_lst, ix0, ix1, ix2, ix3, len_lst, len_tup, len_frz, len_ref, lenC_lst, un1_one, tuple_lst, tuple_tup, list_lst, list_tup, slice_tup, slice_lst, it_tup, it_lst, cut_from1, Option.map_some, List.set_set, Nat.reduceLT, Int.reduceLT, if_true, Int.toNat_natCast, mul_mod, mulL, mulR, Int.reduceNeg]
    by_cases hlt : d < 2
    · rw [if_pos (by simp; omega)]
      by_cases h0 : d = 0
      · rw [if_pos (by simp [h0])]
        exact take st (Gn.refl hnm h hm) (by omega)
      · rw [if_neg (by simp [h0])]
        try simp only [ok_ok, ok_no, ok_bind, ok_of_some, ok_var, ok_cst, ok_nil, ok_cons, ok_tup, ok_lst, ok_lstM, ok_op2, ok_op1, ok_blt, ok_listM, ok_chain, ok_and, ok_or, ok_not, ok_tval, ok_band, ok_bor, ok_bnot, ok_yes, ok_mif, ok_callM, ok_call, ok_lm, ok_optN, ok_optS, ok_slice, ok_ival, ok_range1, ok_range2, ok_zip, ok_sm, ok_addM, ok_get1, ok_get2, ok_comp, ok_compM, s_skip, s_seq, s_expr, s_asg, s_put, s_ret, s_retN, s_brk, s_cnt, s_if, s_for, s_while, List.map_cons, List.map_nil, List.cons_append, List.nil_append, List.replicate, List.getElem?_cons_zero, List.getElem?_cons_succ, List.set_cons_zero, List.set_cons_succ, Option.some.injEq, exists_eq_left', exists_eq_left, Nat.reduceSub, Nat.reduceAdd, Nat.reduceMul, wipeE, gNm, gNms, gTp, D.int.injEq, true_and, and_true, List.length_cons, List.length_nil, Option.bind_some, idx_ref, ixC_lst, idx_lst, idx_tup, idx_frz, at0, at1, at2, at3, add_int, sub_int, mod_int, fdiv_int, pow18, lt_int, le_int, gt_int, ge_int, tru_bl, tru_int, eq_int, ne_int, eq_str, ne_str, eq_bl, ne_bl, put_ref, putC_lst, ix0, ix1, ix2, ix3, len_lst, len_tup, len_frz, len_ref, lenC_lst, un1_one, tuple_lst, tuple_tup, list_lst, list_tup, slice_tup, slice_lst, it_tup, it_lst, cut_from1, Option.map_some, List.set_set, Nat.reduceLT, Int.reduceLT, if_true, Int.toNat_natCast, mul_mod, mulL, mulR, Int.reduceNeg]
        refine draw_call h (by decide) (by decide) fun r S r0 r1 g => ?_
        simp only [ok_ok, ok_no, ok_bind, ok_of_some, ok_var, ok_cst, ok_nil, ok_cons, ok_tup, ok_lst, ok_lstM, ok_op2, ok_op1, ok_blt, ok_listM, ok_chain, ok_and, ok_or, ok_not, ok_tval, ok_band, ok_bor, ok_bnot, ok_yes, ok_mif, ok_callM, ok_call, ok_lm, ok_optN, ok_optS, ok_slice, ok_ival, ok_range1, ok_range2, ok_zip, ok_sm, ok_addM, ok_get1, ok_get2, ok_comp, ok_compM, s_skip, s_seq, s_expr, s_asg, s_put, s_ret, s_retN, s_brk, s_cnt, s_if, s_for, s_while, List.map_cons, List.map_nil, List.cons_append, List.nil_append, List.replicate, List.getElem?_cons_zero, List.getElem?_cons_succ, List.set_cons_zero, List.set_cons_succ, Option.some.injEq, exists_eq_left', exists_eq_left, Nat.reduceSub, Nat.reduceAdd, Nat.reduceMul, wipeE, gNm, gNms, gTp, D.int.injEq, true_and, and_true, List.length_cons, List.length_nil, Option.bind_some, idx_ref, ixC_lst, idx_lst, idx_tup, idx_frz, at0, at1, at2, at3, add_int, sub_int, mod_int, fdiv_int, pow18, lt_int, le_int, gt_int, ge_int, tru_bl, tru_int, eq_int, ne_int, eq_str, ne_str, eq_bl, ne_bl, put_ref, putC_lst, ix0, ix1, ix2, ix3, len_lst, len_tup, len_frz, len_ref, lenC_lst, un1_one, tuple_lst, tuple_tup, list_lst, list_tup, slice_tup, slice_lst, it_tup, it_lst, cut_from1, Option.map_some, List.set_set, Nat.reduceLT, Int.reduceLT, if_true, Int.toNat_natCast, mul_mod, mulL, mulR, Int.reduceNeg]
        by_cases hr : r > 0
        · rw [if_pos (by simpa using hr)]
          exact take S ((Gn.refl hnm h hm).go hnm g) (by omega)
        · rw [if_neg (by simpa using hr)]
          exact ⟨(Gn.refl hnm h hm).go hnm g, by omega⟩
    · rw [if_neg (by simp; omega)]
      simp only [Bool.false_eq_true, if_false]
      exact ⟨Gn.refl hnm h hm, by omega⟩
  rintro _ S ⟨rfl, g, hd12⟩
  obtain ⟨e, rfl⟩ : ∃ e, d = e + 1 := ⟨d - 1, by omega⟩
  have e0 : encS sg = .tup (sg.map fun p => D.tup [.str p.1, .int p.2]) := rfl
  have hn : n < st.length := h.lt
  try simp only [ok_ok, ok_no, ok_bind, ok_of_some, ok_var, ok_cst, ok_nil, ok_cons, ok_tup, ok_lst, ok_lstM, ok_op2, ok_op1, ok_blt, ok_listM, ok_chain, ok_and, ok_or, ok_not, ok_tval, ok_band, ok_bor, ok_bnot, ok_yes, ok_mif, ok_callM, ok_call, ok_lm, ok_optN, ok_optS, ok_slice, ok_ival, ok_range1, ok_range2, ok_zip, ok_sm, ok_addM, ok_get1, ok_get2, ok_comp, ok_compM, s_skip, s_seq, s_expr, s_asg, s_put, s_ret, s_retN, s_brk, s_cnt, s_if, s_for, s_while, List.map_cons, List.map_nil, List.cons_append, List.nil_append, List.replicate, List.getElem?_cons_zero, List.getElem?_cons_succ, List.set_cons_zero, List.set_cons_succ, Option.some.injEq, exists_eq_left', exists_eq_left, Nat.reduceSub, Nat.reduceAdd, Nat.reduceMul, wipeE, gNm, gNms, gTp, D.int.injEq, true_and, and_true, List.length_cons, List.length_nil, Option.bind_some, idx_ref, ixC_lst, idx_lst, idx_tup, idx_frz, at0, at1, at2, at3, add_int, sub_int, mod_int, fdiv_int, pow18, lt_int, le_int, gt_int, ge_int, tru_bl, tru_int, eq_int, ne_int, eq_str, ne_str, eq_bl, ne_bl, put_ref, putC_lst, ix0, ix1, ix2, ix3, len_lst, len_tup, len_frz, len_ref, lenC_lst, un1_one, tuple_lst, tuple_tup, list_lst, list_tup, slice_tup, slice_lst, it_tup, it_lst, cut_from1, Option.map_some, List.set_set, Nat.reduceLT, Int.reduceLT, if_true, Int.toNat_natCast, mul_mod, mulL, mulR, Int.reduceNeg]
  rw [e0]
  refine ⟨_, rfl, ?_⟩
  rw [← e0]
  refine comp_encF (e := fun p : Str × Nat => D.tup [.str p.1, .int p.2]) sg (fun p => decide (e + 1 = 2) || decide (p.2 < 2)) (fun p => D.tup [.str p.1, .int p.2]) rfl gNone ?_ ?_
  · rintro ⟨a, k⟩ hp
    refine ⟨_, rfl, ?_, fun _ => ⟨rfl, rfl⟩⟩
    simp only [ok_ok, ok_no, ok_bind, ok_of_some, ok_var, ok_cst, ok_nil, ok_cons, ok_tup, ok_lst, ok_lstM, ok_op2, ok_op1, ok_blt, ok_listM, ok_chain, ok_and, ok_or, ok_not, ok_tval, ok_band, ok_bor, ok_bnot, ok_yes, ok_mif, ok_callM, ok_call, ok_lm, ok_optN, ok_optS, ok_slice, ok_ival, ok_range1, ok_range2, ok_zip, ok_sm, ok_addM, ok_get1, ok_get2, ok_comp, ok_compM, s_skip, s_seq, s_expr, s_asg, s_put, s_ret, s_retN, s_brk, s_cnt, s_if, s_for, s_while, List.map_cons, List.map_nil, List.cons_append, List.nil_append, List.replicate, List.getElem?_cons_zero, List.getElem?_cons_succ, List.set_cons_zero, List.set_cons_succ, Option.some.injEq, exists_eq_left', exists_eq_left, Nat.reduceSub, Nat.reduceAdd, Nat.reduceMul, wipeE, gNm, gNms, gTp, D.int.injEq, true_and, and_true, List.length_cons, List.length_nil, Option.bind_some, idx_ref, ixC_lst, idx_lst, idx_tup, idx_frz, at0, at1, at2, at3, add_int, sub_int, mod_int, fdiv_int, pow18, lt_int, le_int, gt_int, ge_int, tru_bl, tru_int, eq_int, ne_int, eq_str, ne_str, eq_bl, ne_bl, put_ref, putC_lst, ix0, ix1, ix2, ix3, len_lst, len_tup, len_frz, len_ref, lenC_lst, un1_one, tuple_lst, tuple_tup, list_lst, list_tup, slice_tup, slice_lst, it_tup, it_lst, cut_from1, Option.map_some, List.set_set, Nat.reduceLT, Int.reduceLT, if_true, Int.toNat_natCast, mul_mod, mulL, mulR, Int.reduceNeg]
    by_cases hd : e + 1 = 2
    · rw [if_pos (by simp; omega)]
      simp [hd]
    · rw [if_neg (by simp; omega)]
      rw [Bool.eq_iff_iff]
      simp [hd]
      omega
  generalize hB : (sg.filter fun p => decide (e + 1 = 2) || decide (p.2 < 2)) = some'
  have hbl : some'.length ≤ 6 := by
    rw [← hB]
    exact Nat.le_trans (List.length_filter_le _ _) hsh
  have hbm : ∀ p ∈ some', p ∈ sg ∧ (e = 0 → p.2 ≤ 1) := fun p hp => by
    rw [← hB] at hp
    obtain ⟨h1, h2⟩ := List.mem_filter.mp hp
    refine ⟨h1, fun hd => ?_⟩
    subst hd
    simp at h2
    omega
  have hb0 : 0 < some'.length := by
    obtain ⟨p, hp, hk⟩ := hs.bare
    rw [← hB]
    exact List.length_pos_of_mem (List.mem_filter.mpr ⟨hp, by simp [hk]⟩)
  try simp only [ok_ok, ok_no, ok_bind, ok_of_some, ok_var, ok_cst, ok_nil, ok_cons, ok_tup, ok_lst, ok_lstM, ok_op2, ok_op1, ok_blt, ok_listM, ok_chain, ok_and, ok_or, ok_not, ok_tval, ok_band, ok_bor, ok_bnot, ok_yes, ok_mif, ok_callM, ok_call, ok_lm, ok_optN, ok_optS, ok_slice, ok_ival, ok_range1, ok_range2, ok_zip, ok_sm, ok_addM, ok_get1, ok_get2, ok_comp, ok_compM, s_skip, s_seq, s_expr, s_asg, s_put, s_ret, s_retN, s_brk, s_cnt, s_if, s_for, s_while, List.map_cons, List.map_nil, List.cons_append, List.nil_append, List.replicate, List.getElem?_cons_zero, List.getElem?_cons_succ, List.set_cons_zero, List.set_cons_succ, Option.some.injEq, exists_eq_left', exists_eq_left, Nat.reduceSub, Nat.reduceAdd, Nat.reduceMul, wipeE, gNm, gNms, gTp, D.int.injEq, true_and, and_true, List.length_cons, List.length_nil, Option.bind_some, idx_ref, ixC_lst, idx_lst, idx_tup, idx_frz, at0, at1, at2, at3, add_int, sub_int, mod_int, fdiv_int, pow18, lt_int, le_int, gt_int, ge_int, tru_bl, tru_int, eq_int, ne_int, eq_str, ne_str, eq_bl, ne_bl, put_ref, putC_lst, ix0, ix1, ix2, ix3, len_lst, len_tup, len_frz, len_ref, lenC_lst, un1_one, tuple_lst, tuple_tup, list_lst, list_tup, slice_tup, slice_lst, it_tup, it_lst, cut_from1, Option.map_some, List.set_set, Nat.reduceLT, Int.reduceLT, if_true, Int.toNat_natCast, mul_mod, mulL, mulR, Int.reduceNeg]
  rw [List.length_map]
  refine draw_call (g.fd hnm hn) (by omega) (by omega) fun i S1 i0 i1 g1 => ?_
  have G1 := g.go hnm g1
  obtain ⟨x, hx, _, hx2⟩ := at_get (xs := some'.map fun p => D.tup [.str p.1, .int p.2]) i0 (by simpa using i1)
  obtain ⟨⟨nm, ar⟩, hp', rfl⟩ := List.mem_map.mp hx
  obtain ⟨hp, hd0⟩ := hbm _ hp'
  have har : ar ≤ 3 := hs.one.le _ hp
  try simp only [ok_ok, ok_no, ok_bind, ok_of_some, ok_var, ok_cst, ok_nil, ok_cons, ok_tup, ok_lst, ok_lstM, ok_op2, ok_op1, ok_blt, ok_listM, ok_chain, ok_and, ok_or, ok_not, ok_tval, ok_band, ok_bor, ok_bnot, ok_yes, ok_mif, ok_callM, ok_call, ok_lm, ok_optN, ok_optS, ok_slice, ok_ival, ok_range1, ok_range2, ok_zip, ok_sm, ok_addM, ok_get1, ok_get2, ok_comp, ok_compM, s_skip, s_seq, s_expr, s_asg, s_put, s_ret, s_retN, s_brk, s_cnt, s_if, s_for, s_while, List.map_cons, List.map_nil, List.cons_append, List.nil_append, List.replicate, List.getElem?_cons_zero, List.getElem?_cons_succ, List.set_cons_zero, List.set_cons_succ, Option.some.injEq, exists_eq_left', exists_eq_left, Nat.reduceSub, Nat.reduceAdd, Nat.reduceMul, wipeE, gNm, gNms, gTp, D.int.injEq, true_and, and_true, List.length_cons, List.length_nil, Option.bind_some, idx_ref, ixC_lst, idx_lst, idx_tup, idx_frz, at0, at1, at2, at3, add_int, sub_int, mod_int, fdiv_int, pow18, lt_int, le_int, gt_int, ge_int, tru_bl, tru_int, eq_int, ne_int, eq_str, ne_str, eq_bl, ne_bl, put_ref, putC_lst, ix0, ix1, ix2, ix3, len_lst, len_tup, len_frz, len_ref, lenC_lst, un1_one, tuple_lst, tuple_tup, list_lst, list_tup, slice_tup, slice_lst, it_tup, it_lst, cut_from1, Option.map_some, List.set_set, Nat.reduceLT, Int.reduceLT, if_true, Int.toNat_natCast, mul_mod, mulL, mulR, Int.reduceNeg, hx2]
  refine ⟨by unfold big; omega, ?_⟩
  have hus : ar * lus e ≤ lus (e + 1) ∧ 1 + ar * lsz e ≤ lsz (e + 1) := by
    rcases hd12 with hd | hd
    · obtain rfl : e = 0 := by omega
      have := hd0 rfl
      simp only at this
      simp only [lus, lsz]
      omega
    · obtain rfl : e = 1 := by omega
      simp only [lus, lsz]
      omega
  refine comp_gen (e := fun k : Nat => D.int k) (List.range ar) (fun done ys S => ∃ ts : List Pt, ys = ts.map encT ∧ ts.length = done.length ∧ (∀ t ∈ ts, PatOf sg t ∧ hgt t ≤ e) ∧ sizs ts ≤ ts.length * lsz e ∧ (unkss ts).length ≤ ts.length * lus e ∧ unkss ts = (pool12.drop k).take (unkss ts).length ∧ Gn n m st (k + (unkss ts).length) S) rfl ⟨[], rfl, rfl, by simp, by simp [sizs], by simp [unkss], by simp [unkss], by simpa [unkss] using G1⟩ ?_ (fun _ _ _ _ => gNone) ?_
  · rintro q rest done ys S2 he ⟨ts, rfl, hl, hts, hsz, hul, hue, G2⟩
    have hda : done.length < ar := by
      have := congrArg List.length he
      simp at this
      omega
    refine ⟨_, rfl, ?_⟩
    simp only [ok_ok, ok_no, ok_bind, ok_of_some, ok_var, ok_cst, ok_nil, ok_cons, ok_tup, ok_lst, ok_lstM, ok_op2, ok_op1, ok_blt, ok_listM, ok_chain, ok_and, ok_or, ok_not, ok_tval, ok_band, ok_bor, ok_bnot, ok_yes, ok_mif, ok_callM, ok_call, ok_lm, ok_optN, ok_optS, ok_slice, ok_ival, ok_range1, ok_range2, ok_zip, ok_sm, ok_addM, ok_get1, ok_get2, ok_comp, ok_compM, s_skip, s_seq, s_expr, s_asg, s_put, s_ret, s_retN, s_brk, s_cnt, s_if, s_for, s_while, List.map_cons, List.map_nil, List.cons_append, List.nil_append, List.replicate, List.getElem?_cons_zero, List.getElem?_cons_succ, List.set_cons_zero, List.set_cons_succ, Option.some.injEq, exists_eq_left', exists_eq_left, Nat.reduceSub, Nat.reduceAdd, Nat.reduceMul, wipeE, gNm, gNms, gTp, D.int.injEq, true_and, and_true, List.length_cons, List.length_nil, Option.bind_some, idx_ref, ixC_lst, idx_lst, idx_tup, idx_frz, at0, at1, at2, at3, add_int, sub_int, mod_int, fdiv_int, pow18, lt_int, le_int, gt_int, ge_int, tru_bl, tru_int, eq_int, ne_int, eq_str, ne_str, eq_bl, ne_bl, put_ref, putC_lst, ix0, ix1, ix2, ix3, len_lst, len_tup, len_frz, len_ref, lenC_lst, un1_one, tuple_lst, tuple_tup, list_lst, list_tup, slice_tup, slice_lst, it_tup, it_lst, cut_from1, Option.map_some, List.set_set, Nat.reduceLT, Int.reduceLT, if_true, Int.toNat_natCast, mul_mod, mulL, mulR, Int.reduceNeg]
    rw [show ((e + 1 : Nat) : Int) - 1 = (e : Int) by omega, show e + 1 + j + 1 = e + j + 2 by omega]
    have hmul : (ts.length + 1) * lus e ≤ ar * lus e := Nat.mul_le_mul_right _ (by omega)
    rw [Nat.add_mul, Nat.one_mul] at hmul
    refine ok_ice_val ((ih e rfl (k + (unkss ts).length) S2 (G2.fd hnm hn) (G2.cell hml) (by omega)).mono ?_)
    rintro _ S3 ⟨t, rfl, h1, h2, h3, h4, h5, _, G3⟩
    refine ⟨isRef_T t, ts ++ [t], by simp, by simp [hl], fun u hu => ?_, ?_, ?_, ?_, ?_⟩
    · rcases List.mem_append.mp hu with z | z
      · exact hts u z
      · rw [List.mem_singleton.mp z]; exact ⟨h1, h2⟩
    · rw [sizs_sum, List.map_append, List.sum_append, ← sizs_sum, List.length_append, List.length_singleton, Nat.add_mul]
      simp
      omega
    · rw [unkss_app, unkss, unkss, List.append_nil, List.length_append, List.length_append, List.length_singleton, Nat.add_mul]
      omega
    · rw [unkss_app, unkss, unkss, List.append_nil, List.length_append, List.take_add, List.drop_drop, ← hue, ← h5]
    · rw [unkss_app, unkss, unkss, List.append_nil, List.length_append, ← Nat.add_assoc]
      exact G2.trans hnm G3
  · rintro ys S2 ⟨ts, rfl, hl, hts, hsz, hul, hue, G2⟩
    have hl' : ts.length = ar := by simpa using hl
    try simp only [ok_ok, ok_no, ok_bind, ok_of_some, ok_var, ok_cst, ok_nil, ok_cons, ok_tup, ok_lst, ok_lstM, ok_op2, ok_op1, ok_blt, ok_listM, ok_chain, ok_and, ok_or, ok_not, ok_tval, ok_band, ok_bor, ok_bnot, ok_yes, ok_mif, ok_callM, ok_call, ok_lm, ok_optN, ok_optS, ok_slice, ok_ival, ok_range1, ok_range2, ok_zip, ok_sm, ok_addM, ok_get1, ok_get2, ok_comp, ok_compM, s_skip, s_seq, s_expr, s_asg, s_put, s_ret, s_retN, s_brk, s_cnt, s_if, s_for, s_while, List.map_cons, List.map_nil, List.cons_append, List.nil_append, List.replicate, List.getElem?_cons_zero, List.getElem?_cons_succ, List.set_cons_zero, List.set_cons_succ, Option.some.injEq, exists_eq_left', exists_eq_left, Nat.reduceSub, Nat.reduceAdd, Nat.reduceMul, wipeE, gNm, gNms, gTp, D.int.injEq, true_and, and_true, List.length_cons, List.length_nil, Option.bind_some, idx_ref, ixC_lst, idx_lst, idx_tup, idx_frz, at0, at1, at2, at3, add_int, sub_int, mod_int, fdiv_int, pow18, lt_int, le_int, gt_int, ge_int, tru_bl, tru_int, eq_int, ne_int, eq_str, ne_str, eq_bl, ne_bl, put_ref, putC_lst, ix0, ix1, ix2, ix3, len_lst, len_tup, len_frz, len_ref, lenC_lst, un1_one, tuple_lst, tuple_tup, list_lst, list_tup, slice_tup, slice_lst, it_tup, it_lst, cut_from1, Option.map_some, List.set_set, Nat.reduceLT, Int.reduceLT, if_true, Int.toNat_natCast, mul_mod, mulL, mulR, Int.reduceNeg]
    rw [add_tup (by simp; unfold big; omega)]
    have ee : D.tup (.str nm :: ts.map encT) = encT (.nd nm ts) := encT_nd.symm
    refine ⟨_, rfl, ?_⟩
    rw [gc_same G2.len]
    refine ⟨.nd nm ts, ee, .nd (by rw [hl']; exact hp) fun t ht => (hts t ht).1, ?_, ?_, ?_, ?_, fun _ => ⟨_, _, rfl⟩, ?_⟩
    · rw [hgt]
      have := (hgts_le (ts := ts) (n := e)).mpr fun t ht => (hts t ht).2
      omega
    · rw [siz]
      rw [hl'] at hsz
      omega
    · rw [unks]
      rw [hl'] at hul
      omega
    · rw [unks]; exact hue
    · rw [unks]; exact G2
theorem left_ok {n m : Nat} {sg : Sg} (hs : Sgn sg) (hnm : n ≠ m) : ∀ (d j k : Nat) (st : St), d ≤ 2 → Fd FC n st → st[m]? = some (seenC k) → k + lus d ≤ 12 → Ok (CC (d + j + 2) "_law_left" [.ref n, encS sg, .int d, .ref m] st) (PostL sg n m d k st)
  | 0, j, k, st, hd, h, hm, hk => left_go hs hnm 0 j k st hd h hm hk fun e he => by omega
  | d + 1, j, k, st, hd, h, hm, hk => left_go hs hnm (d + 1) j k st hd h hm hk fun e he k' st' h' hm' hk' => by
    obtain rfl : d = e := by omega
    exact left_ok hs hnm d j k' st' (by omega) h' hm' hk'
def rsz : Nat → Nat
  | 0 => 1
  | 1 => 2
  | _ => 7
def rcd (d : Nat) : Nat := if d ≤ 1 then 0 else 1
def PostR (sg : Sg) (n : Nat) (seen : List Str) (d : Nat) (st : St) (r : D) (st' : St) : Prop := ∃ t, r = encT t ∧ PatOf sg t ∧ hgt t ≤ min d 2 + 1 ∧ siz t ≤ rsz d ∧ (∀ s ∈ unks t, s ∈ seen) ∧ Go n st st'
theorem min_ints {st : St} {i j : Int} : minD st [.int i, .int j] = some (.int (if j < i then j else i)) := rfl
theorem right_go {n m : Nat} {sg : Sg} {seen : List Str} (hs : Sgn sg) (hnm : n ≠ m) (hsn : ∀ s ∈ seen, unkS s = true) (hsc : seen.length ≤ 12) (d j : Nat) (st : St) (hd3 : d ≤ 3) (h : Fd FC n st) (hm : st[m]? = some (.lst (seen.map D.str)))
    (ih : 0 < d → ∀ (st : St), Fd FC n st → st[m]? = some (.lst (seen.map D.str)) → Ok (CC (d + j + 1) "_law_right" [.ref n, encS sg, .int (rcd d : Nat), .ref m] st) (PostR sg n seen (rcd d) st)) :
    Ok (CC (d + j + 2) "_law_right" [.ref n, encS sg, .int d, .ref m] st) (PostR sg n seen d st) := by
  have hml : m < st.length := (List.getElem?_eq_some_iff.mp hm).1
  have hsl := hs.lo
  have hsh := hs.hi
  have hn : n < st.length := h.lt
  rw [show d + j + 2 = (d + j + 1) + 1 by omega, r__law_right]
  refine ok_fn rfl ?_
  unfold b__law_right
  dsimp only
  refine seq_mid (a := sIf _ _ _) (fun e S => e = [some (.ref n), some (encS sg), some (.int d), some (.ref m), none, none, none, none, none] ∧ Go n st S) ?_ ?_
  · have hne : neB st (.ref m) (.lst []) = some (.bl (!decide (seen = []))) := by
      rw [neB_see (e' := .lst []) (see_cell hm) rfl (by rw [pln]; exact plns_strs) rfl, ne_strsL]
    have fetch : ∀ S, Go n st S → seen ≠ [] → Ok (ice S (CC (d + j + 1) "_law_draw" [.ref n, .int (seen.length : Int)] S)) fun y st2 => ∃ d_1, idxD st2 (.ref m) y = some d_1 ∧ Ok (gc st d_1 st2) (PostR sg n seen d st) := fun S g hne => by
      have hl0 : 0 < seen.length := List.length_pos_iff.mpr hne
      refine draw_call (g.fd hn) (by omega) (by omega) fun r S2 r0 r1 g2 => ?_
      have G := g.go hn g2
      obtain ⟨z, hz, _, hz2⟩ := at_get (xs := seen) r0 r1
      obtain ⟨q, rfl⟩ := Int.eq_ofNat_of_zero_le r0
      rw [at_nat] at hz2
      have hc : S2[m]? = some (.lst (seen.map D.str)) := by rw [G.old hml (Ne.symm hnm)]; exact hm
      refine ⟨.str z, by rw [idx_ref, hc, ixC_lst, at_nat, List.getElem?_map, hz2]; rfl, Fr.ok fcB G rfl fun S' G' => ⟨.unk z, encT_unk.symm, .unk (hsn z hz), by rw [hgt]; omega, ?_, ?_, G'⟩⟩
      · rw [siz]; unfold rsz; split <;> omega
      · rw [unks]; intro s h; rw [List.mem_singleton.mp h]; exact hz
    simp only [ok_ok, ok_no, ok_bind, ok_of_some, ok_var, ok_cst, ok_nil, ok_cons, ok_tup, ok_lst, ok_lstM, ok_op2, ok_op1, ok_blt, ok_listM, ok_chain, ok_and, ok_or, ok_not, ok_tval, ok_band, ok_bor, ok_bnot, ok_yes, ok_mif, ok_callM, ok_call, ok_lm, ok_optN, ok_optS, ok_slice, ok_ival, ok_range1, ok_range2, ok_zip, ok_sm, ok_addM, ok_get1, ok_get2, ok_comp, ok_compM, s_skip, s_seq, s_expr, s_asg, s_put, s_ret, s_retN, s_brk, s_cnt, s_if, s_for, s_while, List.map_cons, List.map_nil, List.cons_append, List.nil_append, List.replicate, List.getElem?_cons_zero, List.getElem?_cons_succ, List.set_cons_zero, List.set_cons_succ, Option.some.injEq, exists_eq_left', exists_eq_left, Nat.reduceSub, Nat.reduceAdd, Nat.reduceMul, wipeE, gNm, gNms, gTp, D.int.injEq, true_and, and_true, List.length_cons, List.length_nil, Option.bind_some, idx_ref, ixC_lst, idx_lst, idx_tup, idx_frz, at0, at1, at2, at3, add_int, sub_int, mod_int, fdiv_int, pow18, lt_int, le_int, gt_int, ge_int, tru_bl, tru_int, eq_int, ne_int, eq_str, ne_str, eq_bl, ne_bl, put_ref, putC_lst, ix0, ix1, ix2, ix3, len_lst, len_tup, len_frz, len_ref, lenC_lst, un1_one, tuple_lst, tuple_tup, list_lst, list_tup, slice_tup, slice_lst, it_tup, it_lst, cut_from1, Option.map_some, List.set_set, Nat.reduceLT, Int.reduceLT, if_true, Int.toNat_natCast, mul_mod, mulL, mulR, Int.reduceNeg, hne]
    by_cases he : seen = []
    · rw [if_neg (by simp [he])]
      simp only [Bool.false_eq_true, if_false]
      exact Fr.refl h
    · rw [if_pos (by simp [he])]
      by_cases h0 : d = 0
      · rw [if_pos (by simp [h0])]
        simp only [hm, List.map_cons, List.map_nil, List.cons_append, List.nil_append, List.replicate, List.getElem?_cons_zero, List.getElem?_cons_succ, List.set_cons_zero, List.set_cons_succ, Option.some.injEq, exists_eq_left', exists_eq_left, Nat.reduceSub, Nat.reduceAdd, Nat.reduceMul, wipeE, gNm, gNms, gTp, D.int.injEq, true_and, and_true, List.length_cons, List.length_nil, Option.bind_some, idx_ref, ixC_lst, idx_lst, idx_tup, idx_frz, at0, at1, at2, at3, add_int, sub_int, mod_int, fdiv_int, pow18, lt_int, le_int, gt_int, ge_int, tru_bl, tru_int, eq_int, ne_int, eq_str, ne_str, eq_bl, ne_bl, put_ref, putC_lst, ix0, ix1, ix2, ix3, len_lst, len_tup, len_frz, len_ref, lenC_lst, un1_one, tuple_lst, tuple_tup, list_lst, list_tup, slice_tup, slice_lst, it_tup, it_lst, cut_from1, Option.map_some, List.set_set, Nat.reduceLT, Int.reduceLT, if_true, Int.toNat_natCast, mul_mod, mulL, mulR, Int.reduceNeg, List.length_map]
        simpa only [idx_ref] using fetch st (Fr.refl h) he
      · rw [if_neg (by simp [h0])]
        try simp only [ok_ok, ok_no, ok_bind, ok_of_some, ok_var, ok_cst, ok_nil, ok_cons, ok_tup, ok_lst, ok_lstM, ok_op2, ok_op1, ok_blt, ok_listM, ok_chain, ok_and, ok_or, ok_not, ok_tval, ok_band, ok_bor, ok_bnot, ok_yes, ok_mif, ok_callM, ok_call, ok_lm, ok_optN, ok_optS, ok_slice, ok_ival, ok_range1, ok_range2, ok_zip, ok_sm, ok_addM, ok_get1, ok_get2, ok_comp, ok_compM, s_skip, s_seq, s_expr, s_asg, s_put, s_ret, s_retN, s_brk, s_cnt, s_if, s_for, s_while, List.map_cons, List.map_nil, List.cons_append, List.nil_append, List.replicate, List.getElem?_cons_zero, List.getElem?_cons_succ, List.set_cons_zero, List.set_cons_succ, Option.some.injEq, exists_eq_left', exists_eq_left, Nat.reduceSub, Nat.reduceAdd, Nat.reduceMul, wipeE, gNm, gNms, gTp, D.int.injEq, true_and, and_true, List.length_cons, List.length_nil, Option.bind_some, idx_ref, ixC_lst, idx_lst, idx_tup, idx_frz, at0, at1, at2, at3, add_int, sub_int, mod_int, fdiv_int, pow18, lt_int, le_int, gt_int, ge_int, tru_bl, tru_int, eq_int, ne_int, eq_str, ne_str, eq_bl, ne_bl, put_ref, putC_lst, ix0, ix1, ix2, ix3, len_lst, len_tup, len_frz, len_ref, lenC_lst, un1_one, tuple_lst, tuple_tup, list_lst, list_tup, slice_tup, slice_lst, it_tup, it_lst, cut_from1, Option.map_some, List.set_set, Nat.reduceLT, Int.reduceLT, if_true, Int.toNat_natCast, mul_mod, mulL, mulR, Int.reduceNeg]
        refine draw_call h (by decide) (by decide) fun r S r0 r1 g => ?_
        have hc : S[m]? = some (.lst (seen.map D.str)) := by rw [g.old hml (Ne.symm hnm)]; exact hm
        simp only [ok_ok, ok_no, ok_bind, ok_of_some, ok_var, ok_cst, ok_nil, ok_cons, ok_tup, ok_lst, ok_lstM, ok_op2, ok_op1, ok_blt, ok_listM, ok_chain, ok_and, ok_or, ok_not, ok_tval, ok_band, ok_bor, ok_bnot, ok_yes, ok_mif, ok_callM, ok_call, ok_lm, ok_optN, ok_optS, ok_slice, ok_ival, ok_range1, ok_range2, ok_zip, ok_sm, ok_addM, ok_get1, ok_get2, ok_comp, ok_compM, s_skip, s_seq, s_expr, s_asg, s_put, s_ret, s_retN, s_brk, s_cnt, s_if, s_for, s_while, List.map_cons, List.map_nil, List.cons_append, List.nil_append, List.replicate, List.getElem?_cons_zero, List.getElem?_cons_succ, List.set_cons_zero, List.set_cons_succ, Option.some.injEq, exists_eq_left', exists_eq_left, Nat.reduceSub, Nat.reduceAdd, Nat.reduceMul, wipeE, gNm, gNms, gTp, D.int.injEq, true_and, and_true, List.length_cons, List.length_nil, Option.bind_some, idx_ref, ixC_lst, idx_lst, idx_tup, idx_frz, at0, at1, at2, at3, add_int, sub_int, mod_int, fdiv_int, pow18, lt_int, le_int, gt_int, ge_int, tru_bl, tru_int, eq_int, ne_int, eq_str, ne_str, eq_bl, ne_bl, put_ref, putC_lst, ix0, ix1, ix2, ix3, len_lst, len_tup, len_frz, len_ref, lenC_lst, un1_one, tuple_lst, tuple_tup, list_lst, list_tup, slice_tup, slice_lst, it_tup, it_lst, cut_from1, Option.map_some, List.set_set, Nat.reduceLT, Int.reduceLT, if_true, Int.toNat_natCast, mul_mod, mulL, mulR, Int.reduceNeg]
        by_cases hr : r = 0
        · rw [if_pos (by simpa using hr)]
          simp only [hc, List.map_cons, List.map_nil, List.cons_append, List.nil_append, List.replicate, List.getElem?_cons_zero, List.getElem?_cons_succ, List.set_cons_zero, List.set_cons_succ, Option.some.injEq, exists_eq_left', exists_eq_left, Nat.reduceSub, Nat.reduceAdd, Nat.reduceMul, wipeE, gNm, gNms, gTp, D.int.injEq, true_and, and_true, List.length_cons, List.length_nil, Option.bind_some, idx_ref, ixC_lst, idx_lst, idx_tup, idx_frz, at0, at1, at2, at3, add_int, sub_int, mod_int, fdiv_int, pow18, lt_int, le_int, gt_int, ge_int, tru_bl, tru_int, eq_int, ne_int, eq_str, ne_str, eq_bl, ne_bl, put_ref, putC_lst, ix0, ix1, ix2, ix3, len_lst, len_tup, len_frz, len_ref, lenC_lst, un1_one, tuple_lst, tuple_tup, list_lst, list_tup, slice_tup, slice_lst, it_tup, it_lst, cut_from1, Option.map_some, List.set_set, Nat.reduceLT, Int.reduceLT, if_true, Int.toNat_natCast, mul_mod, mulL, mulR, Int.reduceNeg, List.length_map]
          simpa only [idx_ref] using fetch S g he
        · rw [if_neg (by simpa using hr)]
          exact g
  rintro _ S ⟨rfl, g⟩
  have e0 : encS sg = .tup (sg.map fun p => D.tup [.str p.1, .int p.2]) := rfl
  try simp only [ok_ok, ok_no, ok_bind, ok_of_some, ok_var, ok_cst, ok_nil, ok_cons, ok_tup, ok_lst, ok_lstM, ok_op2, ok_op1, ok_blt, ok_listM, ok_chain, ok_and, ok_or, ok_not, ok_tval, ok_band, ok_bor, ok_bnot, ok_yes, ok_mif, ok_callM, ok_call, ok_lm, ok_optN, ok_optS, ok_slice, ok_ival, ok_range1, ok_range2, ok_zip, ok_sm, ok_addM, ok_get1, ok_get2, ok_comp, ok_compM, s_skip, s_seq, s_expr, s_asg, s_put, s_ret, s_retN, s_brk, s_cnt, s_if, s_for, s_while, List.map_cons, List.map_nil, List.cons_append, List.nil_append, List.replicate, List.getElem?_cons_zero, List.getElem?_cons_succ, List.set_cons_zero, List.set_cons_succ, Option.some.injEq, exists_eq_left', exists_eq_left, Nat.reduceSub, Nat.reduceAdd, Nat.reduceMul, wipeE, gNm, gNms, gTp, D.int.injEq, true_and, and_true, List.length_cons, List.length_nil, Option.bind_some, idx_ref, ixC_lst, idx_lst, idx_tup, idx_frz, at0, at1, at2, at3, add_int, sub_int, mod_int, fdiv_int, pow18, lt_int, le_int, gt_int, ge_int, tru_bl, tru_int, eq_int, ne_int, eq_str, ne_str, eq_bl, ne_bl, put_ref, putC_lst, ix0, ix1, ix2, ix3, len_lst, len_tup, len_frz, len_ref, lenC_lst, un1_one, tuple_lst, tuple_tup, list_lst, list_tup, slice_tup, slice_lst, it_tup, it_lst, cut_from1, Option.map_some, List.set_set, Nat.reduceLT, Int.reduceLT, if_true, Int.toNat_natCast, mul_mod, mulL, mulR, Int.reduceNeg]
  rw [e0]
  refine ⟨_, rfl, ?_⟩
  rw [← e0]
  refine comp_encF (e := fun p : Str × Nat => D.tup [.str p.1, .int p.2]) sg (fun p => decide (p.2 ≤ d)) (fun p => D.tup [.str p.1, .int p.2]) rfl gNone ?_ ?_
  · rintro ⟨a, k⟩ hp
    refine ⟨_, rfl, ?_, fun _ => ⟨rfl, rfl⟩⟩
    simp only [ok_ok, ok_no, ok_bind, ok_of_some, ok_var, ok_cst, ok_nil, ok_cons, ok_tup, ok_lst, ok_lstM, ok_op2, ok_op1, ok_blt, ok_listM, ok_chain, ok_and, ok_or, ok_not, ok_tval, ok_band, ok_bor, ok_bnot, ok_yes, ok_mif, ok_callM, ok_call, ok_lm, ok_optN, ok_optS, ok_slice, ok_ival, ok_range1, ok_range2, ok_zip, ok_sm, ok_addM, ok_get1, ok_get2, ok_comp, ok_compM, s_skip, s_seq, s_expr, s_asg, s_put, s_ret, s_retN, s_brk, s_cnt, s_if, s_for, s_while, List.map_cons, List.map_nil, List.cons_append, List.nil_append, List.replicate, List.getElem?_cons_zero, List.getElem?_cons_succ, List.set_cons_zero, List.set_cons_succ, Option.some.injEq, exists_eq_left', exists_eq_left, Nat.reduceSub, Nat.reduceAdd, Nat.reduceMul, wipeE, gNm, gNms, gTp, D.int.injEq, true_and, and_true, List.length_cons, List.length_nil, Option.bind_some, idx_ref, ixC_lst, idx_lst, idx_tup, idx_frz, at0, at1, at2, at3, add_int, sub_int, mod_int, fdiv_int, pow18, lt_int, le_int, gt_int, ge_int, tru_bl, tru_int, eq_int, ne_int, eq_str, ne_str, eq_bl, ne_bl, put_ref, putC_lst, ix0, ix1, ix2, ix3, len_lst, len_tup, len_frz, len_ref, lenC_lst, un1_one, tuple_lst, tuple_tup, list_lst, list_tup, slice_tup, slice_lst, it_tup, it_lst, cut_from1, Option.map_some, List.set_set, Nat.reduceLT, Int.reduceLT, if_true, Int.toNat_natCast, mul_mod, mulL, mulR, Int.reduceNeg]
    rw [Bool.eq_iff_iff]
    simp
  generalize hB : (sg.filter fun p => decide (p.2 ≤ d)) = some'
  have hbl : some'.length ≤ 6 := by
    rw [← hB]
    exact Nat.le_trans (List.length_filter_le _ _) hsh
  have hbm : ∀ p ∈ some', p ∈ sg ∧ p.2 ≤ d := fun p hp => by
    rw [← hB] at hp
    obtain ⟨h1, h2⟩ := List.mem_filter.mp hp
    exact ⟨h1, by simpa using h2⟩
  have hb0 : 0 < some'.length := by
    obtain ⟨p, hp, hk⟩ := hs.bare
    rw [← hB]
    exact List.length_pos_of_mem (List.mem_filter.mpr ⟨hp, by simp [hk]⟩)
  try simp only [ok_ok, ok_no, ok_bind, ok_of_some, ok_var, ok_cst, ok_nil, ok_cons, ok_tup, ok_lst, ok_lstM, ok_op2, ok_op1, ok_blt, ok_listM, ok_chain, ok_and, ok_or, ok_not, ok_tval, ok_band, ok_bor, ok_bnot, ok_yes, ok_mif, ok_callM, ok_call, ok_lm, ok_optN, ok_optS, ok_slice, ok_ival, ok_range1, ok_range2, ok_zip, ok_sm, ok_addM, ok_get1, ok_get2, ok_comp, ok_compM, s_skip, s_seq, s_expr, s_asg, s_put, s_ret, s_retN, s_brk, s_cnt, s_if, s_for, s_while, List.map_cons, List.map_nil, List.cons_append, List.nil_append, List.replicate, List.getElem?_cons_zero, List.getElem?_cons_succ, List.set_cons_zero, List.set_cons_succ, Option.some.injEq, exists_eq_left', exists_eq_left, Nat.reduceSub, Nat.reduceAdd, Nat.reduceMul, wipeE, gNm, gNms, gTp, D.int.injEq, true_and, and_true, List.length_cons, List.length_nil, Option.bind_some, idx_ref, ixC_lst, idx_lst, idx_tup, idx_frz, at0, at1, at2, at3, add_int, sub_int, mod_int, fdiv_int, pow18, lt_int, le_int, gt_int, ge_int, tru_bl, tru_int, eq_int, ne_int, eq_str, ne_str, eq_bl, ne_bl, put_ref, putC_lst, ix0, ix1, ix2, ix3, len_lst, len_tup, len_frz, len_ref, lenC_lst, un1_one, tuple_lst, tuple_tup, list_lst, list_tup, slice_tup, slice_lst, it_tup, it_lst, cut_from1, Option.map_some, List.set_set, Nat.reduceLT, Int.reduceLT, if_true, Int.toNat_natCast, mul_mod, mulL, mulR, Int.reduceNeg]
  rw [List.length_map]
  refine draw_call (g.fd hn) (by omega) (by omega) fun i S1 i0 i1 g1 => ?_
  have G1 := g.go hn g1
  obtain ⟨x, hx, _, hx2⟩ := at_get (xs := some'.map fun p => D.tup [.str p.1, .int p.2]) i0 (by simpa using i1)
  obtain ⟨⟨nm, ar⟩, hp', rfl⟩ := List.mem_map.mp hx
  obtain ⟨hp, hd0⟩ := hbm _ hp'
  have har : ar ≤ 3 := hs.one.le _ hp
  simp only at hd0
  try simp only [ok_ok, ok_no, ok_bind, ok_of_some, ok_var, ok_cst, ok_nil, ok_cons, ok_tup, ok_lst, ok_lstM, ok_op2, ok_op1, ok_blt, ok_listM, ok_chain, ok_and, ok_or, ok_not, ok_tval, ok_band, ok_bor, ok_bnot, ok_yes, ok_mif, ok_callM, ok_call, ok_lm, ok_optN, ok_optS, ok_slice, ok_ival, ok_range1, ok_range2, ok_zip, ok_sm, ok_addM, ok_get1, ok_get2, ok_comp, ok_compM, s_skip, s_seq, s_expr, s_asg, s_put, s_ret, s_retN, s_brk, s_cnt, s_if, s_for, s_while, List.map_cons, List.map_nil, List.cons_append, List.nil_append, List.replicate, List.getElem?_cons_zero, List.getElem?_cons_succ, List.set_cons_zero, List.set_cons_succ, Option.some.injEq, exists_eq_left', exists_eq_left, Nat.reduceSub, Nat.reduceAdd, Nat.reduceMul, wipeE, gNm, gNms, gTp, D.int.injEq, true_and, and_true, List.length_cons, List.length_nil, Option.bind_some, idx_ref, ixC_lst, idx_lst, idx_tup, idx_frz, at0, at1, at2, at3, add_int, sub_int, mod_int, fdiv_int, pow18, lt_int, le_int, gt_int, ge_int, tru_bl, tru_int, eq_int, ne_int, eq_str, ne_str, eq_bl, ne_bl, put_ref, putC_lst, ix0, ix1, ix2, ix3, len_lst, len_tup, len_frz, len_ref, lenC_lst, un1_one, tuple_lst, tuple_tup, list_lst, list_tup, slice_tup, slice_lst, it_tup, it_lst, cut_from1, Option.map_some, List.set_set, Nat.reduceLT, Int.reduceLT, if_true, Int.toNat_natCast, mul_mod, mulL, mulR, Int.reduceNeg, hx2]
  refine ⟨by unfold big; omega, ?_⟩
  have hus : 1 + ar * rsz (rcd d) ≤ rsz d ∧ (0 < ar → min (rcd d) 2 + 1 ≤ min d 2) := by
    match d, hd3 with
    | 0, _ => simp [rsz, rcd]; omega
    | 1, _ => simp [rsz, rcd]; omega
    | 2, _ => simp [rsz, rcd]; omega
    | 3, _ => simp [rsz, rcd]; omega
  refine comp_gen (e := fun k : Nat => D.int k) (List.range ar) (fun done ys S => ∃ ts : List Pt, ys = ts.map encT ∧ ts.length = done.length ∧ (∀ t ∈ ts, PatOf sg t ∧ hgt t ≤ min (rcd d) 2 + 1 ∧ ∀ s ∈ unks t, s ∈ seen) ∧ sizs ts ≤ ts.length * rsz (rcd d) ∧ Go n st S) rfl ⟨[], rfl, rfl, by simp, by simp [sizs], G1⟩ ?_ (fun _ _ _ _ => gNone) ?_
  · rintro q rest done ys S2 he ⟨ts, rfl, hl, hts, hsz, G2⟩
    have hda : done.length < ar := by
      have := congrArg List.length he
      simp at this
      omega
    refine ⟨_, rfl, ?_⟩
    simp only [ok_ok, ok_no, ok_bind, ok_of_some, ok_var, ok_cst, ok_nil, ok_cons, ok_tup, ok_lst, ok_lstM, ok_op2, ok_op1, ok_blt, ok_listM, ok_chain, ok_and, ok_or, ok_not, ok_tval, ok_band, ok_bor, ok_bnot, ok_yes, ok_mif, ok_callM, ok_call, ok_lm, ok_optN, ok_optS, ok_slice, ok_ival, ok_range1, ok_range2, ok_zip, ok_sm, ok_addM, ok_get1, ok_get2, ok_comp, ok_compM, s_skip, s_seq, s_expr, s_asg, s_put, s_ret, s_retN, s_brk, s_cnt, s_if, s_for, s_while, List.map_cons, List.map_nil, List.cons_append, List.nil_append, List.replicate, List.getElem?_cons_zero, List.getElem?_cons_succ, List.set_cons_zero, List.set_cons_succ, Option.some.injEq, exists_eq_left', exists_eq_left, Nat.reduceSub, Nat.reduceAdd, Nat.reduceMul, wipeE, gNm, gNms, gTp, D.int.injEq, true_and, and_true, List.length_cons, List.length_nil, Option.bind_some, idx_ref, ixC_lst, idx_lst, idx_tup, idx_frz, at0, at1, at2, at3, add_int, sub_int, mod_int, fdiv_int, pow18, lt_int, le_int, gt_int, ge_int, tru_bl, tru_int, eq_int, ne_int, eq_str, ne_str, eq_bl, ne_bl, put_ref, putC_lst, ix0, ix1, ix2, ix3, len_lst, len_tup, len_frz, len_ref, lenC_lst, un1_one, tuple_lst, tuple_tup, list_lst, list_tup, slice_tup, slice_lst, it_tup, it_lst, cut_from1, Option.map_some, List.set_set, Nat.reduceLT, Int.reduceLT, if_true, Int.toNat_natCast, mul_mod, mulL, mulR, Int.reduceNeg, min_ints]
    rw [show (if (1 : Int) < (d : Int) - 1 then (1 : Int) else (d : Int) - 1) = ((rcd d : Nat) : Int) by unfold rcd; split <;> split <;> omega]
    refine ok_ice_val ((ih (by omega) S2 (G2.fd hn) (by rw [G2.old hml (Ne.symm hnm)]; exact hm)).mono ?_)
    rintro _ S3 ⟨t, rfl, h1, h2, h3, h4, G3⟩
    refine ⟨isRef_T t, ts ++ [t], by simp, by simp [hl], fun u hu => ?_, ?_, G2.go hn G3⟩
    · rcases List.mem_append.mp hu with z | z
      · exact hts u z
      · rw [List.mem_singleton.mp z]; exact ⟨h1, h2, h4⟩
    · rw [sizs_sum, List.map_append, List.sum_append, ← sizs_sum, List.length_append, List.length_singleton, Nat.add_mul]
      simp
      omega
  · rintro ys S2 ⟨ts, rfl, hl, hts, hsz, G2⟩
    have hl' : ts.length = ar := by simpa using hl
    try simp only [ok_ok, ok_no, ok_bind, ok_of_some, ok_var, ok_cst, ok_nil, ok_cons, ok_tup, ok_lst, ok_lstM, ok_op2, ok_op1, ok_blt, ok_listM, ok_chain, ok_and, ok_or, ok_not, ok_tval, ok_band, ok_bor, ok_bnot, ok_yes, ok_mif, ok_callM, ok_call, ok_lm, ok_optN, ok_optS, ok_slice, ok_ival, ok_range1, ok_range2, ok_zip, ok_sm, ok_addM, ok_get1, ok_get2, ok_comp, ok_compM, s_skip, s_seq, s_expr, s_asg, s_put, s_ret, s_retN, s_brk, s_cnt, s_if, s_for, s_while, List.map_cons, List.map_nil, List.cons_append, List.nil_append, List.replicate, List.getElem?_cons_zero, List.getElem?_cons_succ, List.set_cons_zero, List.set_cons_succ, Option.some.injEq, exists_eq_left', exists_eq_left, Nat.reduceSub, Nat.reduceAdd, Nat.reduceMul, wipeE, gNm, gNms, gTp, D.int.injEq, true_and, and_true, List.length_cons, List.length_nil, Option.bind_some, idx_ref, ixC_lst, idx_lst, idx_tup, idx_frz, at0, at1, at2, at3, add_int, sub_int, mod_int, fdiv_int, pow18, lt_int, le_int, gt_int, ge_int, tru_bl, tru_int, eq_int, ne_int, eq_str, ne_str, eq_bl, ne_bl, put_ref, putC_lst, ix0, ix1, ix2, ix3, len_lst, len_tup, len_frz, len_ref, lenC_lst, un1_one, tuple_lst, tuple_tup, list_lst, list_tup, slice_tup, slice_lst, it_tup, it_lst, cut_from1, Option.map_some, List.set_set, Nat.reduceLT, Int.reduceLT, if_true, Int.toNat_natCast, mul_mod, mulL, mulR, Int.reduceNeg]
    rw [add_tup (by simp; unfold big; omega)]
    have ee : D.tup (.str nm :: ts.map encT) = encT (.nd nm ts) := encT_nd.symm
    refine ⟨_, rfl, Fr.ok fcB G2 ?_ fun S' G' => ⟨.nd nm ts, ee, .nd (by rw [hl']; exact hp) fun t ht => (hts t ht).1, ?_, ?_, ?_, G'⟩⟩
    · show bel _ (D.tup (.str nm :: ts.map encT)) = true
      rw [ee]; exact bel_T _
    · rw [hgt]
      rcases Nat.eq_zero_or_pos ar with z | z
      · obtain rfl : ts = [] := List.eq_nil_of_length_eq_zero (by omega)
        simp [hgts]
      · have := (hgts_le (ts := ts) (n := min d 2)).mpr fun t ht => by
          have := (hts t ht).2.1
          have := hus.2 z
          omega
        omega
    · rw [siz]
      rw [hl'] at hsz
      omega
    · rw [unks]
      intro s hs'
      obtain ⟨t, ht, h1⟩ := unkss_mem.mp hs'
      exact (hts t ht).2.2 s h1
theorem right_ok {n m : Nat} {sg : Sg} {seen : List Str} (hs : Sgn sg) (hnm : n ≠ m) (hsn : ∀ s ∈ seen, unkS s = true) (hsc : seen.length ≤ 12) (d j : Nat) (st : St) (hd3 : d ≤ 3) (h : Fd FC n st) (hm : st[m]? = some (.lst (seen.map D.str))) : Ok (CC (d + j + 2) "_law_right" [.ref n, encS sg, .int d, .ref m] st) (PostR sg n seen d st) := by
  have r0 : ∀ (j : Nat) (st : St), Fd FC n st → st[m]? = some (.lst (seen.map D.str)) → Ok (CC (0 + j + 2) "_law_right" [.ref n, encS sg, .int (0 : Nat), .ref m] st) (PostR sg n seen 0 st) := fun j st h hm => right_go hs hnm hsn hsc 0 j st (by omega) h hm fun h => by omega
  have r1 : ∀ (j : Nat) (st : St), Fd FC n st → st[m]? = some (.lst (seen.map D.str)) → Ok (CC (1 + j + 2) "_law_right" [.ref n, encS sg, .int (1 : Nat), .ref m] st) (PostR sg n seen 1 st) := fun j st h hm => right_go hs hnm hsn hsc 1 j st (by omega) h hm fun _ st h hm => by
    rw [show 1 + j + 1 = 0 + j + 2 by omega]
    exact r0 j st h hm
  match d, hd3 with
  | 0, _ => exact r0 j st h hm
  | 1, _ => exact r1 j st h hm
  | 2, _ => exact right_go hs hnm hsn hsc 2 j st (by omega) h hm fun _ st h hm => (show 2 + j + 1 = 1 + j + 2 by omega) ▸ r1 j st h hm
  | 3, _ => exact right_go hs hnm hsn hsc 3 j st (by omega) h hm fun _ st h hm => (show 3 + j + 1 = 1 + (j + 1) + 2 by omega) ▸ r1 (j + 1) st h hm
abbrev Rl := Str × Pt × Pt
def encRl (q : Rl) : D := .tup [.str q.1, encT q.2.1, encT q.2.2]
def rnames : List Str := ["r", "f", "ra", "a", "use", "s"]
def rname (a : Int) (k : Nat) : Str := (rnames[((a + k) % 6).toNat]?).getD ""
theorem rnames_nd {a : Int} (a0 : 0 ≤ a) (a1 : a < 6) {m : Nat} (hm : m ≤ 6) : ((List.range m).map (rname a)).Nodup := by
  have all : ∀ a : Fin 6, ∀ m : Fin 7, ((List.range m.val).map (rname (a.val : Int))).Nodup := by decide +kernel
  have := all ⟨a.toNat, by omega⟩ ⟨m, by omega⟩
  simpa [Int.toNat_of_nonneg a0] using this
theorem rnames_name {z : Str} (h : z ∈ rnames) : nameB z = true ∧ z.length ≤ 9 := by
  have : ∀ z ∈ rnames, nameB z = true ∧ z.length ≤ 9 := by decide +kernel
  exact this z h
structure RlOk (sg : Sg) (q : Rl) : Prop where
  ru : RuleP sg q.1 q.2.1 q.2.2
  hl : hgt q.2.1 ≤ 3
  hr : hgt q.2.2 ≤ 3
  sl : siz q.2.1 ≤ 7
  sr : siz q.2.2 ≤ 7
  ln : q.1.length ≤ 9
theorem bel_Rl {m : Nat} (q : Rl) : bel m (encRl q) = true := by
  unfold encRl
  rw [bel, bels, bels, bels, bels, bel_T, bel_T]
  rfl
theorem rules_ok {n j mo : Nat} {sg : Sg} (hs : Sgn sg) {st : St} (h : Fd FC n st) (hm1 : 1 ≤ mo) (hm6 : mo ≤ 6) : Ok (CC (j + 8) "_law_rules" [.ref n, encS sg, .int mo] st) fun r st' => ∃ rs : List Rl, r = .tup (rs.map encRl) ∧ 1 ≤ rs.length ∧ rs.length ≤ mo ∧ (rs.map (·.1)).Nodup ∧ (∀ q ∈ rs, RlOk sg q) ∧ Go n st st' := by
  have hn := h.lt
  rw [r__law_rules]
  refine ok_fn rfl ?_
  unfold b__law_rules
  try simp only [ok_ok, ok_no, ok_bind, ok_of_some, ok_var, ok_cst, ok_nil, ok_cons, ok_tup, ok_lst, ok_lstM, ok_op2, ok_op1, ok_blt, ok_listM, ok_chain, ok_and, ok_or, ok_not, ok_tval, ok_band, ok_bor, ok_bnot, ok_yes, ok_mif, ok_callM, ok_call, ok_lm, ok_optN, ok_optS, ok_slice, ok_ival, ok_range1, ok_range2, ok_zip, ok_sm, ok_addM, ok_get1, ok_get2, ok_comp, ok_compM, s_skip, s_seq, s_expr, s_asg, s_put, s_ret, s_retN, s_brk, s_cnt, s_if, s_for, s_while, List.map_cons, List.map_nil, List.cons_append, List.nil_append, List.replicate, List.getElem?_cons_zero, List.getElem?_cons_succ, List.set_cons_zero, List.set_cons_succ, Option.some.injEq, exists_eq_left', exists_eq_left, Nat.reduceSub, Nat.reduceAdd, Nat.reduceMul, wipeE, gNm, gNms, gTp, D.int.injEq, true_and, and_true, List.length_cons, List.length_nil, Option.bind_some, idx_ref, ixC_lst, idx_lst, idx_tup, idx_frz, at0, at1, at2, at3, add_int, sub_int, mod_int, fdiv_int, pow18, lt_int, le_int, gt_int, ge_int, tru_bl, tru_int, eq_int, ne_int, eq_str, ne_str, eq_bl, ne_bl, put_ref, putC_lst, ix0, ix1, ix2, ix3, len_lst, len_tup, len_frz, len_ref, lenC_lst, un1_one, tuple_lst, tuple_tup, list_lst, list_tup, slice_tup, slice_lst, it_tup, it_lst, cut_from1, Option.map_some, List.set_set, Nat.reduceLT, Int.reduceLT, if_true, Int.toNat_natCast, mul_mod, mulL, mulR, Int.reduceNeg]
  have P0 : Fr FC n st [.lst []] (st ++ [.lst []]) := (Fr.refl h).push _
  have F0 := P0.fd hn
  refine draw_call F0 (by decide) (by decide) fun a S1 a0 a1 g1 => ?_
  have P1 := P0.go hn g1
  try simp only [ok_ok, ok_no, ok_bind, ok_of_some, ok_var, ok_cst, ok_nil, ok_cons, ok_tup, ok_lst, ok_lstM, ok_op2, ok_op1, ok_blt, ok_listM, ok_chain, ok_and, ok_or, ok_not, ok_tval, ok_band, ok_bor, ok_bnot, ok_yes, ok_mif, ok_callM, ok_call, ok_lm, ok_optN, ok_optS, ok_slice, ok_ival, ok_range1, ok_range2, ok_zip, ok_sm, ok_addM, ok_get1, ok_get2, ok_comp, ok_compM, s_skip, s_seq, s_expr, s_asg, s_put, s_ret, s_retN, s_brk, s_cnt, s_if, s_for, s_while, List.map_cons, List.map_nil, List.cons_append, List.nil_append, List.replicate, List.getElem?_cons_zero, List.getElem?_cons_succ, List.set_cons_zero, List.set_cons_succ, Option.some.injEq, exists_eq_left', exists_eq_left, Nat.reduceSub, Nat.reduceAdd, Nat.reduceMul, wipeE, gNm, gNms, gTp, D.int.injEq, true_and, and_true, List.length_cons, List.length_nil, Option.bind_some, idx_ref, ixC_lst, idx_lst, idx_tup, idx_frz, at0, at1, at2, at3, add_int, sub_int, mod_int, fdiv_int, pow18, lt_int, le_int, gt_int, ge_int, tru_bl, tru_int, eq_int, ne_int, eq_str, ne_str, eq_bl, ne_bl, put_ref, putC_lst, ix0, ix1, ix2, ix3, len_lst, len_tup, len_frz, len_ref, lenC_lst, un1_one, tuple_lst, tuple_tup, list_lst, list_tup, slice_tup, slice_lst, it_tup, it_lst, cut_from1, Option.map_some, List.set_set, Nat.reduceLT, Int.reduceLT, if_true, Int.toNat_natCast, mul_mod, mulL, mulR, Int.reduceNeg]
  refine draw_call (P1.fd hn) (by omega) (by omega) fun b S2 b0 b1 g2 => ?_
  have P2 := P1.go hn g2
  obtain ⟨mm, rfl⟩ := Int.eq_ofNat_of_zero_le b0
  simp only [List.map_cons, List.map_nil, List.cons_append, List.nil_append, List.replicate, List.getElem?_cons_zero, List.getElem?_cons_succ, List.set_cons_zero, List.set_cons_succ, Option.some.injEq, exists_eq_left', exists_eq_left, Nat.reduceSub, Nat.reduceAdd, Nat.reduceMul, wipeE, gNm, gNms, gTp, D.int.injEq, true_and, and_true, List.length_cons, List.length_nil, Option.bind_some, idx_ref, ixC_lst, idx_lst, idx_tup, idx_frz, at0, at1, at2, at3, add_int, sub_int, mod_int, fdiv_int, pow18, lt_int, le_int, gt_int, ge_int, tru_bl, tru_int, eq_int, ne_int, eq_str, ne_str, eq_bl, ne_bl, put_ref, putC_lst, ix0, ix1, ix2, ix3, len_lst, len_tup, len_frz, len_ref, lenC_lst, un1_one, tuple_lst, tuple_tup, list_lst, list_tup, slice_tup, slice_lst, it_tup, it_lst, cut_from1, Option.map_some, List.set_set, Nat.reduceLT, Int.reduceLT, if_true, Int.toNat_natCast, mul_mod, mulL, mulR, Int.reduceNeg]
  rw [show 1 + (mm : Int) = ((mm + 1 : Nat) : Int) by omega]
  refine ⟨by unfold big; omega, ?_⟩
  simp only [Int.toNat_natCast]
  have en : ∀ l : List D, l = rnames.map D.str → l = rnames.map D.str := fun _ h => h
  refine for_gen (e := fun k : Nat => D.int k) (List.range (mm + 1)) (fun done env S => ∃ (rs : List Rl) (rest : St) (x6 x7 x8 x9 : Option D), env = [some (.ref n), some (encS sg), some (.int mo), some (.ref st.length), some (.lst (rnames.map D.str)), some (.int a), x6, x7, x8, x9] ∧ rs.map (·.1) = done.map (rname a) ∧ (∀ q ∈ rs, RlOk sg q) ∧ Fr FC n st (.lst (rs.map encRl) :: rest) S) rfl ⟨[], [], _, _, _, _, rfl, rfl, by simp, P2⟩ ?_ (fun _ _ _ _ => gNone) ?_
  · rintro q rst done env S he ⟨rs, rest, x6, x7, x8, x9, rfl, hnm, hrs, P⟩
    have hdl : done.length ≤ mm := by
      have := congrArg List.length he
      simp at this
      omega
    have hrl : rs.length ≤ 6 := by
      have := congrArg List.length hnm
      simp at this
      omega
    have hlen := P.len
    have Q1 := P.push (.lst [])
    have hm1 : (S ++ [Cell.lst []])[S.length]? = some (.lst []) := at_new
    have hnS : n ≠ S.length := by omega
    try simp only [ok_ok, ok_no, ok_bind, ok_of_some, ok_var, ok_cst, ok_nil, ok_cons, ok_tup, ok_lst, ok_lstM, ok_op2, ok_op1, ok_blt, ok_listM, ok_chain, ok_and, ok_or, ok_not, ok_tval, ok_band, ok_bor, ok_bnot, ok_yes, ok_mif, ok_callM, ok_call, ok_lm, ok_optN, ok_optS, ok_slice, ok_ival, ok_range1, ok_range2, ok_zip, ok_sm, ok_addM, ok_get1, ok_get2, ok_comp, ok_compM, s_skip, s_seq, s_expr, s_asg, s_put, s_ret, s_retN, s_brk, s_cnt, s_if, s_for, s_while, List.map_cons, List.map_nil, List.cons_append, List.nil_append, List.replicate, List.getElem?_cons_zero, List.getElem?_cons_succ, List.set_cons_zero, List.set_cons_succ, Option.some.injEq, exists_eq_left', exists_eq_left, Nat.reduceSub, Nat.reduceAdd, Nat.reduceMul, wipeE, gNm, gNms, gTp, D.int.injEq, true_and, and_true, List.length_cons, List.length_nil, Option.bind_some, idx_ref, ixC_lst, idx_lst, idx_tup, idx_frz, at0, at1, at2, at3, add_int, sub_int, mod_int, fdiv_int, pow18, lt_int, le_int, gt_int, ge_int, tru_bl, tru_int, eq_int, ne_int, eq_str, ne_str, eq_bl, ne_bl, put_ref, putC_lst, ix0, ix1, ix2, ix3, len_lst, len_tup, len_frz, len_ref, lenC_lst, un1_one, tuple_lst, tuple_tup, list_lst, list_tup, slice_tup, slice_lst, it_tup, it_lst, cut_from1, Option.map_some, List.set_set, Nat.reduceLT, Int.reduceLT, if_true, Int.toNat_natCast, mul_mod, mulL, mulR, Int.reduceNeg]
    generalize hS1 : S ++ [Cell.lst []] = S1' at Q1 hm1 ⊢
    have hl1 : S1'.length = S.length + 1 := by rw [← hS1]; simp
    rw [show j + 7 = 2 + (j + 3) + 2 by omega]
    refine ok_ice_val ((left_ok hs hnS 2 (j + 3) 0 S1' (by omega) (Q1.fd hn) hm1 (by decide)).mono ?_)
    rintro _ S3 ⟨tl, rfl, pl, hl2, sl, ul, ue, hnd, G⟩
    refine ⟨isRef_T tl, ?_⟩
    have hc3 := G.cell (by omega)
    have useen : unks tl = pool12.take (unks tl).length := by simpa using ue
    unfold seenC at hc3
    rw [Nat.zero_add, ← useen] at hc3
    have Q3 : Fr FC n st (.lst (rs.map encRl) :: rest ++ [.lst ((unks tl).map D.str)]) S3 := by
      obtain ⟨c, hc, rfl⟩ := G
      have g' : Go n S1' (S1'.set n c) := ⟨c, hc, by simp⟩
      have := (Q1.go hn g').put (Cell.lst (rs.map encRl) :: rest).length (.lst ((unks tl).map D.str))
      rw [← hlen] at this
      unfold seenC
      rw [Nat.zero_add, ← useen]
      have e2 : ((Cell.lst (rs.map encRl) :: rest) ++ [Cell.lst []]).set (Cell.lst (rs.map encRl) :: rest).length (.lst ((unks tl).map D.str)) = (Cell.lst (rs.map encRl) :: rest) ++ [.lst ((unks tl).map D.str)] := set_new
      rw [e2] at this
      exact this
    rw [show 2 + (j + 3) + 2 = j + 7 by omega]
    try simp only [ok_ok, ok_no, ok_bind, ok_of_some, ok_var, ok_cst, ok_nil, ok_cons, ok_tup, ok_lst, ok_lstM, ok_op2, ok_op1, ok_blt, ok_listM, ok_chain, ok_and, ok_or, ok_not, ok_tval, ok_band, ok_bor, ok_bnot, ok_yes, ok_mif, ok_callM, ok_call, ok_lm, ok_optN, ok_optS, ok_slice, ok_ival, ok_range1, ok_range2, ok_zip, ok_sm, ok_addM, ok_get1, ok_get2, ok_comp, ok_compM, s_skip, s_seq, s_expr, s_asg, s_put, s_ret, s_retN, s_brk, s_cnt, s_if, s_for, s_while, List.map_cons, List.map_nil, List.cons_append, List.nil_append, List.replicate, List.getElem?_cons_zero, List.getElem?_cons_succ, List.set_cons_zero, List.set_cons_succ, Option.some.injEq, exists_eq_left', exists_eq_left, Nat.reduceSub, Nat.reduceAdd, Nat.reduceMul, wipeE, gNm, gNms, gTp, D.int.injEq, true_and, and_true, List.length_cons, List.length_nil, Option.bind_some, idx_ref, ixC_lst, idx_lst, idx_tup, idx_frz, at0, at1, at2, at3, add_int, sub_int, mod_int, fdiv_int, pow18, lt_int, le_int, gt_int, ge_int, tru_bl, tru_int, eq_int, ne_int, eq_str, ne_str, eq_bl, ne_bl, put_ref, putC_lst, ix0, ix1, ix2, ix3, len_lst, len_tup, len_frz, len_ref, lenC_lst, un1_one, tuple_lst, tuple_tup, list_lst, list_tup, slice_tup, slice_lst, it_tup, it_lst, cut_from1, Option.map_some, List.set_set, Nat.reduceLT, Int.reduceLT, if_true, Int.toNat_natCast, mul_mod, mulL, mulR, Int.reduceNeg]
    refine draw_call (Q3.fd hn) (by decide) (by decide) fun r S4 r0 r1 g4 => ?_
    have Q4 := Q3.go hn g4
    have hc4 : S4[S.length]? = some (.lst ((unks tl).map D.str)) := by rw [g4.old (by rw [G.len]; omega) (Ne.symm hnS)]; exact hc3
    obtain ⟨d, rfl⟩ := Int.eq_ofNat_of_zero_le r0
    have hd3 : d ≤ 3 := by omega
    have ed : L2.atI [D.int 0, .int 1, .int 2, .int 3] (d : Int) = some (.int d) := by
      rw [at_nat]
      match d, hd3 with
      | 0, _ => rfl
      | 1, _ => rfl
      | 2, _ => rfl
      | 3, _ => rfl
    simp only [List.map_cons, List.map_nil, List.cons_append, List.nil_append, List.replicate, List.getElem?_cons_zero, List.getElem?_cons_succ, List.set_cons_zero, List.set_cons_succ, Option.some.injEq, exists_eq_left', exists_eq_left, Nat.reduceSub, Nat.reduceAdd, Nat.reduceMul, wipeE, gNm, gNms, gTp, D.int.injEq, true_and, and_true, List.length_cons, List.length_nil, Option.bind_some, idx_ref, ixC_lst, idx_lst, idx_tup, idx_frz, at0, at1, at2, at3, add_int, sub_int, mod_int, fdiv_int, pow18, lt_int, le_int, gt_int, ge_int, tru_bl, tru_int, eq_int, ne_int, eq_str, ne_str, eq_bl, ne_bl, put_ref, putC_lst, ix0, ix1, ix2, ix3, len_lst, len_tup, len_frz, len_ref, lenC_lst, un1_one, tuple_lst, tuple_tup, list_lst, list_tup, slice_tup, slice_lst, it_tup, it_lst, cut_from1, Option.map_some, List.set_set, Nat.reduceLT, Int.reduceLT, if_true, Int.toNat_natCast, mul_mod, mulL, mulR, Int.reduceNeg, ed]
    rw [show j + 7 = d + (j + 5 - d) + 2 by omega]
    have hus : (unks tl).length ≤ 3 := ul
    refine ok_ice_val ((right_ok hs hnS (fun s hs' => (pool12_unk (List.mem_of_mem_take (by rw [← useen]; exact hs'))).1) (by omega) d (j + 5 - d) S4 hd3 (Q4.fd hn) hc4).mono ?_)
    rintro _ S5 ⟨tr, rfl, pr, hr2, sr, sub, g5⟩
    refine ⟨isRef_T tr, ?_⟩
    have Q5 := Q4.go hn g5
    have hc5 : S5[st.length]? = some (.lst (rs.map encRl)) := by
      have := Q5.at 0
      simpa using this
    obtain ⟨z, hz, hz3, hz2⟩ := at_get (xs := rnames) (r := (a + q) % 6) (Int.emod_nonneg _ (by decide)) (Int.emod_lt_of_pos _ (by decide))
    have ez : L2.atI (rnames.map D.str) ((a + q) % 6) = some (.str z) := by
      obtain ⟨w, hw⟩ := Int.eq_ofNat_of_zero_le (Int.emod_nonneg (a + q) (by decide : (6 : Int) ≠ 0))
      rw [hw, at_nat] at hz2 ⊢
      simp [hz2]
    have ezn : rname a q = z := by unfold rname; rw [hz3]; rfl
    simp only [List.map_cons, List.map_nil, List.cons_append, List.nil_append, List.replicate, List.getElem?_cons_zero, List.getElem?_cons_succ, List.set_cons_zero, List.set_cons_succ, Option.some.injEq, exists_eq_left', exists_eq_left, Nat.reduceSub, Nat.reduceAdd, Nat.reduceMul, wipeE, gNm, gNms, gTp, D.int.injEq, true_and, and_true, List.length_cons, List.length_nil, Option.bind_some, idx_ref, ixC_lst, idx_lst, idx_tup, idx_frz, at0, at1, at2, at3, add_int, sub_int, mod_int, fdiv_int, pow18, lt_int, le_int, gt_int, ge_int, tru_bl, tru_int, eq_int, ne_int, eq_str, ne_str, eq_bl, ne_bl, put_ref, putC_lst, ix0, ix1, ix2, ix3, len_lst, len_tup, len_frz, len_ref, lenC_lst, un1_one, tuple_lst, tuple_tup, list_lst, list_tup, slice_tup, slice_lst, it_tup, it_lst, cut_from1, Option.map_some, List.set_set, Nat.reduceLT, Int.reduceLT, if_true, Int.toNat_natCast, mul_mod, mulL, mulR, Int.reduceNeg, ez]
    refine ⟨isL_ref hc5, _, _, append_ref hc5 (by simp; unfold big; omega), rs ++ [(z, tl, tr)], rest ++ [.lst ((unks tl).map D.str)], _, _, _, _, rfl, ?_, ?_, ?_⟩
    · rw [List.map_append, List.map_append, hnm]
      simp [ezn]
    · intro p hp
      rcases List.mem_append.mp hp with w | w
      · exact hrs p w
      · rw [List.mem_singleton.mp w]
        have hsr : rsz d ≤ 7 := by unfold rsz; split <;> omega
        exact ⟨⟨(rnames_name hz).1, pl, pr, hnd rfl, Nat.le_trans sl (by decide), Nat.le_trans sr (Nat.le_trans hsr (by decide)), by rw [useen]; exact pool12_nd.sublist (List.take_sublist _ _), sub⟩, by simp only; omega, by simp only; omega, sl, by simp only; omega, (rnames_name hz).2⟩
    · have := Q5.put 0 (.lst (rs.map encRl ++ [encRl (z, tl, tr)]))
      rw [Nat.add_zero] at this
      rw [List.map_append]
      exact this
  · rintro env S ⟨rs, rest, x6, x7, x8, x9, rfl, hnm, hrs, P⟩
    have hc : S[st.length]? = some (.lst (rs.map encRl)) := by
      have := P.at 0
      simpa using this
    have et : tupleD S (.ref st.length) = some (.tup (rs.map encRl)) := by
      unfold tupleD
      rw [see_cell hc]
    have hlr : rs.length = mm + 1 := by
      have := congrArg List.length hnm
      simpa using this
    simp only [ok_ok, ok_no, ok_bind, ok_of_some, ok_var, ok_cst, ok_nil, ok_cons, ok_tup, ok_lst, ok_lstM, ok_op2, ok_op1, ok_blt, ok_listM, ok_chain, ok_and, ok_or, ok_not, ok_tval, ok_band, ok_bor, ok_bnot, ok_yes, ok_mif, ok_callM, ok_call, ok_lm, ok_optN, ok_optS, ok_slice, ok_ival, ok_range1, ok_range2, ok_zip, ok_sm, ok_addM, ok_get1, ok_get2, ok_comp, ok_compM, s_skip, s_seq, s_expr, s_asg, s_put, s_ret, s_retN, s_brk, s_cnt, s_if, s_for, s_while, List.map_cons, List.map_nil, List.cons_append, List.nil_append, List.replicate, List.getElem?_cons_zero, List.getElem?_cons_succ, List.set_cons_zero, List.set_cons_succ, Option.some.injEq, exists_eq_left', exists_eq_left, Nat.reduceSub, Nat.reduceAdd, Nat.reduceMul, wipeE, gNm, gNms, gTp, D.int.injEq, true_and, and_true, List.length_cons, List.length_nil, Option.bind_some, idx_ref, ixC_lst, idx_lst, idx_tup, idx_frz, at0, at1, at2, at3, add_int, sub_int, mod_int, fdiv_int, pow18, lt_int, le_int, gt_int, ge_int, tru_bl, tru_int, eq_int, ne_int, eq_str, ne_str, eq_bl, ne_bl, put_ref, putC_lst, ix0, ix1, ix2, ix3, len_lst, len_tup, len_frz, len_ref, lenC_lst, un1_one, tuple_lst, tuple_tup, list_lst, list_tup, slice_tup, slice_lst, it_tup, it_lst, cut_from1, Option.map_some, List.set_set, Nat.reduceLT, Int.reduceLT, if_true, Int.toNat_natCast, mul_mod, mulL, mulR, Int.reduceNeg, et]
    refine Fr.ok fcB P ?_ fun S' g' => ⟨rs, rfl, by omega, by omega, by rw [hnm]; exact rnames_nd a0 a1 (by omega), hrs, g'⟩
    rw [bel, bels_iff]
    intro x hx
    obtain ⟨q, _, rfl⟩ := List.mem_map.mp hx
    exact bel_Rl q
end RP
end
section
set_option Elab.async false
set_option linter.all false
set_option maxRecDepth 100000
set_option maxHeartbeats 1000000
namespace RP
open PySem
def PostP (ns os : List Str) (n s : Nat) (st : St) (r : D) (st' : St) : Prop := ∃ t, r = encT t ∧ PlanOk ns os t ∧ ths t ≤ s ∧ Go n st st'
theorem plan_ok {n : Nat} {ns os : List Str} (hns : ns.length ≤ 900) (hos : os.length ≤ 900) : ∀ (s j : Nat) (st : St), 1 ≤ s → s ≤ 900 → Fd FC n st → Ok (CC (s + j + 2) "_law_plan" [.ref n, .lst (ns.map D.str), .int s, .lst (os.map D.str)] st) (PostP ns os n s st) := by
  intro s
  induction s using Nat.strongRecOn with
  | ind s ih =>
  intro j st h1 h9 h
  have hn := h.lt
  have call : ∀ (s' : Nat) (S : St) (Q : D → St → Prop), 1 ≤ s' → s' < s → Fd FC n S → (∀ t S', PlanOk ns os t → ths t ≤ s' → Go n S S' → Q (encT t) S') → Ok (ice S (CC (s + j + 1) "_law_plan" [.ref n, .lst (ns.map D.str), .int s', .lst (os.map D.str)] S)) Q := fun s' S Q a b hF q => by
    rw [show s + j + 1 = s' + (s - 1 - s' + j) + 2 by omega]
    refine ok_ice_val ((ih s' b _ S a (by omega) hF).mono ?_)
    rintro _ S' ⟨t, rfl, p, k, g⟩
    exact ⟨isRef_T t, q t S' p k g⟩
  have fin : ∀ (t : Pt) (S : St), PlanOk ns os t → ths t ≤ s → Go n st S → Ok (gc st (encT t) S) (PostP ns os n s st) := fun t S hp ht g => Fr.ok fcB g (bel_T t) fun S' g' => ⟨t, rfl, hp, ht, g'⟩
  have e1 : D.tup [.str "stay"] = encT (.nd "stay" []) := by rw [encT_nd]; rfl
  have e2 : D.tup [.str "never"] = encT (.nd "never" []) := by rw [encT_nd]; rfl
  have e3 : ∀ w x : Str, D.tup [.str w, .str x] = encT (.nd w [.unk x]) := fun w x => by rw [encT_nd, List.map_singleton, encT_unk]
  have e4 : ∀ (w : Str) (p : Pt), D.tup [.str w, encT p] = encT (.nd w [p]) := fun w p => by rw [encT_nd]; rfl
  have e5 : ∀ (w : Str) (p q : Pt), D.tup [.str w, encT p, encT q] = encT (.nd w [p, q]) := fun w p q => by rw [encT_nd]; rfl
  rw [show s + j + 2 = (s + j + 1) + 1 by omega, r__law_plan]
  refine ok_fn rfl ?_
  unfold b__law_plan
  dsimp only
  refine seq_mid (a := sIf _ _ _) (fun e S => e = [some (.ref n), some (.lst (ns.map D.str)), some (.int s), some (.lst (os.map D.str)), none, none, none, none] ∧ Go n st S ∧ 2 ≤ s) ?_ ?_
  · refine if_mid (fun b S => Go n st S ∧ (b = false → 2 ≤ s)) ?_ ?_ ?_
    · try simp only [ok_ok, ok_no, ok_bind, ok_of_some, ok_var, ok_cst, ok_nil, ok_cons, ok_tup, ok_lst, ok_lstM, ok_op2, ok_op1, ok_blt, ok_listM, ok_chain, ok_and, ok_or, ok_not, ok_tval, ok_band, ok_bor, ok_bnot, ok_yes, ok_mif, ok_callM, ok_call, ok_lm, ok_optN, ok_optS, ok_slice, ok_ival, ok_range1, ok_range2, ok_zip, ok_sm, ok_addM, ok_get1, ok_get2, ok_comp, ok_compM, s_skip, s_seq, s_expr, s_asg, s_put, s_ret, s_retN, s_brk, s_cnt, s_if, s_for, s_while, List.map_cons, List.map_nil, List.cons_append, List.nil_append, List.replicate, List.getElem?_cons_zero, List.getElem?_cons_succ, List.set_cons_zero, List.set_cons_succ, Option.some.injEq, exists_eq_left', exists_eq_left, Nat.reduceSub, Nat.reduceAdd, Nat.reduceMul, wipeE, gNm, gNms, gTp, D.int.injEq, true_and, and_true, List.length_cons, List.length_nil, Option.bind_some, idx_ref, ixC_lst, idx_lst, idx_tup, idx_frz, at0, at1, at2, at3, add_int, sub_int, mod_int, fdiv_int, pow18, lt_int, le_int, gt_int, ge_int, tru_bl, tru_int, eq_int, ne_int, eq_str, ne_str, eq_bl, ne_bl, put_ref, putC_lst, ix0, ix1, ix2, ix3, len_lst, len_tup, len_frz, len_ref, lenC_lst, un1_one, tuple_lst, tuple_tup, list_lst, list_tup, slice_tup, slice_lst, it_tup, it_lst, cut_from1, Option.map_some, List.set_set, Nat.reduceLT, Int.reduceLT, if_true, Int.toNat_natCast, mul_mod, mulL, mulR, Int.reduceNeg]
      by_cases hs : s < 2
      · rw [if_pos (by simp; omega)]
        exact ⟨Fr.refl h, by simp⟩
      · rw [if_neg (by simp; omega)]
        refine draw_call h (by decide) (by decide) fun r S r0 r1 g => ?_
        try simp only [ok_ok, ok_no, ok_bind, ok_of_some, ok_var, ok_cst, ok_nil, ok_cons, ok_tup, ok_lst, ok_lstM, ok_op2, ok_op1, ok_blt, ok_listM, ok_chain, ok_and, ok_or, ok_not, ok_tval, ok_band, ok_bor, ok_bnot, ok_yes, ok_mif, ok_callM, ok_call, ok_lm, ok_optN, ok_optS, ok_slice, ok_ival, ok_range1, ok_range2, ok_zip, ok_sm, ok_addM, ok_get1, ok_get2, ok_comp, ok_compM, s_skip, s_seq, s_expr, s_asg, s_put, s_ret, s_retN, s_brk, s_cnt, s_if, s_for, s_while, List.map_cons, List.map_nil, List.cons_append, List.nil_append, List.replicate, List.getElem?_cons_zero, List.getElem?_cons_succ, List.set_cons_zero, List.set_cons_succ, Option.some.injEq, exists_eq_left', exists_eq_left, Nat.reduceSub, Nat.reduceAdd, Nat.reduceMul, wipeE, gNm, gNms, gTp, D.int.injEq, true_and, and_true, List.length_cons, List.length_nil, Option.bind_some, idx_ref, ixC_lst, idx_lst, idx_tup, idx_frz, at0, at1, at2, at3, add_int, sub_int, mod_int, fdiv_int, pow18, lt_int, le_int, gt_int, ge_int, tru_bl, tru_int, eq_int, ne_int, eq_str, ne_str, eq_bl, ne_bl, put_ref, putC_lst, ix0, ix1, ix2, ix3, len_lst, len_tup, len_frz, len_ref, lenC_lst, un1_one, tuple_lst, tuple_tup, list_lst, list_tup, slice_tup, slice_lst, it_tup, it_lst, cut_from1, Option.map_some, List.set_set, Nat.reduceLT, Int.reduceLT, if_true, Int.toNat_natCast, mul_mod, mulL, mulR, Int.reduceNeg]
        exact ⟨g, fun _ => by omega⟩
    · rintro S ⟨g, _⟩
      refine seq_mid (a := sAsg _ _) (fun e S' => ∃ w : Int, e = [some (.ref n), some (.lst (ns.map D.str)), some (.int s), some (.lst (os.map D.str)), none, some (.int w), none, none] ∧ Go n st S') ?_ ?_
      · try simp only [ok_ok, ok_no, ok_bind, ok_of_some, ok_var, ok_cst, ok_nil, ok_cons, ok_tup, ok_lst, ok_lstM, ok_op2, ok_op1, ok_blt, ok_listM, ok_chain, ok_and, ok_or, ok_not, ok_tval, ok_band, ok_bor, ok_bnot, ok_yes, ok_mif, ok_callM, ok_call, ok_lm, ok_optN, ok_optS, ok_slice, ok_ival, ok_range1, ok_range2, ok_zip, ok_sm, ok_addM, ok_get1, ok_get2, ok_comp, ok_compM, s_skip, s_seq, s_expr, s_asg, s_put, s_ret, s_retN, s_brk, s_cnt, s_if, s_for, s_while, List.map_cons, List.map_nil, List.cons_append, List.nil_append, List.replicate, List.getElem?_cons_zero, List.getElem?_cons_succ, List.set_cons_zero, List.set_cons_succ, Option.some.injEq, exists_eq_left', exists_eq_left, Nat.reduceSub, Nat.reduceAdd, Nat.reduceMul, wipeE, gNm, gNms, gTp, D.int.injEq, true_and, and_true, List.length_cons, List.length_nil, Option.bind_some, idx_ref, ixC_lst, idx_lst, idx_tup, idx_frz, at0, at1, at2, at3, add_int, sub_int, mod_int, fdiv_int, pow18, lt_int, le_int, gt_int, ge_int, tru_bl, tru_int, eq_int, ne_int, eq_str, ne_str, eq_bl, ne_bl, put_ref, putC_lst, ix0, ix1, ix2, ix3, len_lst, len_tup, len_frz, len_ref, lenC_lst, un1_one, tuple_lst, tuple_tup, list_lst, list_tup, slice_tup, slice_lst, it_tup, it_lst, cut_from1, Option.map_some, List.set_set, Nat.reduceLT, Int.reduceLT, if_true, Int.toNat_natCast, mul_mod, mulL, mulR, Int.reduceNeg]
        refine draw_call (g.fd hn) (by decide) (by decide) fun r S1 r0 r1 g1 => ?_
        try simp only [ok_ok, ok_no, ok_bind, ok_of_some, ok_var, ok_cst, ok_nil, ok_cons, ok_tup, ok_lst, ok_lstM, ok_op2, ok_op1, ok_blt, ok_listM, ok_chain, ok_and, ok_or, ok_not, ok_tval, ok_band, ok_bor, ok_bnot, ok_yes, ok_mif, ok_callM, ok_call, ok_lm, ok_optN, ok_optS, ok_slice, ok_ival, ok_range1, ok_range2, ok_zip, ok_sm, ok_addM, ok_get1, ok_get2, ok_comp, ok_compM, s_skip, s_seq, s_expr, s_asg, s_put, s_ret, s_retN, s_brk, s_cnt, s_if, s_for, s_while, List.map_cons, List.map_nil, List.cons_append, List.nil_append, List.replicate, List.getElem?_cons_zero, List.getElem?_cons_succ, List.set_cons_zero, List.set_cons_succ, Option.some.injEq, exists_eq_left', exists_eq_left, Nat.reduceSub, Nat.reduceAdd, Nat.reduceMul, wipeE, gNm, gNms, gTp, D.int.injEq, true_and, and_true, List.length_cons, List.length_nil, Option.bind_some, idx_ref, ixC_lst, idx_lst, idx_tup, idx_frz, at0, at1, at2, at3, add_int, sub_int, mod_int, fdiv_int, pow18, lt_int, le_int, gt_int, ge_int, tru_bl, tru_int, eq_int, ne_int, eq_str, ne_str, eq_bl, ne_bl, put_ref, putC_lst, ix0, ix1, ix2, ix3, len_lst, len_tup, len_frz, len_ref, lenC_lst, un1_one, tuple_lst, tuple_tup, list_lst, list_tup, slice_tup, slice_lst, it_tup, it_lst, cut_from1, Option.map_some, List.set_set, Nat.reduceLT, Int.reduceLT, if_true, Int.toNat_natCast, mul_mod, mulL, mulR, Int.reduceNeg]
        exact ⟨_, rfl, g.go hn g1⟩
      rintro _ S1 ⟨w, rfl, G1⟩
      refine seq_mid (a := sIf _ _ _) (fun e S' => e = [some (.ref n), some (.lst (ns.map D.str)), some (.int s), some (.lst (os.map D.str)), none, some (.int w), none, none] ∧ Go n st S') ?_ ?_
      · refine if_mid (fun b S => Go n st S) ?_ ?_ ?_
        · simp only [ok_ok, ok_no, ok_bind, ok_of_some, ok_var, ok_cst, ok_nil, ok_cons, ok_tup, ok_lst, ok_lstM, ok_op2, ok_op1, ok_blt, ok_listM, ok_chain, ok_and, ok_or, ok_not, ok_tval, ok_band, ok_bor, ok_bnot, ok_yes, ok_mif, ok_callM, ok_call, ok_lm, ok_optN, ok_optS, ok_slice, ok_ival, ok_range1, ok_range2, ok_zip, ok_sm, ok_addM, ok_get1, ok_get2, ok_comp, ok_compM, s_skip, s_seq, s_expr, s_asg, s_put, s_ret, s_retN, s_brk, s_cnt, s_if, s_for, s_while, List.map_cons, List.map_nil, List.cons_append, List.nil_append, List.replicate, List.getElem?_cons_zero, List.getElem?_cons_succ, List.set_cons_zero, List.set_cons_succ, Option.some.injEq, exists_eq_left', exists_eq_left, Nat.reduceSub, Nat.reduceAdd, Nat.reduceMul, wipeE, gNm, gNms, gTp, D.int.injEq, true_and, and_true, List.length_cons, List.length_nil, Option.bind_some, idx_ref, ixC_lst, idx_lst, idx_tup, idx_frz, at0, at1, at2, at3, add_int, sub_int, mod_int, fdiv_int, pow18, lt_int, le_int, gt_int, ge_int, tru_bl, tru_int, eq_int, ne_int, eq_str, ne_str, eq_bl, ne_bl, put_ref, putC_lst, ix0, ix1, ix2, ix3, len_lst, len_tup, len_frz, len_ref, lenC_lst, un1_one, tuple_lst, tuple_tup, list_lst, list_tup, slice_tup, slice_lst, it_tup, it_lst, cut_from1, Option.map_some, List.set_set, Nat.reduceLT, Int.reduceLT, if_true, Int.toNat_natCast, mul_mod, mulL, mulR, Int.reduceNeg, eq_strsL]
          (repeat' split) <;> exact G1
        · intro S2 G2
          try simp only [ok_ok, ok_no, ok_bind, ok_of_some, ok_var, ok_cst, ok_nil, ok_cons, ok_tup, ok_lst, ok_lstM, ok_op2, ok_op1, ok_blt, ok_listM, ok_chain, ok_and, ok_or, ok_not, ok_tval, ok_band, ok_bor, ok_bnot, ok_yes, ok_mif, ok_callM, ok_call, ok_lm, ok_optN, ok_optS, ok_slice, ok_ival, ok_range1, ok_range2, ok_zip, ok_sm, ok_addM, ok_get1, ok_get2, ok_comp, ok_compM, s_skip, s_seq, s_expr, s_asg, s_put, s_ret, s_retN, s_brk, s_cnt, s_if, s_for, s_while, List.map_cons, List.map_nil, List.cons_append, List.nil_append, List.replicate, List.getElem?_cons_zero, List.getElem?_cons_succ, List.set_cons_zero, List.set_cons_succ, Option.some.injEq, exists_eq_left', exists_eq_left, Nat.reduceSub, Nat.reduceAdd, Nat.reduceMul, wipeE, gNm, gNms, gTp, D.int.injEq, true_and, and_true, List.length_cons, List.length_nil, Option.bind_some, idx_ref, ixC_lst, idx_lst, idx_tup, idx_frz, at0, at1, at2, at3, add_int, sub_int, mod_int, fdiv_int, pow18, lt_int, le_int, gt_int, ge_int, tru_bl, tru_int, eq_int, ne_int, eq_str, ne_str, eq_bl, ne_bl, put_ref, putC_lst, ix0, ix1, ix2, ix3, len_lst, len_tup, len_frz, len_ref, lenC_lst, un1_one, tuple_lst, tuple_tup, list_lst, list_tup, slice_tup, slice_lst, it_tup, it_lst, cut_from1, Option.map_some, List.set_set, Nat.reduceLT, Int.reduceLT, if_true, Int.toNat_natCast, mul_mod, mulL, mulR, Int.reduceNeg]
          refine draw_call (G2.fd hn) (by decide) (by decide) fun r S3 r0 r1 g3 => ?_
          obtain ⟨x, hx, _, hx2⟩ := at_get (xs := [D.tup [.str "stay"], .tup [.str "never"]]) r0 (by simpa using r1)
          simp only [ok_ok, ok_no, ok_bind, ok_of_some, ok_var, ok_cst, ok_nil, ok_cons, ok_tup, ok_lst, ok_lstM, ok_op2, ok_op1, ok_blt, ok_listM, ok_chain, ok_and, ok_or, ok_not, ok_tval, ok_band, ok_bor, ok_bnot, ok_yes, ok_mif, ok_callM, ok_call, ok_lm, ok_optN, ok_optS, ok_slice, ok_ival, ok_range1, ok_range2, ok_zip, ok_sm, ok_addM, ok_get1, ok_get2, ok_comp, ok_compM, s_skip, s_seq, s_expr, s_asg, s_put, s_ret, s_retN, s_brk, s_cnt, s_if, s_for, s_while, List.map_cons, List.map_nil, List.cons_append, List.nil_append, List.replicate, List.getElem?_cons_zero, List.getElem?_cons_succ, List.set_cons_zero, List.set_cons_succ, Option.some.injEq, exists_eq_left', exists_eq_left, Nat.reduceSub, Nat.reduceAdd, Nat.reduceMul, wipeE, gNm, gNms, gTp, D.int.injEq, true_and, and_true, List.length_cons, List.length_nil, Option.bind_some, idx_ref, ixC_lst, idx_lst, idx_tup, idx_frz, at0, at1, at2, at3, add_int, sub_int, mod_int, fdiv_int, pow18, lt_int, le_int, gt_int, ge_int, tru_bl, tru_int, eq_int, ne_int, eq_str, ne_str, eq_bl, ne_bl, put_ref, putC_lst, ix0, ix1, ix2, ix3, len_lst, len_tup, len_frz, len_ref, lenC_lst, un1_one, tuple_lst, tuple_tup, list_lst, list_tup, slice_tup, slice_lst, it_tup, it_lst, cut_from1, Option.map_some, List.set_set, Nat.reduceLT, Int.reduceLT, if_true, Int.toNat_natCast, mul_mod, mulL, mulR, Int.reduceNeg, hx2]
          simp only [List.mem_cons, List.not_mem_nil, or_false] at hx
          rcases hx with rfl | rfl
          · rw [e1]
            exact fin _ _ (.leaf (by decide)) (by simp [ths, thss]; omega) (G2.go hn g3)
          · rw [e2]
            exact fin _ _ (.leaf (by decide)) (by simp [ths, thss]; omega) (G2.go hn g3)
        · intro S2 G2
          try simp only [ok_ok, ok_no, ok_bind, ok_of_some, ok_var, ok_cst, ok_nil, ok_cons, ok_tup, ok_lst, ok_lstM, ok_op2, ok_op1, ok_blt, ok_listM, ok_chain, ok_and, ok_or, ok_not, ok_tval, ok_band, ok_bor, ok_bnot, ok_yes, ok_mif, ok_callM, ok_call, ok_lm, ok_optN, ok_optS, ok_slice, ok_ival, ok_range1, ok_range2, ok_zip, ok_sm, ok_addM, ok_get1, ok_get2, ok_comp, ok_compM, s_skip, s_seq, s_expr, s_asg, s_put, s_ret, s_retN, s_brk, s_cnt, s_if, s_for, s_while, List.map_cons, List.map_nil, List.cons_append, List.nil_append, List.replicate, List.getElem?_cons_zero, List.getElem?_cons_succ, List.set_cons_zero, List.set_cons_succ, Option.some.injEq, exists_eq_left', exists_eq_left, Nat.reduceSub, Nat.reduceAdd, Nat.reduceMul, wipeE, gNm, gNms, gTp, D.int.injEq, true_and, and_true, List.length_cons, List.length_nil, Option.bind_some, idx_ref, ixC_lst, idx_lst, idx_tup, idx_frz, at0, at1, at2, at3, add_int, sub_int, mod_int, fdiv_int, pow18, lt_int, le_int, gt_int, ge_int, tru_bl, tru_int, eq_int, ne_int, eq_str, ne_str, eq_bl, ne_bl, put_ref, putC_lst, ix0, ix1, ix2, ix3, len_lst, len_tup, len_frz, len_ref, lenC_lst, un1_one, tuple_lst, tuple_tup, list_lst, list_tup, slice_tup, slice_lst, it_tup, it_lst, cut_from1, Option.map_some, List.set_set, Nat.reduceLT, Int.reduceLT, if_true, Int.toNat_natCast, mul_mod, mulL, mulR, Int.reduceNeg]
          exact G2
      rintro _ S2 ⟨rfl, G2⟩
      refine seq_mid (a := sIf _ _ _) (fun e S' => e = [some (.ref n), some (.lst (ns.map D.str)), some (.int s), some (.lst (os.map D.str)), none, some (.int w), none, none] ∧ Go n st S') ?_ ?_
      · refine if_mid (fun b S => Go n st S ∧ (b = true → os ≠ [])) ?_ ?_ ?_
        · simp only [ok_ok, ok_no, ok_bind, ok_of_some, ok_var, ok_cst, ok_nil, ok_cons, ok_tup, ok_lst, ok_lstM, ok_op2, ok_op1, ok_blt, ok_listM, ok_chain, ok_and, ok_or, ok_not, ok_tval, ok_band, ok_bor, ok_bnot, ok_yes, ok_mif, ok_callM, ok_call, ok_lm, ok_optN, ok_optS, ok_slice, ok_ival, ok_range1, ok_range2, ok_zip, ok_sm, ok_addM, ok_get1, ok_get2, ok_comp, ok_compM, s_skip, s_seq, s_expr, s_asg, s_put, s_ret, s_retN, s_brk, s_cnt, s_if, s_for, s_while, List.map_cons, List.map_nil, List.cons_append, List.nil_append, List.replicate, List.getElem?_cons_zero, List.getElem?_cons_succ, List.set_cons_zero, List.set_cons_succ, Option.some.injEq, exists_eq_left', exists_eq_left, Nat.reduceSub, Nat.reduceAdd, Nat.reduceMul, wipeE, gNm, gNms, gTp, D.int.injEq, true_and, and_true, List.length_cons, List.length_nil, Option.bind_some, idx_ref, ixC_lst, idx_lst, idx_tup, idx_frz, at0, at1, at2, at3, add_int, sub_int, mod_int, fdiv_int, pow18, lt_int, le_int, gt_int, ge_int, tru_bl, tru_int, eq_int, ne_int, eq_str, ne_str, eq_bl, ne_bl, put_ref, putC_lst, ix0, ix1, ix2, ix3, len_lst, len_tup, len_frz, len_ref, lenC_lst, un1_one, tuple_lst, tuple_tup, list_lst, list_tup, slice_tup, slice_lst, it_tup, it_lst, cut_from1, Option.map_some, List.set_set, Nat.reduceLT, Int.reduceLT, if_true, Int.toNat_natCast, mul_mod, mulL, mulR, Int.reduceNeg, ne_strsL]
          by_cases ho : os = []
          · rw [if_neg (by simp [ho])]
            exact ⟨G2, by simp⟩
          · rw [if_pos (by simp [ho])]
            exact ⟨G2, fun _ => ho⟩
        · rintro S3 ⟨G3, ho⟩
          have ho := ho rfl
          have hl : 0 < os.length := List.length_pos_iff.mpr ho
          try simp only [ok_ok, ok_no, ok_bind, ok_of_some, ok_var, ok_cst, ok_nil, ok_cons, ok_tup, ok_lst, ok_lstM, ok_op2, ok_op1, ok_blt, ok_listM, ok_chain, ok_and, ok_or, ok_not, ok_tval, ok_band, ok_bor, ok_bnot, ok_yes, ok_mif, ok_callM, ok_call, ok_lm, ok_optN, ok_optS, ok_slice, ok_ival, ok_range1, ok_range2, ok_zip, ok_sm, ok_addM, ok_get1, ok_get2, ok_comp, ok_compM, s_skip, s_seq, s_expr, s_asg, s_put, s_ret, s_retN, s_brk, s_cnt, s_if, s_for, s_while, List.map_cons, List.map_nil, List.cons_append, List.nil_append, List.replicate, List.getElem?_cons_zero, List.getElem?_cons_succ, List.set_cons_zero, List.set_cons_succ, Option.some.injEq, exists_eq_left', exists_eq_left, Nat.reduceSub, Nat.reduceAdd, Nat.reduceMul, wipeE, gNm, gNms, gTp, D.int.injEq, true_and, and_true, List.length_cons, List.length_nil, Option.bind_some, idx_ref, ixC_lst, idx_lst, idx_tup, idx_frz, at0, at1, at2, at3, add_int, sub_int, mod_int, fdiv_int, pow18, lt_int, le_int, gt_int, ge_int, tru_bl, tru_int, eq_int, ne_int, eq_str, ne_str, eq_bl, ne_bl, put_ref, putC_lst, ix0, ix1, ix2, ix3, len_lst, len_tup, len_frz, len_ref, lenC_lst, un1_one, tuple_lst, tuple_tup, list_lst, list_tup, slice_tup, slice_lst, it_tup, it_lst, cut_from1, Option.map_some, List.set_set, Nat.reduceLT, Int.reduceLT, if_true, Int.toNat_natCast, mul_mod, mulL, mulR, Int.reduceNeg]
          simp only [List.length_map]
          refine draw_call (G3.fd hn) (by omega) (by omega) fun r S4 r0 r1 g4 => ?_
          obtain ⟨x, hx, hx2⟩ := pick_str r0 r1
          simp only [ok_ok, ok_no, ok_bind, ok_of_some, ok_var, ok_cst, ok_nil, ok_cons, ok_tup, ok_lst, ok_lstM, ok_op2, ok_op1, ok_blt, ok_listM, ok_chain, ok_and, ok_or, ok_not, ok_tval, ok_band, ok_bor, ok_bnot, ok_yes, ok_mif, ok_callM, ok_call, ok_lm, ok_optN, ok_optS, ok_slice, ok_ival, ok_range1, ok_range2, ok_zip, ok_sm, ok_addM, ok_get1, ok_get2, ok_comp, ok_compM, s_skip, s_seq, s_expr, s_asg, s_put, s_ret, s_retN, s_brk, s_cnt, s_if, s_for, s_while, List.map_cons, List.map_nil, List.cons_append, List.nil_append, List.replicate, List.getElem?_cons_zero, List.getElem?_cons_succ, List.set_cons_zero, List.set_cons_succ, Option.some.injEq, exists_eq_left', exists_eq_left, Nat.reduceSub, Nat.reduceAdd, Nat.reduceMul, wipeE, gNm, gNms, gTp, D.int.injEq, true_and, and_true, List.length_cons, List.length_nil, Option.bind_some, idx_ref, ixC_lst, idx_lst, idx_tup, idx_frz, at0, at1, at2, at3, add_int, sub_int, mod_int, fdiv_int, pow18, lt_int, le_int, gt_int, ge_int, tru_bl, tru_int, eq_int, ne_int, eq_str, ne_str, eq_bl, ne_bl, put_ref, putC_lst, ix0, ix1, ix2, ix3, len_lst, len_tup, len_frz, len_ref, lenC_lst, un1_one, tuple_lst, tuple_tup, list_lst, list_tup, slice_tup, slice_lst, it_tup, it_lst, cut_from1, Option.map_some, List.set_set, Nat.reduceLT, Int.reduceLT, if_true, Int.toNat_natCast, mul_mod, mulL, mulR, Int.reduceNeg, hx2]
          rw [e3]
          exact fin _ _ (.any hx) (by simp [ths, thss]; omega) (G3.go hn g4)
        · rintro S3 ⟨G3, _⟩
          try simp only [ok_ok, ok_no, ok_bind, ok_of_some, ok_var, ok_cst, ok_nil, ok_cons, ok_tup, ok_lst, ok_lstM, ok_op2, ok_op1, ok_blt, ok_listM, ok_chain, ok_and, ok_or, ok_not, ok_tval, ok_band, ok_bor, ok_bnot, ok_yes, ok_mif, ok_callM, ok_call, ok_lm, ok_optN, ok_optS, ok_slice, ok_ival, ok_range1, ok_range2, ok_zip, ok_sm, ok_addM, ok_get1, ok_get2, ok_comp, ok_compM, s_skip, s_seq, s_expr, s_asg, s_put, s_ret, s_retN, s_brk, s_cnt, s_if, s_for, s_while, List.map_cons, List.map_nil, List.cons_append, List.nil_append, List.replicate, List.getElem?_cons_zero, List.getElem?_cons_succ, List.set_cons_zero, List.set_cons_succ, Option.some.injEq, exists_eq_left', exists_eq_left, Nat.reduceSub, Nat.reduceAdd, Nat.reduceMul, wipeE, gNm, gNms, gTp, D.int.injEq, true_and, and_true, List.length_cons, List.length_nil, Option.bind_some, idx_ref, ixC_lst, idx_lst, idx_tup, idx_frz, at0, at1, at2, at3, add_int, sub_int, mod_int, fdiv_int, pow18, lt_int, le_int, gt_int, ge_int, tru_bl, tru_int, eq_int, ne_int, eq_str, ne_str, eq_bl, ne_bl, put_ref, putC_lst, ix0, ix1, ix2, ix3, len_lst, len_tup, len_frz, len_ref, lenC_lst, un1_one, tuple_lst, tuple_tup, list_lst, list_tup, slice_tup, slice_lst, it_tup, it_lst, cut_from1, Option.map_some, List.set_set, Nat.reduceLT, Int.reduceLT, if_true, Int.toNat_natCast, mul_mod, mulL, mulR, Int.reduceNeg]
          exact G3
      rintro _ S3 ⟨rfl, G3⟩
      simp only [ok_ok, ok_no, ok_bind, ok_of_some, ok_var, ok_cst, ok_nil, ok_cons, ok_tup, ok_lst, ok_lstM, ok_op2, ok_op1, ok_blt, ok_listM, ok_chain, ok_and, ok_or, ok_not, ok_tval, ok_band, ok_bor, ok_bnot, ok_yes, ok_mif, ok_callM, ok_call, ok_lm, ok_optN, ok_optS, ok_slice, ok_ival, ok_range1, ok_range2, ok_zip, ok_sm, ok_addM, ok_get1, ok_get2, ok_comp, ok_compM, s_skip, s_seq, s_expr, s_asg, s_put, s_ret, s_retN, s_brk, s_cnt, s_if, s_for, s_while, List.map_cons, List.map_nil, List.cons_append, List.nil_append, List.replicate, List.getElem?_cons_zero, List.getElem?_cons_succ, List.set_cons_zero, List.set_cons_succ, Option.some.injEq, exists_eq_left', exists_eq_left, Nat.reduceSub, Nat.reduceAdd, Nat.reduceMul, wipeE, gNm, gNms, gTp, D.int.injEq, true_and, and_true, List.length_cons, List.length_nil, Option.bind_some, idx_ref, ixC_lst, idx_lst, idx_tup, idx_frz, at0, at1, at2, at3, add_int, sub_int, mod_int, fdiv_int, pow18, lt_int, le_int, gt_int, ge_int, tru_bl, tru_int, eq_int, ne_int, eq_str, ne_str, eq_bl, ne_bl, put_ref, putC_lst, ix0, ix1, ix2, ix3, len_lst, len_tup, len_frz, len_ref, lenC_lst, un1_one, tuple_lst, tuple_tup, list_lst, list_tup, slice_tup, slice_lst, it_tup, it_lst, cut_from1, Option.map_some, List.set_set, Nat.reduceLT, Int.reduceLT, if_true, Int.toNat_natCast, mul_mod, mulL, mulR, Int.reduceNeg, ne_strsL]
      by_cases hne : ns = []
      · rw [if_neg (by simp [hne]), e1]
        exact fin _ _ (.leaf (by decide)) (by simp [ths, thss]; omega) G3
      · rw [if_pos (by simp [hne])]
        have hl : 0 < ns.length := List.length_pos_iff.mpr hne
        simp only [List.length_map]
        refine draw_call (G3.fd hn) (by omega) (by omega) fun r S4 r0 r1 g4 => ?_
        obtain ⟨x, hx, hx2⟩ := pick_str r0 r1
        simp only [ok_ok, ok_no, ok_bind, ok_of_some, ok_var, ok_cst, ok_nil, ok_cons, ok_tup, ok_lst, ok_lstM, ok_op2, ok_op1, ok_blt, ok_listM, ok_chain, ok_and, ok_or, ok_not, ok_tval, ok_band, ok_bor, ok_bnot, ok_yes, ok_mif, ok_callM, ok_call, ok_lm, ok_optN, ok_optS, ok_slice, ok_ival, ok_range1, ok_range2, ok_zip, ok_sm, ok_addM, ok_get1, ok_get2, ok_comp, ok_compM, s_skip, s_seq, s_expr, s_asg, s_put, s_ret, s_retN, s_brk, s_cnt, s_if, s_for, s_while, List.map_cons, List.map_nil, List.cons_append, List.nil_append, List.replicate, List.getElem?_cons_zero, List.getElem?_cons_succ, List.set_cons_zero, List.set_cons_succ, Option.some.injEq, exists_eq_left', exists_eq_left, Nat.reduceSub, Nat.reduceAdd, Nat.reduceMul, wipeE, gNm, gNms, gTp, D.int.injEq, true_and, and_true, List.length_cons, List.length_nil, Option.bind_some, idx_ref, ixC_lst, idx_lst, idx_tup, idx_frz, at0, at1, at2, at3, add_int, sub_int, mod_int, fdiv_int, pow18, lt_int, le_int, gt_int, ge_int, tru_bl, tru_int, eq_int, ne_int, eq_str, ne_str, eq_bl, ne_bl, put_ref, putC_lst, ix0, ix1, ix2, ix3, len_lst, len_tup, len_frz, len_ref, lenC_lst, un1_one, tuple_lst, tuple_tup, list_lst, list_tup, slice_tup, slice_lst, it_tup, it_lst, cut_from1, Option.map_some, List.set_set, Nat.reduceLT, Int.reduceLT, if_true, Int.toNat_natCast, mul_mod, mulL, mulR, Int.reduceNeg, hx2]
        rw [e3]
        exact fin _ _ (.use hx) (by simp [ths, thss]; omega) (G3.go hn g4)
    · rintro S ⟨g, hs⟩
      try simp only [ok_ok, ok_no, ok_bind, ok_of_some, ok_var, ok_cst, ok_nil, ok_cons, ok_tup, ok_lst, ok_lstM, ok_op2, ok_op1, ok_blt, ok_listM, ok_chain, ok_and, ok_or, ok_not, ok_tval, ok_band, ok_bor, ok_bnot, ok_yes, ok_mif, ok_callM, ok_call, ok_lm, ok_optN, ok_optS, ok_slice, ok_ival, ok_range1, ok_range2, ok_zip, ok_sm, ok_addM, ok_get1, ok_get2, ok_comp, ok_compM, s_skip, s_seq, s_expr, s_asg, s_put, s_ret, s_retN, s_brk, s_cnt, s_if, s_for, s_while, List.map_cons, List.map_nil, List.cons_append, List.nil_append, List.replicate, List.getElem?_cons_zero, List.getElem?_cons_succ, List.set_cons_zero, List.set_cons_succ, Option.some.injEq, exists_eq_left', exists_eq_left, Nat.reduceSub, Nat.reduceAdd, Nat.reduceMul, wipeE, gNm, gNms, gTp, D.int.injEq, true_and, and_true, List.length_cons, List.length_nil, Option.bind_some, idx_ref, ixC_lst, idx_lst, idx_tup, idx_frz, at0, at1, at2, at3, add_int, sub_int, mod_int, fdiv_int, pow18, lt_int, le_int, gt_int, ge_int, tru_bl, tru_int, eq_int, ne_int, eq_str, ne_str, eq_bl, ne_bl, put_ref, putC_lst, ix0, ix1, ix2, ix3, len_lst, len_tup, len_frz, len_ref, lenC_lst, un1_one, tuple_lst, tuple_tup, list_lst, list_tup, slice_tup, slice_lst, it_tup, it_lst, cut_from1, Option.map_some, List.set_set, Nat.reduceLT, Int.reduceLT, if_true, Int.toNat_natCast, mul_mod, mulL, mulR, Int.reduceNeg]
      exact ⟨g, hs rfl⟩
  rintro _ S ⟨rfl, G, h2⟩
  refine seq_mid (a := sAsg _ _) (fun e S' => e = [some (.ref n), some (.lst (ns.map D.str)), some (.int s), some (.lst (os.map D.str)), some (.lst (words9.map D.str)), none, none, none] ∧ S' = S) ?_ ?_
  · try simp only [ok_ok, ok_no, ok_bind, ok_of_some, ok_var, ok_cst, ok_nil, ok_cons, ok_tup, ok_lst, ok_lstM, ok_op2, ok_op1, ok_blt, ok_listM, ok_chain, ok_and, ok_or, ok_not, ok_tval, ok_band, ok_bor, ok_bnot, ok_yes, ok_mif, ok_callM, ok_call, ok_lm, ok_optN, ok_optS, ok_slice, ok_ival, ok_range1, ok_range2, ok_zip, ok_sm, ok_addM, ok_get1, ok_get2, ok_comp, ok_compM, s_skip, s_seq, s_expr, s_asg, s_put, s_ret, s_retN, s_brk, s_cnt, s_if, s_for, s_while, List.map_cons, List.map_nil, List.cons_append, List.nil_append, List.replicate, List.getElem?_cons_zero, List.getElem?_cons_succ, List.set_cons_zero, List.set_cons_succ, Option.some.injEq, exists_eq_left', exists_eq_left, Nat.reduceSub, Nat.reduceAdd, Nat.reduceMul, wipeE, gNm, gNms, gTp, D.int.injEq, true_and, and_true, List.length_cons, List.length_nil, Option.bind_some, idx_ref, ixC_lst, idx_lst, idx_tup, idx_frz, at0, at1, at2, at3, add_int, sub_int, mod_int, fdiv_int, pow18, lt_int, le_int, gt_int, ge_int, tru_bl, tru_int, eq_int, ne_int, eq_str, ne_str, eq_bl, ne_bl, put_ref, putC_lst, ix0, ix1, ix2, ix3, len_lst, len_tup, len_frz, len_ref, lenC_lst, un1_one, tuple_lst, tuple_tup, list_lst, list_tup, slice_tup, slice_lst, it_tup, it_lst, cut_from1, Option.map_some, List.set_set, Nat.reduceLT, Int.reduceLT, if_true, Int.toNat_natCast, mul_mod, mulL, mulR, Int.reduceNeg]
    rfl
  rintro _ S' ⟨rfl, e'⟩
  subst S'
  refine seq_mid (a := sIf _ _ _) (fun e S' => e = [some (.ref n), some (.lst (ns.map D.str)), some (.int s), some (.lst (os.map D.str)), some (.lst (words9.map D.str)), none, none, none] ∧ Go n st S') ?_ ?_
  · refine if_mid (fun b S => Go n st S ∧ (b = true → 3 ≤ s)) ?_ ?_ ?_
    · try simp only [ok_ok, ok_no, ok_bind, ok_of_some, ok_var, ok_cst, ok_nil, ok_cons, ok_tup, ok_lst, ok_lstM, ok_op2, ok_op1, ok_blt, ok_listM, ok_chain, ok_and, ok_or, ok_not, ok_tval, ok_band, ok_bor, ok_bnot, ok_yes, ok_mif, ok_callM, ok_call, ok_lm, ok_optN, ok_optS, ok_slice, ok_ival, ok_range1, ok_range2, ok_zip, ok_sm, ok_addM, ok_get1, ok_get2, ok_comp, ok_compM, s_skip, s_seq, s_expr, s_asg, s_put, s_ret, s_retN, s_brk, s_cnt, s_if, s_for, s_while, List.map_cons, List.map_nil, List.cons_append, List.nil_append, List.replicate, List.getElem?_cons_zero, List.getElem?_cons_succ, List.set_cons_zero, List.set_cons_succ, Option.some.injEq, exists_eq_left', exists_eq_left, Nat.reduceSub, Nat.reduceAdd, Nat.reduceMul, wipeE, gNm, gNms, gTp, D.int.injEq, true_and, and_true, List.length_cons, List.length_nil, Option.bind_some, idx_ref, ixC_lst, idx_lst, idx_tup, idx_frz, at0, at1, at2, at3, add_int, sub_int, mod_int, fdiv_int, pow18, lt_int, le_int, gt_int, ge_int, tru_bl, tru_int, eq_int, ne_int, eq_str, ne_str, eq_bl, ne_bl, put_ref, putC_lst, ix0, ix1, ix2, ix3, len_lst, len_tup, len_frz, len_ref, lenC_lst, un1_one, tuple_lst, tuple_tup, list_lst, list_tup, slice_tup, slice_lst, it_tup, it_lst, cut_from1, Option.map_some, List.set_set, Nat.reduceLT, Int.reduceLT, if_true, Int.toNat_natCast, mul_mod, mulL, mulR, Int.reduceNeg]
      by_cases hs : 2 < s
      · rw [if_pos (by simp; omega)]
        refine draw_call (G.fd hn) (by decide) (by decide) fun r S1 r0 r1 g => ?_
        try simp only [ok_ok, ok_no, ok_bind, ok_of_some, ok_var, ok_cst, ok_nil, ok_cons, ok_tup, ok_lst, ok_lstM, ok_op2, ok_op1, ok_blt, ok_listM, ok_chain, ok_and, ok_or, ok_not, ok_tval, ok_band, ok_bor, ok_bnot, ok_yes, ok_mif, ok_callM, ok_call, ok_lm, ok_optN, ok_optS, ok_slice, ok_ival, ok_range1, ok_range2, ok_zip, ok_sm, ok_addM, ok_get1, ok_get2, ok_comp, ok_compM, s_skip, s_seq, s_expr, s_asg, s_put, s_ret, s_retN, s_brk, s_cnt, s_if, s_for, s_while, List.map_cons, List.map_nil, List.cons_append, List.nil_append, List.replicate, List.getElem?_cons_zero, List.getElem?_cons_succ, List.set_cons_zero, List.set_cons_succ, Option.some.injEq, exists_eq_left', exists_eq_left, Nat.reduceSub, Nat.reduceAdd, Nat.reduceMul, wipeE, gNm, gNms, gTp, D.int.injEq, true_and, and_true, List.length_cons, List.length_nil, Option.bind_some, idx_ref, ixC_lst, idx_lst, idx_tup, idx_frz, at0, at1, at2, at3, add_int, sub_int, mod_int, fdiv_int, pow18, lt_int, le_int, gt_int, ge_int, tru_bl, tru_int, eq_int, ne_int, eq_str, ne_str, eq_bl, ne_bl, put_ref, putC_lst, ix0, ix1, ix2, ix3, len_lst, len_tup, len_frz, len_ref, lenC_lst, un1_one, tuple_lst, tuple_tup, list_lst, list_tup, slice_tup, slice_lst, it_tup, it_lst, cut_from1, Option.map_some, List.set_set, Nat.reduceLT, Int.reduceLT, if_true, Int.toNat_natCast, mul_mod, mulL, mulR, Int.reduceNeg]
        exact ⟨G.go hn g, fun _ => by omega⟩
      · rw [if_neg (by simp; omega)]
        exact ⟨G, by simp⟩
    · rintro S1 ⟨G1, h3⟩
      have h3 := h3 rfl
      try simp only [ok_ok, ok_no, ok_bind, ok_of_some, ok_var, ok_cst, ok_nil, ok_cons, ok_tup, ok_lst, ok_lstM, ok_op2, ok_op1, ok_blt, ok_listM, ok_chain, ok_and, ok_or, ok_not, ok_tval, ok_band, ok_bor, ok_bnot, ok_yes, ok_mif, ok_callM, ok_call, ok_lm, ok_optN, ok_optS, ok_slice, ok_ival, ok_range1, ok_range2, ok_zip, ok_sm, ok_addM, ok_get1, ok_get2, ok_comp, ok_compM, s_skip, s_seq, s_expr, s_asg, s_put, s_ret, s_retN, s_brk, s_cnt, s_if, s_for, s_while, List.map_cons, List.map_nil, List.cons_append, List.nil_append, List.replicate, List.getElem?_cons_zero, List.getElem?_cons_succ, List.set_cons_zero, List.set_cons_succ, Option.some.injEq, exists_eq_left', exists_eq_left, Nat.reduceSub, Nat.reduceAdd, Nat.reduceMul, wipeE, gNm, gNms, gTp, D.int.injEq, true_and, and_true, List.length_cons, List.length_nil, Option.bind_some, idx_ref, ixC_lst, idx_lst, idx_tup, idx_frz, at0, at1, at2, at3, add_int, sub_int, mod_int, fdiv_int, pow18, lt_int, le_int, gt_int, ge_int, tru_bl, tru_int, eq_int, ne_int, eq_str, ne_str, eq_bl, ne_bl, put_ref, putC_lst, ix0, ix1, ix2, ix3, len_lst, len_tup, len_frz, len_ref, lenC_lst, un1_one, tuple_lst, tuple_tup, list_lst, list_tup, slice_tup, slice_lst, it_tup, it_lst, cut_from1, Option.map_some, List.set_set, Nat.reduceLT, Int.reduceLT, if_true, Int.toNat_natCast, mul_mod, mulL, mulR, Int.reduceNeg]
      refine draw_call (G1.fd hn) (by omega) (by omega) fun r S2 r0 r1 g2 => ?_
      obtain ⟨a, rfl⟩ := Int.eq_ofNat_of_zero_le r0
      have G2 := G1.go hn g2
      try simp only [ok_ok, ok_no, ok_bind, ok_of_some, ok_var, ok_cst, ok_nil, ok_cons, ok_tup, ok_lst, ok_lstM, ok_op2, ok_op1, ok_blt, ok_listM, ok_chain, ok_and, ok_or, ok_not, ok_tval, ok_band, ok_bor, ok_bnot, ok_yes, ok_mif, ok_callM, ok_call, ok_lm, ok_optN, ok_optS, ok_slice, ok_ival, ok_range1, ok_range2, ok_zip, ok_sm, ok_addM, ok_get1, ok_get2, ok_comp, ok_compM, s_skip, s_seq, s_expr, s_asg, s_put, s_ret, s_retN, s_brk, s_cnt, s_if, s_for, s_while, List.map_cons, List.map_nil, List.cons_append, List.nil_append, List.replicate, List.getElem?_cons_zero, List.getElem?_cons_succ, List.set_cons_zero, List.set_cons_succ, Option.some.injEq, exists_eq_left', exists_eq_left, Nat.reduceSub, Nat.reduceAdd, Nat.reduceMul, wipeE, gNm, gNms, gTp, D.int.injEq, true_and, and_true, List.length_cons, List.length_nil, Option.bind_some, idx_ref, ixC_lst, idx_lst, idx_tup, idx_frz, at0, at1, at2, at3, add_int, sub_int, mod_int, fdiv_int, pow18, lt_int, le_int, gt_int, ge_int, tru_bl, tru_int, eq_int, ne_int, eq_str, ne_str, eq_bl, ne_bl, put_ref, putC_lst, ix0, ix1, ix2, ix3, len_lst, len_tup, len_frz, len_ref, lenC_lst, un1_one, tuple_lst, tuple_tup, list_lst, list_tup, slice_tup, slice_lst, it_tup, it_lst, cut_from1, Option.map_some, List.set_set, Nat.reduceLT, Int.reduceLT, if_true, Int.toNat_natCast, mul_mod, mulL, mulR, Int.reduceNeg]
      rw [show (1 + (a : Int)) = ((a + 1 : Nat) : Int) by omega]
      refine call (a + 1) S2 _ (by omega) (by omega) (G2.fd hn) fun p S3 hp tp g3 => ?_
      have G3 := G2.go hn g3
      try simp only [ok_ok, ok_no, ok_bind, ok_of_some, ok_var, ok_cst, ok_nil, ok_cons, ok_tup, ok_lst, ok_lstM, ok_op2, ok_op1, ok_blt, ok_listM, ok_chain, ok_and, ok_or, ok_not, ok_tval, ok_band, ok_bor, ok_bnot, ok_yes, ok_mif, ok_callM, ok_call, ok_lm, ok_optN, ok_optS, ok_slice, ok_ival, ok_range1, ok_range2, ok_zip, ok_sm, ok_addM, ok_get1, ok_get2, ok_comp, ok_compM, s_skip, s_seq, s_expr, s_asg, s_put, s_ret, s_retN, s_brk, s_cnt, s_if, s_for, s_while, List.map_cons, List.map_nil, List.cons_append, List.nil_append, List.replicate, List.getElem?_cons_zero, List.getElem?_cons_succ, List.set_cons_zero, List.set_cons_succ, Option.some.injEq, exists_eq_left', exists_eq_left, Nat.reduceSub, Nat.reduceAdd, Nat.reduceMul, wipeE, gNm, gNms, gTp, D.int.injEq, true_and, and_true, List.length_cons, List.length_nil, Option.bind_some, idx_ref, ixC_lst, idx_lst, idx_tup, idx_frz, at0, at1, at2, at3, add_int, sub_int, mod_int, fdiv_int, pow18, lt_int, le_int, gt_int, ge_int, tru_bl, tru_int, eq_int, ne_int, eq_str, ne_str, eq_bl, ne_bl, put_ref, putC_lst, ix0, ix1, ix2, ix3, len_lst, len_tup, len_frz, len_ref, lenC_lst, un1_one, tuple_lst, tuple_tup, list_lst, list_tup, slice_tup, slice_lst, it_tup, it_lst, cut_from1, Option.map_some, List.set_set, Nat.reduceLT, Int.reduceLT, if_true, Int.toNat_natCast, mul_mod, mulL, mulR, Int.reduceNeg]
      refine draw_call (G3.fd hn) (by decide) (by decide) fun r S4 r0' r1' g4 => ?_
      have G4 := G3.go hn g4
      obtain ⟨w, hw, hw2⟩ := pick_str (l := words2) r0' (by simpa [words2] using r1')
      simp only [words2, List.map_cons, List.map_nil] at hw2
      simp only [ok_ok, ok_no, ok_bind, ok_of_some, ok_var, ok_cst, ok_nil, ok_cons, ok_tup, ok_lst, ok_lstM, ok_op2, ok_op1, ok_blt, ok_listM, ok_chain, ok_and, ok_or, ok_not, ok_tval, ok_band, ok_bor, ok_bnot, ok_yes, ok_mif, ok_callM, ok_call, ok_lm, ok_optN, ok_optS, ok_slice, ok_ival, ok_range1, ok_range2, ok_zip, ok_sm, ok_addM, ok_get1, ok_get2, ok_comp, ok_compM, s_skip, s_seq, s_expr, s_asg, s_put, s_ret, s_retN, s_brk, s_cnt, s_if, s_for, s_while, List.map_cons, List.map_nil, List.cons_append, List.nil_append, List.replicate, List.getElem?_cons_zero, List.getElem?_cons_succ, List.set_cons_zero, List.set_cons_succ, Option.some.injEq, exists_eq_left', exists_eq_left, Nat.reduceSub, Nat.reduceAdd, Nat.reduceMul, wipeE, gNm, gNms, gTp, D.int.injEq, true_and, and_true, List.length_cons, List.length_nil, Option.bind_some, idx_ref, ixC_lst, idx_lst, idx_tup, idx_frz, at0, at1, at2, at3, add_int, sub_int, mod_int, fdiv_int, pow18, lt_int, le_int, gt_int, ge_int, tru_bl, tru_int, eq_int, ne_int, eq_str, ne_str, eq_bl, ne_bl, put_ref, putC_lst, ix0, ix1, ix2, ix3, len_lst, len_tup, len_frz, len_ref, lenC_lst, un1_one, tuple_lst, tuple_tup, list_lst, list_tup, slice_tup, slice_lst, it_tup, it_lst, cut_from1, Option.map_some, List.set_set, Nat.reduceLT, Int.reduceLT, if_true, Int.toNat_natCast, mul_mod, mulL, mulR, Int.reduceNeg, hw2]
      rw [show ((s : Int) - 1 - ((a + 1 : Nat) : Int)) = ((s - 2 - a : Nat) : Int) by omega]
      refine call (s - 2 - a) S4 _ (by omega) (by omega) (G4.fd hn) fun q S5 hq tq g5 => ?_
      try simp only [ok_ok, ok_no, ok_bind, ok_of_some, ok_var, ok_cst, ok_nil, ok_cons, ok_tup, ok_lst, ok_lstM, ok_op2, ok_op1, ok_blt, ok_listM, ok_chain, ok_and, ok_or, ok_not, ok_tval, ok_band, ok_bor, ok_bnot, ok_yes, ok_mif, ok_callM, ok_call, ok_lm, ok_optN, ok_optS, ok_slice, ok_ival, ok_range1, ok_range2, ok_zip, ok_sm, ok_addM, ok_get1, ok_get2, ok_comp, ok_compM, s_skip, s_seq, s_expr, s_asg, s_put, s_ret, s_retN, s_brk, s_cnt, s_if, s_for, s_while, List.map_cons, List.map_nil, List.cons_append, List.nil_append, List.replicate, List.getElem?_cons_zero, List.getElem?_cons_succ, List.set_cons_zero, List.set_cons_succ, Option.some.injEq, exists_eq_left', exists_eq_left, Nat.reduceSub, Nat.reduceAdd, Nat.reduceMul, wipeE, gNm, gNms, gTp, D.int.injEq, true_and, and_true, List.length_cons, List.length_nil, Option.bind_some, idx_ref, ixC_lst, idx_lst, idx_tup, idx_frz, at0, at1, at2, at3, add_int, sub_int, mod_int, fdiv_int, pow18, lt_int, le_int, gt_int, ge_int, tru_bl, tru_int, eq_int, ne_int, eq_str, ne_str, eq_bl, ne_bl, put_ref, putC_lst, ix0, ix1, ix2, ix3, len_lst, len_tup, len_frz, len_ref, lenC_lst, un1_one, tuple_lst, tuple_tup, list_lst, list_tup, slice_tup, slice_lst, it_tup, it_lst, cut_from1, Option.map_some, List.set_set, Nat.reduceLT, Int.reduceLT, if_true, Int.toNat_natCast, mul_mod, mulL, mulR, Int.reduceNeg]
      rw [e5]
      exact fin _ _ (.two hw hp hq) (by simp [ths, thss]; omega) (G4.go hn g5)
    · rintro S1 ⟨G1, _⟩
      try simp only [ok_ok, ok_no, ok_bind, ok_of_some, ok_var, ok_cst, ok_nil, ok_cons, ok_tup, ok_lst, ok_lstM, ok_op2, ok_op1, ok_blt, ok_listM, ok_chain, ok_and, ok_or, ok_not, ok_tval, ok_band, ok_bor, ok_bnot, ok_yes, ok_mif, ok_callM, ok_call, ok_lm, ok_optN, ok_optS, ok_slice, ok_ival, ok_range1, ok_range2, ok_zip, ok_sm, ok_addM, ok_get1, ok_get2, ok_comp, ok_compM, s_skip, s_seq, s_expr, s_asg, s_put, s_ret, s_retN, s_brk, s_cnt, s_if, s_for, s_while, List.map_cons, List.map_nil, List.cons_append, List.nil_append, List.replicate, List.getElem?_cons_zero, List.getElem?_cons_succ, List.set_cons_zero, List.set_cons_succ, Option.some.injEq, exists_eq_left', exists_eq_left, Nat.reduceSub, Nat.reduceAdd, Nat.reduceMul, wipeE, gNm, gNms, gTp, D.int.injEq, true_and, and_true, List.length_cons, List.length_nil, Option.bind_some, idx_ref, ixC_lst, idx_lst, idx_tup, idx_frz, at0, at1, at2, at3, add_int, sub_int, mod_int, fdiv_int, pow18, lt_int, le_int, gt_int, ge_int, tru_bl, tru_int, eq_int, ne_int, eq_str, ne_str, eq_bl, ne_bl, put_ref, putC_lst, ix0, ix1, ix2, ix3, len_lst, len_tup, len_frz, len_ref, lenC_lst, un1_one, tuple_lst, tuple_tup, list_lst, list_tup, slice_tup, slice_lst, it_tup, it_lst, cut_from1, Option.map_some, List.set_set, Nat.reduceLT, Int.reduceLT, if_true, Int.toNat_natCast, mul_mod, mulL, mulR, Int.reduceNeg]
      exact G1
  rintro _ S1 ⟨rfl, G1⟩
  try simp only [ok_ok, ok_no, ok_bind, ok_of_some, ok_var, ok_cst, ok_nil, ok_cons, ok_tup, ok_lst, ok_lstM, ok_op2, ok_op1, ok_blt, ok_listM, ok_chain, ok_and, ok_or, ok_not, ok_tval, ok_band, ok_bor, ok_bnot, ok_yes, ok_mif, ok_callM, ok_call, ok_lm, ok_optN, ok_optS, ok_slice, ok_ival, ok_range1, ok_range2, ok_zip, ok_sm, ok_addM, ok_get1, ok_get2, ok_comp, ok_compM, s_skip, s_seq, s_expr, s_asg, s_put, s_ret, s_retN, s_brk, s_cnt, s_if, s_for, s_while, List.map_cons, List.map_nil, List.cons_append, List.nil_append, List.replicate, List.getElem?_cons_zero, List.getElem?_cons_succ, List.set_cons_zero, List.set_cons_succ, Option.some.injEq, exists_eq_left', exists_eq_left, Nat.reduceSub, Nat.reduceAdd, Nat.reduceMul, wipeE, gNm, gNms, gTp, D.int.injEq, true_and, and_true, List.length_cons, List.length_nil, Option.bind_some, idx_ref, ixC_lst, idx_lst, idx_tup, idx_frz, at0, at1, at2, at3, add_int, sub_int, mod_int, fdiv_int, pow18, lt_int, le_int, gt_int, ge_int, tru_bl, tru_int, eq_int, ne_int, eq_str, ne_str, eq_bl, ne_bl, put_ref, putC_lst, ix0, ix1, ix2, ix3, len_lst, len_tup, len_frz, len_ref, lenC_lst, un1_one, tuple_lst, tuple_tup, list_lst, list_tup, slice_tup, slice_lst, it_tup, it_lst, cut_from1, Option.map_some, List.set_set, Nat.reduceLT, Int.reduceLT, if_true, Int.toNat_natCast, mul_mod, mulL, mulR, Int.reduceNeg]
  refine draw_call (G1.fd hn) (by decide) (by decide) fun r S2 r0 r1 g2 => ?_
  have G2 := G1.go hn g2
  obtain ⟨w, hw, hw2⟩ := pick_str (l := words9) r0 (by simpa [words9] using r1)
  simp only [ok_ok, ok_no, ok_bind, ok_of_some, ok_var, ok_cst, ok_nil, ok_cons, ok_tup, ok_lst, ok_lstM, ok_op2, ok_op1, ok_blt, ok_listM, ok_chain, ok_and, ok_or, ok_not, ok_tval, ok_band, ok_bor, ok_bnot, ok_yes, ok_mif, ok_callM, ok_call, ok_lm, ok_optN, ok_optS, ok_slice, ok_ival, ok_range1, ok_range2, ok_zip, ok_sm, ok_addM, ok_get1, ok_get2, ok_comp, ok_compM, s_skip, s_seq, s_expr, s_asg, s_put, s_ret, s_retN, s_brk, s_cnt, s_if, s_for, s_while, List.map_cons, List.map_nil, List.cons_append, List.nil_append, List.replicate, List.getElem?_cons_zero, List.getElem?_cons_succ, List.set_cons_zero, List.set_cons_succ, Option.some.injEq, exists_eq_left', exists_eq_left, Nat.reduceSub, Nat.reduceAdd, Nat.reduceMul, wipeE, gNm, gNms, gTp, D.int.injEq, true_and, and_true, List.length_cons, List.length_nil, Option.bind_some, idx_ref, ixC_lst, idx_lst, idx_tup, idx_frz, at0, at1, at2, at3, add_int, sub_int, mod_int, fdiv_int, pow18, lt_int, le_int, gt_int, ge_int, tru_bl, tru_int, eq_int, ne_int, eq_str, ne_str, eq_bl, ne_bl, put_ref, putC_lst, ix0, ix1, ix2, ix3, len_lst, len_tup, len_frz, len_ref, lenC_lst, un1_one, tuple_lst, tuple_tup, list_lst, list_tup, slice_tup, slice_lst, it_tup, it_lst, cut_from1, Option.map_some, List.set_set, Nat.reduceLT, Int.reduceLT, if_true, Int.toNat_natCast, mul_mod, mulL, mulR, Int.reduceNeg, hw2]
  rw [show ((s : Int) - 1) = ((s - 1 : Nat) : Int) by omega]
  refine call (s - 1) S2 _ (by omega) (by omega) (G2.fd hn) fun q S5 hq tq g5 => ?_
  try simp only [ok_ok, ok_no, ok_bind, ok_of_some, ok_var, ok_cst, ok_nil, ok_cons, ok_tup, ok_lst, ok_lstM, ok_op2, ok_op1, ok_blt, ok_listM, ok_chain, ok_and, ok_or, ok_not, ok_tval, ok_band, ok_bor, ok_bnot, ok_yes, ok_mif, ok_callM, ok_call, ok_lm, ok_optN, ok_optS, ok_slice, ok_ival, ok_range1, ok_range2, ok_zip, ok_sm, ok_addM, ok_get1, ok_get2, ok_comp, ok_compM, s_skip, s_seq, s_expr, s_asg, s_put, s_ret, s_retN, s_brk, s_cnt, s_if, s_for, s_while, List.map_cons, List.map_nil, List.cons_append, List.nil_append, List.replicate, List.getElem?_cons_zero, List.getElem?_cons_succ, List.set_cons_zero, List.set_cons_succ, Option.some.injEq, exists_eq_left', exists_eq_left, Nat.reduceSub, Nat.reduceAdd, Nat.reduceMul, wipeE, gNm, gNms, gTp, D.int.injEq, true_and, and_true, List.length_cons, List.length_nil, Option.bind_some, idx_ref, ixC_lst, idx_lst, idx_tup, idx_frz, at0, at1, at2, at3, add_int, sub_int, mod_int, fdiv_int, pow18, lt_int, le_int, gt_int, ge_int, tru_bl, tru_int, eq_int, ne_int, eq_str, ne_str, eq_bl, ne_bl, put_ref, putC_lst, ix0, ix1, ix2, ix3, len_lst, len_tup, len_frz, len_ref, lenC_lst, un1_one, tuple_lst, tuple_tup, list_lst, list_tup, slice_tup, slice_lst, it_tup, it_lst, cut_from1, Option.map_some, List.set_set, Nat.reduceLT, Int.reduceLT, if_true, Int.toNat_natCast, mul_mod, mulL, mulR, Int.reduceNeg]
  rw [e4]
  exact fin _ _ (.one hw hq) (by simp [ths, thss]; omega) (G2.go hn g5)
end RP
end
section
set_option Elab.async false
set_option linter.all false
set_option maxRecDepth 100000
set_option maxHeartbeats 1000000
namespace RP
open PySem
section
variable {n L D' M : Nat} {os : List D}
theorem bent_go (hL : 9 ≤ L) (hL2 : L ≤ 400) (hD : 1 ≤ D') (hos : ∀ o ∈ os, Thg L D' o) (hM : 1 ≤ M) (hom : ∀ o ∈ os, dsz o ≤ M) (hol : os.length ≤ 100) (d j : Nat) (x : D) (st : St) (h : Fd FC n st) (hx : Thg L d x)
    (ih : ∀ e, d = e + 1 → ∀ (j : Nat) (x : D) (st : St), Fd FC n st → Thg L e x → Ok (CC (e + j + 2) "_law_bent" [.ref n, x, .lst os] st) fun r st' => Thg (2 * L + 1) (e + D') r ∧ dsz r ≤ 2 * dsz x + M ∧ Go n st st') :
    Ok (CC (d + j + 2) "_law_bent" [.ref n, x, .lst os] st) fun r st' => Thg (2 * L + 1) (d + D') r ∧ dsz r ≤ 2 * dsz x + M ∧ Go n st st' := by
  rw [show d + j + 2 = (d + j + 1) + 1 by omega, r__law_bent]
  refine ok_fn rfl ?_
  unfold b__law_bent
  have ret : ∀ (r : D) (S : St), Go n st S → Thg (2 * L + 1) (d + D') r → dsz r ≤ 2 * dsz x + M → Ok (gc st r S) fun r st' => Thg (2 * L + 1) (d + D') r ∧ dsz r ≤ 2 * dsz x + M ∧ Go n st st' := fun r S g hr hz => Fr.ok fcB g hr.bel fun S' g' => ⟨hr, hz, g'⟩
  refine seq_mid (fun e S => e = [some (.ref n), some x, some (.lst os), none, none] ∧ Go n st S) ?_ ?_
  · try simp only [ok_ok, ok_no, ok_bind, ok_of_some, ok_var, ok_cst, ok_nil, ok_cons, ok_tup, ok_lst, ok_lstM, ok_op2, ok_op1, ok_blt, ok_listM, ok_chain, ok_and, ok_or, ok_not, ok_tval, ok_band, ok_bor, ok_bnot, ok_yes, ok_mif, ok_callM, ok_call, ok_lm, ok_optN, ok_optS, ok_slice, ok_ival, ok_range1, ok_range2, ok_zip, ok_sm, ok_addM, ok_get1, ok_get2, ok_comp, ok_compM, s_skip, s_seq, s_expr, s_asg, s_put, s_ret, s_retN, s_brk, s_cnt, s_if, s_for, s_while, List.map_cons, List.map_nil, List.cons_append, List.nil_append, List.replicate, List.getElem?_cons_zero, List.getElem?_cons_succ, List.set_cons_zero, List.set_cons_succ, Option.some.injEq, exists_eq_left', exists_eq_left, Nat.reduceSub, Nat.reduceAdd, Nat.reduceMul, wipeE, gNm, gNms, gTp, D.int.injEq, true_and, and_true, List.length_cons, List.length_nil, Option.bind_some, idx_ref, ixC_lst, idx_lst, idx_tup, idx_frz, at0, at1, at2, at3, add_int, sub_int, mod_int, fdiv_int, pow18, lt_int, le_int, gt_int, ge_int, tru_bl, tru_int, eq_int, ne_int, eq_str, ne_str, eq_bl, ne_bl, put_ref, putC_lst, ix0, ix1, ix2, ix3, len_lst, len_tup, len_frz, len_ref, lenC_lst, un1_one, tuple_lst, tuple_tup, list_lst, list_tup, slice_tup, slice_lst, it_tup, it_lst, cut_from1, Option.map_some, List.set_set, Nat.reduceLT, Int.reduceLT, if_true, Int.toNat_natCast, mul_mod, mulL, mulR, Int.reduceNeg]
    rw [isi_tup hx]
    have skip : [some (D.ref n), some x, some (D.lst os), none, none] = [some (D.ref n), some x, some (D.lst os), none, none] ∧ Go n st st := ⟨rfl, Fr.refl h⟩
    cases hx with
    | tup hl hm =>
      rename_i d xs
      refine ⟨_, rfl, true, rfl, ?_⟩
      simp only [if_true, List.map_cons, List.map_nil, List.cons_append, List.nil_append, List.replicate, List.getElem?_cons_zero, List.getElem?_cons_succ, List.set_cons_zero, List.set_cons_succ, Option.some.injEq, exists_eq_left', exists_eq_left, Nat.reduceSub, Nat.reduceAdd, Nat.reduceMul, wipeE, gNm, gNms, gTp, D.int.injEq, true_and, and_true, List.length_cons, List.length_nil, Option.bind_some, idx_ref, ixC_lst, idx_lst, idx_tup, idx_frz, at0, at1, at2, at3, add_int, sub_int, mod_int, fdiv_int, pow18, lt_int, le_int, gt_int, ge_int, tru_bl, tru_int, eq_int, ne_int, eq_str, ne_str, eq_bl, ne_bl, put_ref, putC_lst, ix0, ix1, ix2, ix3, len_lst, len_tup, len_frz, len_ref, lenC_lst, un1_one, tuple_lst, tuple_tup, list_lst, list_tup, slice_tup, slice_lst, it_tup, it_lst, cut_from1, Option.map_some, List.set_set, Nat.reduceLT, Int.reduceLT, if_true, Int.toNat_natCast, mul_mod, mulL, mulR, Int.reduceNeg, len_pln]
      by_cases h0 : xs.length = 0
      · obtain rfl : xs = [] := List.eq_nil_of_length_eq_zero h0
        rw [if_neg (by decide)]
        simp only [Bool.false_eq_true, if_false]
        exact skip.2
      · rw [if_pos (by simp; omega)]
        try simp only [ok_ok, ok_no, ok_bind, ok_of_some, ok_var, ok_cst, ok_nil, ok_cons, ok_tup, ok_lst, ok_lstM, ok_op2, ok_op1, ok_blt, ok_listM, ok_chain, ok_and, ok_or, ok_not, ok_tval, ok_band, ok_bor, ok_bnot, ok_yes, ok_mif, ok_callM, ok_call, ok_lm, ok_optN, ok_optS, ok_slice, ok_ival, ok_range1, ok_range2, ok_zip, ok_sm, ok_addM, ok_get1, ok_get2, ok_comp, ok_compM, s_skip, s_seq, s_expr, s_asg, s_put, s_ret, s_retN, s_brk, s_cnt, s_if, s_for, s_while, List.map_cons, List.map_nil, List.cons_append, List.nil_append, List.replicate, List.getElem?_cons_zero, List.getElem?_cons_succ, List.set_cons_zero, List.set_cons_succ, Option.some.injEq, exists_eq_left', exists_eq_left, Nat.reduceSub, Nat.reduceAdd, Nat.reduceMul, wipeE, gNm, gNms, gTp, D.int.injEq, true_and, and_true, List.length_cons, List.length_nil, Option.bind_some, idx_ref, ixC_lst, idx_lst, idx_tup, idx_frz, at0, at1, at2, at3, add_int, sub_int, mod_int, fdiv_int, pow18, lt_int, le_int, gt_int, ge_int, tru_bl, tru_int, eq_int, ne_int, eq_str, ne_str, eq_bl, ne_bl, put_ref, putC_lst, ix0, ix1, ix2, ix3, len_lst, len_tup, len_frz, len_ref, lenC_lst, un1_one, tuple_lst, tuple_tup, list_lst, list_tup, slice_tup, slice_lst, it_tup, it_lst, cut_from1, Option.map_some, List.set_set, Nat.reduceLT, Int.reduceLT, if_true, Int.toNat_natCast, mul_mod, mulL, mulR, Int.reduceNeg]
        refine draw_call h (by decide) (by decide) fun r st1 r0 r1 g1 => ?_
        simp only [ok_ok, ok_no, ok_bind, ok_of_some, ok_var, ok_cst, ok_nil, ok_cons, ok_tup, ok_lst, ok_lstM, ok_op2, ok_op1, ok_blt, ok_listM, ok_chain, ok_and, ok_or, ok_not, ok_tval, ok_band, ok_bor, ok_bnot, ok_yes, ok_mif, ok_callM, ok_call, ok_lm, ok_optN, ok_optS, ok_slice, ok_ival, ok_range1, ok_range2, ok_zip, ok_sm, ok_addM, ok_get1, ok_get2, ok_comp, ok_compM, s_skip, s_seq, s_expr, s_asg, s_put, s_ret, s_retN, s_brk, s_cnt, s_if, s_for, s_while, List.map_cons, List.map_nil, List.cons_append, List.nil_append, List.replicate, List.getElem?_cons_zero, List.getElem?_cons_succ, List.set_cons_zero, List.set_cons_succ, Option.some.injEq, exists_eq_left', exists_eq_left, Nat.reduceSub, Nat.reduceAdd, Nat.reduceMul, wipeE, gNm, gNms, gTp, D.int.injEq, true_and, and_true, List.length_cons, List.length_nil, Option.bind_some, idx_ref, ixC_lst, idx_lst, idx_tup, idx_frz, at0, at1, at2, at3, add_int, sub_int, mod_int, fdiv_int, pow18, lt_int, le_int, gt_int, ge_int, tru_bl, tru_int, eq_int, ne_int, eq_str, ne_str, eq_bl, ne_bl, put_ref, putC_lst, ix0, ix1, ix2, ix3, len_lst, len_tup, len_frz, len_ref, lenC_lst, un1_one, tuple_lst, tuple_tup, list_lst, list_tup, slice_tup, slice_lst, it_tup, it_lst, cut_from1, Option.map_some, List.set_set, Nat.reduceLT, Int.reduceLT, if_true, Int.toNat_natCast, mul_mod, mulL, mulR, Int.reduceNeg]
        by_cases hr : r > 0
        · rw [if_pos (by simpa using hr)]
          try simp only [len_pln, ok_ok, ok_no, ok_bind, ok_of_some, ok_var, ok_cst, ok_nil, ok_cons, ok_tup, ok_lst, ok_lstM, ok_op2, ok_op1, ok_blt, ok_listM, ok_chain, ok_and, ok_or, ok_not, ok_tval, ok_band, ok_bor, ok_bnot, ok_yes, ok_mif, ok_callM, ok_call, ok_lm, ok_optN, ok_optS, ok_slice, ok_ival, ok_range1, ok_range2, ok_zip, ok_sm, ok_addM, ok_get1, ok_get2, ok_comp, ok_compM, s_skip, s_seq, s_expr, s_asg, s_put, s_ret, s_retN, s_brk, s_cnt, s_if, s_for, s_while, List.map_cons, List.map_nil, List.cons_append, List.nil_append, List.replicate, List.getElem?_cons_zero, List.getElem?_cons_succ, List.set_cons_zero, List.set_cons_succ, Option.some.injEq, exists_eq_left', exists_eq_left, Nat.reduceSub, Nat.reduceAdd, Nat.reduceMul, wipeE, gNm, gNms, gTp, D.int.injEq, true_and, and_true, List.length_cons, List.length_nil, Option.bind_some, idx_ref, ixC_lst, idx_lst, idx_tup, idx_frz, at0, at1, at2, at3, add_int, sub_int, mod_int, fdiv_int, pow18, lt_int, le_int, gt_int, ge_int, tru_bl, tru_int, eq_int, ne_int, eq_str, ne_str, eq_bl, ne_bl, put_ref, putC_lst, ix0, ix1, ix2, ix3, len_lst, len_tup, len_frz, len_ref, lenC_lst, un1_one, tuple_lst, tuple_tup, list_lst, list_tup, slice_tup, slice_lst, it_tup, it_lst, cut_from1, Option.map_some, List.set_set, Nat.reduceLT, Int.reduceLT, if_true, Int.toNat_natCast, mul_mod, mulL, mulR, Int.reduceNeg]
          refine draw_call (g1.fd h.lt) (by omega) (by omega) fun q st2 q0 q1 g2 => ?_
          obtain ⟨k, rfl⟩ := Int.eq_ofNat_of_zero_le q0
          have g12 := g1.go h.lt g2
          obtain ⟨y, hy, hy3, hy2⟩ := at_get (xs := xs) q0 q1
          simp only [ok_ok, ok_no, ok_bind, ok_of_some, ok_var, ok_cst, ok_nil, ok_cons, ok_tup, ok_lst, ok_lstM, ok_op2, ok_op1, ok_blt, ok_listM, ok_chain, ok_and, ok_or, ok_not, ok_tval, ok_band, ok_bor, ok_bnot, ok_yes, ok_mif, ok_callM, ok_call, ok_lm, ok_optN, ok_optS, ok_slice, ok_ival, ok_range1, ok_range2, ok_zip, ok_sm, ok_addM, ok_get1, ok_get2, ok_comp, ok_compM, s_skip, s_seq, s_expr, s_asg, s_put, s_ret, s_retN, s_brk, s_cnt, s_if, s_for, s_while, List.map_cons, List.map_nil, List.cons_append, List.nil_append, List.replicate, List.getElem?_cons_zero, List.getElem?_cons_succ, List.set_cons_zero, List.set_cons_succ, Option.some.injEq, exists_eq_left', exists_eq_left, Nat.reduceSub, Nat.reduceAdd, Nat.reduceMul, wipeE, gNm, gNms, gTp, D.int.injEq, true_and, and_true, List.length_cons, List.length_nil, Option.bind_some, idx_ref, ixC_lst, idx_lst, idx_tup, idx_frz, at0, at1, at2, at3, add_int, sub_int, mod_int, fdiv_int, pow18, lt_int, le_int, gt_int, ge_int, tru_bl, tru_int, eq_int, ne_int, eq_str, ne_str, eq_bl, ne_bl, put_ref, putC_lst, ix0, ix1, ix2, ix3, len_lst, len_tup, len_frz, len_ref, lenC_lst, un1_one, tuple_lst, tuple_tup, list_lst, list_tup, slice_tup, slice_lst, it_tup, it_lst, cut_from1, Option.map_some, List.set_set, Nat.reduceLT, Int.reduceLT, if_true, Int.toNat_natCast, mul_mod, mulL, mulR, Int.reduceNeg, hy2]
          rw [show d + 1 + j + 1 = d + j + 2 by omega]
          refine ok_ice_val ((ih d rfl j y st2 (g12.fd h.lt) (hm y hy)).mono ?_)
          rintro b st3 ⟨hb, hbz, g3⟩
          refine ⟨hb.ref, ?_⟩
          have c1 := cut_len (l := xs) (lo := none) (hi := some (k : Int))
          have c2 := cut_len (l := xs) (lo := some ((k : Int) + 1)) (hi := none)
          rw [cut_to, List.length_take] at c1
          rw [show ((k : Int) + 1) = ((k + 1 : Nat) : Int) by omega] at c2 ⊢
          rw [cut_from, List.length_drop] at c2
          try simp only [ok_ok, ok_no, ok_bind, ok_of_some, ok_var, ok_cst, ok_nil, ok_cons, ok_tup, ok_lst, ok_lstM, ok_op2, ok_op1, ok_blt, ok_listM, ok_chain, ok_and, ok_or, ok_not, ok_tval, ok_band, ok_bor, ok_bnot, ok_yes, ok_mif, ok_callM, ok_call, ok_lm, ok_optN, ok_optS, ok_slice, ok_ival, ok_range1, ok_range2, ok_zip, ok_sm, ok_addM, ok_get1, ok_get2, ok_comp, ok_compM, s_skip, s_seq, s_expr, s_asg, s_put, s_ret, s_retN, s_brk, s_cnt, s_if, s_for, s_while, List.map_cons, List.map_nil, List.cons_append, List.nil_append, List.replicate, List.getElem?_cons_zero, List.getElem?_cons_succ, List.set_cons_zero, List.set_cons_succ, Option.some.injEq, exists_eq_left', exists_eq_left, Nat.reduceSub, Nat.reduceAdd, Nat.reduceMul, wipeE, gNm, gNms, gTp, D.int.injEq, true_and, and_true, List.length_cons, List.length_nil, Option.bind_some, idx_ref, ixC_lst, idx_lst, idx_tup, idx_frz, at0, at1, at2, at3, add_int, sub_int, mod_int, fdiv_int, pow18, lt_int, le_int, gt_int, ge_int, tru_bl, tru_int, eq_int, ne_int, eq_str, ne_str, eq_bl, ne_bl, put_ref, putC_lst, ix0, ix1, ix2, ix3, len_lst, len_tup, len_frz, len_ref, lenC_lst, un1_one, tuple_lst, tuple_tup, list_lst, list_tup, slice_tup, slice_lst, it_tup, it_lst, cut_from1, Option.map_some, List.set_set, Nat.reduceLT, Int.reduceLT, if_true, Int.toNat_natCast, mul_mod, mulL, mulR, Int.reduceNeg]
          rw [cut_to, cut_from, add_tup (by simp; unfold big; omega)]
          try simp only [ok_ok, ok_no, ok_bind, ok_of_some, ok_var, ok_cst, ok_nil, ok_cons, ok_tup, ok_lst, ok_lstM, ok_op2, ok_op1, ok_blt, ok_listM, ok_chain, ok_and, ok_or, ok_not, ok_tval, ok_band, ok_bor, ok_bnot, ok_yes, ok_mif, ok_callM, ok_call, ok_lm, ok_optN, ok_optS, ok_slice, ok_ival, ok_range1, ok_range2, ok_zip, ok_sm, ok_addM, ok_get1, ok_get2, ok_comp, ok_compM, s_skip, s_seq, s_expr, s_asg, s_put, s_ret, s_retN, s_brk, s_cnt, s_if, s_for, s_while, List.map_cons, List.map_nil, List.cons_append, List.nil_append, List.replicate, List.getElem?_cons_zero, List.getElem?_cons_succ, List.set_cons_zero, List.set_cons_succ, Option.some.injEq, exists_eq_left', exists_eq_left, Nat.reduceSub, Nat.reduceAdd, Nat.reduceMul, wipeE, gNm, gNms, gTp, D.int.injEq, true_and, and_true, List.length_cons, List.length_nil, Option.bind_some, idx_ref, ixC_lst, idx_lst, idx_tup, idx_frz, at0, at1, at2, at3, add_int, sub_int, mod_int, fdiv_int, pow18, lt_int, le_int, gt_int, ge_int, tru_bl, tru_int, eq_int, ne_int, eq_str, ne_str, eq_bl, ne_bl, put_ref, putC_lst, ix0, ix1, ix2, ix3, len_lst, len_tup, len_frz, len_ref, lenC_lst, un1_one, tuple_lst, tuple_tup, list_lst, list_tup, slice_tup, slice_lst, it_tup, it_lst, cut_from1, Option.map_some, List.set_set, Nat.reduceLT, Int.reduceLT, if_true, Int.toNat_natCast, mul_mod, mulL, mulR, Int.reduceNeg]
          rw [add_tup (by simp; unfold big; omega)]
          have hsz : dsz (.tup (xs.take k ++ [b] ++ xs.drop (k + 1))) ≤ 2 * dsz (.tup xs) + M := by
            have hk : xs = xs.take k ++ y :: xs.drop (k + 1) := by
              obtain ⟨hk1, hk2⟩ := List.getElem?_eq_some_iff.mp hy3
              simp only [Int.toNat_natCast] at hk1 hk2
              rw [← hk2, ← List.drop_eq_getElem_cons hk1, List.take_append_drop]
            have e1 : dszs xs = dszs (xs.take k) + (dsz y + dszs (xs.drop (k + 1))) := by
              conv => lhs; rw [hk]
              rw [dszs_app, dszs]
            rw [dsz_tup, dsz_tup, dszs_app, dszs_app, dszs, dszs, e1]
            omega
          refine ⟨_, rfl, ret _ _ (g12.go h.lt g3) ?_ hsz⟩
          rw [show d + 1 + D' = (d + D') + 1 by omega]
          refine .tup (by simp; omega) fun z hz => ?_
          rcases List.mem_append.mp hz with hz | hz
          · rcases List.mem_append.mp hz with hz | hz
            · exact (hm z (List.mem_of_mem_take hz)).mono (by omega) (by omega)
            · rw [List.mem_singleton.mp hz]; exact hb
          · exact (hm z (List.mem_of_mem_drop hz)).mono (by omega) (by omega)
        · rw [if_neg (by simpa using hr)]
          exact g1
    | _ =>
      refine ⟨_, rfl, false, rfl, ?_⟩
      simp only [Bool.false_eq_true, if_false]
      exact skip.2
  · rintro _ S ⟨rfl, g⟩
    try simp only [ok_ok, ok_no, ok_bind, ok_of_some, ok_var, ok_cst, ok_nil, ok_cons, ok_tup, ok_lst, ok_lstM, ok_op2, ok_op1, ok_blt, ok_listM, ok_chain, ok_and, ok_or, ok_not, ok_tval, ok_band, ok_bor, ok_bnot, ok_yes, ok_mif, ok_callM, ok_call, ok_lm, ok_optN, ok_optS, ok_slice, ok_ival, ok_range1, ok_range2, ok_zip, ok_sm, ok_addM, ok_get1, ok_get2, ok_comp, ok_compM, s_skip, s_seq, s_expr, s_asg, s_put, s_ret, s_retN, s_brk, s_cnt, s_if, s_for, s_while, List.map_cons, List.map_nil, List.cons_append, List.nil_append, List.replicate, List.getElem?_cons_zero, List.getElem?_cons_succ, List.set_cons_zero, List.set_cons_succ, Option.some.injEq, exists_eq_left', exists_eq_left, Nat.reduceSub, Nat.reduceAdd, Nat.reduceMul, wipeE, gNm, gNms, gTp, D.int.injEq, true_and, and_true, List.length_cons, List.length_nil, Option.bind_some, idx_ref, ixC_lst, idx_lst, idx_tup, idx_frz, at0, at1, at2, at3, add_int, sub_int, mod_int, fdiv_int, pow18, lt_int, le_int, gt_int, ge_int, tru_bl, tru_int, eq_int, ne_int, eq_str, ne_str, eq_bl, ne_bl, put_ref, putC_lst, ix0, ix1, ix2, ix3, len_lst, len_tup, len_frz, len_ref, lenC_lst, un1_one, tuple_lst, tuple_tup, list_lst, list_tup, slice_tup, slice_lst, it_tup, it_lst, cut_from1, Option.map_some, List.set_set, Nat.reduceLT, Int.reduceLT, if_true, Int.toNat_natCast, mul_mod, mulL, mulR, Int.reduceNeg]
    rw [isi_tup hx]
    cases hx with
    | tup hl hm =>
      rename_i d xs
      refine ⟨_, rfl, true, rfl, ?_⟩
      have cl := fun lo hi => cut_len (l := xs) (lo := lo) (hi := hi)
      have hcl := cl none (some 1)
      simp only [if_true, List.map_cons, List.map_nil, List.cons_append, List.nil_append, List.replicate, List.getElem?_cons_zero, List.getElem?_cons_succ, List.set_cons_zero, List.set_cons_succ, Option.some.injEq, exists_eq_left', exists_eq_left, Nat.reduceSub, Nat.reduceAdd, Nat.reduceMul, wipeE, gNm, gNms, gTp, D.int.injEq, true_and, and_true, List.length_cons, List.length_nil, Option.bind_some, idx_ref, ixC_lst, idx_lst, idx_tup, idx_frz, at0, at1, at2, at3, add_int, sub_int, mod_int, fdiv_int, pow18, lt_int, le_int, gt_int, ge_int, tru_bl, tru_int, eq_int, ne_int, eq_str, ne_str, eq_bl, ne_bl, put_ref, putC_lst, ix0, ix1, ix2, ix3, len_lst, len_tup, len_frz, len_ref, lenC_lst, un1_one, tuple_lst, tuple_tup, list_lst, list_tup, slice_tup, slice_lst, it_tup, it_lst, cut_from1, Option.map_some, List.set_set, Nat.reduceLT, Int.reduceLT, if_true, Int.toNat_natCast, mul_mod, mulL, mulR, Int.reduceNeg, rev_tup, neg_int, add_tup (show xs.length + (cut xs none (some 1)).length ≤ big by unfold big; omega), add_tup (show xs.length + [D.int 0].length ≤ big by simp; unfold big; omega), mul_tup2 (show xs.length ≤ 1000 by omega)]
      refine draw_call (g.fd h.lt) (by decide) (by decide) fun r st1 r0 r1 g1 => ?_
      have g2 := g.go h.lt g1
      generalize hlst : [D.lst xs, _, _, _, _, _, _, _, _] = lst
      obtain ⟨y, hy, _, hy2⟩ := at_get (xs := lst) r0 (by rw [← hlst]; simpa using r1)
      simp only [List.map_cons, List.map_nil, List.cons_append, List.nil_append, List.replicate, List.getElem?_cons_zero, List.getElem?_cons_succ, List.set_cons_zero, List.set_cons_succ, Option.some.injEq, exists_eq_left', exists_eq_left, Nat.reduceSub, Nat.reduceAdd, Nat.reduceMul, wipeE, gNm, gNms, gTp, D.int.injEq, true_and, and_true, List.length_cons, List.length_nil, Option.bind_some, idx_ref, ixC_lst, idx_lst, idx_tup, idx_frz, at0, at1, at2, at3, add_int, sub_int, mod_int, fdiv_int, pow18, lt_int, le_int, gt_int, ge_int, tru_bl, tru_int, eq_int, ne_int, eq_str, ne_str, eq_bl, ne_bl, put_ref, putC_lst, ix0, ix1, ix2, ix3, len_lst, len_tup, len_frz, len_ref, lenC_lst, un1_one, tuple_lst, tuple_tup, list_lst, list_tup, slice_tup, slice_lst, it_tup, it_lst, cut_from1, Option.map_some, List.set_set, Nat.reduceLT, Int.reduceLT, if_true, Int.toNat_natCast, mul_mod, mulL, mulR, Int.reduceNeg, hy2]
      rw [← hlst] at hy
      refine ret _ _ g2 ?_ ?_
      rotate_left
      · rw [dsz_tup]
        have cz := fun lo hi => dszs_cut (xs := xs) (lo := lo) (hi := hi)
        have z1 := cz none (some 1)
        have z2 := cz (some 1) none
        have z3 := cz none (some (-1))
        simp only [List.mem_cons, List.not_mem_nil, or_false] at hy
        rcases hy with rfl | rfl | rfl | rfl | rfl | rfl | rfl | rfl | rfl
        · rw [dsz_lst]; omega
        · rw [dsz_tup, dszs_app]; omega
        · rw [dsz_tup]; omega
        · rw [dsz_tup]; omega
        · rw [dsz_tup, dszs_rev]; omega
        · rw [dsz_tup, dszs]; omega
        · show 1 ≤ _; omega
        · rw [dsz_tup, dszs_app, dszs, dszs, show dsz (.int 0) = 1 from rfl]; omega
        · rw [dsz_tup, dszs_app]; omega
      have ht : ∀ zs : List D, zs.length ≤ 2 * L + 1 → (∀ z ∈ zs, z ∈ xs ∨ z = .int 0) → Thg (2 * L + 1) (d + 1 + D') (.tup zs) := fun zs h1 h2 => by
        rw [show d + 1 + D' = (d + D') + 1 by omega]
        refine .tup h1 fun z hz => ?_
        rcases h2 z hz with h | h
        · exact (hm z h).mono (by omega) (by omega)
        · rw [h]; exact .int _
      simp only [List.mem_cons, List.not_mem_nil, or_false] at hy
      rcases hy with rfl | rfl | rfl | rfl | rfl | rfl | rfl | rfl | rfl
      · rw [show d + 1 + D' = (d + D') + 1 by omega]
        exact .lst (by omega) fun z hz => (hm z hz).mono (by omega) (by omega)
      · refine ht _ (by simp; omega) fun z hz => .inl ?_
        rcases List.mem_append.mp hz with hz | hz
        · exact hz
        · exact cut_mem hz
      · exact ht _ (by have := cl (some 1) none; omega) fun z hz => .inl (cut_mem hz)
      · exact ht _ (by have := cl none (some (-1)); omega) fun z hz => .inl (cut_mem hz)
      · exact ht _ (by simp; omega) fun z hz => .inl (by simpa using hz)
      · exact ht _ (by simp) fun z hz => by cases hz
      · exact .non
      · refine ht _ (by simp; omega) fun z hz => ?_
        rcases List.mem_append.mp hz with hz | hz
        · exact .inl hz
        · exact .inr (by simpa using hz)
      · refine ht _ (by simp; omega) fun z hz => .inl ?_
        rcases List.mem_append.mp hz with hz | hz <;> exact hz
    | _ =>
      refine ⟨_, rfl, false, rfl, ?_⟩
      simp only [Bool.false_eq_true, if_false, List.map_cons, List.map_nil, List.cons_append, List.nil_append, List.replicate, List.getElem?_cons_zero, List.getElem?_cons_succ, List.set_cons_zero, List.set_cons_succ, Option.some.injEq, exists_eq_left', exists_eq_left, Nat.reduceSub, Nat.reduceAdd, Nat.reduceMul, wipeE, gNm, gNms, gTp, D.int.injEq, true_and, and_true, List.length_cons, List.length_nil, Option.bind_some, idx_ref, ixC_lst, idx_lst, idx_tup, idx_frz, at0, at1, at2, at3, add_int, sub_int, mod_int, fdiv_int, pow18, lt_int, le_int, gt_int, ge_int, tru_bl, tru_int, eq_int, ne_int, eq_str, ne_str, eq_bl, ne_bl, put_ref, putC_lst, ix0, ix1, ix2, ix3, len_lst, len_tup, len_frz, len_ref, lenC_lst, un1_one, tuple_lst, tuple_tup, list_lst, list_tup, slice_tup, slice_lst, it_tup, it_lst, cut_from1, Option.map_some, List.set_set, Nat.reduceLT, Int.reduceLT, if_true, Int.toNat_natCast, mul_mod, mulL, mulR, Int.reduceNeg, neg_int]
      have e : ∀ a : List D, a = oddL → addD S (.lst a) (.lst os) = some (.lst (oddL ++ os)) := fun a ha => by
        subst ha
        exact add_lst (by simp [oddL]; unfold big; omega)
      refine ⟨_, e _ rfl, ?_⟩
      simp only [List.map_cons, List.map_nil, List.cons_append, List.nil_append, List.replicate, List.getElem?_cons_zero, List.getElem?_cons_succ, List.set_cons_zero, List.set_cons_succ, Option.some.injEq, exists_eq_left', exists_eq_left, Nat.reduceSub, Nat.reduceAdd, Nat.reduceMul, wipeE, gNm, gNms, gTp, D.int.injEq, true_and, and_true, List.length_cons, List.length_nil, Option.bind_some, idx_ref, ixC_lst, idx_lst, idx_tup, idx_frz, at0, at1, at2, at3, add_int, sub_int, mod_int, fdiv_int, pow18, lt_int, le_int, gt_int, ge_int, tru_bl, tru_int, eq_int, ne_int, eq_str, ne_str, eq_bl, ne_bl, put_ref, putC_lst, ix0, ix1, ix2, ix3, len_lst, len_tup, len_frz, len_ref, lenC_lst, un1_one, tuple_lst, tuple_tup, list_lst, list_tup, slice_tup, slice_lst, it_tup, it_lst, cut_from1, Option.map_some, List.set_set, Nat.reduceLT, Int.reduceLT, if_true, Int.toNat_natCast, mul_mod, mulL, mulR, Int.reduceNeg]
      have hlen : (oddL ++ os).length = 19 + os.length := by simp [oddL]; omega
      refine draw_call (g.fd h.lt) (by omega) (by omega) fun r st1 r0 r1 g1 => ?_
      have g2 := g.go h.lt g1
      obtain ⟨y, hy, _, hy2⟩ := at_get (xs := oddL ++ os) r0 r1
      simp only [List.map_cons, List.map_nil, List.cons_append, List.nil_append, List.replicate, List.getElem?_cons_zero, List.getElem?_cons_succ, List.set_cons_zero, List.set_cons_succ, Option.some.injEq, exists_eq_left', exists_eq_left, Nat.reduceSub, Nat.reduceAdd, Nat.reduceMul, wipeE, gNm, gNms, gTp, D.int.injEq, true_and, and_true, List.length_cons, List.length_nil, Option.bind_some, idx_ref, ixC_lst, idx_lst, idx_tup, idx_frz, at0, at1, at2, at3, add_int, sub_int, mod_int, fdiv_int, pow18, lt_int, le_int, gt_int, ge_int, tru_bl, tru_int, eq_int, ne_int, eq_str, ne_str, eq_bl, ne_bl, put_ref, putC_lst, ix0, ix1, ix2, ix3, len_lst, len_tup, len_frz, len_ref, lenC_lst, un1_one, tuple_lst, tuple_tup, list_lst, list_tup, slice_tup, slice_lst, it_tup, it_lst, cut_from1, Option.map_some, List.set_set, Nat.reduceLT, Int.reduceLT, if_true, Int.toNat_natCast, mul_mod, mulL, mulR, Int.reduceNeg, hy2]
      refine ret _ _ g2 ?_ (by
        rcases List.mem_append.mp hy with hy | hy
        · have := odd_sz _ hy; omega
        · have := hom _ hy; omega)
      rcases List.mem_append.mp hy with hy | hy
      · exact (thg_odd (d := 0) hL hy).mono (by omega) (by omega)
      · exact (hos y hy).mono (by omega) (by omega)
theorem bent_ok (hL : 9 ≤ L) (hL2 : L ≤ 400) (hD : 1 ≤ D') (hos : ∀ o ∈ os, Thg L D' o) (hM : 1 ≤ M) (hom : ∀ o ∈ os, dsz o ≤ M) (hol : os.length ≤ 100) : ∀ (d j : Nat) (x : D) (st : St), Fd FC n st → Thg L d x → Ok (CC (d + j + 2) "_law_bent" [.ref n, x, .lst os] st) fun r st' => Thg (2 * L + 1) (d + D') r ∧ dsz r ≤ 2 * dsz x + M ∧ Go n st st'
  | 0, j, x, st, h, hx => bent_go hL hL2 hD hos hM hom hol 0 j x st h hx fun e he => by omega
  | d + 1, j, x, st, h, hx => bent_go hL hL2 hD hos hM hom hol (d + 1) j x st h hx fun e he => by
    obtain rfl : d = e := by omega
    exact bent_ok hL hL2 hD hos hM hom hol d
end
end RP
end
section
set_option Elab.async false
set_option linter.all false
set_option maxRecDepth 100000
set_option maxHeartbeats 1000000
namespace RP
open PySem
theorem is_name_ok {L d j : Nat} {x : D} {st : St} (h : Thg L d x) (hL : L ≤ 1000) : Ok (CC (j + 1) "is_name" [x] st) fun r st' => r = .bl (isNameB x) ∧ st' = st := by
  rw [r_is_name]
  refine ok_fn rfl ?_
  unfold b_is_name
  try simp only [ok_ok, ok_no, ok_bind, ok_of_some, ok_var, ok_cst, ok_nil, ok_cons, ok_tup, ok_lst, ok_lstM, ok_op2, ok_op1, ok_blt, ok_listM, ok_chain, ok_and, ok_or, ok_not, ok_tval, ok_band, ok_bor, ok_bnot, ok_yes, ok_mif, ok_callM, ok_call, ok_lm, ok_optN, ok_optS, ok_slice, ok_ival, ok_range1, ok_range2, ok_zip, ok_sm, ok_addM, ok_get1, ok_get2, ok_comp, ok_compM, s_skip, s_seq, s_expr, s_asg, s_put, s_ret, s_retN, s_brk, s_cnt, s_if, s_for, s_while, List.map_cons, List.map_nil, List.cons_append, List.nil_append, List.replicate, List.getElem?_cons_zero, List.getElem?_cons_succ, List.set_cons_zero, List.set_cons_succ, Option.some.injEq, exists_eq_left', exists_eq_left, Nat.reduceSub, Nat.reduceAdd, Nat.reduceMul, wipeE, gNm, gNms, gTp, D.int.injEq, true_and, and_true, List.length_cons, List.length_nil, Option.bind_some, idx_ref, ixC_lst, idx_lst, idx_tup, idx_frz, at0, at1, at2, at3, add_int, sub_int, mod_int, fdiv_int, pow18, lt_int, le_int, gt_int, ge_int, tru_bl, tru_int, eq_int, ne_int, eq_str, ne_str, eq_bl, ne_bl, put_ref, putC_lst, ix0, ix1, ix2, ix3, len_lst, len_tup, len_frz, len_ref, lenC_lst, un1_one, tuple_lst, tuple_tup, list_lst, list_tup, slice_tup, slice_lst, it_tup, it_lst, cut_from1, Option.map_some, List.set_set, Nat.reduceLT, Int.reduceLT, if_true, Int.toNat_natCast, mul_mod, mulL, mulR, Int.reduceNeg]
  rw [isi_str h]
  cases h with
  | str z hz =>
    have hzb : z.length ≤ big := by unfold big; omega
    refine ⟨_, rfl, true, rfl, ?_⟩
    simp only [if_true, List.map_cons, List.map_nil, List.cons_append, List.nil_append, List.replicate, List.getElem?_cons_zero, List.getElem?_cons_succ, List.set_cons_zero, List.set_cons_succ, Option.some.injEq, exists_eq_left', exists_eq_left, Nat.reduceSub, Nat.reduceAdd, Nat.reduceMul, wipeE, gNm, gNms, gTp, D.int.injEq, true_and, and_true, List.length_cons, List.length_nil, Option.bind_some, idx_ref, ixC_lst, idx_lst, idx_tup, idx_frz, at0, at1, at2, at3, add_int, sub_int, mod_int, fdiv_int, pow18, lt_int, le_int, gt_int, ge_int, tru_bl, tru_int, eq_int, ne_int, eq_str, ne_str, eq_bl, ne_bl, put_ref, putC_lst, ix0, ix1, ix2, ix3, len_lst, len_tup, len_frz, len_ref, lenC_lst, un1_one, tuple_lst, tuple_tup, list_lst, list_tup, slice_tup, slice_lst, it_tup, it_lst, cut_from1, Option.map_some, List.set_set, Nat.reduceLT, Int.reduceLT, if_true, Int.toNat_natCast, mul_mod, mulL, mulR, Int.reduceNeg, len_str hzb]
    refine chain2 ?_
    have e1 : isNameB (.str z) = (decide ((1 : Int) ≤ z.length) && (decide ((z.length : Int) ≤ 8) && z.cps.toList.all fun c => decide (c ∈ lettersL))) := by
      simp only [isNameB, nameB]
      congr 1
      · rw [Bool.eq_iff_iff]; simp; omega
      · congr 1
        rw [Bool.eq_iff_iff]; simp; omega
    rw [e1]
    by_cases h1 : (1 : Int) ≤ z.length
    · rw [if_pos (by simpa using h1)]
      by_cases h8 : (z.length : Int) ≤ 8
      · rw [if_pos (by simpa using h8), it_str hzb]
        refine ⟨_, rfl, ?_⟩
        refine comp_enc (e := fun c : Nat => D.str ⟨#[c]⟩) z.cps.toList (fun c => .bl (decide (c ∈ lettersL))) rfl gNone ?_ ?_
        · intro c hc
          refine ⟨_, rfl, ?_⟩
          simp only [ok_ok, ok_no, ok_bind, ok_of_some, ok_var, ok_cst, ok_nil, ok_cons, ok_tup, ok_lst, ok_lstM, ok_op2, ok_op1, ok_blt, ok_listM, ok_chain, ok_and, ok_or, ok_not, ok_tval, ok_band, ok_bor, ok_bnot, ok_yes, ok_mif, ok_callM, ok_call, ok_lm, ok_optN, ok_optS, ok_slice, ok_ival, ok_range1, ok_range2, ok_zip, ok_sm, ok_addM, ok_get1, ok_get2, ok_comp, ok_compM, s_skip, s_seq, s_expr, s_asg, s_put, s_ret, s_retN, s_brk, s_cnt, s_if, s_for, s_while, List.map_cons, List.map_nil, List.cons_append, List.nil_append, List.replicate, List.getElem?_cons_zero, List.getElem?_cons_succ, List.set_cons_zero, List.set_cons_succ, Option.some.injEq, exists_eq_left', exists_eq_left, Nat.reduceSub, Nat.reduceAdd, Nat.reduceMul, wipeE, gNm, gNms, gTp, D.int.injEq, true_and, and_true, List.length_cons, List.length_nil, Option.bind_some, idx_ref, ixC_lst, idx_lst, idx_tup, idx_frz, at0, at1, at2, at3, add_int, sub_int, mod_int, fdiv_int, pow18, lt_int, le_int, gt_int, ge_int, tru_bl, tru_int, eq_int, ne_int, eq_str, ne_str, eq_bl, ne_bl, put_ref, putC_lst, ix0, ix1, ix2, ix3, len_lst, len_tup, len_frz, len_ref, lenC_lst, un1_one, tuple_lst, tuple_tup, list_lst, list_tup, slice_tup, slice_lst, it_tup, it_lst, cut_from1, Option.map_some, List.set_set, Nat.reduceLT, Int.reduceLT, if_true, Int.toNat_natCast, mul_mod, mulL, mulR, Int.reduceNeg, in_sign, letters_eq, and_self]
        · rw [all_signs]
          refine ⟨_, rfl, ?_⟩
          rw [gc_same rfl]
          exact ⟨by simp [h1, h8], rfl⟩
      · rw [if_neg (by simpa using h8), gc_same rfl]
        exact ⟨by simp [h8], rfl⟩
    · rw [if_neg (by simpa using h1), gc_same rfl]
      exact ⟨by simp [h1], rfl⟩
  | _ =>
    refine ⟨_, rfl, false, rfl, ?_⟩
    rw [if_neg (by decide), gc_same rfl]
    exact ⟨rfl, rfl⟩
theorem law_is_name_ok {L d j : Nat} {x : D} {st : St} (h : Thg L d x) (hL : L ≤ 1000) : Ok (CC (j + 1) "_law_is_name" [x] st) fun r st' => r = .bl (isNameB x) ∧ st' = st := by
  rw [r__law_is_name]
  refine ok_fn rfl ?_
  unfold b__law_is_name
  try simp only [ok_ok, ok_no, ok_bind, ok_of_some, ok_var, ok_cst, ok_nil, ok_cons, ok_tup, ok_lst, ok_lstM, ok_op2, ok_op1, ok_blt, ok_listM, ok_chain, ok_and, ok_or, ok_not, ok_tval, ok_band, ok_bor, ok_bnot, ok_yes, ok_mif, ok_callM, ok_call, ok_lm, ok_optN, ok_optS, ok_slice, ok_ival, ok_range1, ok_range2, ok_zip, ok_sm, ok_addM, ok_get1, ok_get2, ok_comp, ok_compM, s_skip, s_seq, s_expr, s_asg, s_put, s_ret, s_retN, s_brk, s_cnt, s_if, s_for, s_while, List.map_cons, List.map_nil, List.cons_append, List.nil_append, List.replicate, List.getElem?_cons_zero, List.getElem?_cons_succ, List.set_cons_zero, List.set_cons_succ, Option.some.injEq, exists_eq_left', exists_eq_left, Nat.reduceSub, Nat.reduceAdd, Nat.reduceMul, wipeE, gNm, gNms, gTp, D.int.injEq, true_and, and_true, List.length_cons, List.length_nil, Option.bind_some, idx_ref, ixC_lst, idx_lst, idx_tup, idx_frz, at0, at1, at2, at3, add_int, sub_int, mod_int, fdiv_int, pow18, lt_int, le_int, gt_int, ge_int, tru_bl, tru_int, eq_int, ne_int, eq_str, ne_str, eq_bl, ne_bl, put_ref, putC_lst, ix0, ix1, ix2, ix3, len_lst, len_tup, len_frz, len_ref, lenC_lst, un1_one, tuple_lst, tuple_tup, list_lst, list_tup, slice_tup, slice_lst, it_tup, it_lst, cut_from1, Option.map_some, List.set_set, Nat.reduceLT, Int.reduceLT, if_true, Int.toNat_natCast, mul_mod, mulL, mulR, Int.reduceNeg]
  rw [isi_str h]
  cases h with
  | str z hz =>
    have hzb : z.length ≤ big := by unfold big; omega
    refine ⟨_, rfl, true, rfl, ?_⟩
    simp only [Bool.not_true, Bool.false_eq_true, if_false, List.map_cons, List.map_nil, List.cons_append, List.nil_append, List.replicate, List.getElem?_cons_zero, List.getElem?_cons_succ, List.set_cons_zero, List.set_cons_succ, Option.some.injEq, exists_eq_left', exists_eq_left, Nat.reduceSub, Nat.reduceAdd, Nat.reduceMul, wipeE, gNm, gNms, gTp, D.int.injEq, true_and, and_true, List.length_cons, List.length_nil, Option.bind_some, idx_ref, ixC_lst, idx_lst, idx_tup, idx_frz, at0, at1, at2, at3, add_int, sub_int, mod_int, fdiv_int, pow18, lt_int, le_int, gt_int, ge_int, tru_bl, tru_int, eq_int, ne_int, eq_str, ne_str, eq_bl, ne_bl, put_ref, putC_lst, ix0, ix1, ix2, ix3, len_lst, len_tup, len_frz, len_ref, lenC_lst, un1_one, tuple_lst, tuple_tup, list_lst, list_tup, slice_tup, slice_lst, it_tup, it_lst, cut_from1, Option.map_some, List.set_set, Nat.reduceLT, Int.reduceLT, if_true, Int.toNat_natCast, mul_mod, mulL, mulR, Int.reduceNeg, len_str hzb]
    have e1 : isNameB (.str z) = (decide ((0 : Int) < z.length) && (decide ((z.length : Int) < 9) && z.cps.toList.all fun c => decide (c ∈ lettersL))) := by
      simp only [isNameB, nameB]
      congr 1
      · rw [Bool.eq_iff_iff]; simp; omega
      · congr 1
        rw [Bool.eq_iff_iff]; simp; omega
    rw [e1]
    refine chain2 ?_
    by_cases h1 : (0 : Int) < z.length
    · rw [if_pos (by simpa using h1)]
      by_cases h9 : (z.length : Int) < 9
      · rw [if_neg (by simp; omega), it_str hzb]
        refine ⟨_, rfl, ?_⟩
        refine comp_encF (e := fun c : Nat => D.str ⟨#[c]⟩) z.cps.toList (fun c => !decide (c ∈ lettersL)) (fun c => D.str ⟨#[c]⟩) rfl gNone ?_ ?_
        · intro c hc
          refine ⟨_, rfl, ?_, fun _ => ⟨rfl, rfl⟩⟩
          simp only [ok_ok, ok_no, ok_bind, ok_of_some, ok_var, ok_cst, ok_nil, ok_cons, ok_tup, ok_lst, ok_lstM, ok_op2, ok_op1, ok_blt, ok_listM, ok_chain, ok_and, ok_or, ok_not, ok_tval, ok_band, ok_bor, ok_bnot, ok_yes, ok_mif, ok_callM, ok_call, ok_lm, ok_optN, ok_optS, ok_slice, ok_ival, ok_range1, ok_range2, ok_zip, ok_sm, ok_addM, ok_get1, ok_get2, ok_comp, ok_compM, s_skip, s_seq, s_expr, s_asg, s_put, s_ret, s_retN, s_brk, s_cnt, s_if, s_for, s_while, List.map_cons, List.map_nil, List.cons_append, List.nil_append, List.replicate, List.getElem?_cons_zero, List.getElem?_cons_succ, List.set_cons_zero, List.set_cons_succ, Option.some.injEq, exists_eq_left', exists_eq_left, Nat.reduceSub, Nat.reduceAdd, Nat.reduceMul, wipeE, gNm, gNms, gTp, D.int.injEq, true_and, and_true, List.length_cons, List.length_nil, Option.bind_some, idx_ref, ixC_lst, idx_lst, idx_tup, idx_frz, at0, at1, at2, at3, add_int, sub_int, mod_int, fdiv_int, pow18, lt_int, le_int, gt_int, ge_int, tru_bl, tru_int, eq_int, ne_int, eq_str, ne_str, eq_bl, ne_bl, put_ref, putC_lst, ix0, ix1, ix2, ix3, len_lst, len_tup, len_frz, len_ref, lenC_lst, un1_one, tuple_lst, tuple_tup, list_lst, list_tup, slice_tup, slice_lst, it_tup, it_lst, cut_from1, Option.map_some, List.set_set, Nat.reduceLT, Int.reduceLT, if_true, Int.toNat_natCast, mul_mod, mulL, mulR, Int.reduceNeg, nin_sign, letters_eq, and_self]
        · rw [eq_noneL]
          refine ⟨_, rfl, ?_⟩
          rw [gc_same rfl]
          exact ⟨by rw [decide_eq_true h1, decide_eq_true h9]; simp only [Bool.true_and], rfl⟩
      · rw [if_pos (by simp; omega), gc_same rfl]
        exact ⟨by simp [h9], rfl⟩
    · rw [if_neg (by simpa using h1), if_pos (by simp), gc_same rfl]
      exact ⟨by rw [decide_eq_false h1]; simp only [Bool.false_and], rfl⟩
  | _ =>
    refine ⟨_, rfl, false, rfl, ?_⟩
    simp only [Bool.not_false, if_true]
    rw [gc_same rfl]
    exact ⟨rfl, rfl⟩
end RP
end
section
set_option Elab.async false
set_option linter.all false
set_option maxRecDepth 100000
set_option maxHeartbeats 1000000
namespace RP
open PySem
section
variable {c : Call} {env : Env} {st : St} {Q : D → St → Prop} {me mf : ME} {t : Tbl}
theorem ok_tab1 : Ok (mTab1 t me c env st) Q ↔ Ok (me c env st) fun y st1 => ∃ z, y = .str z ∧ Q (((tLook t z).map D.int).getD .non) st1 := by
  unfold mTab1
  rw [ok_bind]
  refine iff_of_eq (congrArg (Ok (me c env st)) (funext fun y => funext fun st1 => propext ?_))
  cases y <;> simp [ok_ok, ok_no]
theorem ok_tab2 : Ok (mTab2 t me mf c env st) Q ↔ Ok (me c env st) fun y st1 => Ok (mf c env st1) fun d st2 => ∃ z, y = .str z ∧ Q (((tLook t z).map D.int).getD d) st2 := by
  unfold mTab2
  rw [ok_bind]
  simp only [ok_bind]
  refine iff_of_eq (congrArg (Ok (me c env st)) (funext fun y => funext fun st1 => congrArg (Ok (mf c env st1)) (funext fun d => funext fun st2 => propext ?_)))
  cases y <;> simp [ok_ok, ok_no]
end
theorem many_ok {j : Nat} {w : Str} {st : St} : Ok (CC (j + 1) "many_inner" [.str w] st) fun r st' => r = wArD w ∧ st' = st := by
  rw [r_many_inner]
  refine ok_fn rfl ?_
  unfold b_many_inner
  simp only [ok_ok, ok_no, ok_bind, ok_of_some, ok_var, ok_cst, ok_nil, ok_cons, ok_tup, ok_lst, ok_lstM, ok_op2, ok_op1, ok_blt, ok_listM, ok_chain, ok_and, ok_or, ok_not, ok_tval, ok_band, ok_bor, ok_bnot, ok_yes, ok_mif, ok_callM, ok_call, ok_lm, ok_optN, ok_optS, ok_slice, ok_ival, ok_range1, ok_range2, ok_zip, ok_sm, ok_addM, ok_get1, ok_get2, ok_comp, ok_compM, s_skip, s_seq, s_expr, s_asg, s_put, s_ret, s_retN, s_brk, s_cnt, s_if, s_for, s_while, List.map_cons, List.map_nil, List.cons_append, List.nil_append, List.replicate, List.getElem?_cons_zero, List.getElem?_cons_succ, List.set_cons_zero, List.set_cons_succ, Option.some.injEq, exists_eq_left', exists_eq_left, Nat.reduceSub, Nat.reduceAdd, Nat.reduceMul, wipeE, gNm, gNms, gTp, D.int.injEq, true_and, and_true, List.length_cons, List.length_nil, Option.bind_some, idx_ref, ixC_lst, idx_lst, idx_tup, idx_frz, at0, at1, at2, at3, add_int, sub_int, mod_int, fdiv_int, pow18, lt_int, le_int, gt_int, ge_int, tru_bl, tru_int, eq_int, ne_int, eq_str, ne_str, eq_bl, ne_bl, put_ref, putC_lst, ix0, ix1, ix2, ix3, len_lst, len_tup, len_frz, len_ref, lenC_lst, un1_one, tuple_lst, tuple_tup, list_lst, list_tup, slice_tup, slice_lst, it_tup, it_lst, cut_from1, Option.map_some, List.set_set, Nat.reduceLT, Int.reduceLT, if_true, Int.toNat_natCast, mul_mod, mulL, mulR, Int.reduceNeg, ok_tab1, ok_tab2]
  refine ⟨w, rfl, w, rfl, ?_⟩
  rw [gc_same rfl]
  exact ⟨rfl, rfl⟩
theorem many_call {j : Nat} {w : Str} {st : St} {Q : D → St → Prop} (q : Q (wArD w) st) : Ok (ice st (CC (j + 1) "many_inner" [.str w] st)) Q := by
  refine ok_ice_val (many_ok.mono ?_)
  rintro _ S' ⟨rfl, e'⟩
  subst S'
  refine ⟨?_, q⟩
  rw [wArD_eq]
  split <;> rfl
theorem cut_1m {α : Type} {x : α} {r : List α} {m : Nat} : cut (x :: r) (some 1) (some (1 + (m : Int))) = r.take m := by
  unfold cut HT.sIx
  simp only
  rw [if_neg (by omega), if_neg (by omega)]
  have e1 : (1 : Int).toNat = 1 := rfl
  have e2 : (1 + (m : Int)).toNat = m + 1 := by omega
  rw [e1, e2]
  simp only [List.length_cons]
  rw [show min 1 (r.length + 1) = 1 by omega, List.drop_succ_cons, List.drop_zero]
  rw [List.take_eq_take_iff]
  omega
theorem inner_call {j : Nat} {N O : Str → Prop} {t : Pt} {st : St} {Q : D → St → Prop} (h : PlanQ N O t) (q : Q (.tup ((inr t).map encT)) st) : Ok (ice st (CC (j + 2) "inner_of" [encT t] st)) Q := by
  obtain ⟨w, r, e, m, hm, ht⟩ := h.ar
  have h0 : Ok (CC (j + 2) "inner_of" [encT t] st) fun r st' => r = .tup ((inr t).map encT) ∧ st' = st := by
    rw [e, r_inner_of]
    refine ok_fn rfl ?_
    unfold b_inner_of
    try simp only [ok_ok, ok_no, ok_bind, ok_of_some, ok_var, ok_cst, ok_nil, ok_cons, ok_tup, ok_lst, ok_lstM, ok_op2, ok_op1, ok_blt, ok_listM, ok_chain, ok_and, ok_or, ok_not, ok_tval, ok_band, ok_bor, ok_bnot, ok_yes, ok_mif, ok_callM, ok_call, ok_lm, ok_optN, ok_optS, ok_slice, ok_ival, ok_range1, ok_range2, ok_zip, ok_sm, ok_addM, ok_get1, ok_get2, ok_comp, ok_compM, s_skip, s_seq, s_expr, s_asg, s_put, s_ret, s_retN, s_brk, s_cnt, s_if, s_for, s_while, List.map_cons, List.map_nil, List.cons_append, List.nil_append, List.replicate, List.getElem?_cons_zero, List.getElem?_cons_succ, List.set_cons_zero, List.set_cons_succ, Option.some.injEq, exists_eq_left', exists_eq_left, Nat.reduceSub, Nat.reduceAdd, Nat.reduceMul, wipeE, gNm, gNms, gTp, D.int.injEq, true_and, and_true, List.length_cons, List.length_nil, Option.bind_some, idx_ref, ixC_lst, idx_lst, idx_tup, idx_frz, at0, at1, at2, at3, add_int, sub_int, mod_int, fdiv_int, pow18, lt_int, le_int, gt_int, ge_int, tru_bl, tru_int, eq_int, ne_int, eq_str, ne_str, eq_bl, ne_bl, put_ref, putC_lst, ix0, ix1, ix2, ix3, len_lst, len_tup, len_frz, len_ref, lenC_lst, un1_one, tuple_lst, tuple_tup, list_lst, list_tup, slice_tup, slice_lst, it_tup, it_lst, cut_from1, Option.map_some, List.set_set, Nat.reduceLT, Int.reduceLT, if_true, Int.toNat_natCast, mul_mod, mulL, mulR, Int.reduceNeg]
    refine many_call ?_
    rw [wArD_eq, hm]
    try simp only [ok_ok, ok_no, ok_bind, ok_of_some, ok_var, ok_cst, ok_nil, ok_cons, ok_tup, ok_lst, ok_lstM, ok_op2, ok_op1, ok_blt, ok_listM, ok_chain, ok_and, ok_or, ok_not, ok_tval, ok_band, ok_bor, ok_bnot, ok_yes, ok_mif, ok_callM, ok_call, ok_lm, ok_optN, ok_optS, ok_slice, ok_ival, ok_range1, ok_range2, ok_zip, ok_sm, ok_addM, ok_get1, ok_get2, ok_comp, ok_compM, s_skip, s_seq, s_expr, s_asg, s_put, s_ret, s_retN, s_brk, s_cnt, s_if, s_for, s_while, List.map_cons, List.map_nil, List.cons_append, List.nil_append, List.replicate, List.getElem?_cons_zero, List.getElem?_cons_succ, List.set_cons_zero, List.set_cons_succ, Option.some.injEq, exists_eq_left', exists_eq_left, Nat.reduceSub, Nat.reduceAdd, Nat.reduceMul, wipeE, gNm, gNms, gTp, D.int.injEq, true_and, and_true, List.length_cons, List.length_nil, Option.bind_some, idx_ref, ixC_lst, idx_lst, idx_tup, idx_frz, at0, at1, at2, at3, add_int, sub_int, mod_int, fdiv_int, pow18, lt_int, le_int, gt_int, ge_int, tru_bl, tru_int, eq_int, ne_int, eq_str, ne_str, eq_bl, ne_bl, put_ref, putC_lst, ix0, ix1, ix2, ix3, len_lst, len_tup, len_frz, len_ref, lenC_lst, un1_one, tuple_lst, tuple_tup, list_lst, list_tup, slice_tup, slice_lst, it_tup, it_lst, cut_from1, Option.map_some, List.set_set, Nat.reduceLT, Int.reduceLT, if_true, Int.toNat_natCast, mul_mod, mulL, mulR, Int.reduceNeg]
    rw [gc_same rfl]
    refine ⟨?_, rfl⟩
    rw [cut_1m, ht]
  refine ok_ice_val (h0.mono ?_)
  rintro _ S' ⟨rfl, e'⟩
  subst S'
  exact ⟨rfl, q⟩
theorem planB_no {ns : List Str} {d : Nat} {x : D} (h : ∀ w r, x ≠ .tup (.str w :: r)) : planB ns d x = false := by
  unfold planB
  split
  · rename_i w r
    exact (h _ _ rfl).elim
  · rfl
theorem planB_use {ns : List Str} {d : Nat} {r : List D} : planB ns (d + 1) (.tup (.str "use" :: r)) = oneIn ns r := by rw [planB, if_pos rfl]
theorem planB_any {ns : List Str} {d : Nat} {r : List D} : planB ns (d + 1) (.tup (.str "any" :: r)) = oneNm r := by rw [planB, if_neg (by decide), if_pos rfl]
theorem planB_none {ns : List Str} {d : Nat} {w : Str} {r : List D} (h : wAr w = none) : planB ns (d + 1) (.tup (.str w :: r)) = false := by
  rw [planB, if_neg, if_neg, h]
  · rintro rfl; rw [wAr_any] at h; cases h
  · rintro rfl; rw [wAr_use] at h; cases h
theorem planB_some {ns : List Str} {d m : Nat} {w : Str} {r : List D} (h1 : w ≠ "use") (h2 : w ≠ "any") (h : wAr w = some m) : planB ns (d + 1) (.tup (.str w :: r)) = (decide (r.length = m) && r.all (planB ns d)) := by
  rw [planB, if_neg h1, if_neg h2, h]
theorem head_if {L d : Nat} {x : D} {st : St} {c : Call} {env : Env} (hx : Thg L d x) (he : env[1]? = some (some x)) : Ok (RP.bOr (bNot (tVal (mOp1 (isiD .tuple) (mVar 1)))) (RP.bOr (tVal (mOp2 eqB (mBlt (un1 lenD) [(mVar 1)]) (mCst (.int 0)))) (bNot (tVal (mOp1 (isiD .str) (mOp2 idxD (mVar 1) (mCst (.int 0)))))))  c env st) fun b st' => st' = st ∧ (b = true → ∀ w r, x ≠ .tup (.str w :: r)) ∧ (b = false → ∃ w r, x = .tup (.str w :: r)) := by
  simp only [ok_ok, ok_no, ok_bind, ok_of_some, ok_var, ok_cst, ok_nil, ok_cons, ok_tup, ok_lst, ok_lstM, ok_op2, ok_op1, ok_blt, ok_listM, ok_chain, ok_and, ok_or, ok_not, ok_tval, ok_band, ok_bor, ok_bnot, ok_yes, ok_mif, ok_callM, ok_call, ok_lm, ok_optN, ok_optS, ok_slice, ok_ival, ok_range1, ok_range2, ok_zip, ok_sm, ok_addM, ok_get1, ok_get2, ok_comp, ok_compM, s_skip, s_seq, s_expr, s_asg, s_put, s_ret, s_retN, s_brk, s_cnt, s_if, s_for, s_while, List.map_cons, List.map_nil, List.cons_append, List.nil_append, List.replicate, List.getElem?_cons_zero, List.getElem?_cons_succ, List.set_cons_zero, List.set_cons_succ, Option.some.injEq, exists_eq_left', exists_eq_left, Nat.reduceSub, Nat.reduceAdd, Nat.reduceMul, wipeE, gNm, gNms, gTp, D.int.injEq, true_and, and_true, List.length_cons, List.length_nil, Option.bind_some, he, isi_tup hx, idx_ref, ixC_lst, idx_lst, idx_tup, idx_frz, at0, at1, at2, at3, add_int, sub_int, mod_int, fdiv_int, pow18, lt_int, le_int, gt_int, ge_int, tru_bl, tru_int, eq_int, ne_int, eq_str, ne_str, eq_bl, ne_bl, put_ref, putC_lst, ix0, ix1, ix2, ix3, len_lst, len_tup, len_frz, len_ref, lenC_lst, un1_one, tuple_lst, tuple_tup, list_lst, list_tup, slice_tup, slice_lst, it_tup, it_lst, cut_from1, Option.map_some, List.set_set, Nat.reduceLT, Int.reduceLT, if_true, Int.toNat_natCast, mul_mod, mulL, mulR, Int.reduceNeg]
  cases hx with
  | tup hl hk =>
    rename_i e xs
    cases xs with
    | nil =>
      simp [isTupB, lenD, eqB, eqO, see, pln, plns, eqD, dep, bD]
      exact .inr rfl
    | cons y r =>
      have hy := hk y (by simp)
      simp only [isTupB, Bool.not_true, Bool.false_eq_true, if_false, List.map_cons, List.map_nil, List.cons_append, List.nil_append, List.replicate, List.getElem?_cons_zero, List.getElem?_cons_succ, List.set_cons_zero, List.set_cons_succ, Option.some.injEq, exists_eq_left', exists_eq_left, Nat.reduceSub, Nat.reduceAdd, Nat.reduceMul, wipeE, gNm, gNms, gTp, D.int.injEq, true_and, and_true, List.length_cons, List.length_nil, Option.bind_some, idx_ref, ixC_lst, idx_lst, idx_tup, idx_frz, at0, at1, at2, at3, add_int, sub_int, mod_int, fdiv_int, pow18, lt_int, le_int, gt_int, ge_int, tru_bl, tru_int, eq_int, ne_int, eq_str, ne_str, eq_bl, ne_bl, put_ref, putC_lst, ix0, ix1, ix2, ix3, len_lst, len_tup, len_frz, len_ref, lenC_lst, un1_one, tuple_lst, tuple_tup, list_lst, list_tup, slice_tup, slice_lst, it_tup, it_lst, cut_from1, Option.map_some, List.set_set, Nat.reduceLT, Int.reduceLT, if_true, Int.toNat_natCast, mul_mod, mulL, mulR, Int.reduceNeg]
      rw [if_neg (by simp; omega)]
      simp only [List.map_cons, List.map_nil, List.cons_append, List.nil_append, List.replicate, List.getElem?_cons_zero, List.getElem?_cons_succ, List.set_cons_zero, List.set_cons_succ, Option.some.injEq, exists_eq_left', exists_eq_left, Nat.reduceSub, Nat.reduceAdd, Nat.reduceMul, wipeE, gNm, gNms, gTp, D.int.injEq, true_and, and_true, List.length_cons, List.length_nil, Option.bind_some, idx_ref, ixC_lst, idx_lst, idx_tup, idx_frz, at0, at1, at2, at3, add_int, sub_int, mod_int, fdiv_int, pow18, lt_int, le_int, gt_int, ge_int, tru_bl, tru_int, eq_int, ne_int, eq_str, ne_str, eq_bl, ne_bl, put_ref, putC_lst, ix0, ix1, ix2, ix3, len_lst, len_tup, len_frz, len_ref, lenC_lst, un1_one, tuple_lst, tuple_tup, list_lst, list_tup, slice_tup, slice_lst, it_tup, it_lst, cut_from1, Option.map_some, List.set_set, Nat.reduceLT, Int.reduceLT, if_true, Int.toNat_natCast, mul_mod, mulL, mulR, Int.reduceNeg, isi_str hy]
      cases hy <;> simp [isStrB]
  | _ => simp [isTupB]
theorem isi_1 {L d : Nat} {y : D} {st : St} (h : Thg L d y) : isiD .str st y = some (.bl (isStrB y)) := isi_str h
/-- ('use', name) -/
theorem use_ok {L d k : Nat} {rs : List Rl} {r : List D} {w : Str} {c : Call} {env : Env} {st : St} {Q : D → St → Prop} (hr : ∀ y ∈ r, Thg L d y) (h0 : env[0]? = some (some (.tup (rs.map encRl)))) (h1 : env[1]? = some (some (.tup (.str w :: r)))) (hk : k < env.length) (hk0 : k ≠ 0) (hk1 : k ≠ 1)
    (q : Q (.bl (oneIn (rs.map (·.1)) r)) st) : Ok (mAnd (mOp2 eqB (mBlt (un1 lenD) [(mVar 1)]) (mCst (.int 2))) (mAnd (mOp1 (isiD .str) (mOp2 idxD (mVar 1) (mCst (.int 1)))) (mOp2 inB (mOp2 idxD (mVar 1) (mCst (.int 1))) (mComp [k] (iVal (mVar 0)) (gNm k) tYesM (mOp2 idxD (mVar k) (mCst (.int 0)))))) c env st) Q := by
  simp only [ok_ok, ok_no, ok_bind, ok_of_some, ok_var, ok_cst, ok_nil, ok_cons, ok_tup, ok_lst, ok_lstM, ok_op2, ok_op1, ok_blt, ok_listM, ok_chain, ok_and, ok_or, ok_not, ok_tval, ok_band, ok_bor, ok_bnot, ok_yes, ok_mif, ok_callM, ok_call, ok_lm, ok_optN, ok_optS, ok_slice, ok_ival, ok_range1, ok_range2, ok_zip, ok_sm, ok_addM, ok_get1, ok_get2, ok_comp, ok_compM, s_skip, s_seq, s_expr, s_asg, s_put, s_ret, s_retN, s_brk, s_cnt, s_if, s_for, s_while, List.map_cons, List.map_nil, List.cons_append, List.nil_append, List.replicate, List.getElem?_cons_zero, List.getElem?_cons_succ, List.set_cons_zero, List.set_cons_succ, Option.some.injEq, exists_eq_left', exists_eq_left, Nat.reduceSub, Nat.reduceAdd, Nat.reduceMul, wipeE, gNm, gNms, gTp, D.int.injEq, true_and, and_true, List.length_cons, List.length_nil, Option.bind_some, h1, idx_ref, ixC_lst, idx_lst, idx_tup, idx_frz, at0, at1, at2, at3, add_int, sub_int, mod_int, fdiv_int, pow18, lt_int, le_int, gt_int, ge_int, tru_bl, tru_int, eq_int, ne_int, eq_str, ne_str, eq_bl, ne_bl, put_ref, putC_lst, ix0, ix1, ix2, ix3, len_lst, len_tup, len_frz, len_ref, lenC_lst, un1_one, tuple_lst, tuple_tup, list_lst, list_tup, slice_tup, slice_lst, it_tup, it_lst, cut_from1, Option.map_some, List.set_set, Nat.reduceLT, Int.reduceLT, if_true, Int.toNat_natCast, mul_mod, mulL, mulR, Int.reduceNeg]
  match r, hr, q with
  | [], _, q => rw [if_neg (by simp)]; simpa [oneIn] using q
  | [y], hr, q =>
    have hy := hr y (by simp)
    rw [if_pos (by simp)]
    simp only [List.map_cons, List.map_nil, List.cons_append, List.nil_append, List.replicate, List.getElem?_cons_zero, List.getElem?_cons_succ, List.set_cons_zero, List.set_cons_succ, Option.some.injEq, exists_eq_left', exists_eq_left, Nat.reduceSub, Nat.reduceAdd, Nat.reduceMul, wipeE, gNm, gNms, gTp, D.int.injEq, true_and, and_true, List.length_cons, List.length_nil, Option.bind_some, idx_ref, ixC_lst, idx_lst, idx_tup, idx_frz, at0, at1, at2, at3, add_int, sub_int, mod_int, fdiv_int, pow18, lt_int, le_int, gt_int, ge_int, tru_bl, tru_int, eq_int, ne_int, eq_str, ne_str, eq_bl, ne_bl, put_ref, putC_lst, ix0, ix1, ix2, ix3, len_lst, len_tup, len_frz, len_ref, lenC_lst, un1_one, tuple_lst, tuple_tup, list_lst, list_tup, slice_tup, slice_lst, it_tup, it_lst, cut_from1, Option.map_some, List.set_set, Nat.reduceLT, Int.reduceLT, if_true, Int.toNat_natCast, mul_mod, mulL, mulR, Int.reduceNeg, isi_1 hy]
    cases hy with
    | str x _ =>
      rw [if_pos (show isStrB (.str x) = true from rfl)]
      simp only [List.map_cons, List.map_nil, List.cons_append, List.nil_append, List.replicate, List.getElem?_cons_zero, List.getElem?_cons_succ, List.set_cons_zero, List.set_cons_succ, Option.some.injEq, exists_eq_left', exists_eq_left, Nat.reduceSub, Nat.reduceAdd, Nat.reduceMul, wipeE, gNm, gNms, gTp, D.int.injEq, true_and, and_true, List.length_cons, List.length_nil, Option.bind_some, h0, idx_ref, ixC_lst, idx_lst, idx_tup, idx_frz, at0, at1, at2, at3, add_int, sub_int, mod_int, fdiv_int, pow18, lt_int, le_int, gt_int, ge_int, tru_bl, tru_int, eq_int, ne_int, eq_str, ne_str, eq_bl, ne_bl, put_ref, putC_lst, ix0, ix1, ix2, ix3, len_lst, len_tup, len_frz, len_ref, lenC_lst, un1_one, tuple_lst, tuple_tup, list_lst, list_tup, slice_tup, slice_lst, it_tup, it_lst, cut_from1, Option.map_some, List.set_set, Nat.reduceLT, Int.reduceLT, if_true, Int.toNat_natCast, mul_mod, mulL, mulR, Int.reduceNeg]
      refine comp_enc (e := encRl) rs (fun q => D.str q.1) rfl gNone ?_ ?_
      · intro q hq
        refine ⟨_, if_pos (by rw [List.length_set]; exact hk), ?_⟩
        unfold encRl
        have : (env.set k (some (D.tup [.str q.1, encT q.2.1, encT q.2.2])))[k]? = some (some (D.tup [.str q.1, encT q.2.1, encT q.2.2])) := by
          rw [List.getElem?_set_self (by simpa using hk)]
        simp only [ok_ok, ok_no, ok_bind, ok_of_some, ok_var, ok_cst, ok_nil, ok_cons, ok_tup, ok_lst, ok_lstM, ok_op2, ok_op1, ok_blt, ok_listM, ok_chain, ok_and, ok_or, ok_not, ok_tval, ok_band, ok_bor, ok_bnot, ok_yes, ok_mif, ok_callM, ok_call, ok_lm, ok_optN, ok_optS, ok_slice, ok_ival, ok_range1, ok_range2, ok_zip, ok_sm, ok_addM, ok_get1, ok_get2, ok_comp, ok_compM, s_skip, s_seq, s_expr, s_asg, s_put, s_ret, s_retN, s_brk, s_cnt, s_if, s_for, s_while, List.map_cons, List.map_nil, List.cons_append, List.nil_append, List.replicate, List.getElem?_cons_zero, List.getElem?_cons_succ, List.set_cons_zero, List.set_cons_succ, Option.some.injEq, exists_eq_left', exists_eq_left, Nat.reduceSub, Nat.reduceAdd, Nat.reduceMul, wipeE, gNm, gNms, gTp, D.int.injEq, true_and, and_true, List.length_cons, List.length_nil, Option.bind_some, List.set_set, this, idx_ref, ixC_lst, idx_lst, idx_tup, idx_frz, at0, at1, at2, at3, add_int, sub_int, mod_int, fdiv_int, pow18, lt_int, le_int, gt_int, ge_int, tru_bl, tru_int, eq_int, ne_int, eq_str, ne_str, eq_bl, ne_bl, put_ref, putC_lst, ix0, ix1, ix2, ix3, len_lst, len_tup, len_frz, len_ref, lenC_lst, un1_one, tuple_lst, tuple_tup, list_lst, list_tup, slice_tup, slice_lst, it_tup, it_lst, cut_from1, Option.map_some, List.set_set, Nat.reduceLT, Int.reduceLT, if_true, Int.toNat_natCast, mul_mod, mulL, mulR, Int.reduceNeg]
      · have e : (rs.map fun q => D.str q.1) = (rs.map (·.1)).map D.str := by rw [List.map_map]; rfl
        rw [e, in_strs]
        exact ⟨_, rfl, q⟩
    | _ => rw [if_neg (by simp [isStrB])]; simpa [oneIn, isStrB] using q
  | y :: z :: r, hr, q =>
    have e : ((↑(r.length + 1 + 1 + 1) : Int) == 2) = false := by simp; omega
    simp only [List.length_cons, e, Bool.false_eq_true, if_false]
    simpa [oneIn] using q
/-- ('any', name) -/
theorem any_ok {L d : Nat} {r : List D} {w f : Str} {c : Call} {env : Env} {st : St} {Q : D → St → Prop} (hr : ∀ y ∈ r, Thg L d y) (h1 : env[1]? = some (some (.tup (.str w :: r)))) (hf : ∀ (y : D), Thg L d y → Ok (c f [y] st) fun r st' => r = .bl (isNameB y) ∧ st' = st)
    (q : Q (.bl (oneNm r)) st) : Ok (mAnd (mOp2 eqB (mBlt (un1 lenD) [(mVar 1)]) (mCst (.int 2))) (mCall f [(mOp2 idxD (mVar 1) (mCst (.int 1)))]) c env st) Q := by
  simp only [ok_ok, ok_no, ok_bind, ok_of_some, ok_var, ok_cst, ok_nil, ok_cons, ok_tup, ok_lst, ok_lstM, ok_op2, ok_op1, ok_blt, ok_listM, ok_chain, ok_and, ok_or, ok_not, ok_tval, ok_band, ok_bor, ok_bnot, ok_yes, ok_mif, ok_callM, ok_call, ok_lm, ok_optN, ok_optS, ok_slice, ok_ival, ok_range1, ok_range2, ok_zip, ok_sm, ok_addM, ok_get1, ok_get2, ok_comp, ok_compM, s_skip, s_seq, s_expr, s_asg, s_put, s_ret, s_retN, s_brk, s_cnt, s_if, s_for, s_while, List.map_cons, List.map_nil, List.cons_append, List.nil_append, List.replicate, List.getElem?_cons_zero, List.getElem?_cons_succ, List.set_cons_zero, List.set_cons_succ, Option.some.injEq, exists_eq_left', exists_eq_left, Nat.reduceSub, Nat.reduceAdd, Nat.reduceMul, wipeE, gNm, gNms, gTp, D.int.injEq, true_and, and_true, List.length_cons, List.length_nil, Option.bind_some, h1, idx_ref, ixC_lst, idx_lst, idx_tup, idx_frz, at0, at1, at2, at3, add_int, sub_int, mod_int, fdiv_int, pow18, lt_int, le_int, gt_int, ge_int, tru_bl, tru_int, eq_int, ne_int, eq_str, ne_str, eq_bl, ne_bl, put_ref, putC_lst, ix0, ix1, ix2, ix3, len_lst, len_tup, len_frz, len_ref, lenC_lst, un1_one, tuple_lst, tuple_tup, list_lst, list_tup, slice_tup, slice_lst, it_tup, it_lst, cut_from1, Option.map_some, List.set_set, Nat.reduceLT, Int.reduceLT, if_true, Int.toNat_natCast, mul_mod, mulL, mulR, Int.reduceNeg]
  match r, hr, q with
  | [], _, q => rw [if_neg (by simp)]; simpa [oneNm] using q
  | [y], hr, q =>
    rw [if_pos (by simp)]
    simp only [List.map_cons, List.map_nil, List.cons_append, List.nil_append, List.replicate, List.getElem?_cons_zero, List.getElem?_cons_succ, List.set_cons_zero, List.set_cons_succ, Option.some.injEq, exists_eq_left', exists_eq_left, Nat.reduceSub, Nat.reduceAdd, Nat.reduceMul, wipeE, gNm, gNms, gTp, D.int.injEq, true_and, and_true, List.length_cons, List.length_nil, Option.bind_some, idx_ref, ixC_lst, idx_lst, idx_tup, idx_frz, at0, at1, at2, at3, add_int, sub_int, mod_int, fdiv_int, pow18, lt_int, le_int, gt_int, ge_int, tru_bl, tru_int, eq_int, ne_int, eq_str, ne_str, eq_bl, ne_bl, put_ref, putC_lst, ix0, ix1, ix2, ix3, len_lst, len_tup, len_frz, len_ref, lenC_lst, un1_one, tuple_lst, tuple_tup, list_lst, list_tup, slice_tup, slice_lst, it_tup, it_lst, cut_from1, Option.map_some, List.set_set, Nat.reduceLT, Int.reduceLT, if_true, Int.toNat_natCast, mul_mod, mulL, mulR, Int.reduceNeg]
    refine ok_ice_val ((hf y (hr y (by simp))).mono ?_)
    rintro _ S' ⟨rfl, e'⟩
    subst S'
    exact ⟨rfl, q⟩
  | y :: z :: r, hr, q =>
    have e : ((↑(r.length + 1 + 1 + 1) : Int) == 2) = false := by simp; omega
    simp only [List.length_cons, e, Bool.false_eq_true, if_false]
    simpa [oneNm] using q
theorem isB_non {st : St} {x : D} : isB st x .non = some (.bl (isNon x)) := by cases x <;> rfl
theorem shape_go {L : Nat} (hL : L ≤ 1000) {rs : List Rl} (d j : Nat) (x : D) (st : St) (hx : Thg L d x)
    (ih : ∀ e, d = e + 1 → ∀ (x : D) (st : St), Thg L e x → Ok (CC (e + j + 3) "is_plan_shape" [.tup (rs.map encRl), x] st) fun r st' => r = .bl (planB (rs.map (·.1)) e x) ∧ st' = st) :
    Ok (CC (d + j + 3) "is_plan_shape" [.tup (rs.map encRl), x] st) fun r st' => r = .bl (planB (rs.map (·.1)) d x) ∧ st' = st := by
  rw [show d + j + 3 = (d + j + 2) + 1 by omega, r_is_plan_shape]
  refine ok_fn rfl ?_
  unfold b_is_plan_shape
  dsimp only
  have fin : ∀ b, planB (rs.map (·.1)) d x = b → Ok (gc st (.bl b) st) fun r st' => r = .bl (planB (rs.map (·.1)) d x) ∧ st' = st := fun b e => by
    rw [gc_same rfl, e]
    exact ⟨rfl, rfl⟩
  refine seq_mid (a := sIf _ _ _) (fun e S => e = [some (.tup (rs.map encRl)), some x, none, none] ∧ S = st ∧ ∃ w r, x = .tup (.str w :: r)) ?_ ?_
  · refine if_mid _ (head_if hx rfl) ?_ ?_
    · rintro S ⟨e, h, _⟩
      subst S
      try simp only [ok_ok, ok_no, ok_bind, ok_of_some, ok_var, ok_cst, ok_nil, ok_cons, ok_tup, ok_lst, ok_lstM, ok_op2, ok_op1, ok_blt, ok_listM, ok_chain, ok_and, ok_or, ok_not, ok_tval, ok_band, ok_bor, ok_bnot, ok_yes, ok_mif, ok_callM, ok_call, ok_lm, ok_optN, ok_optS, ok_slice, ok_ival, ok_range1, ok_range2, ok_zip, ok_sm, ok_addM, ok_get1, ok_get2, ok_comp, ok_compM, s_skip, s_seq, s_expr, s_asg, s_put, s_ret, s_retN, s_brk, s_cnt, s_if, s_for, s_while, List.map_cons, List.map_nil, List.cons_append, List.nil_append, List.replicate, List.getElem?_cons_zero, List.getElem?_cons_succ, List.set_cons_zero, List.set_cons_succ, Option.some.injEq, exists_eq_left', exists_eq_left, Nat.reduceSub, Nat.reduceAdd, Nat.reduceMul, wipeE, gNm, gNms, gTp, D.int.injEq, true_and, and_true, List.length_cons, List.length_nil, Option.bind_some, idx_ref, ixC_lst, idx_lst, idx_tup, idx_frz, at0, at1, at2, at3, add_int, sub_int, mod_int, fdiv_int, pow18, lt_int, le_int, gt_int, ge_int, tru_bl, tru_int, eq_int, ne_int, eq_str, ne_str, eq_bl, ne_bl, put_ref, putC_lst, ix0, ix1, ix2, ix3, len_lst, len_tup, len_frz, len_ref, lenC_lst, un1_one, tuple_lst, tuple_tup, list_lst, list_tup, slice_tup, slice_lst, it_tup, it_lst, cut_from1, Option.map_some, List.set_set, Nat.reduceLT, Int.reduceLT, if_true, Int.toNat_natCast, mul_mod, mulL, mulR, Int.reduceNeg]
      exact fin false (planB_no (h rfl))
    · rintro S ⟨e, _, h⟩
      try simp only [ok_ok, ok_no, ok_bind, ok_of_some, ok_var, ok_cst, ok_nil, ok_cons, ok_tup, ok_lst, ok_lstM, ok_op2, ok_op1, ok_blt, ok_listM, ok_chain, ok_and, ok_or, ok_not, ok_tval, ok_band, ok_bor, ok_bnot, ok_yes, ok_mif, ok_callM, ok_call, ok_lm, ok_optN, ok_optS, ok_slice, ok_ival, ok_range1, ok_range2, ok_zip, ok_sm, ok_addM, ok_get1, ok_get2, ok_comp, ok_compM, s_skip, s_seq, s_expr, s_asg, s_put, s_ret, s_retN, s_brk, s_cnt, s_if, s_for, s_while, List.map_cons, List.map_nil, List.cons_append, List.nil_append, List.replicate, List.getElem?_cons_zero, List.getElem?_cons_succ, List.set_cons_zero, List.set_cons_succ, Option.some.injEq, exists_eq_left', exists_eq_left, Nat.reduceSub, Nat.reduceAdd, Nat.reduceMul, wipeE, gNm, gNms, gTp, D.int.injEq, true_and, and_true, List.length_cons, List.length_nil, Option.bind_some, idx_ref, ixC_lst, idx_lst, idx_tup, idx_frz, at0, at1, at2, at3, add_int, sub_int, mod_int, fdiv_int, pow18, lt_int, le_int, gt_int, ge_int, tru_bl, tru_int, eq_int, ne_int, eq_str, ne_str, eq_bl, ne_bl, put_ref, putC_lst, ix0, ix1, ix2, ix3, len_lst, len_tup, len_frz, len_ref, lenC_lst, un1_one, tuple_lst, tuple_tup, list_lst, list_tup, slice_tup, slice_lst, it_tup, it_lst, cut_from1, Option.map_some, List.set_set, Nat.reduceLT, Int.reduceLT, if_true, Int.toNat_natCast, mul_mod, mulL, mulR, Int.reduceNeg]
      exact ⟨e, h rfl⟩
  rintro _ S ⟨rfl, e, w, r, rfl⟩
  subst S
  obtain ⟨e, rfl, hr⟩ : ∃ e, d = e + 1 ∧ ∀ y ∈ r, Thg L e y := by
    cases hx with
    | tup hl hk => exact ⟨_, rfl, fun y hy => hk y (by simp [hy])⟩
  have hrl : r.length ≤ L := by
    cases hx with
    | tup hl hk => simp at hl; omega
  refine seq_mid (a := sAsg _ _) (fun e' S => e' = [some (.tup (rs.map encRl)), some (.tup (.str w :: r)), some (wArD w), none] ∧ S = st) ?_ ?_
  · try simp only [ok_ok, ok_no, ok_bind, ok_of_some, ok_var, ok_cst, ok_nil, ok_cons, ok_tup, ok_lst, ok_lstM, ok_op2, ok_op1, ok_blt, ok_listM, ok_chain, ok_and, ok_or, ok_not, ok_tval, ok_band, ok_bor, ok_bnot, ok_yes, ok_mif, ok_callM, ok_call, ok_lm, ok_optN, ok_optS, ok_slice, ok_ival, ok_range1, ok_range2, ok_zip, ok_sm, ok_addM, ok_get1, ok_get2, ok_comp, ok_compM, s_skip, s_seq, s_expr, s_asg, s_put, s_ret, s_retN, s_brk, s_cnt, s_if, s_for, s_while, List.map_cons, List.map_nil, List.cons_append, List.nil_append, List.replicate, List.getElem?_cons_zero, List.getElem?_cons_succ, List.set_cons_zero, List.set_cons_succ, Option.some.injEq, exists_eq_left', exists_eq_left, Nat.reduceSub, Nat.reduceAdd, Nat.reduceMul, wipeE, gNm, gNms, gTp, D.int.injEq, true_and, and_true, List.length_cons, List.length_nil, Option.bind_some, idx_ref, ixC_lst, idx_lst, idx_tup, idx_frz, at0, at1, at2, at3, add_int, sub_int, mod_int, fdiv_int, pow18, lt_int, le_int, gt_int, ge_int, tru_bl, tru_int, eq_int, ne_int, eq_str, ne_str, eq_bl, ne_bl, put_ref, putC_lst, ix0, ix1, ix2, ix3, len_lst, len_tup, len_frz, len_ref, lenC_lst, un1_one, tuple_lst, tuple_tup, list_lst, list_tup, slice_tup, slice_lst, it_tup, it_lst, cut_from1, Option.map_some, List.set_set, Nat.reduceLT, Int.reduceLT, if_true, Int.toNat_natCast, mul_mod, mulL, mulR, Int.reduceNeg]
    rw [show e + 1 + j + 2 = (e + j + 2) + 1 by omega]
    refine many_call ?_
    try simp only [ok_ok, ok_no, ok_bind, ok_of_some, ok_var, ok_cst, ok_nil, ok_cons, ok_tup, ok_lst, ok_lstM, ok_op2, ok_op1, ok_blt, ok_listM, ok_chain, ok_and, ok_or, ok_not, ok_tval, ok_band, ok_bor, ok_bnot, ok_yes, ok_mif, ok_callM, ok_call, ok_lm, ok_optN, ok_optS, ok_slice, ok_ival, ok_range1, ok_range2, ok_zip, ok_sm, ok_addM, ok_get1, ok_get2, ok_comp, ok_compM, s_skip, s_seq, s_expr, s_asg, s_put, s_ret, s_retN, s_brk, s_cnt, s_if, s_for, s_while, List.map_cons, List.map_nil, List.cons_append, List.nil_append, List.replicate, List.getElem?_cons_zero, List.getElem?_cons_succ, List.set_cons_zero, List.set_cons_succ, Option.some.injEq, exists_eq_left', exists_eq_left, Nat.reduceSub, Nat.reduceAdd, Nat.reduceMul, wipeE, gNm, gNms, gTp, D.int.injEq, true_and, and_true, List.length_cons, List.length_nil, Option.bind_some, idx_ref, ixC_lst, idx_lst, idx_tup, idx_frz, at0, at1, at2, at3, add_int, sub_int, mod_int, fdiv_int, pow18, lt_int, le_int, gt_int, ge_int, tru_bl, tru_int, eq_int, ne_int, eq_str, ne_str, eq_bl, ne_bl, put_ref, putC_lst, ix0, ix1, ix2, ix3, len_lst, len_tup, len_frz, len_ref, lenC_lst, un1_one, tuple_lst, tuple_tup, list_lst, list_tup, slice_tup, slice_lst, it_tup, it_lst, cut_from1, Option.map_some, List.set_set, Nat.reduceLT, Int.reduceLT, if_true, Int.toNat_natCast, mul_mod, mulL, mulR, Int.reduceNeg]
  rintro _ S ⟨rfl, e'⟩
  subst S
  refine seq_mid (a := sIf _ _ _) (fun e' S => ∃ m, wAr w = some m ∧ e' = [some (.tup (rs.map encRl)), some (.tup (.str w :: r)), some (.int m), none] ∧ S = st) ?_ ?_
  · rw [wArD_eq]
    simp only [ok_ok, ok_no, ok_bind, ok_of_some, ok_var, ok_cst, ok_nil, ok_cons, ok_tup, ok_lst, ok_lstM, ok_op2, ok_op1, ok_blt, ok_listM, ok_chain, ok_and, ok_or, ok_not, ok_tval, ok_band, ok_bor, ok_bnot, ok_yes, ok_mif, ok_callM, ok_call, ok_lm, ok_optN, ok_optS, ok_slice, ok_ival, ok_range1, ok_range2, ok_zip, ok_sm, ok_addM, ok_get1, ok_get2, ok_comp, ok_compM, s_skip, s_seq, s_expr, s_asg, s_put, s_ret, s_retN, s_brk, s_cnt, s_if, s_for, s_while, List.map_cons, List.map_nil, List.cons_append, List.nil_append, List.replicate, List.getElem?_cons_zero, List.getElem?_cons_succ, List.set_cons_zero, List.set_cons_succ, Option.some.injEq, exists_eq_left', exists_eq_left, Nat.reduceSub, Nat.reduceAdd, Nat.reduceMul, wipeE, gNm, gNms, gTp, D.int.injEq, true_and, and_true, List.length_cons, List.length_nil, Option.bind_some, idx_ref, ixC_lst, idx_lst, idx_tup, idx_frz, at0, at1, at2, at3, add_int, sub_int, mod_int, fdiv_int, pow18, lt_int, le_int, gt_int, ge_int, tru_bl, tru_int, eq_int, ne_int, eq_str, ne_str, eq_bl, ne_bl, put_ref, putC_lst, ix0, ix1, ix2, ix3, len_lst, len_tup, len_frz, len_ref, lenC_lst, un1_one, tuple_lst, tuple_tup, list_lst, list_tup, slice_tup, slice_lst, it_tup, it_lst, cut_from1, Option.map_some, List.set_set, Nat.reduceLT, Int.reduceLT, if_true, Int.toNat_natCast, mul_mod, mulL, mulR, Int.reduceNeg, isB_non]
    cases hm : wAr w with
    | none =>
      simp only [isNon, if_true]
      exact fin false (planB_none hm)
    | some m =>
      simp only [isNon, Bool.false_eq_true, if_false]
      first | exact ⟨m, rfl, rfl, rfl⟩ | exact rfl | exact ⟨m, rfl, rfl⟩ | simp
  rintro _ S ⟨m, hm, rfl, e'⟩
  subst S
  refine seq_mid (a := sIf _ _ _) (fun e' S => w ≠ "use" ∧ e' = [some (.tup (rs.map encRl)), some (.tup (.str w :: r)), some (.int m), none] ∧ S = st) ?_ ?_
  · by_cases hu : w = "use"
    · subst hu
      refine if_mid (fun b S => b = true ∧ S = st) ?_ ?_ ?_
      · simp only [ok_ok, ok_no, ok_bind, ok_of_some, ok_var, ok_cst, ok_nil, ok_cons, ok_tup, ok_lst, ok_lstM, ok_op2, ok_op1, ok_blt, ok_listM, ok_chain, ok_and, ok_or, ok_not, ok_tval, ok_band, ok_bor, ok_bnot, ok_yes, ok_mif, ok_callM, ok_call, ok_lm, ok_optN, ok_optS, ok_slice, ok_ival, ok_range1, ok_range2, ok_zip, ok_sm, ok_addM, ok_get1, ok_get2, ok_comp, ok_compM, s_skip, s_seq, s_expr, s_asg, s_put, s_ret, s_retN, s_brk, s_cnt, s_if, s_for, s_while, List.map_cons, List.map_nil, List.cons_append, List.nil_append, List.replicate, List.getElem?_cons_zero, List.getElem?_cons_succ, List.set_cons_zero, List.set_cons_succ, Option.some.injEq, exists_eq_left', exists_eq_left, Nat.reduceSub, Nat.reduceAdd, Nat.reduceMul, wipeE, gNm, gNms, gTp, D.int.injEq, true_and, and_true, List.length_cons, List.length_nil, Option.bind_some, idx_ref, ixC_lst, idx_lst, idx_tup, idx_frz, at0, at1, at2, at3, add_int, sub_int, mod_int, fdiv_int, pow18, lt_int, le_int, gt_int, ge_int, tru_bl, tru_int, eq_int, ne_int, eq_str, ne_str, eq_bl, ne_bl, put_ref, putC_lst, ix0, ix1, ix2, ix3, len_lst, len_tup, len_frz, len_ref, lenC_lst, un1_one, tuple_lst, tuple_tup, list_lst, list_tup, slice_tup, slice_lst, it_tup, it_lst, cut_from1, Option.map_some, List.set_set, Nat.reduceLT, Int.reduceLT, if_true, Int.toNat_natCast, mul_mod, mulL, mulR, Int.reduceNeg]
        try decide
      · rintro S ⟨_, e'⟩
        subst S
        refine s_ret.mpr (use_ok (k := 3) hr rfl rfl (by simp) (by decide) (by decide) ?_)
        exact fin _ planB_use
      · rintro S ⟨h, _⟩
        cases h
    · simp only [ok_ok, ok_no, ok_bind, ok_of_some, ok_var, ok_cst, ok_nil, ok_cons, ok_tup, ok_lst, ok_lstM, ok_op2, ok_op1, ok_blt, ok_listM, ok_chain, ok_and, ok_or, ok_not, ok_tval, ok_band, ok_bor, ok_bnot, ok_yes, ok_mif, ok_callM, ok_call, ok_lm, ok_optN, ok_optS, ok_slice, ok_ival, ok_range1, ok_range2, ok_zip, ok_sm, ok_addM, ok_get1, ok_get2, ok_comp, ok_compM, s_skip, s_seq, s_expr, s_asg, s_put, s_ret, s_retN, s_brk, s_cnt, s_if, s_for, s_while, List.map_cons, List.map_nil, List.cons_append, List.nil_append, List.replicate, List.getElem?_cons_zero, List.getElem?_cons_succ, List.set_cons_zero, List.set_cons_succ, Option.some.injEq, exists_eq_left', exists_eq_left, Nat.reduceSub, Nat.reduceAdd, Nat.reduceMul, wipeE, gNm, gNms, gTp, D.int.injEq, true_and, and_true, List.length_cons, List.length_nil, Option.bind_some, idx_ref, ixC_lst, idx_lst, idx_tup, idx_frz, at0, at1, at2, at3, add_int, sub_int, mod_int, fdiv_int, pow18, lt_int, le_int, gt_int, ge_int, tru_bl, tru_int, eq_int, ne_int, eq_str, ne_str, eq_bl, ne_bl, put_ref, putC_lst, ix0, ix1, ix2, ix3, len_lst, len_tup, len_frz, len_ref, lenC_lst, un1_one, tuple_lst, tuple_tup, list_lst, list_tup, slice_tup, slice_lst, it_tup, it_lst, cut_from1, Option.map_some, List.set_set, Nat.reduceLT, Int.reduceLT, if_true, Int.toNat_natCast, mul_mod, mulL, mulR, Int.reduceNeg]
      rw [if_neg (by simpa using hu)]
      exact hu
  rintro _ S ⟨hu, rfl, e'⟩
  subst S
  refine seq_mid (a := sIf _ _ _) (fun e' S => w ≠ "any" ∧ e' = [some (.tup (rs.map encRl)), some (.tup (.str w :: r)), some (.int m), none] ∧ S = st) ?_ ?_
  · by_cases ha : w = "any"
    · subst ha
      refine if_mid (fun b S => b = true ∧ S = st) ?_ ?_ ?_
      · simp only [ok_ok, ok_no, ok_bind, ok_of_some, ok_var, ok_cst, ok_nil, ok_cons, ok_tup, ok_lst, ok_lstM, ok_op2, ok_op1, ok_blt, ok_listM, ok_chain, ok_and, ok_or, ok_not, ok_tval, ok_band, ok_bor, ok_bnot, ok_yes, ok_mif, ok_callM, ok_call, ok_lm, ok_optN, ok_optS, ok_slice, ok_ival, ok_range1, ok_range2, ok_zip, ok_sm, ok_addM, ok_get1, ok_get2, ok_comp, ok_compM, s_skip, s_seq, s_expr, s_asg, s_put, s_ret, s_retN, s_brk, s_cnt, s_if, s_for, s_while, List.map_cons, List.map_nil, List.cons_append, List.nil_append, List.replicate, List.getElem?_cons_zero, List.getElem?_cons_succ, List.set_cons_zero, List.set_cons_succ, Option.some.injEq, exists_eq_left', exists_eq_left, Nat.reduceSub, Nat.reduceAdd, Nat.reduceMul, wipeE, gNm, gNms, gTp, D.int.injEq, true_and, and_true, List.length_cons, List.length_nil, Option.bind_some, idx_ref, ixC_lst, idx_lst, idx_tup, idx_frz, at0, at1, at2, at3, add_int, sub_int, mod_int, fdiv_int, pow18, lt_int, le_int, gt_int, ge_int, tru_bl, tru_int, eq_int, ne_int, eq_str, ne_str, eq_bl, ne_bl, put_ref, putC_lst, ix0, ix1, ix2, ix3, len_lst, len_tup, len_frz, len_ref, lenC_lst, un1_one, tuple_lst, tuple_tup, list_lst, list_tup, slice_tup, slice_lst, it_tup, it_lst, cut_from1, Option.map_some, List.set_set, Nat.reduceLT, Int.reduceLT, if_true, Int.toNat_natCast, mul_mod, mulL, mulR, Int.reduceNeg]
        try decide
      · rintro S ⟨_, e'⟩
        subst S
        refine s_ret.mpr (any_ok hr rfl (fun y hy => is_name_ok hy hL) ?_)
        exact fin _ planB_any
      · rintro S ⟨h, _⟩
        cases h
    · simp only [ok_ok, ok_no, ok_bind, ok_of_some, ok_var, ok_cst, ok_nil, ok_cons, ok_tup, ok_lst, ok_lstM, ok_op2, ok_op1, ok_blt, ok_listM, ok_chain, ok_and, ok_or, ok_not, ok_tval, ok_band, ok_bor, ok_bnot, ok_yes, ok_mif, ok_callM, ok_call, ok_lm, ok_optN, ok_optS, ok_slice, ok_ival, ok_range1, ok_range2, ok_zip, ok_sm, ok_addM, ok_get1, ok_get2, ok_comp, ok_compM, s_skip, s_seq, s_expr, s_asg, s_put, s_ret, s_retN, s_brk, s_cnt, s_if, s_for, s_while, List.map_cons, List.map_nil, List.cons_append, List.nil_append, List.replicate, List.getElem?_cons_zero, List.getElem?_cons_succ, List.set_cons_zero, List.set_cons_succ, Option.some.injEq, exists_eq_left', exists_eq_left, Nat.reduceSub, Nat.reduceAdd, Nat.reduceMul, wipeE, gNm, gNms, gTp, D.int.injEq, true_and, and_true, List.length_cons, List.length_nil, Option.bind_some, idx_ref, ixC_lst, idx_lst, idx_tup, idx_frz, at0, at1, at2, at3, add_int, sub_int, mod_int, fdiv_int, pow18, lt_int, le_int, gt_int, ge_int, tru_bl, tru_int, eq_int, ne_int, eq_str, ne_str, eq_bl, ne_bl, put_ref, putC_lst, ix0, ix1, ix2, ix3, len_lst, len_tup, len_frz, len_ref, lenC_lst, un1_one, tuple_lst, tuple_tup, list_lst, list_tup, slice_tup, slice_lst, it_tup, it_lst, cut_from1, Option.map_some, List.set_set, Nat.reduceLT, Int.reduceLT, if_true, Int.toNat_natCast, mul_mod, mulL, mulR, Int.reduceNeg]
      rw [if_neg (by simpa using ha)]
      exact ha
  rintro _ S ⟨ha, rfl, e'⟩
  subst S
  rw [planB_some hu ha hm] at fin ⊢
  simp only [ok_ok, ok_no, ok_bind, ok_of_some, ok_var, ok_cst, ok_nil, ok_cons, ok_tup, ok_lst, ok_lstM, ok_op2, ok_op1, ok_blt, ok_listM, ok_chain, ok_and, ok_or, ok_not, ok_tval, ok_band, ok_bor, ok_bnot, ok_yes, ok_mif, ok_callM, ok_call, ok_lm, ok_optN, ok_optS, ok_slice, ok_ival, ok_range1, ok_range2, ok_zip, ok_sm, ok_addM, ok_get1, ok_get2, ok_comp, ok_compM, s_skip, s_seq, s_expr, s_asg, s_put, s_ret, s_retN, s_brk, s_cnt, s_if, s_for, s_while, List.map_cons, List.map_nil, List.cons_append, List.nil_append, List.replicate, List.getElem?_cons_zero, List.getElem?_cons_succ, List.set_cons_zero, List.set_cons_succ, Option.some.injEq, exists_eq_left', exists_eq_left, Nat.reduceSub, Nat.reduceAdd, Nat.reduceMul, wipeE, gNm, gNms, gTp, D.int.injEq, true_and, and_true, List.length_cons, List.length_nil, Option.bind_some, idx_ref, ixC_lst, idx_lst, idx_tup, idx_frz, at0, at1, at2, at3, add_int, sub_int, mod_int, fdiv_int, pow18, lt_int, le_int, gt_int, ge_int, tru_bl, tru_int, eq_int, ne_int, eq_str, ne_str, eq_bl, ne_bl, put_ref, putC_lst, ix0, ix1, ix2, ix3, len_lst, len_tup, len_frz, len_ref, lenC_lst, un1_one, tuple_lst, tuple_tup, list_lst, list_tup, slice_tup, slice_lst, it_tup, it_lst, cut_from1, Option.map_some, List.set_set, Nat.reduceLT, Int.reduceLT, if_true, Int.toNat_natCast, mul_mod, mulL, mulR, Int.reduceNeg]
  by_cases hl : r.length = m
  · rw [if_pos (by simp; omega)]
    refine comp_enc (e := id) r (fun y => D.bl (planB (rs.map (·.1)) e y)) (by simp) gNone ?_ ?_
    · intro y hy
      refine ⟨_, rfl, ?_⟩
      try simp only [ok_ok, ok_no, ok_bind, ok_of_some, ok_var, ok_cst, ok_nil, ok_cons, ok_tup, ok_lst, ok_lstM, ok_op2, ok_op1, ok_blt, ok_listM, ok_chain, ok_and, ok_or, ok_not, ok_tval, ok_band, ok_bor, ok_bnot, ok_yes, ok_mif, ok_callM, ok_call, ok_lm, ok_optN, ok_optS, ok_slice, ok_ival, ok_range1, ok_range2, ok_zip, ok_sm, ok_addM, ok_get1, ok_get2, ok_comp, ok_compM, s_skip, s_seq, s_expr, s_asg, s_put, s_ret, s_retN, s_brk, s_cnt, s_if, s_for, s_while, List.map_cons, List.map_nil, List.cons_append, List.nil_append, List.replicate, List.getElem?_cons_zero, List.getElem?_cons_succ, List.set_cons_zero, List.set_cons_succ, Option.some.injEq, exists_eq_left', exists_eq_left, Nat.reduceSub, Nat.reduceAdd, Nat.reduceMul, wipeE, gNm, gNms, gTp, D.int.injEq, true_and, and_true, List.length_cons, List.length_nil, Option.bind_some, idx_ref, ixC_lst, idx_lst, idx_tup, idx_frz, at0, at1, at2, at3, add_int, sub_int, mod_int, fdiv_int, pow18, lt_int, le_int, gt_int, ge_int, tru_bl, tru_int, eq_int, ne_int, eq_str, ne_str, eq_bl, ne_bl, put_ref, putC_lst, ix0, ix1, ix2, ix3, len_lst, len_tup, len_frz, len_ref, lenC_lst, un1_one, tuple_lst, tuple_tup, list_lst, list_tup, slice_tup, slice_lst, it_tup, it_lst, cut_from1, Option.map_some, List.set_set, Nat.reduceLT, Int.reduceLT, if_true, Int.toNat_natCast, mul_mod, mulL, mulR, Int.reduceNeg]
      rw [show e + 1 + j + 2 = e + j + 3 by omega]
      refine ok_ice_val ((ih e rfl y st (hr y hy)).mono ?_)
      rintro _ S' ⟨rfl, e'⟩
      exact ⟨rfl, rfl, e'⟩
    · have e2 : (r.map fun y => D.bl (planB (rs.map (·.1)) e y)) = (r.map (planB (rs.map (·.1)) e)).map D.bl := by rw [List.map_map]; rfl
      rw [e2]
      simp only [List.map_cons, List.map_nil, List.cons_append, List.nil_append, List.replicate, List.getElem?_cons_zero, List.getElem?_cons_succ, List.set_cons_zero, List.set_cons_succ, Option.some.injEq, exists_eq_left', exists_eq_left, Nat.reduceSub, Nat.reduceAdd, Nat.reduceMul, wipeE, gNm, gNms, gTp, D.int.injEq, true_and, and_true, List.length_cons, List.length_nil, Option.bind_some, idx_ref, ixC_lst, idx_lst, idx_tup, idx_frz, at0, at1, at2, at3, add_int, sub_int, mod_int, fdiv_int, pow18, lt_int, le_int, gt_int, ge_int, tru_bl, tru_int, eq_int, ne_int, eq_str, ne_str, eq_bl, ne_bl, put_ref, putC_lst, ix0, ix1, ix2, ix3, len_lst, len_tup, len_frz, len_ref, lenC_lst, un1_one, tuple_lst, tuple_tup, list_lst, list_tup, slice_tup, slice_lst, it_tup, it_lst, cut_from1, Option.map_some, List.set_set, Nat.reduceLT, Int.reduceLT, if_true, Int.toNat_natCast, mul_mod, mulL, mulR, Int.reduceNeg, all_bls]
      rw [List.all_map]
      exact fin (r.all (planB (rs.map (·.1)) e)) (by simp [hl])
  · have e2 : ((↑(r.length + 1) : Int) == 1 + (m : Int)) = false := by simp; omega
    simp only [e2, Bool.false_eq_true, if_false]
    exact fin false (by simp [hl])
theorem shape_ok {L : Nat} (hL : L ≤ 1000) {rs : List Rl} : ∀ (d j : Nat) (x : D) (st : St), Thg L d x → Ok (CC (d + j + 3) "is_plan_shape" [.tup (rs.map encRl), x] st) fun r st' => r = .bl (planB (rs.map (·.1)) d x) ∧ st' = st
  | 0, j, x, st, hx => shape_go hL 0 j x st hx fun e he => by omega
  | d + 1, j, x, st, hx => shape_go hL (d + 1) j x st hx fun e he x st hx => by
    obtain rfl : d = e := by omega
    exact shape_ok hL d j x st hx
theorem things_ok {N O : Str → Prop} : ∀ (d j : Nat) (t : Pt) (st : St), hgt t ≤ d → PlanQ N O t → Ok (CC (d + j + 3) "things_within" [encT t] st) fun r st' => r = .int (ths t) ∧ st' = st
  | 0, j, t, st, hd, h => by cases h <;> simp [hgt] at hd
  | d + 1, j, t, st, hd, h => by
    rw [show d + 1 + j + 3 = (d + j + 1 + 2) + 1 by omega, r_things_within]
    refine ok_fn rfl ?_
    unfold b_things_within
    try simp only [ok_ok, ok_no, ok_bind, ok_of_some, ok_var, ok_cst, ok_nil, ok_cons, ok_tup, ok_lst, ok_lstM, ok_op2, ok_op1, ok_blt, ok_listM, ok_chain, ok_and, ok_or, ok_not, ok_tval, ok_band, ok_bor, ok_bnot, ok_yes, ok_mif, ok_callM, ok_call, ok_lm, ok_optN, ok_optS, ok_slice, ok_ival, ok_range1, ok_range2, ok_zip, ok_sm, ok_addM, ok_get1, ok_get2, ok_comp, ok_compM, s_skip, s_seq, s_expr, s_asg, s_put, s_ret, s_retN, s_brk, s_cnt, s_if, s_for, s_while, List.map_cons, List.map_nil, List.cons_append, List.nil_append, List.replicate, List.getElem?_cons_zero, List.getElem?_cons_succ, List.set_cons_zero, List.set_cons_succ, Option.some.injEq, exists_eq_left', exists_eq_left, Nat.reduceSub, Nat.reduceAdd, Nat.reduceMul, wipeE, gNm, gNms, gTp, D.int.injEq, true_and, and_true, List.length_cons, List.length_nil, Option.bind_some, idx_ref, ixC_lst, idx_lst, idx_tup, idx_frz, at0, at1, at2, at3, add_int, sub_int, mod_int, fdiv_int, pow18, lt_int, le_int, gt_int, ge_int, tru_bl, tru_int, eq_int, ne_int, eq_str, ne_str, eq_bl, ne_bl, put_ref, putC_lst, ix0, ix1, ix2, ix3, len_lst, len_tup, len_frz, len_ref, lenC_lst, un1_one, tuple_lst, tuple_tup, list_lst, list_tup, slice_tup, slice_lst, it_tup, it_lst, cut_from1, Option.map_some, List.set_set, Nat.reduceLT, Int.reduceLT, if_true, Int.toNat_natCast, mul_mod, mulL, mulR, Int.reduceNeg]
    refine inner_call h ?_
    try simp only [ok_ok, ok_no, ok_bind, ok_of_some, ok_var, ok_cst, ok_nil, ok_cons, ok_tup, ok_lst, ok_lstM, ok_op2, ok_op1, ok_blt, ok_listM, ok_chain, ok_and, ok_or, ok_not, ok_tval, ok_band, ok_bor, ok_bnot, ok_yes, ok_mif, ok_callM, ok_call, ok_lm, ok_optN, ok_optS, ok_slice, ok_ival, ok_range1, ok_range2, ok_zip, ok_sm, ok_addM, ok_get1, ok_get2, ok_comp, ok_compM, s_skip, s_seq, s_expr, s_asg, s_put, s_ret, s_retN, s_brk, s_cnt, s_if, s_for, s_while, List.map_cons, List.map_nil, List.cons_append, List.nil_append, List.replicate, List.getElem?_cons_zero, List.getElem?_cons_succ, List.set_cons_zero, List.set_cons_succ, Option.some.injEq, exists_eq_left', exists_eq_left, Nat.reduceSub, Nat.reduceAdd, Nat.reduceMul, wipeE, gNm, gNms, gTp, D.int.injEq, true_and, and_true, List.length_cons, List.length_nil, Option.bind_some, idx_ref, ixC_lst, idx_lst, idx_tup, idx_frz, at0, at1, at2, at3, add_int, sub_int, mod_int, fdiv_int, pow18, lt_int, le_int, gt_int, ge_int, tru_bl, tru_int, eq_int, ne_int, eq_str, ne_str, eq_bl, ne_bl, put_ref, putC_lst, ix0, ix1, ix2, ix3, len_lst, len_tup, len_frz, len_ref, lenC_lst, un1_one, tuple_lst, tuple_tup, list_lst, list_tup, slice_tup, slice_lst, it_tup, it_lst, cut_from1, Option.map_some, List.set_set, Nat.reduceLT, Int.reduceLT, if_true, Int.toNat_natCast, mul_mod, mulL, mulR, Int.reduceNeg]
    refine comp_enc (e := encT) (inr t) (fun k => D.int (ths k : Nat)) rfl gNone ?_ ?_
    · intro k hk
      refine ⟨_, rfl, ?_⟩
      obtain ⟨h1, h2⟩ := h.inr_ok k hk
      try simp only [ok_ok, ok_no, ok_bind, ok_of_some, ok_var, ok_cst, ok_nil, ok_cons, ok_tup, ok_lst, ok_lstM, ok_op2, ok_op1, ok_blt, ok_listM, ok_chain, ok_and, ok_or, ok_not, ok_tval, ok_band, ok_bor, ok_bnot, ok_yes, ok_mif, ok_callM, ok_call, ok_lm, ok_optN, ok_optS, ok_slice, ok_ival, ok_range1, ok_range2, ok_zip, ok_sm, ok_addM, ok_get1, ok_get2, ok_comp, ok_compM, s_skip, s_seq, s_expr, s_asg, s_put, s_ret, s_retN, s_brk, s_cnt, s_if, s_for, s_while, List.map_cons, List.map_nil, List.cons_append, List.nil_append, List.replicate, List.getElem?_cons_zero, List.getElem?_cons_succ, List.set_cons_zero, List.set_cons_succ, Option.some.injEq, exists_eq_left', exists_eq_left, Nat.reduceSub, Nat.reduceAdd, Nat.reduceMul, wipeE, gNm, gNms, gTp, D.int.injEq, true_and, and_true, List.length_cons, List.length_nil, Option.bind_some, idx_ref, ixC_lst, idx_lst, idx_tup, idx_frz, at0, at1, at2, at3, add_int, sub_int, mod_int, fdiv_int, pow18, lt_int, le_int, gt_int, ge_int, tru_bl, tru_int, eq_int, ne_int, eq_str, ne_str, eq_bl, ne_bl, put_ref, putC_lst, ix0, ix1, ix2, ix3, len_lst, len_tup, len_frz, len_ref, lenC_lst, un1_one, tuple_lst, tuple_tup, list_lst, list_tup, slice_tup, slice_lst, it_tup, it_lst, cut_from1, Option.map_some, List.set_set, Nat.reduceLT, Int.reduceLT, if_true, Int.toNat_natCast, mul_mod, mulL, mulR, Int.reduceNeg]
      rw [show d + j + 1 + 2 = d + j + 3 by omega]
      refine ok_ice_val ((things_ok d j k st (by omega) h1).mono ?_)
      rintro _ S' ⟨rfl, e'⟩
      exact ⟨rfl, rfl, e'⟩
    · have e2 : ((inr t).map fun k => D.int (ths k : Nat)) = ((inr t).map ths).map fun (k : Nat) => D.int k := by rw [List.map_map]; rfl
      rw [e2]
      simp only [List.map_cons, List.map_nil, List.cons_append, List.nil_append, List.replicate, List.getElem?_cons_zero, List.getElem?_cons_succ, List.set_cons_zero, List.set_cons_succ, Option.some.injEq, exists_eq_left', exists_eq_left, Nat.reduceSub, Nat.reduceAdd, Nat.reduceMul, wipeE, gNm, gNms, gTp, D.int.injEq, true_and, and_true, List.length_cons, List.length_nil, Option.bind_some, idx_ref, ixC_lst, idx_lst, idx_tup, idx_frz, at0, at1, at2, at3, add_int, sub_int, mod_int, fdiv_int, pow18, lt_int, le_int, gt_int, ge_int, tru_bl, tru_int, eq_int, ne_int, eq_str, ne_str, eq_bl, ne_bl, put_ref, putC_lst, ix0, ix1, ix2, ix3, len_lst, len_tup, len_frz, len_ref, lenC_lst, un1_one, tuple_lst, tuple_tup, list_lst, list_tup, slice_tup, slice_lst, it_tup, it_lst, cut_from1, Option.map_some, List.set_set, Nat.reduceLT, Int.reduceLT, if_true, Int.toNat_natCast, mul_mod, mulL, mulR, Int.reduceNeg, sum_nats]
      rw [gc_same rfl]
      refine ⟨?_, rfl⟩
      rw [h.ths_inr]
      have : ∀ ks : List Pt, (ks.map ths).sum = thss ks := by
        intro ks
        induction ks with
        | nil => rfl
        | cons k ks ih => rw [List.map_cons, List.sum_cons, ih, thss]
      rw [this]
      simp
theorem is_plan_call {L : Nat} (hL : L ≤ 1000) {rs : List Rl} {d j : Nat} {x : D} {st : St} {Q : D → St → Prop} (hx : Thg L d x) (q : Q (.bl (planB (rs.map (·.1)) d x && decide (tupN x ≤ 14))) st) : Ok (ice st (CC (d + j + 4) "is_plan" [.tup (rs.map encRl), x] st)) Q := by
  have h0 : Ok (CC (d + j + 4) "is_plan" [.tup (rs.map encRl), x] st) fun r st' => r = .bl (planB (rs.map (·.1)) d x && decide (tupN x ≤ 14)) ∧ st' = st := by
    rw [show d + j + 4 = (d + j + 3) + 1 by omega, r_is_plan]
    refine ok_fn rfl ?_
    unfold b_is_plan
    try simp only [ok_ok, ok_no, ok_bind, ok_of_some, ok_var, ok_cst, ok_nil, ok_cons, ok_tup, ok_lst, ok_lstM, ok_op2, ok_op1, ok_blt, ok_listM, ok_chain, ok_and, ok_or, ok_not, ok_tval, ok_band, ok_bor, ok_bnot, ok_yes, ok_mif, ok_callM, ok_call, ok_lm, ok_optN, ok_optS, ok_slice, ok_ival, ok_range1, ok_range2, ok_zip, ok_sm, ok_addM, ok_get1, ok_get2, ok_comp, ok_compM, s_skip, s_seq, s_expr, s_asg, s_put, s_ret, s_retN, s_brk, s_cnt, s_if, s_for, s_while, List.map_cons, List.map_nil, List.cons_append, List.nil_append, List.replicate, List.getElem?_cons_zero, List.getElem?_cons_succ, List.set_cons_zero, List.set_cons_succ, Option.some.injEq, exists_eq_left', exists_eq_left, Nat.reduceSub, Nat.reduceAdd, Nat.reduceMul, wipeE, gNm, gNms, gTp, D.int.injEq, true_and, and_true, List.length_cons, List.length_nil, Option.bind_some, idx_ref, ixC_lst, idx_lst, idx_tup, idx_frz, at0, at1, at2, at3, add_int, sub_int, mod_int, fdiv_int, pow18, lt_int, le_int, gt_int, ge_int, tru_bl, tru_int, eq_int, ne_int, eq_str, ne_str, eq_bl, ne_bl, put_ref, putC_lst, ix0, ix1, ix2, ix3, len_lst, len_tup, len_frz, len_ref, lenC_lst, un1_one, tuple_lst, tuple_tup, list_lst, list_tup, slice_tup, slice_lst, it_tup, it_lst, cut_from1, Option.map_some, List.set_set, Nat.reduceLT, Int.reduceLT, if_true, Int.toNat_natCast, mul_mod, mulL, mulR, Int.reduceNeg]
    refine ok_ice_val ((shape_ok hL d j x st hx).mono ?_)
    rintro _ S' ⟨rfl, e'⟩
    subst S'
    refine ⟨rfl, ?_⟩
    simp only [List.map_cons, List.map_nil, List.cons_append, List.nil_append, List.replicate, List.getElem?_cons_zero, List.getElem?_cons_succ, List.set_cons_zero, List.set_cons_succ, Option.some.injEq, exists_eq_left', exists_eq_left, Nat.reduceSub, Nat.reduceAdd, Nat.reduceMul, wipeE, gNm, gNms, gTp, D.int.injEq, true_and, and_true, List.length_cons, List.length_nil, Option.bind_some, idx_ref, ixC_lst, idx_lst, idx_tup, idx_frz, at0, at1, at2, at3, add_int, sub_int, mod_int, fdiv_int, pow18, lt_int, le_int, gt_int, ge_int, tru_bl, tru_int, eq_int, ne_int, eq_str, ne_str, eq_bl, ne_bl, put_ref, putC_lst, ix0, ix1, ix2, ix3, len_lst, len_tup, len_frz, len_ref, lenC_lst, un1_one, tuple_lst, tuple_tup, list_lst, list_tup, slice_tup, slice_lst, it_tup, it_lst, cut_from1, Option.map_some, List.set_set, Nat.reduceLT, Int.reduceLT, if_true, Int.toNat_natCast, mul_mod, mulL, mulR, Int.reduceNeg]
    cases hb : planB (rs.map (·.1)) d x with
    | false =>
      simp only [Bool.false_eq_true, if_false, Bool.false_and]
      rw [gc_same rfl]
      exact ⟨rfl, rfl⟩
    | true =>
      obtain ⟨t, rfl, hp, hh⟩ := planB_t hb
      simp only [if_true]
      refine ok_ice_val ((things_ok d j t st hh hp).mono ?_)
      rintro _ S' ⟨rfl, e'⟩
      subst S'
      refine ⟨rfl, ?_⟩
      simp only [List.map_cons, List.map_nil, List.cons_append, List.nil_append, List.replicate, List.getElem?_cons_zero, List.getElem?_cons_succ, List.set_cons_zero, List.set_cons_succ, Option.some.injEq, exists_eq_left', exists_eq_left, Nat.reduceSub, Nat.reduceAdd, Nat.reduceMul, wipeE, gNm, gNms, gTp, D.int.injEq, true_and, and_true, List.length_cons, List.length_nil, Option.bind_some, idx_ref, ixC_lst, idx_lst, idx_tup, idx_frz, at0, at1, at2, at3, add_int, sub_int, mod_int, fdiv_int, pow18, lt_int, le_int, gt_int, ge_int, tru_bl, tru_int, eq_int, ne_int, eq_str, ne_str, eq_bl, ne_bl, put_ref, putC_lst, ix0, ix1, ix2, ix3, len_lst, len_tup, len_frz, len_ref, lenC_lst, un1_one, tuple_lst, tuple_tup, list_lst, list_tup, slice_tup, slice_lst, it_tup, it_lst, cut_from1, Option.map_some, List.set_set, Nat.reduceLT, Int.reduceLT, if_true, Int.toNat_natCast, mul_mod, mulL, mulR, Int.reduceNeg]
      rw [gc_same rfl, tupN_T]
      refine ⟨?_, rfl⟩
      congr 1
      rw [Bool.eq_iff_iff]
      simp
      omega
  refine ok_ice_val (h0.mono ?_)
  rintro _ S' ⟨rfl, e'⟩
  subst S'
  exact ⟨rfl, q⟩
end RP
end
section
set_option Elab.async false
set_option linter.all false
set_option maxRecDepth 100000
set_option maxHeartbeats 1000000
namespace RP
open PySem
open Classical
theorem ok_sortM {c : Call} {env : Env} {st : St} {Q : D → St → Prop} {ma : ME} : Ok (mSortSetM ma c env st) Q ↔ Ok (ma c env st) fun x st1 => ∃ ds, sortSetD st1 x = some (.lst ds) ∧ Q (.ref st1.length) (st1 ++ [.lst ds]) := by
  unfold mSortSetM
  rw [ok_bind]
  refine iff_of_eq (congrArg (Ok (ma c env st)) (funext fun x => funext fun st1 => propext ?_))
  split
  · rename_i ds h
    rw [ok_ok, h]
    simp
  · rename_i h
    rw [ok_no]
    constructor
    · intro h'; cases h'
    · rintro ⟨ds, h', _⟩; exact (h ds h').elim
theorem nin_Ts {st : St} {n : Nat} {f : List Pt} {p : Pt} (hn : st[n]? = some (.lst (f.map encT))) (hd : hgt p ≤ 100) : ninB st (encT p) (.ref n) = some (.bl (!decide (p ∈ f))) := by
  rw [nin_refl hn (nob_T p) nobs_Ts (by rw [dep_T]; exact hd)]
  congr 3
  exact decide_eq_decide.mpr (mem_map_inj fun a b h => encT_inj h)
theorem nin_TsL {st : St} {f : List Pt} {p : Pt} (hd : hgt p ≤ 100) : ninB st (encT p) (.lst (f.map encT)) = some (.bl (!decide (p ∈ f))) := by
  rw [nin_lst (nob_T p) nobs_Ts (by rw [dep_T]; exact hd)]
  congr 3
  exact decide_eq_decide.mpr (mem_map_inj fun a b h => encT_inj h)
theorem thss_app {as bs : List Pt} : thss (as ++ bs) = thss as + thss bs := by
  induction as with
  | nil => simp [thss]
  | cons a as ih => rw [List.cons_append, thss, ih, thss]; omega
theorem bels_Ts {m : Nat} {f : List Pt} : bels m (f.map encT) = true := bels_iff.mpr fun x hx => by
  obtain ⟨t, _, rfl⟩ := List.mem_map.mp hx
  exact bel_T t
theorem parts_ok {N O : Str → Prop} : ∀ (d j : Nat) (t : Pt) (st : St), hgt t ≤ d → d ≤ 90 → ths t ≤ 1000 → PlanQ N O t → Ok (CC (d + j + 3) "parts_of" [encT t] st) fun r st' => r = .ref st.length ∧ st' = st ++ [.lst ((partsP t).map encT)]
  | 0, j, t, st, hd, _, _, h => by cases h <;> simp [hgt] at hd
  | d + 1, j, t, st, hd, hd9, ht, h => by
    rw [show d + 1 + j + 3 = (d + j + 1 + 2) + 1 by omega, r_parts_of]
    refine ok_fn rfl ?_
    unfold b_parts_of
    try simp only [ok_ok, ok_no, ok_bind, ok_of_some, ok_var, ok_cst, ok_nil, ok_cons, ok_tup, ok_lst, ok_lstM, ok_op2, ok_op1, ok_blt, ok_listM, ok_chain, ok_and, ok_or, ok_not, ok_tval, ok_band, ok_bor, ok_bnot, ok_yes, ok_mif, ok_callM, ok_call, ok_lm, ok_optN, ok_optS, ok_slice, ok_ival, ok_range1, ok_range2, ok_zip, ok_sm, ok_addM, ok_get1, ok_get2, ok_comp, ok_compM, s_skip, s_seq, s_expr, s_asg, s_put, s_ret, s_retN, s_brk, s_cnt, s_if, s_for, s_while, List.map_cons, List.map_nil, List.cons_append, List.nil_append, List.replicate, List.getElem?_cons_zero, List.getElem?_cons_succ, List.set_cons_zero, List.set_cons_succ, Option.some.injEq, exists_eq_left', exists_eq_left, Nat.reduceSub, Nat.reduceAdd, Nat.reduceMul, wipeE, gNm, gNms, gTp, D.int.injEq, true_and, and_true, List.length_cons, List.length_nil, Option.bind_some, idx_ref, ixC_lst, idx_lst, idx_tup, idx_frz, at0, at1, at2, at3, add_int, sub_int, mod_int, fdiv_int, pow18, lt_int, le_int, gt_int, ge_int, tru_bl, tru_int, eq_int, ne_int, eq_str, ne_str, eq_bl, ne_bl, put_ref, putC_lst, ix0, ix1, ix2, ix3, len_lst, len_tup, len_frz, len_ref, lenC_lst, un1_one, tuple_lst, tuple_tup, list_lst, list_tup, slice_tup, slice_lst, it_tup, it_lst, cut_from1, Option.map_some, List.set_set, Nat.reduceLT, Int.reduceLT, if_true, Int.toNat_natCast, mul_mod, mulL, mulR, Int.reduceNeg]
    refine inner_call h ?_
    try simp only [ok_ok, ok_no, ok_bind, ok_of_some, ok_var, ok_cst, ok_nil, ok_cons, ok_tup, ok_lst, ok_lstM, ok_op2, ok_op1, ok_blt, ok_listM, ok_chain, ok_and, ok_or, ok_not, ok_tval, ok_band, ok_bor, ok_bnot, ok_yes, ok_mif, ok_callM, ok_call, ok_lm, ok_optN, ok_optS, ok_slice, ok_ival, ok_range1, ok_range2, ok_zip, ok_sm, ok_addM, ok_get1, ok_get2, ok_comp, ok_compM, s_skip, s_seq, s_expr, s_asg, s_put, s_ret, s_retN, s_brk, s_cnt, s_if, s_for, s_while, List.map_cons, List.map_nil, List.cons_append, List.nil_append, List.replicate, List.getElem?_cons_zero, List.getElem?_cons_succ, List.set_cons_zero, List.set_cons_succ, Option.some.injEq, exists_eq_left', exists_eq_left, Nat.reduceSub, Nat.reduceAdd, Nat.reduceMul, wipeE, gNm, gNms, gTp, D.int.injEq, true_and, and_true, List.length_cons, List.length_nil, Option.bind_some, idx_ref, ixC_lst, idx_lst, idx_tup, idx_frz, at0, at1, at2, at3, add_int, sub_int, mod_int, fdiv_int, pow18, lt_int, le_int, gt_int, ge_int, tru_bl, tru_int, eq_int, ne_int, eq_str, ne_str, eq_bl, ne_bl, put_ref, putC_lst, ix0, ix1, ix2, ix3, len_lst, len_tup, len_frz, len_ref, lenC_lst, un1_one, tuple_lst, tuple_tup, list_lst, list_tup, slice_tup, slice_lst, it_tup, it_lst, cut_from1, Option.map_some, List.set_set, Nat.reduceLT, Int.reduceLT, if_true, Int.toNat_natCast, mul_mod, mulL, mulR, Int.reduceNeg]
    have hths := h.ths_inr
    refine for_gen (e := encT) (inr t) (fun done env S => (∃ x2 x3, env = [some (encT t), some (.ref st.length), x2, x3]) ∧ S = st ++ [.lst ((partsF [t] done).map encT)]) rfl ⟨⟨_, _, rfl⟩, by rw [partsF]; rfl⟩ ?_ (fun _ _ _ _ => gNone) ?_
    · rintro k rest done env S he ⟨⟨x2, x3, rfl⟩, e'⟩
      subst S
      have hk : k ∈ inr t := by rw [he]; simp
      obtain ⟨h1, h2⟩ := h.inr_ok k hk
      have hc : (st ++ [Cell.lst ((partsF [t] done).map encT)])[st.length]? = some (.lst ((partsF [t] done).map encT)) := by simp
      have hpk := parts_all (Nat.le_refl _) h1
      have hlen : (partsF [t] done).length ≤ 1 + thss (inr t) := by
        have := partsF_len (f := [t]) (ks := done) fun k hk => (parts_all (Nat.le_refl _) (h.inr_ok k (by rw [he]; simp [hk])).1).2
        have e2 : thss (inr t) = thss done + thss (k :: rest) := by
          rw [he, thss_app]
        simp only [List.length_singleton] at this
        omega
      have hkl : ths k ≤ thss (inr t) := by
        rw [he, thss_app, thss]
        omega
      refine ⟨_, rfl, ?_⟩
      try simp only [ok_ok, ok_no, ok_bind, ok_of_some, ok_var, ok_cst, ok_nil, ok_cons, ok_tup, ok_lst, ok_lstM, ok_op2, ok_op1, ok_blt, ok_listM, ok_chain, ok_and, ok_or, ok_not, ok_tval, ok_band, ok_bor, ok_bnot, ok_yes, ok_mif, ok_callM, ok_call, ok_lm, ok_optN, ok_optS, ok_slice, ok_ival, ok_range1, ok_range2, ok_zip, ok_sm, ok_addM, ok_get1, ok_get2, ok_comp, ok_compM, s_skip, s_seq, s_expr, s_asg, s_put, s_ret, s_retN, s_brk, s_cnt, s_if, s_for, s_while, List.map_cons, List.map_nil, List.cons_append, List.nil_append, List.replicate, List.getElem?_cons_zero, List.getElem?_cons_succ, List.set_cons_zero, List.set_cons_succ, Option.some.injEq, exists_eq_left', exists_eq_left, Nat.reduceSub, Nat.reduceAdd, Nat.reduceMul, wipeE, gNm, gNms, gTp, D.int.injEq, true_and, and_true, List.length_cons, List.length_nil, Option.bind_some, idx_ref, ixC_lst, idx_lst, idx_tup, idx_frz, at0, at1, at2, at3, add_int, sub_int, mod_int, fdiv_int, pow18, lt_int, le_int, gt_int, ge_int, tru_bl, tru_int, eq_int, ne_int, eq_str, ne_str, eq_bl, ne_bl, put_ref, putC_lst, ix0, ix1, ix2, ix3, len_lst, len_tup, len_frz, len_ref, lenC_lst, un1_one, tuple_lst, tuple_tup, list_lst, list_tup, slice_tup, slice_lst, it_tup, it_lst, cut_from1, Option.map_some, List.set_set, Nat.reduceLT, Int.reduceLT, if_true, Int.toNat_natCast, mul_mod, mulL, mulR, Int.reduceNeg]
      refine ⟨isL_ref hc, ?_⟩
      rw [show d + j + 1 + 2 = d + j + 3 by omega]
      refine ok_ice_new (P := fun xs => xs = (partsP k).map encT) ((parts_ok d j k _ (by omega) (by omega) (by omega) h1).mono ?_) ?_
      · rintro _ _ ⟨rfl, rfl⟩
        exact ⟨_, rfl, rfl, bels_Ts, rfl⟩
      rintro _ rfl
      try simp only [ok_ok, ok_no, ok_bind, ok_of_some, ok_var, ok_cst, ok_nil, ok_cons, ok_tup, ok_lst, ok_lstM, ok_op2, ok_op1, ok_blt, ok_listM, ok_chain, ok_and, ok_or, ok_not, ok_tval, ok_band, ok_bor, ok_bnot, ok_yes, ok_mif, ok_callM, ok_call, ok_lm, ok_optN, ok_optS, ok_slice, ok_ival, ok_range1, ok_range2, ok_zip, ok_sm, ok_addM, ok_get1, ok_get2, ok_comp, ok_compM, s_skip, s_seq, s_expr, s_asg, s_put, s_ret, s_retN, s_brk, s_cnt, s_if, s_for, s_while, List.map_cons, List.map_nil, List.cons_append, List.nil_append, List.replicate, List.getElem?_cons_zero, List.getElem?_cons_succ, List.set_cons_zero, List.set_cons_succ, Option.some.injEq, exists_eq_left', exists_eq_left, Nat.reduceSub, Nat.reduceAdd, Nat.reduceMul, wipeE, gNm, gNms, gTp, D.int.injEq, true_and, and_true, List.length_cons, List.length_nil, Option.bind_some, idx_ref, ixC_lst, idx_lst, idx_tup, idx_frz, at0, at1, at2, at3, add_int, sub_int, mod_int, fdiv_int, pow18, lt_int, le_int, gt_int, ge_int, tru_bl, tru_int, eq_int, ne_int, eq_str, ne_str, eq_bl, ne_bl, put_ref, putC_lst, ix0, ix1, ix2, ix3, len_lst, len_tup, len_frz, len_ref, lenC_lst, un1_one, tuple_lst, tuple_tup, list_lst, list_tup, slice_tup, slice_lst, it_tup, it_lst, cut_from1, Option.map_some, List.set_set, Nat.reduceLT, Int.reduceLT, if_true, Int.toNat_natCast, mul_mod, mulL, mulR, Int.reduceNeg]
      refine comp_encF (e := encT) (partsP k) (fun p => !decide (p ∈ partsF [t] done)) encT rfl gNone ?_ ?_
      · intro p hp
        have := (hpk.1 p hp).2
        refine ⟨_, rfl, ?_, fun _ => ?_⟩
        · simp only [ok_ok, ok_no, ok_bind, ok_of_some, ok_var, ok_cst, ok_nil, ok_cons, ok_tup, ok_lst, ok_lstM, ok_op2, ok_op1, ok_blt, ok_listM, ok_chain, ok_and, ok_or, ok_not, ok_tval, ok_band, ok_bor, ok_bnot, ok_yes, ok_mif, ok_callM, ok_call, ok_lm, ok_optN, ok_optS, ok_slice, ok_ival, ok_range1, ok_range2, ok_zip, ok_sm, ok_addM, ok_get1, ok_get2, ok_comp, ok_compM, s_skip, s_seq, s_expr, s_asg, s_put, s_ret, s_retN, s_brk, s_cnt, s_if, s_for, s_while, List.map_cons, List.map_nil, List.cons_append, List.nil_append, List.replicate, List.getElem?_cons_zero, List.getElem?_cons_succ, List.set_cons_zero, List.set_cons_succ, Option.some.injEq, exists_eq_left', exists_eq_left, Nat.reduceSub, Nat.reduceAdd, Nat.reduceMul, wipeE, gNm, gNms, gTp, D.int.injEq, true_and, and_true, List.length_cons, List.length_nil, Option.bind_some, idx_ref, ixC_lst, idx_lst, idx_tup, idx_frz, at0, at1, at2, at3, add_int, sub_int, mod_int, fdiv_int, pow18, lt_int, le_int, gt_int, ge_int, tru_bl, tru_int, eq_int, ne_int, eq_str, ne_str, eq_bl, ne_bl, put_ref, putC_lst, ix0, ix1, ix2, ix3, len_lst, len_tup, len_frz, len_ref, lenC_lst, un1_one, tuple_lst, tuple_tup, list_lst, list_tup, slice_tup, slice_lst, it_tup, it_lst, cut_from1, Option.map_some, List.set_set, Nat.reduceLT, Int.reduceLT, if_true, Int.toNat_natCast, mul_mod, mulL, mulR, Int.reduceNeg, nin_Ts hc (show hgt p ≤ 100 by omega)]
        · try simp only [ok_ok, ok_no, ok_bind, ok_of_some, ok_var, ok_cst, ok_nil, ok_cons, ok_tup, ok_lst, ok_lstM, ok_op2, ok_op1, ok_blt, ok_listM, ok_chain, ok_and, ok_or, ok_not, ok_tval, ok_band, ok_bor, ok_bnot, ok_yes, ok_mif, ok_callM, ok_call, ok_lm, ok_optN, ok_optS, ok_slice, ok_ival, ok_range1, ok_range2, ok_zip, ok_sm, ok_addM, ok_get1, ok_get2, ok_comp, ok_compM, s_skip, s_seq, s_expr, s_asg, s_put, s_ret, s_retN, s_brk, s_cnt, s_if, s_for, s_while, List.map_cons, List.map_nil, List.cons_append, List.nil_append, List.replicate, List.getElem?_cons_zero, List.getElem?_cons_succ, List.set_cons_zero, List.set_cons_succ, Option.some.injEq, exists_eq_left', exists_eq_left, Nat.reduceSub, Nat.reduceAdd, Nat.reduceMul, wipeE, gNm, gNms, gTp, D.int.injEq, true_and, and_true, List.length_cons, List.length_nil, Option.bind_some, idx_ref, ixC_lst, idx_lst, idx_tup, idx_frz, at0, at1, at2, at3, add_int, sub_int, mod_int, fdiv_int, pow18, lt_int, le_int, gt_int, ge_int, tru_bl, tru_int, eq_int, ne_int, eq_str, ne_str, eq_bl, ne_bl, put_ref, putC_lst, ix0, ix1, ix2, ix3, len_lst, len_tup, len_frz, len_ref, lenC_lst, un1_one, tuple_lst, tuple_tup, list_lst, list_tup, slice_tup, slice_lst, it_tup, it_lst, cut_from1, Option.map_some, List.set_set, Nat.reduceLT, Int.reduceLT, if_true, Int.toNat_natCast, mul_mod, mulL, mulR, Int.reduceNeg]
      · try simp only [ok_ok, ok_no, ok_bind, ok_of_some, ok_var, ok_cst, ok_nil, ok_cons, ok_tup, ok_lst, ok_lstM, ok_op2, ok_op1, ok_blt, ok_listM, ok_chain, ok_and, ok_or, ok_not, ok_tval, ok_band, ok_bor, ok_bnot, ok_yes, ok_mif, ok_callM, ok_call, ok_lm, ok_optN, ok_optS, ok_slice, ok_ival, ok_range1, ok_range2, ok_zip, ok_sm, ok_addM, ok_get1, ok_get2, ok_comp, ok_compM, s_skip, s_seq, s_expr, s_asg, s_put, s_ret, s_retN, s_brk, s_cnt, s_if, s_for, s_while, List.map_cons, List.map_nil, List.cons_append, List.nil_append, List.replicate, List.getElem?_cons_zero, List.getElem?_cons_succ, List.set_cons_zero, List.set_cons_succ, Option.some.injEq, exists_eq_left', exists_eq_left, Nat.reduceSub, Nat.reduceAdd, Nat.reduceMul, wipeE, gNm, gNms, gTp, D.int.injEq, true_and, and_true, List.length_cons, List.length_nil, Option.bind_some, idx_ref, ixC_lst, idx_lst, idx_tup, idx_frz, at0, at1, at2, at3, add_int, sub_int, mod_int, fdiv_int, pow18, lt_int, le_int, gt_int, ge_int, tru_bl, tru_int, eq_int, ne_int, eq_str, ne_str, eq_bl, ne_bl, put_ref, putC_lst, ix0, ix1, ix2, ix3, len_lst, len_tup, len_frz, len_ref, lenC_lst, un1_one, tuple_lst, tuple_tup, list_lst, list_tup, slice_tup, slice_lst, it_tup, it_lst, cut_from1, Option.map_some, List.set_set, Nat.reduceLT, Int.reduceLT, if_true, Int.toNat_natCast, mul_mod, mulL, mulR, Int.reduceNeg]
        have hfl : ((partsP k).filter fun p => !decide (p ∈ partsF [t] done)).length ≤ (partsP k).length := List.length_filter_le _ _
        refine ⟨_, _, extend_ref hc (by simp only [List.length_map]; unfold big; omega), ?_⟩
        refine ⟨⟨_, _, rfl⟩, ?_⟩
        rw [partsF_snoc, List.map_append]
        exact set_new
    · rintro env S ⟨⟨x2, x3, rfl⟩, e'⟩
      subst S
      try simp only [ok_ok, ok_no, ok_bind, ok_of_some, ok_var, ok_cst, ok_nil, ok_cons, ok_tup, ok_lst, ok_lstM, ok_op2, ok_op1, ok_blt, ok_listM, ok_chain, ok_and, ok_or, ok_not, ok_tval, ok_band, ok_bor, ok_bnot, ok_yes, ok_mif, ok_callM, ok_call, ok_lm, ok_optN, ok_optS, ok_slice, ok_ival, ok_range1, ok_range2, ok_zip, ok_sm, ok_addM, ok_get1, ok_get2, ok_comp, ok_compM, s_skip, s_seq, s_expr, s_asg, s_put, s_ret, s_retN, s_brk, s_cnt, s_if, s_for, s_while, List.map_cons, List.map_nil, List.cons_append, List.nil_append, List.replicate, List.getElem?_cons_zero, List.getElem?_cons_succ, List.set_cons_zero, List.set_cons_succ, Option.some.injEq, exists_eq_left', exists_eq_left, Nat.reduceSub, Nat.reduceAdd, Nat.reduceMul, wipeE, gNm, gNms, gTp, D.int.injEq, true_and, and_true, List.length_cons, List.length_nil, Option.bind_some, idx_ref, ixC_lst, idx_lst, idx_tup, idx_frz, at0, at1, at2, at3, add_int, sub_int, mod_int, fdiv_int, pow18, lt_int, le_int, gt_int, ge_int, tru_bl, tru_int, eq_int, ne_int, eq_str, ne_str, eq_bl, ne_bl, put_ref, putC_lst, ix0, ix1, ix2, ix3, len_lst, len_tup, len_frz, len_ref, lenC_lst, un1_one, tuple_lst, tuple_tup, list_lst, list_tup, slice_tup, slice_lst, it_tup, it_lst, cut_from1, Option.map_some, List.set_set, Nat.reduceLT, Int.reduceLT, if_true, Int.toNat_natCast, mul_mod, mulL, mulR, Int.reduceNeg]
      rw [gc_new bels_Ts]
      exact ⟨rfl, by rw [parts_inr]⟩
theorem isAny_idx {N O : Str → Prop} {st : St} {p : Pt} (h : PlanQ N O p) : ∃ w, idxD st (encT p) (.int 0) = some (.str w) ∧ (w == ("any" : Str)) = isAnyB p ∧ (isAnyB p = true → idxD st (encT p) (.int 1) = some (.str (nmO p))) := by
  have nd : ∀ (w : Str) (ks : List Pt), w ≠ "any" → ∃ w', idxD st (encT (.nd w ks)) (.int 0) = some (.str w') ∧ (w' == ("any" : Str)) = isAnyB (.nd w ks) ∧ (isAnyB (.nd w ks) = true → idxD st (encT (.nd w ks)) (.int 1) = some (.str (nmO (.nd w ks)))) := fun w ks hw => by
    refine ⟨w, by rw [encT_nd, idx_tup, at0]; rfl, ?_, fun h => ?_⟩
    · unfold isAnyB; rw [Bool.eq_iff_iff]; simp
    · unfold isAnyB at h; exact (hw (of_decide_eq_true h)).elim
  cases h with
  | leaf hw => exact nd _ _ (leaf_ne hw).1
  | any hx => exact ⟨"any", by rw [encT_nd, idx_tup, at0]; rfl, by unfold isAnyB; simp, fun _ => by rw [encT_nd, List.map_singleton, encT_unk, idx_tup, at1]; rfl⟩
  | use hx => exact nd _ _ (by decide)
  | one hw _ => exact nd _ _ (one_ne hw).1
  | two hw _ _ => exact nd _ _ (two_ne hw).1
/-- names of the open ones among parts -/
theorem opens_comp {N O : Str → Prop} {c : Call} {env : Env} {st : St} {k : Nat} {ps : List Pt} {Q : List D → St → Prop} (hk : k < env.length) (hp : ∀ p ∈ ps, PlanQ N O p) (q : Q (((ps.filter isAnyB).map nmO).map D.str) st) : Ok (compL c none (ps.map encT) (gNm k) (tVal (mOp2 eqB (mOp2 idxD (mVar k) (mCst (.int 0))) (mCst (.str "any")))) (mOp2 idxD (mVar k) (mCst (.int 1))) env (ps.map encT) st) Q := by
  refine comp_encF (e := encT) ps isAnyB (fun p => D.str (nmO p)) rfl gNone ?_ ?_
  · intro p hpm
    obtain ⟨w, i0, i1, i2⟩ := isAny_idx (st := st) (hp p hpm)
    have he : (env.set k (some (encT p)))[k]? = some (some (encT p)) := List.getElem?_set_self hk
    refine ⟨_, if_pos hk, ?_, fun hb => ?_⟩
    · simp only [ok_tval, ok_op2, ok_var, ok_cst, ok_of, he, Option.some.injEq, exists_eq_left', i0, eq_str, tru_bl, i1, and_self]
    · simp only [ok_tval, ok_op2, ok_var, ok_cst, ok_of, he, Option.some.injEq, exists_eq_left', i2 hb, and_self]
  · rw [List.map_map] at q
    exact q
theorem opens_ok {N O : Str → Prop} {d j : Nat} {t : Pt} {st : St} (hd : hgt t ≤ d) (hd9 : d ≤ 90) (ht : ths t ≤ 60) (h : PlanQ N O t) : Ok (CC (d + j + 4) "open_names" [encT t] st) fun r st' => r = .ref st.length ∧ st' = st ++ [.lst ((opensP t).map D.str)] := by
  rw [show d + j + 4 = (d + j + 3) + 1 by omega, r_open_names]
  refine ok_fn rfl ?_
  unfold b_open_names
  simp only [ok_ok, ok_no, ok_bind, ok_of_some, ok_var, ok_cst, ok_nil, ok_cons, ok_tup, ok_lst, ok_lstM, ok_op2, ok_op1, ok_blt, ok_listM, ok_chain, ok_and, ok_or, ok_not, ok_tval, ok_band, ok_bor, ok_bnot, ok_yes, ok_mif, ok_callM, ok_call, ok_lm, ok_optN, ok_optS, ok_slice, ok_ival, ok_range1, ok_range2, ok_zip, ok_sm, ok_addM, ok_get1, ok_get2, ok_comp, ok_compM, s_skip, s_seq, s_expr, s_asg, s_put, s_ret, s_retN, s_brk, s_cnt, s_if, s_for, s_while, List.map_cons, List.map_nil, List.cons_append, List.nil_append, List.replicate, List.getElem?_cons_zero, List.getElem?_cons_succ, List.set_cons_zero, List.set_cons_succ, Option.some.injEq, exists_eq_left', exists_eq_left, Nat.reduceSub, Nat.reduceAdd, Nat.reduceMul, wipeE, gNm, gNms, gTp, D.int.injEq, true_and, and_true, List.length_cons, List.length_nil, Option.bind_some, idx_ref, ixC_lst, idx_lst, idx_tup, idx_frz, at0, at1, at2, at3, add_int, sub_int, mod_int, fdiv_int, pow18, lt_int, le_int, gt_int, ge_int, tru_bl, tru_int, eq_int, ne_int, eq_str, ne_str, eq_bl, ne_bl, put_ref, putC_lst, ix0, ix1, ix2, ix3, len_lst, len_tup, len_frz, len_ref, lenC_lst, un1_one, tuple_lst, tuple_tup, list_lst, list_tup, slice_tup, slice_lst, it_tup, it_lst, cut_from1, Option.map_some, List.set_set, Nat.reduceLT, Int.reduceLT, if_true, Int.toNat_natCast, mul_mod, mulL, mulR, Int.reduceNeg, ok_sortM]
  refine ok_ice_new (P := fun xs => xs = (partsP t).map encT) ((parts_ok d j t _ hd hd9 (by omega) h).mono ?_) ?_
  · rintro _ _ ⟨rfl, rfl⟩
    exact ⟨_, rfl, rfl, bels_Ts, rfl⟩
  rintro _ rfl
  try simp only [ok_ok, ok_no, ok_bind, ok_of_some, ok_var, ok_cst, ok_nil, ok_cons, ok_tup, ok_lst, ok_lstM, ok_op2, ok_op1, ok_blt, ok_listM, ok_chain, ok_and, ok_or, ok_not, ok_tval, ok_band, ok_bor, ok_bnot, ok_yes, ok_mif, ok_callM, ok_call, ok_lm, ok_optN, ok_optS, ok_slice, ok_ival, ok_range1, ok_range2, ok_zip, ok_sm, ok_addM, ok_get1, ok_get2, ok_comp, ok_compM, s_skip, s_seq, s_expr, s_asg, s_put, s_ret, s_retN, s_brk, s_cnt, s_if, s_for, s_while, List.map_cons, List.map_nil, List.cons_append, List.nil_append, List.replicate, List.getElem?_cons_zero, List.getElem?_cons_succ, List.set_cons_zero, List.set_cons_succ, Option.some.injEq, exists_eq_left', exists_eq_left, Nat.reduceSub, Nat.reduceAdd, Nat.reduceMul, wipeE, gNm, gNms, gTp, D.int.injEq, true_and, and_true, List.length_cons, List.length_nil, Option.bind_some, idx_ref, ixC_lst, idx_lst, idx_tup, idx_frz, at0, at1, at2, at3, add_int, sub_int, mod_int, fdiv_int, pow18, lt_int, le_int, gt_int, ge_int, tru_bl, tru_int, eq_int, ne_int, eq_str, ne_str, eq_bl, ne_bl, put_ref, putC_lst, ix0, ix1, ix2, ix3, len_lst, len_tup, len_frz, len_ref, lenC_lst, un1_one, tuple_lst, tuple_tup, list_lst, list_tup, slice_tup, slice_lst, it_tup, it_lst, cut_from1, Option.map_some, List.set_set, Nat.reduceLT, Int.reduceLT, if_true, Int.toNat_natCast, mul_mod, mulL, mulR, Int.reduceNeg]
  obtain ⟨p1, p2⟩ := parts_all (Nat.le_refl _) h
  refine opens_comp (by simp) (fun p hp => (p1 p hp).1) ?_
  have hfl : ((partsP t).filter isAnyB).length ≤ (partsP t).length := List.length_filter_le _ _
  rw [sortSet_strs (by rw [List.length_map]; omega)]
  refine ⟨_, rfl, ?_⟩
  rw [gc_new (bels_pln (plns_nob nob_strs))]
  exact ⟨rfl, rfl⟩
end RP
end
section
set_option Elab.async false
set_option linter.all false
set_option maxRecDepth 100000
set_option maxHeartbeats 1000000
namespace RP
open PySem
open Classical
def isNdB : Pt → Bool
  | .nd _ _ => true
  | .unk _ => false
theorem isi_Nd {st : St} {t : Pt} : isiD .tuple st (encT t) = some (.bl (isNdB t)) := by
  cases t with
  | unk x => rw [encT_unk]; rfl
  | nd f ks => rw [encT_nd]; rfl
theorem PlanQ.nd {N O : Str → Prop} {t : Pt} (h : PlanQ N O t) : isNdB t = true := by cases h <;> rfl
theorem PlanQ.kids {N O : Str → Prop} {t : Pt} (h : PlanQ N O t) : ∃ w ks, t = .nd w ks ∧ ks.filter isNdB = inr t := by
  cases h with
  | leaf hw => exact ⟨_, _, rfl, by rw [inr_yes (leaf_ne hw)]; rfl⟩
  | any hx => exact ⟨_, _, rfl, by rw [inr_no (.inr rfl)]; rfl⟩
  | use hx => exact ⟨_, _, rfl, by rw [inr_no (.inl rfl)]; rfl⟩
  | one hw hp => exact ⟨_, _, rfl, by rw [inr_yes (one_ne hw)]; simp [hp.nd]⟩
  | two hw hp hq => exact ⟨_, _, rfl, by rw [inr_yes (two_ne hw)]; simp [hp.nd, hq.nd]⟩
theorem linner_call {j : Nat} {N O : Str → Prop} {t : Pt} {st : St} {Q : D → St → Prop} (h : PlanQ N O t) (q : Q (.lst ((inr t).map encT)) st) : Ok (ice st (CC (j + 1) "_law_inner" [encT t] st)) Q := by
  obtain ⟨w, ks, rfl, hf⟩ := h.kids
  have h0 : Ok (CC (j + 1) "_law_inner" [encT (.nd w ks)] st) fun r st' => r = .lst ((inr (.nd w ks)).map encT) ∧ st' = st := by
    rw [r__law_inner, encT_nd]
    refine ok_fn rfl ?_
    unfold b__law_inner
    try simp only [ok_ok, ok_no, ok_bind, ok_of_some, ok_var, ok_cst, ok_nil, ok_cons, ok_tup, ok_lst, ok_lstM, ok_op2, ok_op1, ok_blt, ok_listM, ok_chain, ok_and, ok_or, ok_not, ok_tval, ok_band, ok_bor, ok_bnot, ok_yes, ok_mif, ok_callM, ok_call, ok_lm, ok_optN, ok_optS, ok_slice, ok_ival, ok_range1, ok_range2, ok_zip, ok_sm, ok_addM, ok_get1, ok_get2, ok_comp, ok_compM, s_skip, s_seq, s_expr, s_asg, s_put, s_ret, s_retN, s_brk, s_cnt, s_if, s_for, s_while, List.map_cons, List.map_nil, List.cons_append, List.nil_append, List.replicate, List.getElem?_cons_zero, List.getElem?_cons_succ, List.set_cons_zero, List.set_cons_succ, Option.some.injEq, exists_eq_left', exists_eq_left, Nat.reduceSub, Nat.reduceAdd, Nat.reduceMul, wipeE, gNm, gNms, gTp, D.int.injEq, true_and, and_true, List.length_cons, List.length_nil, Option.bind_some, idx_ref, ixC_lst, idx_lst, idx_tup, idx_frz, at0, at1, at2, at3, add_int, sub_int, mod_int, fdiv_int, pow18, lt_int, le_int, gt_int, ge_int, tru_bl, tru_int, eq_int, ne_int, eq_str, ne_str, eq_bl, ne_bl, put_ref, putC_lst, ix0, ix1, ix2, ix3, len_lst, len_tup, len_frz, len_ref, lenC_lst, un1_one, tuple_lst, tuple_tup, list_lst, list_tup, slice_tup, slice_lst, it_tup, it_lst, cut_from1, Option.map_some, List.set_set, Nat.reduceLT, Int.reduceLT, if_true, Int.toNat_natCast, mul_mod, mulL, mulR, Int.reduceNeg]
    refine comp_encF (e := encT) ks isNdB encT rfl gNone ?_ ?_
    · intro k hk
      refine ⟨_, rfl, ?_, fun _ => ?_⟩
      · simp only [ok_ok, ok_no, ok_bind, ok_of_some, ok_var, ok_cst, ok_nil, ok_cons, ok_tup, ok_lst, ok_lstM, ok_op2, ok_op1, ok_blt, ok_listM, ok_chain, ok_and, ok_or, ok_not, ok_tval, ok_band, ok_bor, ok_bnot, ok_yes, ok_mif, ok_callM, ok_call, ok_lm, ok_optN, ok_optS, ok_slice, ok_ival, ok_range1, ok_range2, ok_zip, ok_sm, ok_addM, ok_get1, ok_get2, ok_comp, ok_compM, s_skip, s_seq, s_expr, s_asg, s_put, s_ret, s_retN, s_brk, s_cnt, s_if, s_for, s_while, List.map_cons, List.map_nil, List.cons_append, List.nil_append, List.replicate, List.getElem?_cons_zero, List.getElem?_cons_succ, List.set_cons_zero, List.set_cons_succ, Option.some.injEq, exists_eq_left', exists_eq_left, Nat.reduceSub, Nat.reduceAdd, Nat.reduceMul, wipeE, gNm, gNms, gTp, D.int.injEq, true_and, and_true, List.length_cons, List.length_nil, Option.bind_some, idx_ref, ixC_lst, idx_lst, idx_tup, idx_frz, at0, at1, at2, at3, add_int, sub_int, mod_int, fdiv_int, pow18, lt_int, le_int, gt_int, ge_int, tru_bl, tru_int, eq_int, ne_int, eq_str, ne_str, eq_bl, ne_bl, put_ref, putC_lst, ix0, ix1, ix2, ix3, len_lst, len_tup, len_frz, len_ref, lenC_lst, un1_one, tuple_lst, tuple_tup, list_lst, list_tup, slice_tup, slice_lst, it_tup, it_lst, cut_from1, Option.map_some, List.set_set, Nat.reduceLT, Int.reduceLT, if_true, Int.toNat_natCast, mul_mod, mulL, mulR, Int.reduceNeg, isi_Nd]
      · try simp only [ok_ok, ok_no, ok_bind, ok_of_some, ok_var, ok_cst, ok_nil, ok_cons, ok_tup, ok_lst, ok_lstM, ok_op2, ok_op1, ok_blt, ok_listM, ok_chain, ok_and, ok_or, ok_not, ok_tval, ok_band, ok_bor, ok_bnot, ok_yes, ok_mif, ok_callM, ok_call, ok_lm, ok_optN, ok_optS, ok_slice, ok_ival, ok_range1, ok_range2, ok_zip, ok_sm, ok_addM, ok_get1, ok_get2, ok_comp, ok_compM, s_skip, s_seq, s_expr, s_asg, s_put, s_ret, s_retN, s_brk, s_cnt, s_if, s_for, s_while, List.map_cons, List.map_nil, List.cons_append, List.nil_append, List.replicate, List.getElem?_cons_zero, List.getElem?_cons_succ, List.set_cons_zero, List.set_cons_succ, Option.some.injEq, exists_eq_left', exists_eq_left, Nat.reduceSub, Nat.reduceAdd, Nat.reduceMul, wipeE, gNm, gNms, gTp, D.int.injEq, true_and, and_true, List.length_cons, List.length_nil, Option.bind_some, idx_ref, ixC_lst, idx_lst, idx_tup, idx_frz, at0, at1, at2, at3, add_int, sub_int, mod_int, fdiv_int, pow18, lt_int, le_int, gt_int, ge_int, tru_bl, tru_int, eq_int, ne_int, eq_str, ne_str, eq_bl, ne_bl, put_ref, putC_lst, ix0, ix1, ix2, ix3, len_lst, len_tup, len_frz, len_ref, lenC_lst, un1_one, tuple_lst, tuple_tup, list_lst, list_tup, slice_tup, slice_lst, it_tup, it_lst, cut_from1, Option.map_some, List.set_set, Nat.reduceLT, Int.reduceLT, if_true, Int.toNat_natCast, mul_mod, mulL, mulR, Int.reduceNeg]
    · rw [gc_same rfl, hf]
      exact ⟨rfl, rfl⟩
  refine ok_ice_val (h0.mono ?_)
  rintro _ S' ⟨rfl, e'⟩
  subst S'
  exact ⟨rfl, q⟩
theorem lparts_ok {N O : Str → Prop} : ∀ (d j : Nat) (t : Pt) (st : St), hgt t ≤ d → d ≤ 90 → ths t ≤ 1000 → PlanQ N O t → Ok (CC (d + j + 2) "_law_parts" [encT t] st) fun r st' => r = .lst ((partsP t).map encT) ∧ st' = st
  | 0, j, t, st, hd, _, _, h => by cases h <;> simp [hgt] at hd
  | d + 1, j, t, st, hd, hd9, ht, h => by
    rw [show d + 1 + j + 2 = (d + j + 1 + 1) + 1 by omega, r__law_parts]
    refine ok_fn rfl ?_
    unfold b__law_parts
    try simp only [ok_ok, ok_no, ok_bind, ok_of_some, ok_var, ok_cst, ok_nil, ok_cons, ok_tup, ok_lst, ok_lstM, ok_op2, ok_op1, ok_blt, ok_listM, ok_chain, ok_and, ok_or, ok_not, ok_tval, ok_band, ok_bor, ok_bnot, ok_yes, ok_mif, ok_callM, ok_call, ok_lm, ok_optN, ok_optS, ok_slice, ok_ival, ok_range1, ok_range2, ok_zip, ok_sm, ok_addM, ok_get1, ok_get2, ok_comp, ok_compM, s_skip, s_seq, s_expr, s_asg, s_put, s_ret, s_retN, s_brk, s_cnt, s_if, s_for, s_while, List.map_cons, List.map_nil, List.cons_append, List.nil_append, List.replicate, List.getElem?_cons_zero, List.getElem?_cons_succ, List.set_cons_zero, List.set_cons_succ, Option.some.injEq, exists_eq_left', exists_eq_left, Nat.reduceSub, Nat.reduceAdd, Nat.reduceMul, wipeE, gNm, gNms, gTp, D.int.injEq, true_and, and_true, List.length_cons, List.length_nil, Option.bind_some, idx_ref, ixC_lst, idx_lst, idx_tup, idx_frz, at0, at1, at2, at3, add_int, sub_int, mod_int, fdiv_int, pow18, lt_int, le_int, gt_int, ge_int, tru_bl, tru_int, eq_int, ne_int, eq_str, ne_str, eq_bl, ne_bl, put_ref, putC_lst, ix0, ix1, ix2, ix3, len_lst, len_tup, len_frz, len_ref, lenC_lst, un1_one, tuple_lst, tuple_tup, list_lst, list_tup, slice_tup, slice_lst, it_tup, it_lst, cut_from1, Option.map_some, List.set_set, Nat.reduceLT, Int.reduceLT, if_true, Int.toNat_natCast, mul_mod, mulL, mulR, Int.reduceNeg]
    refine linner_call h ?_
    try simp only [ok_ok, ok_no, ok_bind, ok_of_some, ok_var, ok_cst, ok_nil, ok_cons, ok_tup, ok_lst, ok_lstM, ok_op2, ok_op1, ok_blt, ok_listM, ok_chain, ok_and, ok_or, ok_not, ok_tval, ok_band, ok_bor, ok_bnot, ok_yes, ok_mif, ok_callM, ok_call, ok_lm, ok_optN, ok_optS, ok_slice, ok_ival, ok_range1, ok_range2, ok_zip, ok_sm, ok_addM, ok_get1, ok_get2, ok_comp, ok_compM, s_skip, s_seq, s_expr, s_asg, s_put, s_ret, s_retN, s_brk, s_cnt, s_if, s_for, s_while, List.map_cons, List.map_nil, List.cons_append, List.nil_append, List.replicate, List.getElem?_cons_zero, List.getElem?_cons_succ, List.set_cons_zero, List.set_cons_succ, Option.some.injEq, exists_eq_left', exists_eq_left, Nat.reduceSub, Nat.reduceAdd, Nat.reduceMul, wipeE, gNm, gNms, gTp, D.int.injEq, true_and, and_true, List.length_cons, List.length_nil, Option.bind_some, idx_ref, ixC_lst, idx_lst, idx_tup, idx_frz, at0, at1, at2, at3, add_int, sub_int, mod_int, fdiv_int, pow18, lt_int, le_int, gt_int, ge_int, tru_bl, tru_int, eq_int, ne_int, eq_str, ne_str, eq_bl, ne_bl, put_ref, putC_lst, ix0, ix1, ix2, ix3, len_lst, len_tup, len_frz, len_ref, lenC_lst, un1_one, tuple_lst, tuple_tup, list_lst, list_tup, slice_tup, slice_lst, it_tup, it_lst, cut_from1, Option.map_some, List.set_set, Nat.reduceLT, Int.reduceLT, if_true, Int.toNat_natCast, mul_mod, mulL, mulR, Int.reduceNeg]
    have hths := h.ths_inr
    refine for_gen (e := encT) (inr t) (fun done env S => (∃ x2 x3, env = [some (encT t), some (.lst ((partsF [t] done).map encT)), x2, x3]) ∧ S = st) rfl ⟨⟨_, _, by rw [partsF]; rfl⟩, rfl⟩ ?_ (fun _ _ _ _ => gNone) ?_
    · rintro k rest done env S he ⟨⟨x2, x3, rfl⟩, e'⟩
      subst S
      have hk : k ∈ inr t := by rw [he]; simp
      obtain ⟨h1, h2⟩ := h.inr_ok k hk
      have hpk := parts_all (Nat.le_refl _) h1
      have hlen : (partsF [t] done).length ≤ 1 + thss (inr t) := by
        have := partsF_len (f := [t]) (ks := done) fun k hk => (parts_all (Nat.le_refl _) (h.inr_ok k (by rw [he]; simp [hk])).1).2
        have e2 : thss (inr t) = thss done + thss (k :: rest) := by rw [he, thss_app]
        simp only [List.length_singleton] at this
        omega
      have hkl : ths k ≤ thss (inr t) := by
        rw [he, thss_app, thss]
        omega
      refine ⟨_, rfl, ?_⟩
      try simp only [ok_ok, ok_no, ok_bind, ok_of_some, ok_var, ok_cst, ok_nil, ok_cons, ok_tup, ok_lst, ok_lstM, ok_op2, ok_op1, ok_blt, ok_listM, ok_chain, ok_and, ok_or, ok_not, ok_tval, ok_band, ok_bor, ok_bnot, ok_yes, ok_mif, ok_callM, ok_call, ok_lm, ok_optN, ok_optS, ok_slice, ok_ival, ok_range1, ok_range2, ok_zip, ok_sm, ok_addM, ok_get1, ok_get2, ok_comp, ok_compM, s_skip, s_seq, s_expr, s_asg, s_put, s_ret, s_retN, s_brk, s_cnt, s_if, s_for, s_while, List.map_cons, List.map_nil, List.cons_append, List.nil_append, List.replicate, List.getElem?_cons_zero, List.getElem?_cons_succ, List.set_cons_zero, List.set_cons_succ, Option.some.injEq, exists_eq_left', exists_eq_left, Nat.reduceSub, Nat.reduceAdd, Nat.reduceMul, wipeE, gNm, gNms, gTp, D.int.injEq, true_and, and_true, List.length_cons, List.length_nil, Option.bind_some, idx_ref, ixC_lst, idx_lst, idx_tup, idx_frz, at0, at1, at2, at3, add_int, sub_int, mod_int, fdiv_int, pow18, lt_int, le_int, gt_int, ge_int, tru_bl, tru_int, eq_int, ne_int, eq_str, ne_str, eq_bl, ne_bl, put_ref, putC_lst, ix0, ix1, ix2, ix3, len_lst, len_tup, len_frz, len_ref, lenC_lst, un1_one, tuple_lst, tuple_tup, list_lst, list_tup, slice_tup, slice_lst, it_tup, it_lst, cut_from1, Option.map_some, List.set_set, Nat.reduceLT, Int.reduceLT, if_true, Int.toNat_natCast, mul_mod, mulL, mulR, Int.reduceNeg]
      rw [show d + j + 1 + 1 = d + j + 2 by omega]
      refine ok_ice_val ((lparts_ok d j k st (by omega) (by omega) (by omega) h1).mono ?_)
      rintro _ S' ⟨rfl, e'⟩
      subst S'
      refine ⟨rfl, ?_⟩
      try simp only [ok_ok, ok_no, ok_bind, ok_of_some, ok_var, ok_cst, ok_nil, ok_cons, ok_tup, ok_lst, ok_lstM, ok_op2, ok_op1, ok_blt, ok_listM, ok_chain, ok_and, ok_or, ok_not, ok_tval, ok_band, ok_bor, ok_bnot, ok_yes, ok_mif, ok_callM, ok_call, ok_lm, ok_optN, ok_optS, ok_slice, ok_ival, ok_range1, ok_range2, ok_zip, ok_sm, ok_addM, ok_get1, ok_get2, ok_comp, ok_compM, s_skip, s_seq, s_expr, s_asg, s_put, s_ret, s_retN, s_brk, s_cnt, s_if, s_for, s_while, List.map_cons, List.map_nil, List.cons_append, List.nil_append, List.replicate, List.getElem?_cons_zero, List.getElem?_cons_succ, List.set_cons_zero, List.set_cons_succ, Option.some.injEq, exists_eq_left', exists_eq_left, Nat.reduceSub, Nat.reduceAdd, Nat.reduceMul, wipeE, gNm, gNms, gTp, D.int.injEq, true_and, and_true, List.length_cons, List.length_nil, Option.bind_some, idx_ref, ixC_lst, idx_lst, idx_tup, idx_frz, at0, at1, at2, at3, add_int, sub_int, mod_int, fdiv_int, pow18, lt_int, le_int, gt_int, ge_int, tru_bl, tru_int, eq_int, ne_int, eq_str, ne_str, eq_bl, ne_bl, put_ref, putC_lst, ix0, ix1, ix2, ix3, len_lst, len_tup, len_frz, len_ref, lenC_lst, un1_one, tuple_lst, tuple_tup, list_lst, list_tup, slice_tup, slice_lst, it_tup, it_lst, cut_from1, Option.map_some, List.set_set, Nat.reduceLT, Int.reduceLT, if_true, Int.toNat_natCast, mul_mod, mulL, mulR, Int.reduceNeg]
      refine comp_encF (e := encT) (partsP k) (fun p => !decide (p ∈ partsF [t] done)) encT rfl gNone ?_ ?_
      · intro p hp
        have := (hpk.1 p hp).2
        refine ⟨_, rfl, ?_, fun _ => ?_⟩
        · simp only [ok_ok, ok_no, ok_bind, ok_of_some, ok_var, ok_cst, ok_nil, ok_cons, ok_tup, ok_lst, ok_lstM, ok_op2, ok_op1, ok_blt, ok_listM, ok_chain, ok_and, ok_or, ok_not, ok_tval, ok_band, ok_bor, ok_bnot, ok_yes, ok_mif, ok_callM, ok_call, ok_lm, ok_optN, ok_optS, ok_slice, ok_ival, ok_range1, ok_range2, ok_zip, ok_sm, ok_addM, ok_get1, ok_get2, ok_comp, ok_compM, s_skip, s_seq, s_expr, s_asg, s_put, s_ret, s_retN, s_brk, s_cnt, s_if, s_for, s_while, List.map_cons, List.map_nil, List.cons_append, List.nil_append, List.replicate, List.getElem?_cons_zero, List.getElem?_cons_succ, List.set_cons_zero, List.set_cons_succ, Option.some.injEq, exists_eq_left', exists_eq_left, Nat.reduceSub, Nat.reduceAdd, Nat.reduceMul, wipeE, gNm, gNms, gTp, D.int.injEq, true_and, and_true, List.length_cons, List.length_nil, Option.bind_some, idx_ref, ixC_lst, idx_lst, idx_tup, idx_frz, at0, at1, at2, at3, add_int, sub_int, mod_int, fdiv_int, pow18, lt_int, le_int, gt_int, ge_int, tru_bl, tru_int, eq_int, ne_int, eq_str, ne_str, eq_bl, ne_bl, put_ref, putC_lst, ix0, ix1, ix2, ix3, len_lst, len_tup, len_frz, len_ref, lenC_lst, un1_one, tuple_lst, tuple_tup, list_lst, list_tup, slice_tup, slice_lst, it_tup, it_lst, cut_from1, Option.map_some, List.set_set, Nat.reduceLT, Int.reduceLT, if_true, Int.toNat_natCast, mul_mod, mulL, mulR, Int.reduceNeg, nin_TsL (show hgt p ≤ 100 by omega)]
        · try simp only [ok_ok, ok_no, ok_bind, ok_of_some, ok_var, ok_cst, ok_nil, ok_cons, ok_tup, ok_lst, ok_lstM, ok_op2, ok_op1, ok_blt, ok_listM, ok_chain, ok_and, ok_or, ok_not, ok_tval, ok_band, ok_bor, ok_bnot, ok_yes, ok_mif, ok_callM, ok_call, ok_lm, ok_optN, ok_optS, ok_slice, ok_ival, ok_range1, ok_range2, ok_zip, ok_sm, ok_addM, ok_get1, ok_get2, ok_comp, ok_compM, s_skip, s_seq, s_expr, s_asg, s_put, s_ret, s_retN, s_brk, s_cnt, s_if, s_for, s_while, List.map_cons, List.map_nil, List.cons_append, List.nil_append, List.replicate, List.getElem?_cons_zero, List.getElem?_cons_succ, List.set_cons_zero, List.set_cons_succ, Option.some.injEq, exists_eq_left', exists_eq_left, Nat.reduceSub, Nat.reduceAdd, Nat.reduceMul, wipeE, gNm, gNms, gTp, D.int.injEq, true_and, and_true, List.length_cons, List.length_nil, Option.bind_some, idx_ref, ixC_lst, idx_lst, idx_tup, idx_frz, at0, at1, at2, at3, add_int, sub_int, mod_int, fdiv_int, pow18, lt_int, le_int, gt_int, ge_int, tru_bl, tru_int, eq_int, ne_int, eq_str, ne_str, eq_bl, ne_bl, put_ref, putC_lst, ix0, ix1, ix2, ix3, len_lst, len_tup, len_frz, len_ref, lenC_lst, un1_one, tuple_lst, tuple_tup, list_lst, list_tup, slice_tup, slice_lst, it_tup, it_lst, cut_from1, Option.map_some, List.set_set, Nat.reduceLT, Int.reduceLT, if_true, Int.toNat_natCast, mul_mod, mulL, mulR, Int.reduceNeg]
      · have hfl : ((partsP k).filter fun p => !decide (p ∈ partsF [t] done)).length ≤ (partsP k).length := List.length_filter_le _ _
        rw [add_lst (by simp only [List.length_map]; unfold big; omega)]
        try simp only [ok_ok, ok_no, ok_bind, ok_of_some, ok_var, ok_cst, ok_nil, ok_cons, ok_tup, ok_lst, ok_lstM, ok_op2, ok_op1, ok_blt, ok_listM, ok_chain, ok_and, ok_or, ok_not, ok_tval, ok_band, ok_bor, ok_bnot, ok_yes, ok_mif, ok_callM, ok_call, ok_lm, ok_optN, ok_optS, ok_slice, ok_ival, ok_range1, ok_range2, ok_zip, ok_sm, ok_addM, ok_get1, ok_get2, ok_comp, ok_compM, s_skip, s_seq, s_expr, s_asg, s_put, s_ret, s_retN, s_brk, s_cnt, s_if, s_for, s_while, List.map_cons, List.map_nil, List.cons_append, List.nil_append, List.replicate, List.getElem?_cons_zero, List.getElem?_cons_succ, List.set_cons_zero, List.set_cons_succ, Option.some.injEq, exists_eq_left', exists_eq_left, Nat.reduceSub, Nat.reduceAdd, Nat.reduceMul, wipeE, gNm, gNms, gTp, D.int.injEq, true_and, and_true, List.length_cons, List.length_nil, Option.bind_some, idx_ref, ixC_lst, idx_lst, idx_tup, idx_frz, at0, at1, at2, at3, add_int, sub_int, mod_int, fdiv_int, pow18, lt_int, le_int, gt_int, ge_int, tru_bl, tru_int, eq_int, ne_int, eq_str, ne_str, eq_bl, ne_bl, put_ref, putC_lst, ix0, ix1, ix2, ix3, len_lst, len_tup, len_frz, len_ref, lenC_lst, un1_one, tuple_lst, tuple_tup, list_lst, list_tup, slice_tup, slice_lst, it_tup, it_lst, cut_from1, Option.map_some, List.set_set, Nat.reduceLT, Int.reduceLT, if_true, Int.toNat_natCast, mul_mod, mulL, mulR, Int.reduceNeg]
        rw [partsF_snoc, List.map_append]
        exact ⟨_, _, rfl⟩
    · rintro env S ⟨⟨x2, x3, rfl⟩, e'⟩
      subst S
      try simp only [ok_ok, ok_no, ok_bind, ok_of_some, ok_var, ok_cst, ok_nil, ok_cons, ok_tup, ok_lst, ok_lstM, ok_op2, ok_op1, ok_blt, ok_listM, ok_chain, ok_and, ok_or, ok_not, ok_tval, ok_band, ok_bor, ok_bnot, ok_yes, ok_mif, ok_callM, ok_call, ok_lm, ok_optN, ok_optS, ok_slice, ok_ival, ok_range1, ok_range2, ok_zip, ok_sm, ok_addM, ok_get1, ok_get2, ok_comp, ok_compM, s_skip, s_seq, s_expr, s_asg, s_put, s_ret, s_retN, s_brk, s_cnt, s_if, s_for, s_while, List.map_cons, List.map_nil, List.cons_append, List.nil_append, List.replicate, List.getElem?_cons_zero, List.getElem?_cons_succ, List.set_cons_zero, List.set_cons_succ, Option.some.injEq, exists_eq_left', exists_eq_left, Nat.reduceSub, Nat.reduceAdd, Nat.reduceMul, wipeE, gNm, gNms, gTp, D.int.injEq, true_and, and_true, List.length_cons, List.length_nil, Option.bind_some, idx_ref, ixC_lst, idx_lst, idx_tup, idx_frz, at0, at1, at2, at3, add_int, sub_int, mod_int, fdiv_int, pow18, lt_int, le_int, gt_int, ge_int, tru_bl, tru_int, eq_int, ne_int, eq_str, ne_str, eq_bl, ne_bl, put_ref, putC_lst, ix0, ix1, ix2, ix3, len_lst, len_tup, len_frz, len_ref, lenC_lst, un1_one, tuple_lst, tuple_tup, list_lst, list_tup, slice_tup, slice_lst, it_tup, it_lst, cut_from1, Option.map_some, List.set_set, Nat.reduceLT, Int.reduceLT, if_true, Int.toNat_natCast, mul_mod, mulL, mulR, Int.reduceNeg]
      rw [gc_same rfl]
      exact ⟨by rw [parts_inr], rfl⟩
theorem lparts_call {N O : Str → Prop} {d j : Nat} {t : Pt} {st : St} {Q : D → St → Prop} (hd : hgt t ≤ d) (hd9 : d ≤ 90) (ht : ths t ≤ 1000) (h : PlanQ N O t) (q : Q (.lst ((partsP t).map encT)) st) : Ok (ice st (CC (d + j + 2) "_law_parts" [encT t] st)) Q := by
  refine ok_ice_val ((lparts_ok d j t st hd hd9 ht h).mono ?_)
  rintro _ S' ⟨rfl, e'⟩
  subst S'
  exact ⟨rfl, q⟩
theorem clear_ref {st : St} {n : Nat} {xs : List D} (h : st[n]? = some (.lst xs)) : xClear st (.ref n) [] = some (.non, st.set n (.lst [])) := by
  unfold xClear
  simp only [h]
theorem ne_cellL {S : St} {n : Nat} {xs : List D} (hc : S[n]? = some (.lst xs)) (hx : nobs xs = true) (hd : deps xs ≤ 99) : neB S (.ref n) (.lst xs) = some (.bl false) := by
  have hn : nob (.lst xs) = true := by rw [nob]; exact hx
  rw [neB_see (see_cell hc) (see_pln (pln_nob hn)) (pln_nob hn) (pln_nob hn), ne_nob hn hn (by rw [dep]; omega)]
  simp
theorem isi_cell {S : St} {n : Nat} {xs : List D} (hc : S[n]? = some (.lst xs)) : isiD .list S (.ref n) = some (.bl true) := by
  unfold isiD
  rw [see_cell hc]
theorem parts_right_ok {N O : Str → Prop} {d j : Nat} {t : Pt} {st : St} (hd : hgt t ≤ d) (hd9 : d ≤ 90) (ht : ths t ≤ 60) (h : PlanQ N O t) : Ok (CC (d + j + 5) "_law_parts_right" [encT t] st) fun r st' => r = .bl true ∧ st' = st := by
  rw [show d + j + 5 = (d + j + 4) + 1 by omega, r__law_parts_right]
  refine ok_fn rfl ?_
  unfold b__law_parts_right
  obtain ⟨p1, p2⟩ := parts_all (Nat.le_refl _) h
  try simp only [ok_ok, ok_no, ok_bind, ok_of_some, ok_var, ok_cst, ok_nil, ok_cons, ok_tup, ok_lst, ok_lstM, ok_op2, ok_op1, ok_blt, ok_listM, ok_chain, ok_and, ok_or, ok_not, ok_tval, ok_band, ok_bor, ok_bnot, ok_yes, ok_mif, ok_callM, ok_call, ok_lm, ok_optN, ok_optS, ok_slice, ok_ival, ok_range1, ok_range2, ok_zip, ok_sm, ok_addM, ok_get1, ok_get2, ok_comp, ok_compM, s_skip, s_seq, s_expr, s_asg, s_put, s_ret, s_retN, s_brk, s_cnt, s_if, s_for, s_while, List.map_cons, List.map_nil, List.cons_append, List.nil_append, List.replicate, List.getElem?_cons_zero, List.getElem?_cons_succ, List.set_cons_zero, List.set_cons_succ, Option.some.injEq, exists_eq_left', exists_eq_left, Nat.reduceSub, Nat.reduceAdd, Nat.reduceMul, wipeE, gNm, gNms, gTp, D.int.injEq, true_and, and_true, List.length_cons, List.length_nil, Option.bind_some, idx_ref, ixC_lst, idx_lst, idx_tup, idx_frz, at0, at1, at2, at3, add_int, sub_int, mod_int, fdiv_int, pow18, lt_int, le_int, gt_int, ge_int, tru_bl, tru_int, eq_int, ne_int, eq_str, ne_str, eq_bl, ne_bl, put_ref, putC_lst, ix0, ix1, ix2, ix3, len_lst, len_tup, len_frz, len_ref, lenC_lst, un1_one, tuple_lst, tuple_tup, list_lst, list_tup, slice_tup, slice_lst, it_tup, it_lst, cut_from1, Option.map_some, List.set_set, Nat.reduceLT, Int.reduceLT, if_true, Int.toNat_natCast, mul_mod, mulL, mulR, Int.reduceNeg]
  rw [show d + j + 4 = d + (j + 2) + 2 by omega]
  refine lparts_call hd hd9 (by omega) h ?_
  try simp only [ok_ok, ok_no, ok_bind, ok_of_some, ok_var, ok_cst, ok_nil, ok_cons, ok_tup, ok_lst, ok_lstM, ok_op2, ok_op1, ok_blt, ok_listM, ok_chain, ok_and, ok_or, ok_not, ok_tval, ok_band, ok_bor, ok_bnot, ok_yes, ok_mif, ok_callM, ok_call, ok_lm, ok_optN, ok_optS, ok_slice, ok_ival, ok_range1, ok_range2, ok_zip, ok_sm, ok_addM, ok_get1, ok_get2, ok_comp, ok_compM, s_skip, s_seq, s_expr, s_asg, s_put, s_ret, s_retN, s_brk, s_cnt, s_if, s_for, s_while, List.map_cons, List.map_nil, List.cons_append, List.nil_append, List.replicate, List.getElem?_cons_zero, List.getElem?_cons_succ, List.set_cons_zero, List.set_cons_succ, Option.some.injEq, exists_eq_left', exists_eq_left, Nat.reduceSub, Nat.reduceAdd, Nat.reduceMul, wipeE, gNm, gNms, gTp, D.int.injEq, true_and, and_true, List.length_cons, List.length_nil, Option.bind_some, idx_ref, ixC_lst, idx_lst, idx_tup, idx_frz, at0, at1, at2, at3, add_int, sub_int, mod_int, fdiv_int, pow18, lt_int, le_int, gt_int, ge_int, tru_bl, tru_int, eq_int, ne_int, eq_str, ne_str, eq_bl, ne_bl, put_ref, putC_lst, ix0, ix1, ix2, ix3, len_lst, len_tup, len_frz, len_ref, lenC_lst, un1_one, tuple_lst, tuple_tup, list_lst, list_tup, slice_tup, slice_lst, it_tup, it_lst, cut_from1, Option.map_some, List.set_set, Nat.reduceLT, Int.reduceLT, if_true, Int.toNat_natCast, mul_mod, mulL, mulR, Int.reduceNeg]
  refine opens_comp (by simp) (fun p hp => (p1 p hp).1) ?_
  have hfl : ((partsP t).filter isAnyB).length ≤ (partsP t).length := List.length_filter_le _ _
  rw [sortSet_strs (by rw [List.length_map]; omega)]
  refine ⟨_, rfl, ?_⟩
  try simp only [ok_ok, ok_no, ok_bind, ok_of_some, ok_var, ok_cst, ok_nil, ok_cons, ok_tup, ok_lst, ok_lstM, ok_op2, ok_op1, ok_blt, ok_listM, ok_chain, ok_and, ok_or, ok_not, ok_tval, ok_band, ok_bor, ok_bnot, ok_yes, ok_mif, ok_callM, ok_call, ok_lm, ok_optN, ok_optS, ok_slice, ok_ival, ok_range1, ok_range2, ok_zip, ok_sm, ok_addM, ok_get1, ok_get2, ok_comp, ok_compM, s_skip, s_seq, s_expr, s_asg, s_put, s_ret, s_retN, s_brk, s_cnt, s_if, s_for, s_while, List.map_cons, List.map_nil, List.cons_append, List.nil_append, List.replicate, List.getElem?_cons_zero, List.getElem?_cons_succ, List.set_cons_zero, List.set_cons_succ, Option.some.injEq, exists_eq_left', exists_eq_left, Nat.reduceSub, Nat.reduceAdd, Nat.reduceMul, wipeE, gNm, gNms, gTp, D.int.injEq, true_and, and_true, List.length_cons, List.length_nil, Option.bind_some, idx_ref, ixC_lst, idx_lst, idx_tup, idx_frz, at0, at1, at2, at3, add_int, sub_int, mod_int, fdiv_int, pow18, lt_int, le_int, gt_int, ge_int, tru_bl, tru_int, eq_int, ne_int, eq_str, ne_str, eq_bl, ne_bl, put_ref, putC_lst, ix0, ix1, ix2, ix3, len_lst, len_tup, len_frz, len_ref, lenC_lst, un1_one, tuple_lst, tuple_tup, list_lst, list_tup, slice_tup, slice_lst, it_tup, it_lst, cut_from1, Option.map_some, List.set_set, Nat.reduceLT, Int.reduceLT, if_true, Int.toNat_natCast, mul_mod, mulL, mulR, Int.reduceNeg]
  refine ⟨by unfold big; omega, ?_⟩
  refine for_gen (e := fun k : Nat => D.int k) (List.range 2) (fun done env S => (∃ x2 x3 x4, env = [some (encT t), some (.lst ((opensP t).map D.str)), x2, x3, x4, none]) ∧ ∃ rest, S = st ++ rest) rfl ⟨⟨_, _, _, rfl⟩, [], by simp⟩ ?_ (fun _ _ _ _ => gNone) ?_
  · rintro k rest done env S he ⟨⟨x2, x3, x4, rfl⟩, rest', rfl⟩
    refine ⟨_, rfl, ?_⟩
    try simp only [ok_ok, ok_no, ok_bind, ok_of_some, ok_var, ok_cst, ok_nil, ok_cons, ok_tup, ok_lst, ok_lstM, ok_op2, ok_op1, ok_blt, ok_listM, ok_chain, ok_and, ok_or, ok_not, ok_tval, ok_band, ok_bor, ok_bnot, ok_yes, ok_mif, ok_callM, ok_call, ok_lm, ok_optN, ok_optS, ok_slice, ok_ival, ok_range1, ok_range2, ok_zip, ok_sm, ok_addM, ok_get1, ok_get2, ok_comp, ok_compM, s_skip, s_seq, s_expr, s_asg, s_put, s_ret, s_retN, s_brk, s_cnt, s_if, s_for, s_while, List.map_cons, List.map_nil, List.cons_append, List.nil_append, List.replicate, List.getElem?_cons_zero, List.getElem?_cons_succ, List.set_cons_zero, List.set_cons_succ, Option.some.injEq, exists_eq_left', exists_eq_left, Nat.reduceSub, Nat.reduceAdd, Nat.reduceMul, wipeE, gNm, gNms, gTp, D.int.injEq, true_and, and_true, List.length_cons, List.length_nil, Option.bind_some, idx_ref, ixC_lst, idx_lst, idx_tup, idx_frz, at0, at1, at2, at3, add_int, sub_int, mod_int, fdiv_int, pow18, lt_int, le_int, gt_int, ge_int, tru_bl, tru_int, eq_int, ne_int, eq_str, ne_str, eq_bl, ne_bl, put_ref, putC_lst, ix0, ix1, ix2, ix3, len_lst, len_tup, len_frz, len_ref, lenC_lst, un1_one, tuple_lst, tuple_tup, list_lst, list_tup, slice_tup, slice_lst, it_tup, it_lst, cut_from1, Option.map_some, List.set_set, Nat.reduceLT, Int.reduceLT, if_true, Int.toNat_natCast, mul_mod, mulL, mulR, Int.reduceNeg]
    rw [show d + (j + 2) + 2 = d + (j + 1) + 3 by omega]
    refine (parts_ok d (j + 1) t (st ++ rest') hd hd9 (by omega) h).mono ?_
    rintro _ _ ⟨rfl, rfl⟩
    try simp only [ok_ok, ok_no, ok_bind, ok_of_some, ok_var, ok_cst, ok_nil, ok_cons, ok_tup, ok_lst, ok_lstM, ok_op2, ok_op1, ok_blt, ok_listM, ok_chain, ok_and, ok_or, ok_not, ok_tval, ok_band, ok_bor, ok_bnot, ok_yes, ok_mif, ok_callM, ok_call, ok_lm, ok_optN, ok_optS, ok_slice, ok_ival, ok_range1, ok_range2, ok_zip, ok_sm, ok_addM, ok_get1, ok_get2, ok_comp, ok_compM, s_skip, s_seq, s_expr, s_asg, s_put, s_ret, s_retN, s_brk, s_cnt, s_if, s_for, s_while, List.map_cons, List.map_nil, List.cons_append, List.nil_append, List.replicate, List.getElem?_cons_zero, List.getElem?_cons_succ, List.set_cons_zero, List.set_cons_succ, Option.some.injEq, exists_eq_left', exists_eq_left, Nat.reduceSub, Nat.reduceAdd, Nat.reduceMul, wipeE, gNm, gNms, gTp, D.int.injEq, true_and, and_true, List.length_cons, List.length_nil, Option.bind_some, idx_ref, ixC_lst, idx_lst, idx_tup, idx_frz, at0, at1, at2, at3, add_int, sub_int, mod_int, fdiv_int, pow18, lt_int, le_int, gt_int, ge_int, tru_bl, tru_int, eq_int, ne_int, eq_str, ne_str, eq_bl, ne_bl, put_ref, putC_lst, ix0, ix1, ix2, ix3, len_lst, len_tup, len_frz, len_ref, lenC_lst, un1_one, tuple_lst, tuple_tup, list_lst, list_tup, slice_tup, slice_lst, it_tup, it_lst, cut_from1, Option.map_some, List.set_set, Nat.reduceLT, Int.reduceLT, if_true, Int.toNat_natCast, mul_mod, mulL, mulR, Int.reduceNeg]
    rw [show d + (j + 1) + 3 = d + j + 4 by omega]
    refine (opens_ok hd hd9 ht h).mono ?_
    rintro _ _ ⟨rfl, rfl⟩
    try simp only [ok_ok, ok_no, ok_bind, ok_of_some, ok_var, ok_cst, ok_nil, ok_cons, ok_tup, ok_lst, ok_lstM, ok_op2, ok_op1, ok_blt, ok_listM, ok_chain, ok_and, ok_or, ok_not, ok_tval, ok_band, ok_bor, ok_bnot, ok_yes, ok_mif, ok_callM, ok_call, ok_lm, ok_optN, ok_optS, ok_slice, ok_ival, ok_range1, ok_range2, ok_zip, ok_sm, ok_addM, ok_get1, ok_get2, ok_comp, ok_compM, s_skip, s_seq, s_expr, s_asg, s_put, s_ret, s_retN, s_brk, s_cnt, s_if, s_for, s_while, List.map_cons, List.map_nil, List.cons_append, List.nil_append, List.replicate, List.getElem?_cons_zero, List.getElem?_cons_succ, List.set_cons_zero, List.set_cons_succ, Option.some.injEq, exists_eq_left', exists_eq_left, Nat.reduceSub, Nat.reduceAdd, Nat.reduceMul, wipeE, gNm, gNms, gTp, D.int.injEq, true_and, and_true, List.length_cons, List.length_nil, Option.bind_some, idx_ref, ixC_lst, idx_lst, idx_tup, idx_frz, at0, at1, at2, at3, add_int, sub_int, mod_int, fdiv_int, pow18, lt_int, le_int, gt_int, ge_int, tru_bl, tru_int, eq_int, ne_int, eq_str, ne_str, eq_bl, ne_bl, put_ref, putC_lst, ix0, ix1, ix2, ix3, len_lst, len_tup, len_frz, len_ref, lenC_lst, un1_one, tuple_lst, tuple_tup, list_lst, list_tup, slice_tup, slice_lst, it_tup, it_lst, cut_from1, Option.map_some, List.set_set, Nat.reduceLT, Int.reduceLT, if_true, Int.toNat_natCast, mul_mod, mulL, mulR, Int.reduceNeg]
    generalize hS : st ++ rest' ++ [Cell.lst ((partsP t).map encT)] ++ [Cell.lst ((opensP t).map D.str)] = S
    have hl1 : (st ++ rest').length + 1 = (st ++ rest' ++ [Cell.lst ((partsP t).map encT)]).length := by simp; omega
    have c1 : S[(st ++ rest').length]? = some (.lst ((partsP t).map encT)) := by rw [← hS, List.getElem?_append_left (by simp)]; exact at_new
    have c2 : S[(st ++ rest' ++ [Cell.lst ((partsP t).map encT)]).length]? = some (.lst ((opensP t).map D.str)) := by rw [← hS]; exact at_new
    have hdp : deps ((partsP t).map encT) ≤ 99 := deps_le fun x hx => by
      obtain ⟨p, hp, rfl⟩ := List.mem_map.mp hx
      have := (p1 p hp).2
      rw [dep_T]
      omega
    have hol : (opensP t).length ≤ 60 := by
      have h1 : (opensP t).length = (dedup (((partsP t).filter isAnyB).map nmO)).length := by
        unfold opensP sortS
        split
        · rename_i hh
          exact (Classical.choose_spec hh).1.length_eq
        · rfl
      have h2 := dedup_le (l := ((partsP t).filter isAnyB).map nmO)
      rw [List.length_map] at h2
      omega
    generalize hn1 : (st ++ rest').length = n1 at c1 hl1 ⊢
    generalize hn2 : (st ++ rest' ++ [Cell.lst ((partsP t).map encT)]).length = n2 at c2 hl1 ⊢
    have hst : st.length ≤ n1 := by rw [← hn1]; simp
    simp only [isi_cell c1, isi_cell c2, List.map_cons, List.map_nil, List.cons_append, List.nil_append, List.replicate, List.getElem?_cons_zero, List.getElem?_cons_succ, List.set_cons_zero, List.set_cons_succ, Option.some.injEq, exists_eq_left', exists_eq_left, Nat.reduceSub, Nat.reduceAdd, Nat.reduceMul, wipeE, gNm, gNms, gTp, D.int.injEq, true_and, and_true, List.length_cons, List.length_nil, Option.bind_some, idx_ref, ixC_lst, idx_lst, idx_tup, idx_frz, at0, at1, at2, at3, add_int, sub_int, mod_int, fdiv_int, pow18, lt_int, le_int, gt_int, ge_int, tru_bl, tru_int, eq_int, ne_int, eq_str, ne_str, eq_bl, ne_bl, put_ref, putC_lst, ix0, ix1, ix2, ix3, len_lst, len_tup, len_frz, len_ref, lenC_lst, un1_one, tuple_lst, tuple_tup, list_lst, list_tup, slice_tup, slice_lst, it_tup, it_lst, cut_from1, Option.map_some, List.set_set, Nat.reduceLT, Int.reduceLT, if_true, Int.toNat_natCast, mul_mod, mulL, mulR, Int.reduceNeg, Bool.not_true, Bool.false_eq_true, if_false]
    rw [show d + j + 4 = d + (j + 2) + 2 by omega]
    refine lparts_call hd hd9 (by omega) h ?_
    simp only [ne_cellL c1 nobs_Ts hdp, isi_cell c2, ne_cellL c2 nob_strs (by rw [dep_strs]; omega), ok_ok, ok_no, ok_bind, ok_of_some, ok_var, ok_cst, ok_nil, ok_cons, ok_tup, ok_lst, ok_lstM, ok_op2, ok_op1, ok_blt, ok_listM, ok_chain, ok_and, ok_or, ok_not, ok_tval, ok_band, ok_bor, ok_bnot, ok_yes, ok_mif, ok_callM, ok_call, ok_lm, ok_optN, ok_optS, ok_slice, ok_ival, ok_range1, ok_range2, ok_zip, ok_sm, ok_addM, ok_get1, ok_get2, ok_comp, ok_compM, s_skip, s_seq, s_expr, s_asg, s_put, s_ret, s_retN, s_brk, s_cnt, s_if, s_for, s_while, List.map_cons, List.map_nil, List.cons_append, List.nil_append, List.replicate, List.getElem?_cons_zero, List.getElem?_cons_succ, List.set_cons_zero, List.set_cons_succ, Option.some.injEq, exists_eq_left', exists_eq_left, Nat.reduceSub, Nat.reduceAdd, Nat.reduceMul, wipeE, gNm, gNms, gTp, D.int.injEq, true_and, and_true, List.length_cons, List.length_nil, Option.bind_some, idx_ref, ixC_lst, idx_lst, idx_tup, idx_frz, at0, at1, at2, at3, add_int, sub_int, mod_int, fdiv_int, pow18, lt_int, le_int, gt_int, ge_int, tru_bl, tru_int, eq_int, ne_int, eq_str, ne_str, eq_bl, ne_bl, put_ref, putC_lst, ix0, ix1, ix2, ix3, len_lst, len_tup, len_frz, len_ref, lenC_lst, un1_one, tuple_lst, tuple_tup, list_lst, list_tup, slice_tup, slice_lst, it_tup, it_lst, cut_from1, Option.map_some, List.set_set, Nat.reduceLT, Int.reduceLT, if_true, Int.toNat_natCast, mul_mod, mulL, mulR, Int.reduceNeg, Bool.not_true, Bool.false_eq_true, if_false]
    have c2' : (S.set n1 (.lst []))[n2]? = some (.lst ((opensP t).map D.str)) := by rw [List.getElem?_set_ne (by omega)]; exact c2
    refine ⟨isL_ref c1, _, _, clear_ref c1, isL_ref c2', _, _, append_ref c2' (by rw [List.length_map]; unfold big; omega), ⟨_, _, _, rfl⟩, ?_⟩
    rw [← hS, List.append_assoc, List.append_assoc, List.set_append_right _ _ hst, List.set_append_right _ _ (by omega)]
    exact ⟨_, rfl⟩
  · rintro env S ⟨⟨x2, x3, x4, rfl⟩, rest', rfl⟩
    try simp only [ok_ok, ok_no, ok_bind, ok_of_some, ok_var, ok_cst, ok_nil, ok_cons, ok_tup, ok_lst, ok_lstM, ok_op2, ok_op1, ok_blt, ok_listM, ok_chain, ok_and, ok_or, ok_not, ok_tval, ok_band, ok_bor, ok_bnot, ok_yes, ok_mif, ok_callM, ok_call, ok_lm, ok_optN, ok_optS, ok_slice, ok_ival, ok_range1, ok_range2, ok_zip, ok_sm, ok_addM, ok_get1, ok_get2, ok_comp, ok_compM, s_skip, s_seq, s_expr, s_asg, s_put, s_ret, s_retN, s_brk, s_cnt, s_if, s_for, s_while, List.map_cons, List.map_nil, List.cons_append, List.nil_append, List.replicate, List.getElem?_cons_zero, List.getElem?_cons_succ, List.set_cons_zero, List.set_cons_succ, Option.some.injEq, exists_eq_left', exists_eq_left, Nat.reduceSub, Nat.reduceAdd, Nat.reduceMul, wipeE, gNm, gNms, gTp, D.int.injEq, true_and, and_true, List.length_cons, List.length_nil, Option.bind_some, idx_ref, ixC_lst, idx_lst, idx_tup, idx_frz, at0, at1, at2, at3, add_int, sub_int, mod_int, fdiv_int, pow18, lt_int, le_int, gt_int, ge_int, tru_bl, tru_int, eq_int, ne_int, eq_str, ne_str, eq_bl, ne_bl, put_ref, putC_lst, ix0, ix1, ix2, ix3, len_lst, len_tup, len_frz, len_ref, lenC_lst, un1_one, tuple_lst, tuple_tup, list_lst, list_tup, slice_tup, slice_lst, it_tup, it_lst, cut_from1, Option.map_some, List.set_set, Nat.reduceLT, Int.reduceLT, if_true, Int.toNat_natCast, mul_mod, mulL, mulR, Int.reduceNeg]
    rw [gc_val (by simp) (fun i x hi hx => .inl (by rw [List.getElem?_append_left hi] at hx; exact hx)) rfl]
    exact ⟨rfl, by simp⟩
theorem parts_right_call {N O : Str → Prop} {d j : Nat} {t : Pt} {st : St} {Q : D → St → Prop} (hd : hgt t ≤ d) (hd9 : d ≤ 90) (ht : ths t ≤ 60) (h : PlanQ N O t) (q : Q (.bl true) st) : Ok (ice st (CC (d + j + 5) "_law_parts_right" [encT t] st)) Q := by
  refine ok_ice_val ((parts_right_ok hd hd9 ht h).mono ?_)
  rintro _ S' ⟨rfl, e'⟩
  subst S'
  exact ⟨rfl, q⟩
end RP
end
section
set_option Elab.async false
set_option linter.all false
set_option maxRecDepth 100000
set_option maxHeartbeats 1000000
namespace RP
open PySem
open Classical
def law8 : Tbl := [("stay", 0), ("never", 0), ("then", 2), ("else", 2), ("try", 1), ("not", 1), ("again", 1), ("one", 1)]
def law5 : List Str := ["all", "down", "up", "find", "dig"]
def tabC (t : Tbl) : Cell := .dct (t.map fun p => D.str p.1) (t.map fun p => D.int p.2)
def lawT : Tbl := law8 ++ law5.map fun w => (w, 1)
theorem lawT_eq {w : Str} (h1 : w ≠ "use") (h2 : w ≠ "any") : tLook lawT w = (wAr w).map fun (m : Nat) => (m : Int) := by
  cases h : wAr w with
  | some m =>
    rcases wAr_inv h h1 h2 with ⟨rfl, hw⟩ | ⟨rfl, hw⟩ | ⟨rfl, hw⟩
    · have : ∀ w ∈ words0, tLook lawT w = some 0 := by decide +kernel
      exact this w hw
    · have : ∀ w ∈ words9, tLook lawT w = some 1 := by decide +kernel
      exact this w hw
    · have : ∀ w ∈ words2, tLook lawT w = some 2 := by decide +kernel
      exact this w hw
  | none =>
    cases h' : tLook lawT w with
    | none => rfl
    | some i =>
      have : ∀ p ∈ lawT, wAr p.1 ≠ none := by decide +kernel
      exact (this _ (tLook_mem h') h).elim
theorem look_tab {t : Tbl} {w : Str} : look (t.map fun p => D.str p.1) (t.map fun p => D.int p.2) (.str w) = (tLook t w).map D.int := by
  rw [look_map (fun p : Str × Int => p.1) (fun p => D.int p.2)]
  unfold tLook
  rw [Option.map_map]
  rfl
theorem disp_ok {t : Tbl} (hn : (t.map (·.1)).Nodup) (hl : t.length ≤ 15) {c : Call} {env : Env} {st : St} {Q : D → St → Prop} (q : Q (.ref st.length) (st ++ [tabC t])) : Ok (mDisp (t.map fun p => (mCst (.str p.1), mCst (.int p.2))) c env st) Q := by
  have e : ∀ (t : Tbl) (st : St), mPrs (t.map fun p => (mCst (.str p.1), mCst (.int p.2))) c env st = .ok (t.map fun p => (D.str p.1, D.int p.2)) st := by
    intro t
    induction t with
    | nil => intro st; rfl
    | cons p t ih =>
      intro st
      rw [List.map_cons, mPrs]
      show (mPrs _ c env st).bind _ = _
      rw [ih st]
      rfl
  unfold mDisp
  rw [e]
  show Ok (match (st ++ [Cell.dct [] []])[st.length]? with | some (.dct [] []) => _ | _ => _) Q
  rw [at_new]
  simp only
  have hk : ((t.map fun p => (D.str p.1, D.int p.2)).all fun p => keyish p.1) = true := by
    rw [List.all_eq_true]
    intro x hx
    obtain ⟨p, _, rfl⟩ := List.mem_map.mp hx
    rfl
  rw [if_pos (by rw [hk]; simpa using hl), set_new]
  have := dPuts_new (fun p : Str × Int => p.1) (fun p => D.int p.2) t [] (by simpa using hn)
  simp only [List.map_nil, List.nil_append] at this
  rw [this]
  exact q
theorem put_tab {S : St} {n : Nat} {t : Tbl} {w : Str} {i : Int} (hw : w ∉ t.map (·.1)) (hl : t.length ≤ 1000) : putC S n (some (tabC t)) (.str w) (.int i) = some (S.set n (tabC (t ++ [(w, i)]))) := by
  have : ((t.map fun p => D.str p.1).any fun k => eqD k (.str w)) = false := by
    rw [List.any_eq_false]
    intro d hd
    obtain ⟨p, hp, rfl⟩ := List.mem_map.mp hd
    have : p.1 ≠ w := fun e => hw (by rw [← e]; exact List.mem_map_of_mem hp)
    simp [eqD, this]
  unfold tabC putC dPut
  simp only [this]
  rw [if_pos (by simp [keyish]; unfold big; omega)]
  simp
theorem nin_tab {S : St} {n : Nat} {t : Tbl} {w : Str} (hc : S[n]? = some (tabC t)) : ninB S (.str w) (.ref n) = some (.bl (!(tLook t w).isSome)) := by
  unfold ninB inO
  have : see S (.ref n) = .dct (t.map fun p => D.str p.1) (t.map fun p => D.int p.2) := by simp [see, hc, tabC]
  rw [this]
  simp only
  rw [if_pos (by simp [keyish, see]), look_tab]
  simp [bD]
theorem idx_tab {S : St} {n : Nat} {t : Tbl} {w : Str} (hc : S[n]? = some (tabC t)) : idxD S (.ref n) (.str w) = (tLook t w).map D.int := by
  rw [idx_ref, hc]
  exact look_tab
end RP
end
section
set_option Elab.async false
set_option linter.all false
set_option maxRecDepth 100000
set_option maxHeartbeats 1000000
namespace RP
open PySem
open Classical
def PostB (ns : List Str) (d b : Nat) (k : Int) (x : D) (st : St) (r : D) (st' : St) : Prop := r = .bl (planB ns d x) ∧ ∃ k' : Int, st' = st.set b (.lst [.int k']) ∧ (planB ns d x = true → k' = k + tupN x)
theorem oneIn_n {ns : List Str} {r : List D} (h : oneIn ns r = true) : tupNs r = 0 := by
  unfold oneIn at h
  split at h
  · simp [tupNs, tupN]
  · cases h
theorem oneNm_n {r : List D} (h : oneNm r = true) : tupNs r = 0 := by
  unfold oneNm at h
  split at h
  · rename_i x
    unfold isNameB at h
    split at h
    · simp [tupNs, tupN]
    · cases h
  · cases h
theorem tupN_at {w : Str} {r : List D} : tupN (.tup (.str w :: r)) = 1 + tupNs r := by
  rw [tupN, tupNs]
  simp [tupN]
theorem tupNs_snoc {r : List D} {y : D} : tupNs (r ++ [y]) = tupNs r + tupN y := by
  induction r with
  | nil => simp [tupNs]
  | cons a r ih => rw [List.cons_append, tupNs, ih, tupNs]; omega
theorem lplan_go {L : Nat} (hL : L ≤ 1000) {rs : List Rl} (d j b : Nat) (k : Int) (x : D) (st : St) (hx : Thg L d x) (hb : st[b]? = some (.lst [.int k]))
    (ih : ∀ e, d = e + 1 → ∀ (k : Int) (x : D) (st : St), Thg L e x → st[b]? = some (.lst [.int k]) → Ok (CC (e + j + 3) "_law_is_plan" [.tup (rs.map encRl), x, .ref b] st) (PostB (rs.map (·.1)) e b k x st)) :
    Ok (CC (d + j + 3) "_law_is_plan" [.tup (rs.map encRl), x, .ref b] st) (PostB (rs.map (·.1)) d b k x st) := by
  rw [show d + j + 3 = (d + j + 2) + 1 by omega, r__law_is_plan]
  refine ok_fn rfl ?_
  unfold b__law_is_plan
  dsimp only
  have hbl : b < st.length := (List.getElem?_eq_some_iff.mp hb).1
  have fin : ∀ (v : Bool) (k' : Int), planB (rs.map (·.1)) d x = v → (v = true → k' = k + tupN x) → Ok (gc st (.bl v) (st.set b (.lst [.int k']) ++ [tabC lawT])) (PostB (rs.map (·.1)) d b k x st) := fun v k' e h => by
    rw [gc_val (by simp) (fun i c hi hc => ?_) rfl]
    · refine ⟨by rw [e], k', ?_, by rw [e]; exact h⟩
      rw [List.take_append_of_le_length (by simp), List.take_of_length_le (by simp)]
    · rw [List.getElem?_append_left (by simpa using hi)] at hc
      by_cases hi' : b = i
      · subst hi'
        rw [List.getElem?_set_self hi] at hc
        cases hc
        exact .inr rfl
      · rw [List.getElem?_set_ne hi'] at hc
        exact .inl hc
  refine seq_mid (a := sAsg _ _) (fun e S => e = [some (.tup (rs.map encRl)), some x, some (.ref b), some (.ref st.length), none, none] ∧ S = st ++ [tabC law8]) ?_ ?_
  · refine s_asg.mpr ?_
    refine disp_ok (t := law8) (by decide +kernel) (by decide) ?_
    try simp only [ok_ok, ok_no, ok_bind, ok_of_some, ok_var, ok_cst, ok_nil, ok_cons, ok_tup, ok_lst, ok_lstM, ok_op2, ok_op1, ok_blt, ok_listM, ok_chain, ok_and, ok_or, ok_not, ok_tval, ok_band, ok_bor, ok_bnot, ok_yes, ok_mif, ok_callM, ok_call, ok_lm, ok_optN, ok_optS, ok_slice, ok_ival, ok_range1, ok_range2, ok_zip, ok_sm, ok_addM, ok_get1, ok_get2, ok_comp, ok_compM, s_skip, s_seq, s_expr, s_asg, s_put, s_ret, s_retN, s_brk, s_cnt, s_if, s_for, s_while, List.map_cons, List.map_nil, List.cons_append, List.nil_append, List.replicate, List.getElem?_cons_zero, List.getElem?_cons_succ, List.set_cons_zero, List.set_cons_succ, Option.some.injEq, exists_eq_left', exists_eq_left, Nat.reduceSub, Nat.reduceAdd, Nat.reduceMul, wipeE, gNm, gNms, gTp, D.int.injEq, true_and, and_true, List.length_cons, List.length_nil, Option.bind_some, idx_ref, ixC_lst, idx_lst, idx_tup, idx_frz, at0, at1, at2, at3, add_int, sub_int, mod_int, fdiv_int, pow18, lt_int, le_int, gt_int, ge_int, tru_bl, tru_int, eq_int, ne_int, eq_str, ne_str, eq_bl, ne_bl, put_ref, putC_lst, ix0, ix1, ix2, ix3, len_lst, len_tup, len_frz, len_ref, lenC_lst, un1_one, tuple_lst, tuple_tup, list_lst, list_tup, slice_tup, slice_lst, it_tup, it_lst, cut_from1, Option.map_some, List.set_set, Nat.reduceLT, Int.reduceLT, if_true, Int.toNat_natCast, mul_mod, mulL, mulR, Int.reduceNeg]
  rintro _ S ⟨rfl, e'⟩
  subst S
  refine seq_mid (a := sFor _ _ _) (fun e S => (∃ x4, e = [some (.tup (rs.map encRl)), some x, some (.ref b), some (.ref st.length), x4, none]) ∧ S = st ++ [tabC lawT]) ?_ ?_
  · try simp only [ok_ok, ok_no, ok_bind, ok_of_some, ok_var, ok_cst, ok_nil, ok_cons, ok_tup, ok_lst, ok_lstM, ok_op2, ok_op1, ok_blt, ok_listM, ok_chain, ok_and, ok_or, ok_not, ok_tval, ok_band, ok_bor, ok_bnot, ok_yes, ok_mif, ok_callM, ok_call, ok_lm, ok_optN, ok_optS, ok_slice, ok_ival, ok_range1, ok_range2, ok_zip, ok_sm, ok_addM, ok_get1, ok_get2, ok_comp, ok_compM, s_skip, s_seq, s_expr, s_asg, s_put, s_ret, s_retN, s_brk, s_cnt, s_if, s_for, s_while, List.map_cons, List.map_nil, List.cons_append, List.nil_append, List.replicate, List.getElem?_cons_zero, List.getElem?_cons_succ, List.set_cons_zero, List.set_cons_succ, Option.some.injEq, exists_eq_left', exists_eq_left, Nat.reduceSub, Nat.reduceAdd, Nat.reduceMul, wipeE, gNm, gNms, gTp, D.int.injEq, true_and, and_true, List.length_cons, List.length_nil, Option.bind_some, idx_ref, ixC_lst, idx_lst, idx_tup, idx_frz, at0, at1, at2, at3, add_int, sub_int, mod_int, fdiv_int, pow18, lt_int, le_int, gt_int, ge_int, tru_bl, tru_int, eq_int, ne_int, eq_str, ne_str, eq_bl, ne_bl, put_ref, putC_lst, ix0, ix1, ix2, ix3, len_lst, len_tup, len_frz, len_ref, lenC_lst, un1_one, tuple_lst, tuple_tup, list_lst, list_tup, slice_tup, slice_lst, it_tup, it_lst, cut_from1, Option.map_some, List.set_set, Nat.reduceLT, Int.reduceLT, if_true, Int.toNat_natCast, mul_mod, mulL, mulR, Int.reduceNeg]
    refine for_gen (e := D.str) law5 (fun done e S => (∃ x4, e = [some (.tup (rs.map encRl)), some x, some (.ref b), some (.ref st.length), x4, none]) ∧ S = st ++ [tabC (law8 ++ done.map fun w => (w, 1))]) rfl ⟨⟨_, rfl⟩, by simp⟩ ?_ (fun _ _ _ _ => gNone) ?_
    · rintro w rest done env S he ⟨⟨x4, rfl⟩, e'⟩
      subst S
      refine ⟨_, rfl, ?_⟩
      have hl : (law8 ++ done.map fun w => (w, (1 : Int))).length ≤ 1000 := by
        have := congrArg List.length he
        simp [law5, law8] at this ⊢
        omega
      have hnew : w ∉ (law8 ++ done.map fun w => (w, (1 : Int))).map (·.1) := by
        have hnd : (law8.map (·.1) ++ law5).Nodup := by decide +kernel
        rw [he] at hnd
        rw [List.map_append, List.map_map]
        intro hin
        have h2 : w ∈ law8.map (·.1) ++ done := by
          rcases List.mem_append.mp hin with z | z
          · exact List.mem_append_left _ z
          · obtain ⟨u, hu, rfl⟩ := List.mem_map.mp z
            exact List.mem_append_right _ hu
        rw [← List.append_assoc, List.nodup_append] at hnd
        exact hnd.2.2 w h2 w (by simp) rfl
      simp only [ok_ok, ok_no, ok_bind, ok_of_some, ok_var, ok_cst, ok_nil, ok_cons, ok_tup, ok_lst, ok_lstM, ok_op2, ok_op1, ok_blt, ok_listM, ok_chain, ok_and, ok_or, ok_not, ok_tval, ok_band, ok_bor, ok_bnot, ok_yes, ok_mif, ok_callM, ok_call, ok_lm, ok_optN, ok_optS, ok_slice, ok_ival, ok_range1, ok_range2, ok_zip, ok_sm, ok_addM, ok_get1, ok_get2, ok_comp, ok_compM, s_skip, s_seq, s_expr, s_asg, s_put, s_ret, s_retN, s_brk, s_cnt, s_if, s_for, s_while, List.map_cons, List.map_nil, List.cons_append, List.nil_append, List.replicate, List.getElem?_cons_zero, List.getElem?_cons_succ, List.set_cons_zero, List.set_cons_succ, Option.some.injEq, exists_eq_left', exists_eq_left, Nat.reduceSub, Nat.reduceAdd, Nat.reduceMul, wipeE, gNm, gNms, gTp, D.int.injEq, true_and, and_true, List.length_cons, List.length_nil, Option.bind_some, idx_ref, ixC_lst, idx_lst, idx_tup, idx_frz, at0, at1, at2, at3, add_int, sub_int, mod_int, fdiv_int, pow18, lt_int, le_int, gt_int, ge_int, tru_bl, tru_int, eq_int, ne_int, eq_str, ne_str, eq_bl, ne_bl, put_ref, putC_lst, ix0, ix1, ix2, ix3, len_lst, len_tup, len_frz, len_ref, lenC_lst, un1_one, tuple_lst, tuple_tup, list_lst, list_tup, slice_tup, slice_lst, it_tup, it_lst, cut_from1, Option.map_some, List.set_set, Nat.reduceLT, Int.reduceLT, if_true, Int.toNat_natCast, mul_mod, mulL, mulR, Int.reduceNeg, at_new, put_tab hnew hl, set_new]
      rw [List.map_append, List.append_assoc]
      exact ⟨⟨_, rfl⟩, rfl⟩
    · rintro env S ⟨⟨x4, rfl⟩, e'⟩
      exact ⟨⟨_, rfl⟩, e'⟩
  rintro _ S ⟨⟨x4, rfl⟩, e'⟩
  subst S
  refine seq_mid (a := sPut _ _ _) (fun e S => e = [some (.tup (rs.map encRl)), some x, some (.ref b), some (.ref st.length), x4, none] ∧ S = st.set b (.lst [.int (k + 1)]) ++ [tabC lawT]) ?_ ?_
  · have hb2 : (st ++ [tabC lawT])[b]? = some (.lst [.int k]) := by rw [at_old hbl]; exact hb
    simp only [ok_ok, ok_no, ok_bind, ok_of_some, ok_var, ok_cst, ok_nil, ok_cons, ok_tup, ok_lst, ok_lstM, ok_op2, ok_op1, ok_blt, ok_listM, ok_chain, ok_and, ok_or, ok_not, ok_tval, ok_band, ok_bor, ok_bnot, ok_yes, ok_mif, ok_callM, ok_call, ok_lm, ok_optN, ok_optS, ok_slice, ok_ival, ok_range1, ok_range2, ok_zip, ok_sm, ok_addM, ok_get1, ok_get2, ok_comp, ok_compM, s_skip, s_seq, s_expr, s_asg, s_put, s_ret, s_retN, s_brk, s_cnt, s_if, s_for, s_while, List.map_cons, List.map_nil, List.cons_append, List.nil_append, List.replicate, List.getElem?_cons_zero, List.getElem?_cons_succ, List.set_cons_zero, List.set_cons_succ, Option.some.injEq, exists_eq_left', exists_eq_left, Nat.reduceSub, Nat.reduceAdd, Nat.reduceMul, wipeE, gNm, gNms, gTp, D.int.injEq, true_and, and_true, List.length_cons, List.length_nil, Option.bind_some, idx_ref, ixC_lst, idx_lst, idx_tup, idx_frz, at0, at1, at2, at3, add_int, sub_int, mod_int, fdiv_int, pow18, lt_int, le_int, gt_int, ge_int, tru_bl, tru_int, eq_int, ne_int, eq_str, ne_str, eq_bl, ne_bl, put_ref, putC_lst, ix0, ix1, ix2, ix3, len_lst, len_tup, len_frz, len_ref, lenC_lst, un1_one, tuple_lst, tuple_tup, list_lst, list_tup, slice_tup, slice_lst, it_tup, it_lst, cut_from1, Option.map_some, List.set_set, Nat.reduceLT, Int.reduceLT, if_true, Int.toNat_natCast, mul_mod, mulL, mulR, Int.reduceNeg, hb2, set_old hbl]
    try exact ⟨rfl, rfl⟩
  rintro _ S ⟨rfl, e'⟩
  subst S
  generalize hS0 : st.set b (.lst [.int (k + 1)]) ++ [tabC lawT] = S0 at fin ⊢
  have hct : S0[st.length]? = some (tabC lawT) := by
    rw [← hS0, List.getElem?_append_right (by simp)]
    simp
  refine seq_mid (a := sIf _ _ _) (fun e S => e = [some (.tup (rs.map encRl)), some x, some (.ref b), some (.ref st.length), x4, none] ∧ S = S0 ∧ ∃ w r, x = .tup (.str w :: r)) ?_ ?_
  · refine if_mid _ (head_if hx rfl) ?_ ?_
    · rintro S ⟨e, h, _⟩
      subst S
      try simp only [ok_ok, ok_no, ok_bind, ok_of_some, ok_var, ok_cst, ok_nil, ok_cons, ok_tup, ok_lst, ok_lstM, ok_op2, ok_op1, ok_blt, ok_listM, ok_chain, ok_and, ok_or, ok_not, ok_tval, ok_band, ok_bor, ok_bnot, ok_yes, ok_mif, ok_callM, ok_call, ok_lm, ok_optN, ok_optS, ok_slice, ok_ival, ok_range1, ok_range2, ok_zip, ok_sm, ok_addM, ok_get1, ok_get2, ok_comp, ok_compM, s_skip, s_seq, s_expr, s_asg, s_put, s_ret, s_retN, s_brk, s_cnt, s_if, s_for, s_while, List.map_cons, List.map_nil, List.cons_append, List.nil_append, List.replicate, List.getElem?_cons_zero, List.getElem?_cons_succ, List.set_cons_zero, List.set_cons_succ, Option.some.injEq, exists_eq_left', exists_eq_left, Nat.reduceSub, Nat.reduceAdd, Nat.reduceMul, wipeE, gNm, gNms, gTp, D.int.injEq, true_and, and_true, List.length_cons, List.length_nil, Option.bind_some, idx_ref, ixC_lst, idx_lst, idx_tup, idx_frz, at0, at1, at2, at3, add_int, sub_int, mod_int, fdiv_int, pow18, lt_int, le_int, gt_int, ge_int, tru_bl, tru_int, eq_int, ne_int, eq_str, ne_str, eq_bl, ne_bl, put_ref, putC_lst, ix0, ix1, ix2, ix3, len_lst, len_tup, len_frz, len_ref, lenC_lst, un1_one, tuple_lst, tuple_tup, list_lst, list_tup, slice_tup, slice_lst, it_tup, it_lst, cut_from1, Option.map_some, List.set_set, Nat.reduceLT, Int.reduceLT, if_true, Int.toNat_natCast, mul_mod, mulL, mulR, Int.reduceNeg]
      rw [← hS0]
      exact fin false _ (planB_no (h rfl)) (by simp)
    · rintro S ⟨e, _, h⟩
      try simp only [ok_ok, ok_no, ok_bind, ok_of_some, ok_var, ok_cst, ok_nil, ok_cons, ok_tup, ok_lst, ok_lstM, ok_op2, ok_op1, ok_blt, ok_listM, ok_chain, ok_and, ok_or, ok_not, ok_tval, ok_band, ok_bor, ok_bnot, ok_yes, ok_mif, ok_callM, ok_call, ok_lm, ok_optN, ok_optS, ok_slice, ok_ival, ok_range1, ok_range2, ok_zip, ok_sm, ok_addM, ok_get1, ok_get2, ok_comp, ok_compM, s_skip, s_seq, s_expr, s_asg, s_put, s_ret, s_retN, s_brk, s_cnt, s_if, s_for, s_while, List.map_cons, List.map_nil, List.cons_append, List.nil_append, List.replicate, List.getElem?_cons_zero, List.getElem?_cons_succ, List.set_cons_zero, List.set_cons_succ, Option.some.injEq, exists_eq_left', exists_eq_left, Nat.reduceSub, Nat.reduceAdd, Nat.reduceMul, wipeE, gNm, gNms, gTp, D.int.injEq, true_and, and_true, List.length_cons, List.length_nil, Option.bind_some, idx_ref, ixC_lst, idx_lst, idx_tup, idx_frz, at0, at1, at2, at3, add_int, sub_int, mod_int, fdiv_int, pow18, lt_int, le_int, gt_int, ge_int, tru_bl, tru_int, eq_int, ne_int, eq_str, ne_str, eq_bl, ne_bl, put_ref, putC_lst, ix0, ix1, ix2, ix3, len_lst, len_tup, len_frz, len_ref, lenC_lst, un1_one, tuple_lst, tuple_tup, list_lst, list_tup, slice_tup, slice_lst, it_tup, it_lst, cut_from1, Option.map_some, List.set_set, Nat.reduceLT, Int.reduceLT, if_true, Int.toNat_natCast, mul_mod, mulL, mulR, Int.reduceNeg]
      exact ⟨e, h rfl⟩
  rintro _ S ⟨rfl, e, w, r, rfl⟩
  subst S
  obtain ⟨e, rfl, hr⟩ : ∃ e, d = e + 1 ∧ ∀ y ∈ r, Thg L e y := by
    cases hx with
    | tup hl hk => exact ⟨_, rfl, fun y hy => hk y (by simp [hy])⟩
  refine seq_mid (a := sIf _ _ _) (fun e' S => w ≠ "use" ∧ e' = [some (.tup (rs.map encRl)), some (.tup (.str w :: r)), some (.ref b), some (.ref st.length), x4, none] ∧ S = S0) ?_ ?_
  · by_cases hu : w = "use"
    · subst hu
      refine if_mid (fun b S => b = true ∧ S = S0) ?_ ?_ ?_
      · simp only [ok_ok, ok_no, ok_bind, ok_of_some, ok_var, ok_cst, ok_nil, ok_cons, ok_tup, ok_lst, ok_lstM, ok_op2, ok_op1, ok_blt, ok_listM, ok_chain, ok_and, ok_or, ok_not, ok_tval, ok_band, ok_bor, ok_bnot, ok_yes, ok_mif, ok_callM, ok_call, ok_lm, ok_optN, ok_optS, ok_slice, ok_ival, ok_range1, ok_range2, ok_zip, ok_sm, ok_addM, ok_get1, ok_get2, ok_comp, ok_compM, s_skip, s_seq, s_expr, s_asg, s_put, s_ret, s_retN, s_brk, s_cnt, s_if, s_for, s_while, List.map_cons, List.map_nil, List.cons_append, List.nil_append, List.replicate, List.getElem?_cons_zero, List.getElem?_cons_succ, List.set_cons_zero, List.set_cons_succ, Option.some.injEq, exists_eq_left', exists_eq_left, Nat.reduceSub, Nat.reduceAdd, Nat.reduceMul, wipeE, gNm, gNms, gTp, D.int.injEq, true_and, and_true, List.length_cons, List.length_nil, Option.bind_some, idx_ref, ixC_lst, idx_lst, idx_tup, idx_frz, at0, at1, at2, at3, add_int, sub_int, mod_int, fdiv_int, pow18, lt_int, le_int, gt_int, ge_int, tru_bl, tru_int, eq_int, ne_int, eq_str, ne_str, eq_bl, ne_bl, put_ref, putC_lst, ix0, ix1, ix2, ix3, len_lst, len_tup, len_frz, len_ref, lenC_lst, un1_one, tuple_lst, tuple_tup, list_lst, list_tup, slice_tup, slice_lst, it_tup, it_lst, cut_from1, Option.map_some, List.set_set, Nat.reduceLT, Int.reduceLT, if_true, Int.toNat_natCast, mul_mod, mulL, mulR, Int.reduceNeg]
        try decide
      · rintro S ⟨_, e'⟩
        subst S
        refine s_ret.mpr (use_ok (k := 5) hr rfl rfl (by simp) (by decide) (by decide) ?_)
        rw [← hS0]
        exact fin _ _ planB_use fun h => by rw [tupN_at, oneIn_n h]; simp
      · rintro S ⟨h, _⟩
        cases h
    · simp only [ok_ok, ok_no, ok_bind, ok_of_some, ok_var, ok_cst, ok_nil, ok_cons, ok_tup, ok_lst, ok_lstM, ok_op2, ok_op1, ok_blt, ok_listM, ok_chain, ok_and, ok_or, ok_not, ok_tval, ok_band, ok_bor, ok_bnot, ok_yes, ok_mif, ok_callM, ok_call, ok_lm, ok_optN, ok_optS, ok_slice, ok_ival, ok_range1, ok_range2, ok_zip, ok_sm, ok_addM, ok_get1, ok_get2, ok_comp, ok_compM, s_skip, s_seq, s_expr, s_asg, s_put, s_ret, s_retN, s_brk, s_cnt, s_if, s_for, s_while, List.map_cons, List.map_nil, List.cons_append, List.nil_append, List.replicate, List.getElem?_cons_zero, List.getElem?_cons_succ, List.set_cons_zero, List.set_cons_succ, Option.some.injEq, exists_eq_left', exists_eq_left, Nat.reduceSub, Nat.reduceAdd, Nat.reduceMul, wipeE, gNm, gNms, gTp, D.int.injEq, true_and, and_true, List.length_cons, List.length_nil, Option.bind_some, idx_ref, ixC_lst, idx_lst, idx_tup, idx_frz, at0, at1, at2, at3, add_int, sub_int, mod_int, fdiv_int, pow18, lt_int, le_int, gt_int, ge_int, tru_bl, tru_int, eq_int, ne_int, eq_str, ne_str, eq_bl, ne_bl, put_ref, putC_lst, ix0, ix1, ix2, ix3, len_lst, len_tup, len_frz, len_ref, lenC_lst, un1_one, tuple_lst, tuple_tup, list_lst, list_tup, slice_tup, slice_lst, it_tup, it_lst, cut_from1, Option.map_some, List.set_set, Nat.reduceLT, Int.reduceLT, if_true, Int.toNat_natCast, mul_mod, mulL, mulR, Int.reduceNeg]
      rw [if_neg (by simpa using hu)]
      exact hu
  rintro _ S ⟨hu, rfl, e'⟩
  subst S
  refine seq_mid (a := sIf _ _ _) (fun e' S => w ≠ "any" ∧ e' = [some (.tup (rs.map encRl)), some (.tup (.str w :: r)), some (.ref b), some (.ref st.length), x4, none] ∧ S = S0) ?_ ?_
  · by_cases ha : w = "any"
    · subst ha
      refine if_mid (fun b S => b = true ∧ S = S0) ?_ ?_ ?_
      · simp only [ok_ok, ok_no, ok_bind, ok_of_some, ok_var, ok_cst, ok_nil, ok_cons, ok_tup, ok_lst, ok_lstM, ok_op2, ok_op1, ok_blt, ok_listM, ok_chain, ok_and, ok_or, ok_not, ok_tval, ok_band, ok_bor, ok_bnot, ok_yes, ok_mif, ok_callM, ok_call, ok_lm, ok_optN, ok_optS, ok_slice, ok_ival, ok_range1, ok_range2, ok_zip, ok_sm, ok_addM, ok_get1, ok_get2, ok_comp, ok_compM, s_skip, s_seq, s_expr, s_asg, s_put, s_ret, s_retN, s_brk, s_cnt, s_if, s_for, s_while, List.map_cons, List.map_nil, List.cons_append, List.nil_append, List.replicate, List.getElem?_cons_zero, List.getElem?_cons_succ, List.set_cons_zero, List.set_cons_succ, Option.some.injEq, exists_eq_left', exists_eq_left, Nat.reduceSub, Nat.reduceAdd, Nat.reduceMul, wipeE, gNm, gNms, gTp, D.int.injEq, true_and, and_true, List.length_cons, List.length_nil, Option.bind_some, idx_ref, ixC_lst, idx_lst, idx_tup, idx_frz, at0, at1, at2, at3, add_int, sub_int, mod_int, fdiv_int, pow18, lt_int, le_int, gt_int, ge_int, tru_bl, tru_int, eq_int, ne_int, eq_str, ne_str, eq_bl, ne_bl, put_ref, putC_lst, ix0, ix1, ix2, ix3, len_lst, len_tup, len_frz, len_ref, lenC_lst, un1_one, tuple_lst, tuple_tup, list_lst, list_tup, slice_tup, slice_lst, it_tup, it_lst, cut_from1, Option.map_some, List.set_set, Nat.reduceLT, Int.reduceLT, if_true, Int.toNat_natCast, mul_mod, mulL, mulR, Int.reduceNeg]
        try decide
      · rintro S ⟨_, e'⟩
        subst S
        refine s_ret.mpr (any_ok hr rfl (fun y hy => law_is_name_ok hy hL) ?_)
        rw [← hS0]
        exact fin _ _ planB_any fun h => by rw [tupN_at, oneNm_n h]; simp
      · rintro S ⟨h, _⟩
        cases h
    · simp only [ok_ok, ok_no, ok_bind, ok_of_some, ok_var, ok_cst, ok_nil, ok_cons, ok_tup, ok_lst, ok_lstM, ok_op2, ok_op1, ok_blt, ok_listM, ok_chain, ok_and, ok_or, ok_not, ok_tval, ok_band, ok_bor, ok_bnot, ok_yes, ok_mif, ok_callM, ok_call, ok_lm, ok_optN, ok_optS, ok_slice, ok_ival, ok_range1, ok_range2, ok_zip, ok_sm, ok_addM, ok_get1, ok_get2, ok_comp, ok_compM, s_skip, s_seq, s_expr, s_asg, s_put, s_ret, s_retN, s_brk, s_cnt, s_if, s_for, s_while, List.map_cons, List.map_nil, List.cons_append, List.nil_append, List.replicate, List.getElem?_cons_zero, List.getElem?_cons_succ, List.set_cons_zero, List.set_cons_succ, Option.some.injEq, exists_eq_left', exists_eq_left, Nat.reduceSub, Nat.reduceAdd, Nat.reduceMul, wipeE, gNm, gNms, gTp, D.int.injEq, true_and, and_true, List.length_cons, List.length_nil, Option.bind_some, idx_ref, ixC_lst, idx_lst, idx_tup, idx_frz, at0, at1, at2, at3, add_int, sub_int, mod_int, fdiv_int, pow18, lt_int, le_int, gt_int, ge_int, tru_bl, tru_int, eq_int, ne_int, eq_str, ne_str, eq_bl, ne_bl, put_ref, putC_lst, ix0, ix1, ix2, ix3, len_lst, len_tup, len_frz, len_ref, lenC_lst, un1_one, tuple_lst, tuple_tup, list_lst, list_tup, slice_tup, slice_lst, it_tup, it_lst, cut_from1, Option.map_some, List.set_set, Nat.reduceLT, Int.reduceLT, if_true, Int.toNat_natCast, mul_mod, mulL, mulR, Int.reduceNeg]
      rw [if_neg (by simpa using ha)]
      exact ha
  rintro _ S ⟨ha, rfl, e'⟩
  subst S
  refine seq_mid (a := sIf _ _ _) (fun e' S => ∃ m, wAr w = some m ∧ r.length = m ∧ e' = [some (.tup (rs.map encRl)), some (.tup (.str w :: r)), some (.ref b), some (.ref st.length), x4, none] ∧ S = S0) ?_ ?_
  · simp only [ok_ok, ok_no, ok_bind, ok_of_some, ok_var, ok_cst, ok_nil, ok_cons, ok_tup, ok_lst, ok_lstM, ok_op2, ok_op1, ok_blt, ok_listM, ok_chain, ok_and, ok_or, ok_not, ok_tval, ok_band, ok_bor, ok_bnot, ok_yes, ok_mif, ok_callM, ok_call, ok_lm, ok_optN, ok_optS, ok_slice, ok_ival, ok_range1, ok_range2, ok_zip, ok_sm, ok_addM, ok_get1, ok_get2, ok_comp, ok_compM, s_skip, s_seq, s_expr, s_asg, s_put, s_ret, s_retN, s_brk, s_cnt, s_if, s_for, s_while, List.map_cons, List.map_nil, List.cons_append, List.nil_append, List.replicate, List.getElem?_cons_zero, List.getElem?_cons_succ, List.set_cons_zero, List.set_cons_succ, Option.some.injEq, exists_eq_left', exists_eq_left, Nat.reduceSub, Nat.reduceAdd, Nat.reduceMul, wipeE, gNm, gNms, gTp, D.int.injEq, true_and, and_true, List.length_cons, List.length_nil, Option.bind_some, at0, idx_tup, len_tup, un1_one, tru_bl, nin_tab hct, idx_tab hct, lawT_eq hu ha, sub_int]
    cases hm : wAr w with
    | none =>
      simp only [Option.map_none, Option.isSome_none, Bool.not_false, if_true]
      rw [← hS0]
      exact fin false _ (planB_none hm) (by simp)
    | some m =>
      simp only [Option.map_some, Option.isSome_some, Bool.not_true, Bool.false_eq_true, if_false, List.map_cons, List.map_nil, List.cons_append, List.nil_append, List.replicate, List.getElem?_cons_zero, List.getElem?_cons_succ, List.set_cons_zero, List.set_cons_succ, Option.some.injEq, exists_eq_left', exists_eq_left, Nat.reduceSub, Nat.reduceAdd, Nat.reduceMul, wipeE, gNm, gNms, gTp, D.int.injEq, true_and, and_true, List.length_cons, List.length_nil, Option.bind_some, ne_int, tru_bl]
      by_cases hl : r.length = m
      · rw [if_neg (by simp; omega)]
        first | exact ⟨m, rfl, hl, rfl, rfl⟩ | exact hl | simp [hl]
      · rw [if_pos (by simp; omega), ← hS0]
        exact fin false _ (by rw [planB_some hu ha hm]; simp [hl]) (by simp)
  rintro _ S ⟨m, hm, hl, rfl, e'⟩
  subst S
  rw [planB_some hu ha hm] at fin
  try simp only [ok_ok, ok_no, ok_bind, ok_of_some, ok_var, ok_cst, ok_nil, ok_cons, ok_tup, ok_lst, ok_lstM, ok_op2, ok_op1, ok_blt, ok_listM, ok_chain, ok_and, ok_or, ok_not, ok_tval, ok_band, ok_bor, ok_bnot, ok_yes, ok_mif, ok_callM, ok_call, ok_lm, ok_optN, ok_optS, ok_slice, ok_ival, ok_range1, ok_range2, ok_zip, ok_sm, ok_addM, ok_get1, ok_get2, ok_comp, ok_compM, s_skip, s_seq, s_expr, s_asg, s_put, s_ret, s_retN, s_brk, s_cnt, s_if, s_for, s_while, List.map_cons, List.map_nil, List.cons_append, List.nil_append, List.replicate, List.getElem?_cons_zero, List.getElem?_cons_succ, List.set_cons_zero, List.set_cons_succ, Option.some.injEq, exists_eq_left', exists_eq_left, Nat.reduceSub, Nat.reduceAdd, Nat.reduceMul, wipeE, gNm, gNms, gTp, D.int.injEq, true_and, and_true, List.length_cons, List.length_nil, Option.bind_some, idx_ref, ixC_lst, idx_lst, idx_tup, idx_frz, at0, at1, at2, at3, add_int, sub_int, mod_int, fdiv_int, pow18, lt_int, le_int, gt_int, ge_int, tru_bl, tru_int, eq_int, ne_int, eq_str, ne_str, eq_bl, ne_bl, put_ref, putC_lst, ix0, ix1, ix2, ix3, len_lst, len_tup, len_frz, len_ref, lenC_lst, un1_one, tuple_lst, tuple_tup, list_lst, list_tup, slice_tup, slice_lst, it_tup, it_lst, cut_from1, Option.map_some, List.set_set, Nat.reduceLT, Int.reduceLT, if_true, Int.toNat_natCast, mul_mod, mulL, mulR, Int.reduceNeg]
  refine comp_gen (e := id) r (fun done ys S => ∃ k' : Int, ys = (done.map (planB (rs.map (·.1)) e)).map D.bl ∧ S = st.set b (.lst [.int k']) ++ [tabC lawT] ∧ (done.all (planB (rs.map (·.1)) e) = true → k' = k + 1 + tupNs done)) (by simp) ⟨k + 1, rfl, hS0.symm, fun _ => by simp [tupNs]⟩ ?_ (fun _ _ _ _ => gNone) ?_
  · rintro y rest done ys S he ⟨k', rfl, rfl, hk'⟩
    refine ⟨_, rfl, ?_⟩
    have hy : y ∈ r := by rw [he]; simp
    have hb2 : (st.set b (.lst [.int k']) ++ [tabC lawT])[b]? = some (.lst [.int k']) := by
      rw [List.getElem?_append_left (by simpa using hbl), List.getElem?_set_self hbl]
    simp only [ok_ok, ok_no, ok_bind, ok_of_some, ok_var, ok_cst, ok_nil, ok_cons, ok_tup, ok_lst, ok_lstM, ok_op2, ok_op1, ok_blt, ok_listM, ok_chain, ok_and, ok_or, ok_not, ok_tval, ok_band, ok_bor, ok_bnot, ok_yes, ok_mif, ok_callM, ok_call, ok_lm, ok_optN, ok_optS, ok_slice, ok_ival, ok_range1, ok_range2, ok_zip, ok_sm, ok_addM, ok_get1, ok_get2, ok_comp, ok_compM, s_skip, s_seq, s_expr, s_asg, s_put, s_ret, s_retN, s_brk, s_cnt, s_if, s_for, s_while, List.map_cons, List.map_nil, List.cons_append, List.nil_append, List.replicate, List.getElem?_cons_zero, List.getElem?_cons_succ, List.set_cons_zero, List.set_cons_succ, Option.some.injEq, exists_eq_left', exists_eq_left, Nat.reduceSub, Nat.reduceAdd, Nat.reduceMul, wipeE, gNm, gNms, gTp, D.int.injEq, true_and, and_true, List.length_cons, List.length_nil, Option.bind_some, idx_ref, ixC_lst, idx_lst, idx_tup, idx_frz, at0, at1, at2, at3, add_int, sub_int, mod_int, fdiv_int, pow18, lt_int, le_int, gt_int, ge_int, tru_bl, tru_int, eq_int, ne_int, eq_str, ne_str, eq_bl, ne_bl, put_ref, putC_lst, ix0, ix1, ix2, ix3, len_lst, len_tup, len_frz, len_ref, lenC_lst, un1_one, tuple_lst, tuple_tup, list_lst, list_tup, slice_tup, slice_lst, it_tup, it_lst, cut_from1, Option.map_some, List.set_set, Nat.reduceLT, Int.reduceLT, if_true, Int.toNat_natCast, mul_mod, mulL, mulR, Int.reduceNeg, id]
    rw [show e + 1 + j + 2 = e + j + 3 by omega]
    refine ok_ice_val ((ih e rfl k' y _ (hr y hy) hb2).mono ?_)
    rintro _ _ ⟨rfl, k2, rfl, hk2⟩
    refine ⟨rfl, k2, by simp, ?_, fun hall => ?_⟩
    · rw [List.set_append_left _ _ (by simpa using hbl), List.set_set]
    · rw [List.all_append, Bool.and_eq_true] at hall
      have h2 : planB (rs.map (·.1)) e y = true := by simpa using hall.2
      rw [hk2 h2, hk' hall.1, tupNs_snoc]
      simp
      omega
  · rintro ys S ⟨k', rfl, rfl, hk'⟩
    rw [nin_fls]
    try simp only [ok_ok, ok_no, ok_bind, ok_of_some, ok_var, ok_cst, ok_nil, ok_cons, ok_tup, ok_lst, ok_lstM, ok_op2, ok_op1, ok_blt, ok_listM, ok_chain, ok_and, ok_or, ok_not, ok_tval, ok_band, ok_bor, ok_bnot, ok_yes, ok_mif, ok_callM, ok_call, ok_lm, ok_optN, ok_optS, ok_slice, ok_ival, ok_range1, ok_range2, ok_zip, ok_sm, ok_addM, ok_get1, ok_get2, ok_comp, ok_compM, s_skip, s_seq, s_expr, s_asg, s_put, s_ret, s_retN, s_brk, s_cnt, s_if, s_for, s_while, List.map_cons, List.map_nil, List.cons_append, List.nil_append, List.replicate, List.getElem?_cons_zero, List.getElem?_cons_succ, List.set_cons_zero, List.set_cons_succ, Option.some.injEq, exists_eq_left', exists_eq_left, Nat.reduceSub, Nat.reduceAdd, Nat.reduceMul, wipeE, gNm, gNms, gTp, D.int.injEq, true_and, and_true, List.length_cons, List.length_nil, Option.bind_some, idx_ref, ixC_lst, idx_lst, idx_tup, idx_frz, at0, at1, at2, at3, add_int, sub_int, mod_int, fdiv_int, pow18, lt_int, le_int, gt_int, ge_int, tru_bl, tru_int, eq_int, ne_int, eq_str, ne_str, eq_bl, ne_bl, put_ref, putC_lst, ix0, ix1, ix2, ix3, len_lst, len_tup, len_frz, len_ref, lenC_lst, un1_one, tuple_lst, tuple_tup, list_lst, list_tup, slice_tup, slice_lst, it_tup, it_lst, cut_from1, Option.map_some, List.set_set, Nat.reduceLT, Int.reduceLT, if_true, Int.toNat_natCast, mul_mod, mulL, mulR, Int.reduceNeg]
    rw [List.all_map]
    refine fin (r.all (planB (rs.map (·.1)) e)) k' (by simp [hl]) fun h => ?_
    rw [hk' h, tupN_at]
    simp
    omega
theorem lplan_ok {L : Nat} (hL : L ≤ 1000) {rs : List Rl} {b : Nat} : ∀ (d j : Nat) (k : Int) (x : D) (st : St), Thg L d x → st[b]? = some (.lst [.int k]) → Ok (CC (d + j + 3) "_law_is_plan" [.tup (rs.map encRl), x, .ref b] st) (PostB (rs.map (·.1)) d b k x st)
  | 0, j, k, x, st, hx, hb => lplan_go hL 0 j b k x st hx hb fun e he => by omega
  | d + 1, j, k, x, st, hx, hb => lplan_go hL (d + 1) j b k x st hx hb fun e he k x st hx hb => by
    obtain rfl : d = e := by omega
    exact lplan_ok hL d j k x st hx hb
end RP
end
section
set_option Elab.async false
set_option linter.all false
set_option maxRecDepth 100000
set_option maxHeartbeats 1000000
namespace RP
open PySem
open Classical
theorem isi_bool {st : St} {b : Bool} : isiD .bool st (.bl b) = some (.bl true) := rfl
theorem plan_right_call {L : Nat} (hL : L ≤ 1000) {rs : List Rl} {d j : Nat} {x : D} {st : St} {Q : D → St → Prop} (hx : Thg L d x) (q : Q (.bl true) st) : Ok (ice st (CC (d + j + 5) "_law_plan_right" [.tup (rs.map encRl), x] st)) Q := by
  have h0 : Ok (CC (d + j + 5) "_law_plan_right" [.tup (rs.map encRl), x] st) fun r st' => r = .bl true ∧ st' = st := by
    rw [show d + j + 5 = (d + j + 4) + 1 by omega, r__law_plan_right]
    refine ok_fn rfl ?_
    unfold b__law_plan_right
    try simp only [ok_ok, ok_no, ok_bind, ok_of_some, ok_var, ok_cst, ok_nil, ok_cons, ok_tup, ok_lst, ok_lstM, ok_op2, ok_op1, ok_blt, ok_listM, ok_chain, ok_and, ok_or, ok_not, ok_tval, ok_band, ok_bor, ok_bnot, ok_yes, ok_mif, ok_callM, ok_call, ok_lm, ok_optN, ok_optS, ok_slice, ok_ival, ok_range1, ok_range2, ok_zip, ok_sm, ok_addM, ok_get1, ok_get2, ok_comp, ok_compM, s_skip, s_seq, s_expr, s_asg, s_put, s_ret, s_retN, s_brk, s_cnt, s_if, s_for, s_while, List.map_cons, List.map_nil, List.cons_append, List.nil_append, List.replicate, List.getElem?_cons_zero, List.getElem?_cons_succ, List.set_cons_zero, List.set_cons_succ, Option.some.injEq, exists_eq_left', exists_eq_left, Nat.reduceSub, Nat.reduceAdd, Nat.reduceMul, wipeE, gNm, gNms, gTp, D.int.injEq, true_and, and_true, List.length_cons, List.length_nil, Option.bind_some, idx_ref, ixC_lst, idx_lst, idx_tup, idx_frz, at0, at1, at2, at3, add_int, sub_int, mod_int, fdiv_int, pow18, lt_int, le_int, gt_int, ge_int, tru_bl, tru_int, eq_int, ne_int, eq_str, ne_str, eq_bl, ne_bl, put_ref, putC_lst, ix0, ix1, ix2, ix3, len_lst, len_tup, len_frz, len_ref, lenC_lst, un1_one, tuple_lst, tuple_tup, list_lst, list_tup, slice_tup, slice_lst, it_tup, it_lst, cut_from1, Option.map_some, List.set_set, Nat.reduceLT, Int.reduceLT, if_true, Int.toNat_natCast, mul_mod, mulL, mulR, Int.reduceNeg]
    have hc : (st ++ [Cell.lst [D.int 0]])[st.length]? = some (.lst [.int 0]) := at_new
    rw [show d + j + 4 = d + (j + 1) + 3 by omega]
    refine ok_ice_val ((lplan_ok hL d (j + 1) 0 x _ hx hc).mono ?_)
    rintro _ _ ⟨rfl, k', rfl, hk⟩
    refine ⟨rfl, ?_⟩
    rw [set_new]
    have hc2 : (st ++ [Cell.lst [D.int k']])[st.length]? = some (.lst [.int k']) := at_new
    have done : ∀ v : Bool, v = (planB (rs.map (·.1)) d x && decide (tupN x ≤ 14)) → Ok (ice (st ++ [Cell.lst [D.int k']]) (CC (d + j + 4) "is_plan" [.tup (rs.map encRl), x] (st ++ [Cell.lst [D.int k']]))) fun d_1 st1 => ∃ d_2, isiD .bool st1 d_1 = some d_2 ∧ ∃ b, tru st1 d_2 = some b ∧ if b = true then ∃ d_3, eqB st1 d_1 (.bl v) = some d_3 ∧ Ok (gc st d_3 st1) fun r st' => r = .bl true ∧ st' = st else Ok (gc st d_2 st1) fun r st' => r = .bl true ∧ st' = st := fun v hv => by
      refine is_plan_call hL hx ?_
      rw [← hv]
      simp only [isi_bool, List.map_cons, List.map_nil, List.cons_append, List.nil_append, List.replicate, List.getElem?_cons_zero, List.getElem?_cons_succ, List.set_cons_zero, List.set_cons_succ, Option.some.injEq, exists_eq_left', exists_eq_left, Nat.reduceSub, Nat.reduceAdd, Nat.reduceMul, wipeE, gNm, gNms, gTp, D.int.injEq, true_and, and_true, List.length_cons, List.length_nil, Option.bind_some, idx_ref, ixC_lst, idx_lst, idx_tup, idx_frz, at0, at1, at2, at3, add_int, sub_int, mod_int, fdiv_int, pow18, lt_int, le_int, gt_int, ge_int, tru_bl, tru_int, eq_int, ne_int, eq_str, ne_str, eq_bl, ne_bl, put_ref, putC_lst, ix0, ix1, ix2, ix3, len_lst, len_tup, len_frz, len_ref, lenC_lst, un1_one, tuple_lst, tuple_tup, list_lst, list_tup, slice_tup, slice_lst, it_tup, it_lst, cut_from1, Option.map_some, List.set_set, Nat.reduceLT, Int.reduceLT, if_true, Int.toNat_natCast, mul_mod, mulL, mulR, Int.reduceNeg, if_true]
      have : (v == v) = true := by cases v <;> rfl
      rw [this, gc_val (by simp) (fun i x hi hx => .inl (by rw [List.getElem?_append_left hi] at hx; exact hx)) rfl]
      exact ⟨rfl, by simp⟩
    rw [show d + (j + 1) + 3 = d + j + 4 by omega]
    cases hb : planB (rs.map (·.1)) d x with
    | false =>
      simp only [List.map_cons, List.map_nil, List.cons_append, List.nil_append, List.replicate, List.getElem?_cons_zero, List.getElem?_cons_succ, List.set_cons_zero, List.set_cons_succ, Option.some.injEq, exists_eq_left', exists_eq_left, Nat.reduceSub, Nat.reduceAdd, Nat.reduceMul, wipeE, gNm, gNms, gTp, D.int.injEq, true_and, and_true, List.length_cons, List.length_nil, Option.bind_some, idx_ref, ixC_lst, idx_lst, idx_tup, idx_frz, at0, at1, at2, at3, add_int, sub_int, mod_int, fdiv_int, pow18, lt_int, le_int, gt_int, ge_int, tru_bl, tru_int, eq_int, ne_int, eq_str, ne_str, eq_bl, ne_bl, put_ref, putC_lst, ix0, ix1, ix2, ix3, len_lst, len_tup, len_frz, len_ref, lenC_lst, un1_one, tuple_lst, tuple_tup, list_lst, list_tup, slice_tup, slice_lst, it_tup, it_lst, cut_from1, Option.map_some, List.set_set, Nat.reduceLT, Int.reduceLT, if_true, Int.toNat_natCast, mul_mod, mulL, mulR, Int.reduceNeg, Bool.false_eq_true, if_false]
      exact done false (by rw [hb]; rfl)
    | true =>
      have hk := hk hb
      simp only [List.map_cons, List.map_nil, List.cons_append, List.nil_append, List.replicate, List.getElem?_cons_zero, List.getElem?_cons_succ, List.set_cons_zero, List.set_cons_succ, Option.some.injEq, exists_eq_left', exists_eq_left, Nat.reduceSub, Nat.reduceAdd, Nat.reduceMul, wipeE, gNm, gNms, gTp, D.int.injEq, true_and, and_true, List.length_cons, List.length_nil, Option.bind_some, idx_ref, ixC_lst, idx_lst, idx_tup, idx_frz, at0, at1, at2, at3, add_int, sub_int, mod_int, fdiv_int, pow18, lt_int, le_int, gt_int, ge_int, tru_bl, tru_int, eq_int, ne_int, eq_str, ne_str, eq_bl, ne_bl, put_ref, putC_lst, ix0, ix1, ix2, ix3, len_lst, len_tup, len_frz, len_ref, lenC_lst, un1_one, tuple_lst, tuple_tup, list_lst, list_tup, slice_tup, slice_lst, it_tup, it_lst, cut_from1, Option.map_some, List.set_set, Nat.reduceLT, Int.reduceLT, if_true, Int.toNat_natCast, mul_mod, mulL, mulR, Int.reduceNeg, if_true, hc2]
      refine done _ ?_
      rw [hb, Bool.true_and, Bool.eq_iff_iff]
      simp
      omega
  refine ok_ice_val (h0.mono ?_)
  rintro _ S' ⟨rfl, e'⟩
  subst S'
  exact ⟨rfl, q⟩
end RP
end
section
set_option Elab.async false
set_option linter.all false
set_option maxRecDepth 100000
set_option maxHeartbeats 600000
namespace RP
open PySem
open Classical
theorem gc_bl (st S : St) (b : Bool) : Ok (gc st (.bl b) S) fun d _ => d = .bl b := by
  unfold gc
  split
  · exact rfl
  · split
    · rw [if_pos (show bel st.length (.bl b) = true from rfl)]
      exact rfl
    · exact rfl
theorem isn_bl {st : St} {a b : Bool} : isnB st (.bl a) (.bl b) = some (.bl (!decide (a = b))) := rfl
/-- things of depth, by looking -/
def thgB (L : Nat) : Nat → D → Bool
  | _, .non => true
  | _, .bl _ => true
  | _, .int _ => true
  | _, .str x => decide (x.length ≤ L)
  | d + 1, .tup xs => decide (xs.length ≤ L) && xs.all (thgB L d)
  | d + 1, .lst xs => decide (xs.length ≤ L) && xs.all (thgB L d)
  | _, _ => false
theorem thgB_ok {L : Nat} : ∀ {d : Nat} {x : D}, thgB L d x = true → Thg L d x := by
  intro d
  induction d with
  | zero =>
    intro x h
    cases x with
    | non => exact .non
    | bl b => exact .bl b
    | int i => exact .int i
    | str s => exact .str s (of_decide_eq_true h)
    | _ => simp [thgB] at h
  | succ d ih =>
    intro x h
    cases x with
    | non => exact .non
    | bl b => exact .bl b
    | int i => exact .int i
    | str s => exact .str s (of_decide_eq_true h)
    | tup xs =>
      simp only [thgB, Bool.and_eq_true, decide_eq_true_eq, List.all_eq_true] at h
      exact .tup h.1 fun y hy => ih (h.2 y hy)
    | lst xs =>
      simp only [thgB, Bool.and_eq_true, decide_eq_true_eq, List.all_eq_true] at h
      exact .lst h.1 fun y hy => ih (h.2 y hy)
    | _ => simp [thgB] at h
theorem thg_plan {ns os : List Str} {t : Pt} (h : PlanOk ns os t) (h1 : ∀ x ∈ ns, x.length ≤ 9) (h2 : ∀ x ∈ os, x.length ≤ 9) : ∀ d, hgt t ≤ d → Thg 11 d (encT t) := by
  have wl : ∀ w ∈ words0 ++ words9 ++ words2, w.length ≤ 11 := by decide +kernel
  induction h with
  | leaf hw =>
    intro d hd
    obtain ⟨d, rfl⟩ : ∃ e, d = e + 1 := ⟨d - 1, by simp [hgt] at hd; omega⟩
    rw [encT_nd]
    refine .tup (by simp) fun y hy => ?_
    rw [List.mem_singleton.mp hy]
    exact .str _ (wl _ (by simp [hw]))
  | any hx =>
    intro d hd
    obtain ⟨d, rfl⟩ : ∃ e, d = e + 1 := ⟨d - 1, by simp [hgt] at hd; omega⟩
    rw [encT_nd, List.map_singleton, encT_unk]
    refine .tup (by simp) fun y hy => ?_
    simp only [List.mem_cons, List.not_mem_nil, or_false] at hy
    rcases hy with rfl | rfl
    · exact .str _ (by decide)
    · exact .str _ (by have := h2 _ hx; omega)
  | use hx =>
    intro d hd
    obtain ⟨d, rfl⟩ : ∃ e, d = e + 1 := ⟨d - 1, by simp [hgt] at hd; omega⟩
    rw [encT_nd, List.map_singleton, encT_unk]
    refine .tup (by simp) fun y hy => ?_
    simp only [List.mem_cons, List.not_mem_nil, or_false] at hy
    rcases hy with rfl | rfl
    · exact .str _ (by decide)
    · exact .str _ (by have := h1 _ hx; omega)
  | one hw _ ih =>
    intro d hd
    simp only [hgt, hgts] at hd
    obtain ⟨d, rfl⟩ : ∃ e, d = e + 1 := ⟨d - 1, by omega⟩
    rw [encT_nd, List.map_singleton]
    refine .tup (by simp) fun y hy => ?_
    simp only [List.mem_cons, List.not_mem_nil, or_false] at hy
    rcases hy with rfl | rfl
    · exact .str _ (wl _ (by simp [hw]))
    · exact ih d (by omega)
  | two hw _ _ i1 i2 =>
    intro d hd
    simp only [hgt, hgts] at hd
    obtain ⟨d, rfl⟩ : ∃ e, d = e + 1 := ⟨d - 1, by omega⟩
    rw [encT_nd, List.map_cons, List.map_singleton]
    refine .tup (by simp) fun y hy => ?_
    simp only [List.mem_cons, List.not_mem_nil, or_false] at hy
    rcases hy with rfl | rfl | rfl
    · exact .str _ (wl _ (by simp [hw]))
    · exact i1 d (by omega)
    · exact i2 d (by omega)
theorem law_true (m : Nat) (ns : List Int) : Ok (CC (m + 80) "law" [.frz ns] []) fun d _ => d = .bl true := by
  rw [r_law]
  refine ok_fn rfl ?_
  unfold b_law
  try simp only [ok_ok, ok_no, ok_bind, ok_of_some, ok_var, ok_cst, ok_nil, ok_cons, ok_tup, ok_lst, ok_lstM, ok_op2, ok_op1, ok_blt, ok_listM, ok_chain, ok_and, ok_or, ok_not, ok_tval, ok_band, ok_bor, ok_bnot, ok_yes, ok_mif, ok_callM, ok_call, ok_lm, ok_optN, ok_optS, ok_slice, ok_ival, ok_range1, ok_range2, ok_zip, ok_sm, ok_addM, ok_get1, ok_get2, ok_comp, ok_compM, s_skip, s_seq, s_expr, s_asg, s_put, s_ret, s_retN, s_brk, s_cnt, s_if, s_for, s_while, List.map_cons, List.map_nil, List.cons_append, List.nil_append, List.replicate, List.getElem?_cons_zero, List.getElem?_cons_succ, List.set_cons_zero, List.set_cons_succ, Option.some.injEq, exists_eq_left', exists_eq_left, Nat.reduceSub, Nat.reduceAdd, Nat.reduceMul, wipeE, gNm, gNms, gTp, D.int.injEq, true_and, and_true, List.length_cons, List.length_nil, Option.bind_some, idx_ref, ixC_lst, idx_lst, idx_tup, idx_frz, at0, at1, at2, at3, add_int, sub_int, mod_int, fdiv_int, pow18, lt_int, le_int, gt_int, ge_int, tru_bl, tru_int, eq_int, ne_int, eq_str, ne_str, eq_bl, ne_bl, put_ref, putC_lst, ix0, ix1, ix2, ix3, len_lst, len_tup, len_frz, len_ref, lenC_lst, un1_one, tuple_lst, tuple_tup, list_lst, list_tup, slice_tup, slice_lst, it_tup, it_lst, cut_from1, Option.map_some, List.set_set, Nat.reduceLT, Int.reduceLT, if_true, Int.toNat_natCast, mul_mod, mulL, mulR, Int.reduceNeg]
  refine (feed_ok (ns := ns) (j := m + 78) (st := [])).mono ?_
  rintro _ _ ⟨c, rfl, rfl, hc⟩
  try simp only [ok_ok, ok_no, ok_bind, ok_of_some, ok_var, ok_cst, ok_nil, ok_cons, ok_tup, ok_lst, ok_lstM, ok_op2, ok_op1, ok_blt, ok_listM, ok_chain, ok_and, ok_or, ok_not, ok_tval, ok_band, ok_bor, ok_bnot, ok_yes, ok_mif, ok_callM, ok_call, ok_lm, ok_optN, ok_optS, ok_slice, ok_ival, ok_range1, ok_range2, ok_zip, ok_sm, ok_addM, ok_get1, ok_get2, ok_comp, ok_compM, s_skip, s_seq, s_expr, s_asg, s_put, s_ret, s_retN, s_brk, s_cnt, s_if, s_for, s_while, List.map_cons, List.map_nil, List.cons_append, List.nil_append, List.replicate, List.getElem?_cons_zero, List.getElem?_cons_succ, List.set_cons_zero, List.set_cons_succ, Option.some.injEq, exists_eq_left', exists_eq_left, Nat.reduceSub, Nat.reduceAdd, Nat.reduceMul, wipeE, gNm, gNms, gTp, D.int.injEq, true_and, and_true, List.length_cons, List.length_nil, Option.bind_some, idx_ref, ixC_lst, idx_lst, idx_tup, idx_frz, at0, at1, at2, at3, add_int, sub_int, mod_int, fdiv_int, pow18, lt_int, le_int, gt_int, ge_int, tru_bl, tru_int, eq_int, ne_int, eq_str, ne_str, eq_bl, ne_bl, put_ref, putC_lst, ix0, ix1, ix2, ix3, len_lst, len_tup, len_frz, len_ref, lenC_lst, un1_one, tuple_lst, tuple_tup, list_lst, list_tup, slice_tup, slice_lst, it_tup, it_lst, cut_from1, Option.map_some, List.set_set, Nat.reduceLT, Int.reduceLT, if_true, Int.toNat_natCast, mul_mod, mulL, mulR, Int.reduceNeg]
  have F0 : Fd FC 0 [c] := ⟨c, rfl, hc⟩
  generalize [c] = S1 at F0 ⊢
  refine ok_ice_val ((signs_ok (j := m + 77) (mo := 5) F0 (by omega) (by omega)).mono ?_)
  rintro _ S2 ⟨sg, hs, hpp, _, _, rfl, g2⟩
  refine ⟨rfl, ?_⟩
  have F2 := g2.fd F0.lt
  try simp only [ok_ok, ok_no, ok_bind, ok_of_some, ok_var, ok_cst, ok_nil, ok_cons, ok_tup, ok_lst, ok_lstM, ok_op2, ok_op1, ok_blt, ok_listM, ok_chain, ok_and, ok_or, ok_not, ok_tval, ok_band, ok_bor, ok_bnot, ok_yes, ok_mif, ok_callM, ok_call, ok_lm, ok_optN, ok_optS, ok_slice, ok_ival, ok_range1, ok_range2, ok_zip, ok_sm, ok_addM, ok_get1, ok_get2, ok_comp, ok_compM, s_skip, s_seq, s_expr, s_asg, s_put, s_ret, s_retN, s_brk, s_cnt, s_if, s_for, s_while, List.map_cons, List.map_nil, List.cons_append, List.nil_append, List.replicate, List.getElem?_cons_zero, List.getElem?_cons_succ, List.set_cons_zero, List.set_cons_succ, Option.some.injEq, exists_eq_left', exists_eq_left, Nat.reduceSub, Nat.reduceAdd, Nat.reduceMul, wipeE, gNm, gNms, gTp, D.int.injEq, true_and, and_true, List.length_cons, List.length_nil, Option.bind_some, idx_ref, ixC_lst, idx_lst, idx_tup, idx_frz, at0, at1, at2, at3, add_int, sub_int, mod_int, fdiv_int, pow18, lt_int, le_int, gt_int, ge_int, tru_bl, tru_int, eq_int, ne_int, eq_str, ne_str, eq_bl, ne_bl, put_ref, putC_lst, ix0, ix1, ix2, ix3, len_lst, len_tup, len_frz, len_ref, lenC_lst, un1_one, tuple_lst, tuple_tup, list_lst, list_tup, slice_tup, slice_lst, it_tup, it_lst, cut_from1, Option.map_some, List.set_set, Nat.reduceLT, Int.reduceLT, if_true, Int.toNat_natCast, mul_mod, mulL, mulR, Int.reduceNeg]
  rw [show m + 79 = (m + 71) + 8 by omega]
  refine ok_ice_val ((rules_ok (j := m + 71) (mo := 4) hs F2 (by omega) (by omega)).mono ?_)
  rintro _ S3 ⟨rs0, rfl, hr1, hr6, hnd, hrs0, g3⟩
  refine ⟨rfl, ?_⟩
  rw [show (m + 71) + 8 = m + 79 by omega]
  have F3 := g3.fd F2.lt
  try simp only [ok_ok, ok_no, ok_bind, ok_of_some, ok_var, ok_cst, ok_nil, ok_cons, ok_tup, ok_lst, ok_lstM, ok_op2, ok_op1, ok_blt, ok_listM, ok_chain, ok_and, ok_or, ok_not, ok_tval, ok_band, ok_bor, ok_bnot, ok_yes, ok_mif, ok_callM, ok_call, ok_lm, ok_optN, ok_optS, ok_slice, ok_ival, ok_range1, ok_range2, ok_zip, ok_sm, ok_addM, ok_get1, ok_get2, ok_comp, ok_compM, s_skip, s_seq, s_expr, s_asg, s_put, s_ret, s_retN, s_brk, s_cnt, s_if, s_for, s_while, List.map_cons, List.map_nil, List.cons_append, List.nil_append, List.replicate, List.getElem?_cons_zero, List.getElem?_cons_succ, List.set_cons_zero, List.set_cons_succ, Option.some.injEq, exists_eq_left', exists_eq_left, Nat.reduceSub, Nat.reduceAdd, Nat.reduceMul, wipeE, gNm, gNms, gTp, D.int.injEq, true_and, and_true, List.length_cons, List.length_nil, Option.bind_some, idx_ref, ixC_lst, idx_lst, idx_tup, idx_frz, at0, at1, at2, at3, add_int, sub_int, mod_int, fdiv_int, pow18, lt_int, le_int, gt_int, ge_int, tru_bl, tru_int, eq_int, ne_int, eq_str, ne_str, eq_bl, ne_bl, put_ref, putC_lst, ix0, ix1, ix2, ix3, len_lst, len_tup, len_frz, len_ref, lenC_lst, un1_one, tuple_lst, tuple_tup, list_lst, list_tup, slice_tup, slice_lst, it_tup, it_lst, cut_from1, Option.map_some, List.set_set, Nat.reduceLT, Int.reduceLT, if_true, Int.toNat_natCast, mul_mod, mulL, mulR, Int.reduceNeg]
  refine draw_call F3 (by decide) (by decide) fun r Sr r0 r1 gr => ?_
  have Fr' := gr.fd F3.lt
  obtain ⟨q, rfl⟩ := Int.eq_ofNat_of_zero_le r0
  try simp only [ok_ok, ok_no, ok_bind, ok_of_some, ok_var, ok_cst, ok_nil, ok_cons, ok_tup, ok_lst, ok_lstM, ok_op2, ok_op1, ok_blt, ok_listM, ok_chain, ok_and, ok_or, ok_not, ok_tval, ok_band, ok_bor, ok_bnot, ok_yes, ok_mif, ok_callM, ok_call, ok_lm, ok_optN, ok_optS, ok_slice, ok_ival, ok_range1, ok_range2, ok_zip, ok_sm, ok_addM, ok_get1, ok_get2, ok_comp, ok_compM, s_skip, s_seq, s_expr, s_asg, s_put, s_ret, s_retN, s_brk, s_cnt, s_if, s_for, s_while, List.map_cons, List.map_nil, List.cons_append, List.nil_append, List.replicate, List.getElem?_cons_zero, List.getElem?_cons_succ, List.set_cons_zero, List.set_cons_succ, Option.some.injEq, exists_eq_left', exists_eq_left, Nat.reduceSub, Nat.reduceAdd, Nat.reduceMul, wipeE, gNm, gNms, gTp, D.int.injEq, true_and, and_true, List.length_cons, List.length_nil, Option.bind_some, idx_ref, ixC_lst, idx_lst, idx_tup, idx_frz, at0, at1, at2, at3, add_int, sub_int, mod_int, fdiv_int, pow18, lt_int, le_int, gt_int, ge_int, tru_bl, tru_int, eq_int, ne_int, eq_str, ne_str, eq_bl, ne_bl, put_ref, putC_lst, ix0, ix1, ix2, ix3, len_lst, len_tup, len_frz, len_ref, lenC_lst, un1_one, tuple_lst, tuple_tup, list_lst, list_tup, slice_tup, slice_lst, it_tup, it_lst, cut_from1, Option.map_some, List.set_set, Nat.reduceLT, Int.reduceLT, if_true, Int.toNat_natCast, mul_mod, mulL, mulR, Int.reduceNeg]
  rw [cut_from, ← List.map_drop]
  have hrs : ∀ p ∈ rs0.drop q, RlOk sg p := fun p hp => hrs0 p (List.mem_of_mem_drop hp)
  have hrl : (rs0.drop q).length ≤ 4 := by rw [List.length_drop]; omega
  generalize rs0.drop q = rs at hrs hrl ⊢
  clear hrs0 hnd hr1 hr6 g3 r0 r1 gr
  try simp only [ok_ok, ok_no, ok_bind, ok_of_some, ok_var, ok_cst, ok_nil, ok_cons, ok_tup, ok_lst, ok_lstM, ok_op2, ok_op1, ok_blt, ok_listM, ok_chain, ok_and, ok_or, ok_not, ok_tval, ok_band, ok_bor, ok_bnot, ok_yes, ok_mif, ok_callM, ok_call, ok_lm, ok_optN, ok_optS, ok_slice, ok_ival, ok_range1, ok_range2, ok_zip, ok_sm, ok_addM, ok_get1, ok_get2, ok_comp, ok_compM, s_skip, s_seq, s_expr, s_asg, s_put, s_ret, s_retN, s_brk, s_cnt, s_if, s_for, s_while, List.map_cons, List.map_nil, List.cons_append, List.nil_append, List.replicate, List.getElem?_cons_zero, List.getElem?_cons_succ, List.set_cons_zero, List.set_cons_succ, Option.some.injEq, exists_eq_left', exists_eq_left, Nat.reduceSub, Nat.reduceAdd, Nat.reduceMul, wipeE, gNm, gNms, gTp, D.int.injEq, true_and, and_true, List.length_cons, List.length_nil, Option.bind_some, idx_ref, ixC_lst, idx_lst, idx_tup, idx_frz, at0, at1, at2, at3, add_int, sub_int, mod_int, fdiv_int, pow18, lt_int, le_int, gt_int, ge_int, tru_bl, tru_int, eq_int, ne_int, eq_str, ne_str, eq_bl, ne_bl, put_ref, putC_lst, ix0, ix1, ix2, ix3, len_lst, len_tup, len_frz, len_ref, lenC_lst, un1_one, tuple_lst, tuple_tup, list_lst, list_tup, slice_tup, slice_lst, it_tup, it_lst, cut_from1, Option.map_some, List.set_set, Nat.reduceLT, Int.reduceLT, if_true, Int.toNat_natCast, mul_mod, mulL, mulR, Int.reduceNeg]
  refine comp_enc (e := encRl) rs (fun q => D.str q.1) rfl gNone ?_ ?_
  · intro q hq
    refine ⟨_, rfl, ?_⟩
    unfold encRl
    try simp only [ok_ok, ok_no, ok_bind, ok_of_some, ok_var, ok_cst, ok_nil, ok_cons, ok_tup, ok_lst, ok_lstM, ok_op2, ok_op1, ok_blt, ok_listM, ok_chain, ok_and, ok_or, ok_not, ok_tval, ok_band, ok_bor, ok_bnot, ok_yes, ok_mif, ok_callM, ok_call, ok_lm, ok_optN, ok_optS, ok_slice, ok_ival, ok_range1, ok_range2, ok_zip, ok_sm, ok_addM, ok_get1, ok_get2, ok_comp, ok_compM, s_skip, s_seq, s_expr, s_asg, s_put, s_ret, s_retN, s_brk, s_cnt, s_if, s_for, s_while, List.map_cons, List.map_nil, List.cons_append, List.nil_append, List.replicate, List.getElem?_cons_zero, List.getElem?_cons_succ, List.set_cons_zero, List.set_cons_succ, Option.some.injEq, exists_eq_left', exists_eq_left, Nat.reduceSub, Nat.reduceAdd, Nat.reduceMul, wipeE, gNm, gNms, gTp, D.int.injEq, true_and, and_true, List.length_cons, List.length_nil, Option.bind_some, idx_ref, ixC_lst, idx_lst, idx_tup, idx_frz, at0, at1, at2, at3, add_int, sub_int, mod_int, fdiv_int, pow18, lt_int, le_int, gt_int, ge_int, tru_bl, tru_int, eq_int, ne_int, eq_str, ne_str, eq_bl, ne_bl, put_ref, putC_lst, ix0, ix1, ix2, ix3, len_lst, len_tup, len_frz, len_ref, lenC_lst, un1_one, tuple_lst, tuple_tup, list_lst, list_tup, slice_tup, slice_lst, it_tup, it_lst, cut_from1, Option.map_some, List.set_set, Nat.reduceLT, Int.reduceLT, if_true, Int.toNat_natCast, mul_mod, mulL, mulR, Int.reduceNeg]
  have hnms : (rs.map fun q => D.str q.1) = (rs.map (·.1)).map D.str := by rw [List.map_map]; rfl
  rw [hnms]
  have hnl : (rs.map (·.1)).length ≤ 4 := by simpa using hrl
  have hn9 : ∀ x ∈ rs.map (·.1), x.length ≤ 9 := fun x hx => by
    obtain ⟨q, hq, rfl⟩ := List.mem_map.mp hx
    exact (hrs q hq).ln
  try simp only [ok_ok, ok_no, ok_bind, ok_of_some, ok_var, ok_cst, ok_nil, ok_cons, ok_tup, ok_lst, ok_lstM, ok_op2, ok_op1, ok_blt, ok_listM, ok_chain, ok_and, ok_or, ok_not, ok_tval, ok_band, ok_bor, ok_bnot, ok_yes, ok_mif, ok_callM, ok_call, ok_lm, ok_optN, ok_optS, ok_slice, ok_ival, ok_range1, ok_range2, ok_zip, ok_sm, ok_addM, ok_get1, ok_get2, ok_comp, ok_compM, s_skip, s_seq, s_expr, s_asg, s_put, s_ret, s_retN, s_brk, s_cnt, s_if, s_for, s_while, List.map_cons, List.map_nil, List.cons_append, List.nil_append, List.replicate, List.getElem?_cons_zero, List.getElem?_cons_succ, List.set_cons_zero, List.set_cons_succ, Option.some.injEq, exists_eq_left', exists_eq_left, Nat.reduceSub, Nat.reduceAdd, Nat.reduceMul, wipeE, gNm, gNms, gTp, D.int.injEq, true_and, and_true, List.length_cons, List.length_nil, Option.bind_some, idx_ref, ixC_lst, idx_lst, idx_tup, idx_frz, at0, at1, at2, at3, add_int, sub_int, mod_int, fdiv_int, pow18, lt_int, le_int, gt_int, ge_int, tru_bl, tru_int, eq_int, ne_int, eq_str, ne_str, eq_bl, ne_bl, put_ref, putC_lst, ix0, ix1, ix2, ix3, len_lst, len_tup, len_frz, len_ref, lenC_lst, un1_one, tuple_lst, tuple_tup, list_lst, list_tup, slice_tup, slice_lst, it_tup, it_lst, cut_from1, Option.map_some, List.set_set, Nat.reduceLT, Int.reduceLT, if_true, Int.toNat_natCast, mul_mod, mulL, mulR, Int.reduceNeg]
  refine draw_call Fr' (by decide) (by decide) fun r Sa r0 r1 ga => ?_
  have Fa := ga.fd Fr'.lt
  obtain ⟨a, rfl⟩ := Int.eq_ofNat_of_zero_le r0
  try simp only [ok_ok, ok_no, ok_bind, ok_of_some, ok_var, ok_cst, ok_nil, ok_cons, ok_tup, ok_lst, ok_lstM, ok_op2, ok_op1, ok_blt, ok_listM, ok_chain, ok_and, ok_or, ok_not, ok_tval, ok_band, ok_bor, ok_bnot, ok_yes, ok_mif, ok_callM, ok_call, ok_lm, ok_optN, ok_optS, ok_slice, ok_ival, ok_range1, ok_range2, ok_zip, ok_sm, ok_addM, ok_get1, ok_get2, ok_comp, ok_compM, s_skip, s_seq, s_expr, s_asg, s_put, s_ret, s_retN, s_brk, s_cnt, s_if, s_for, s_while, List.map_cons, List.map_nil, List.cons_append, List.nil_append, List.replicate, List.getElem?_cons_zero, List.getElem?_cons_succ, List.set_cons_zero, List.set_cons_succ, Option.some.injEq, exists_eq_left', exists_eq_left, Nat.reduceSub, Nat.reduceAdd, Nat.reduceMul, wipeE, gNm, gNms, gTp, D.int.injEq, true_and, and_true, List.length_cons, List.length_nil, Option.bind_some, idx_ref, ixC_lst, idx_lst, idx_tup, idx_frz, at0, at1, at2, at3, add_int, sub_int, mod_int, fdiv_int, pow18, lt_int, le_int, gt_int, ge_int, tru_bl, tru_int, eq_int, ne_int, eq_str, ne_str, eq_bl, ne_bl, put_ref, putC_lst, ix0, ix1, ix2, ix3, len_lst, len_tup, len_frz, len_ref, lenC_lst, un1_one, tuple_lst, tuple_tup, list_lst, list_tup, slice_tup, slice_lst, it_tup, it_lst, cut_from1, Option.map_some, List.set_set, Nat.reduceLT, Int.reduceLT, if_true, Int.toNat_natCast, mul_mod, mulL, mulR, Int.reduceNeg]
  rw [show (1 + (a : Int)) = ((a + 1 : Nat) : Int) by omega, show m + 79 = (a + 1) + (m + 76 - a) + 2 by omega]
  refine ok_ice_val ((plan_ok (os := ["x", "xa", "use"]) (by omega) (by simp) (a + 1) (m + 76 - a) Sa (by omega) (by omega) Fa).mono ?_)
  rintro _ Sb ⟨t, rfl, hp, tp, gb⟩
  refine ⟨isRef_T t, ?_⟩
  rw [show (a + 1) + (m + 76 - a) + 2 = m + 79 by omega]
  have Fb := gb.fd Fa.lt
  have hth : ths t ≤ 14 := by omega
  clear tp r0 r1 ga gb Fa
  have hhg : hgt t ≤ 14 := by have := hp.hgt; omega
  have hTp : Thg 11 14 (encT t) := thg_plan hp hn9 (by decide +kernel) 14 hhg
  have hpq : PlanQ (· ∈ rs.map (·.1)) (fun x => nameB x = true) t := hp.q (fun x hx => hx) (by decide +kernel)
  try simp only [ok_ok, ok_no, ok_bind, ok_of_some, ok_var, ok_cst, ok_nil, ok_cons, ok_tup, ok_lst, ok_lstM, ok_op2, ok_op1, ok_blt, ok_listM, ok_chain, ok_and, ok_or, ok_not, ok_tval, ok_band, ok_bor, ok_bnot, ok_yes, ok_mif, ok_callM, ok_call, ok_lm, ok_optN, ok_optS, ok_slice, ok_ival, ok_range1, ok_range2, ok_zip, ok_sm, ok_addM, ok_get1, ok_get2, ok_comp, ok_compM, s_skip, s_seq, s_expr, s_asg, s_put, s_ret, s_retN, s_brk, s_cnt, s_if, s_for, s_while, List.map_cons, List.map_nil, List.cons_append, List.nil_append, List.replicate, List.getElem?_cons_zero, List.getElem?_cons_succ, List.set_cons_zero, List.set_cons_succ, Option.some.injEq, exists_eq_left', exists_eq_left, Nat.reduceSub, Nat.reduceAdd, Nat.reduceMul, wipeE, gNm, gNms, gTp, D.int.injEq, true_and, and_true, List.length_cons, List.length_nil, Option.bind_some, idx_ref, ixC_lst, idx_lst, idx_tup, idx_frz, at0, at1, at2, at3, add_int, sub_int, mod_int, fdiv_int, pow18, lt_int, le_int, gt_int, ge_int, tru_bl, tru_int, eq_int, ne_int, eq_str, ne_str, eq_bl, ne_bl, put_ref, putC_lst, ix0, ix1, ix2, ix3, len_lst, len_tup, len_frz, len_ref, lenC_lst, un1_one, tuple_lst, tuple_tup, list_lst, list_tup, slice_tup, slice_lst, it_tup, it_lst, cut_from1, Option.map_some, List.set_set, Nat.reduceLT, Int.reduceLT, if_true, Int.toNat_natCast, mul_mod, mulL, mulR, Int.reduceNeg]
  rw [show m + 79 = 14 + (m + 61) + 4 by omega]
  refine is_plan_call (L := 11) (by omega) hTp ?_
  rw [planB_of hpq 14 hhg, tupN_T, decide_eq_true hth, Bool.and_true]
  simp only [isn_bl, List.map_cons, List.map_nil, List.cons_append, List.nil_append, List.replicate, List.getElem?_cons_zero, List.getElem?_cons_succ, List.set_cons_zero, List.set_cons_succ, Option.some.injEq, exists_eq_left', exists_eq_left, Nat.reduceSub, Nat.reduceAdd, Nat.reduceMul, wipeE, gNm, gNms, gTp, D.int.injEq, true_and, and_true, List.length_cons, List.length_nil, Option.bind_some, idx_ref, ixC_lst, idx_lst, idx_tup, idx_frz, at0, at1, at2, at3, add_int, sub_int, mod_int, fdiv_int, pow18, lt_int, le_int, gt_int, ge_int, tru_bl, tru_int, eq_int, ne_int, eq_str, ne_str, eq_bl, ne_bl, put_ref, putC_lst, ix0, ix1, ix2, ix3, len_lst, len_tup, len_frz, len_ref, lenC_lst, un1_one, tuple_lst, tuple_tup, list_lst, list_tup, slice_tup, slice_lst, it_tup, it_lst, cut_from1, Option.map_some, List.set_set, Nat.reduceLT, Int.reduceLT, if_true, Int.toNat_natCast, mul_mod, mulL, mulR, Int.reduceNeg, decide_true, Bool.not_true, Bool.false_eq_true, if_false]
  rw [show 14 + (m + 61) + 4 = 14 + (m + 60) + 5 by omega]
  refine parts_right_call (d := 14) hhg (by omega) (by omega) hpq ?_
  simp only [List.map_cons, List.map_nil, List.cons_append, List.nil_append, List.replicate, List.getElem?_cons_zero, List.getElem?_cons_succ, List.set_cons_zero, List.set_cons_succ, Option.some.injEq, exists_eq_left', exists_eq_left, Nat.reduceSub, Nat.reduceAdd, Nat.reduceMul, wipeE, gNm, gNms, gTp, D.int.injEq, true_and, and_true, List.length_cons, List.length_nil, Option.bind_some, idx_ref, ixC_lst, idx_lst, idx_tup, idx_frz, at0, at1, at2, at3, add_int, sub_int, mod_int, fdiv_int, pow18, lt_int, le_int, gt_int, ge_int, tru_bl, tru_int, eq_int, ne_int, eq_str, ne_str, eq_bl, ne_bl, put_ref, putC_lst, ix0, ix1, ix2, ix3, len_lst, len_tup, len_frz, len_ref, lenC_lst, un1_one, tuple_lst, tuple_tup, list_lst, list_tup, slice_tup, slice_lst, it_tup, it_lst, cut_from1, Option.map_some, List.set_set, Nat.reduceLT, Int.reduceLT, if_true, Int.toNat_natCast, mul_mod, mulL, mulR, Int.reduceNeg, Bool.not_true, Bool.false_eq_true, if_false]
  rw [show 14 + (m + 60) + 5 = m + 79 by omega]
  have T0 : ∀ x ∈ [D.non, .tup [], .lst [], .str "stay", .tup [.str "stay"], .lst [.str "stay"], .tup [.str "stay", .tup [.str "stay"]], .tup [.str "use"], .tup [.str "use", .str "zz"], .tup [.str "any", .str "A"]] ++ [D.tup [.str "any", .str "stay"], .tup [.str "then", .tup [.str "stay"]], .tup [.str "use", .lst [.str "r"]], .tup [.str "any", .tup [.str "x"]], .tup [.str "any", .int 1], .tup [.bl true]], Thg 47 40 x := fun x hx => by
    apply thgB_ok
    revert x
    decide +kernel
  rw [add_lst (by decide)]
  simp only [ok_ok, ok_no, ok_bind, ok_of_some, ok_var, ok_cst, ok_nil, ok_cons, ok_tup, ok_lst, ok_lstM, ok_op2, ok_op1, ok_blt, ok_listM, ok_chain, ok_and, ok_or, ok_not, ok_tval, ok_band, ok_bor, ok_bnot, ok_yes, ok_mif, ok_callM, ok_call, ok_lm, ok_optN, ok_optS, ok_slice, ok_ival, ok_range1, ok_range2, ok_zip, ok_sm, ok_addM, ok_get1, ok_get2, ok_comp, ok_compM, s_skip, s_seq, s_expr, s_asg, s_put, s_ret, s_retN, s_brk, s_cnt, s_if, s_for, s_while, List.map_cons, List.map_nil, List.cons_append, List.nil_append, List.replicate, List.getElem?_cons_zero, List.getElem?_cons_succ, List.set_cons_zero, List.set_cons_succ, Option.some.injEq, exists_eq_left', exists_eq_left, Nat.reduceSub, Nat.reduceAdd, Nat.reduceMul, wipeE, gNm, gNms, gTp, D.int.injEq, true_and, and_true, List.length_cons, List.length_nil, Option.bind_some, idx_ref, ixC_lst, idx_lst, idx_tup, idx_frz, at0, at1, at2, at3, add_int, sub_int, mod_int, fdiv_int, pow18, lt_int, le_int, gt_int, ge_int, tru_bl, tru_int, eq_int, ne_int, eq_str, ne_str, eq_bl, ne_bl, put_ref, putC_lst, ix0, ix1, ix2, ix3, len_lst, len_tup, len_frz, len_ref, lenC_lst, un1_one, tuple_lst, tuple_tup, list_lst, list_tup, slice_tup, slice_lst, it_tup, it_lst, cut_from1, Option.map_some, List.set_set, Nat.reduceLT, Int.reduceLT, if_true, Int.toNat_natCast, mul_mod, mulL, mulR, Int.reduceNeg]
  generalize hX : ([D.non, .tup [], .lst [], .str "stay", .tup [.str "stay"], .lst [.str "stay"], .tup [.str "stay", .tup [.str "stay"]], .tup [.str "use"], .tup [.str "use", .str "zz"], .tup [.str "any", .str "A"]] ++ [D.tup [.str "any", .str "stay"], .tup [.str "then", .tup [.str "stay"]], .tup [.str "use", .lst [.str "r"]], .tup [.str "any", .tup [.str "x"]], .tup [.str "any", .int 1], .tup [.bl true]] : List D) = xs0 at T0
  have hX0 : xs0.length = 16 := by rw [← hX]; rfl
  simp only [List.cons_append, List.nil_append] at hX
  rw [hX]
  clear hX
  refine for_gen (e := fun k : Nat => D.int k) [12, 13, 14] (fun done env S => (∃ (xs : List D) (x7 x8 x9 : Option D), (∀ x ∈ xs, Thg 47 40 x) ∧ xs.length = 16 + 2 * done.length ∧ env = [some (.frz ns), some (.ref 0), some (encS sg), some (.tup (rs.map encRl)), some (.lst ((rs.map (·.1)).map D.str)), some (encT t), some (.lst xs), x7, x8, x9, none, none, none]) ∧ S = Sb) rfl ⟨⟨_, _, _, _, T0, by simp [hX0], rfl⟩, rfl⟩ ?_ (fun _ _ _ _ => gNone) ?_
  · rintro k rest done env S he ⟨⟨xs, x7, x8, x9, hxs, hxl, rfl⟩, e'⟩
    subst S
    have hk : k ∈ [12, 13, 14] := by rw [he]; simp
    have hk2 : k ≤ 14 := by simp at hk; omega
    have hdl : done.length < 3 := by
      have := congrArg List.length he
      simp at this
      omega
    refine ⟨_, rfl, ?_⟩
    try simp only [ok_ok, ok_no, ok_bind, ok_of_some, ok_var, ok_cst, ok_nil, ok_cons, ok_tup, ok_lst, ok_lstM, ok_op2, ok_op1, ok_blt, ok_listM, ok_chain, ok_and, ok_or, ok_not, ok_tval, ok_band, ok_bor, ok_bnot, ok_yes, ok_mif, ok_callM, ok_call, ok_lm, ok_optN, ok_optS, ok_slice, ok_ival, ok_range1, ok_range2, ok_zip, ok_sm, ok_addM, ok_get1, ok_get2, ok_comp, ok_compM, s_skip, s_seq, s_expr, s_asg, s_put, s_ret, s_retN, s_brk, s_cnt, s_if, s_for, s_while, List.map_cons, List.map_nil, List.cons_append, List.nil_append, List.replicate, List.getElem?_cons_zero, List.getElem?_cons_succ, List.set_cons_zero, List.set_cons_succ, Option.some.injEq, exists_eq_left', exists_eq_left, Nat.reduceSub, Nat.reduceAdd, Nat.reduceMul, wipeE, gNm, gNms, gTp, D.int.injEq, true_and, and_true, List.length_cons, List.length_nil, Option.bind_some, idx_ref, ixC_lst, idx_lst, idx_tup, idx_frz, at0, at1, at2, at3, add_int, sub_int, mod_int, fdiv_int, pow18, lt_int, le_int, gt_int, ge_int, tru_bl, tru_int, eq_int, ne_int, eq_str, ne_str, eq_bl, ne_bl, put_ref, putC_lst, ix0, ix1, ix2, ix3, len_lst, len_tup, len_frz, len_ref, lenC_lst, un1_one, tuple_lst, tuple_tup, list_lst, list_tup, slice_tup, slice_lst, it_tup, it_lst, cut_from1, Option.map_some, List.set_set, Nat.reduceLT, Int.reduceLT, if_true, Int.toNat_natCast, mul_mod, mulL, mulR, Int.reduceNeg]
    refine ⟨by unfold big; omega, ?_⟩
    refine for_gen (e := fun k : Nat => D.int k) (List.range k) (fun done' env S => (∃ (x8 : Option D) (y : D), Thg 11 (1 + done'.length) y ∧ env = [some (.frz ns), some (.ref 0), some (encS sg), some (.tup (rs.map encRl)), some (.lst ((rs.map (·.1)).map D.str)), some (encT t), some (.lst xs), some (.int k), x8, some y, none, none, none]) ∧ S = Sb) rfl ⟨⟨_, _, thgB_ok (by decide +kernel), rfl⟩, rfl⟩ ?_ (fun _ _ _ _ => gNone) ?_
    · rintro i rest' done' env S he' ⟨⟨x8, y, hy, rfl⟩, e'⟩
      subst S
      refine ⟨_, rfl, ?_⟩
      obtain ⟨v, hv, _, hv2⟩ := at_get (xs := [D.tup [.str "not", y], .tup [.str "try", y]]) (r := (i : Int) % 2) (Int.emod_nonneg _ (by decide)) (by have := Int.emod_lt_of_pos (i : Int) (by decide : (0 : Int) < 2); simpa using this)
      simp only [ok_ok, ok_no, ok_bind, ok_of_some, ok_var, ok_cst, ok_nil, ok_cons, ok_tup, ok_lst, ok_lstM, ok_op2, ok_op1, ok_blt, ok_listM, ok_chain, ok_and, ok_or, ok_not, ok_tval, ok_band, ok_bor, ok_bnot, ok_yes, ok_mif, ok_callM, ok_call, ok_lm, ok_optN, ok_optS, ok_slice, ok_ival, ok_range1, ok_range2, ok_zip, ok_sm, ok_addM, ok_get1, ok_get2, ok_comp, ok_compM, s_skip, s_seq, s_expr, s_asg, s_put, s_ret, s_retN, s_brk, s_cnt, s_if, s_for, s_while, List.map_cons, List.map_nil, List.cons_append, List.nil_append, List.replicate, List.getElem?_cons_zero, List.getElem?_cons_succ, List.set_cons_zero, List.set_cons_succ, Option.some.injEq, exists_eq_left', exists_eq_left, Nat.reduceSub, Nat.reduceAdd, Nat.reduceMul, wipeE, gNm, gNms, gTp, D.int.injEq, true_and, and_true, List.length_cons, List.length_nil, Option.bind_some, idx_ref, ixC_lst, idx_lst, idx_tup, idx_frz, at0, at1, at2, at3, add_int, sub_int, mod_int, fdiv_int, pow18, lt_int, le_int, gt_int, ge_int, tru_bl, tru_int, eq_int, ne_int, eq_str, ne_str, eq_bl, ne_bl, put_ref, putC_lst, ix0, ix1, ix2, ix3, len_lst, len_tup, len_frz, len_ref, lenC_lst, un1_one, tuple_lst, tuple_tup, list_lst, list_tup, slice_tup, slice_lst, it_tup, it_lst, cut_from1, Option.map_some, List.set_set, Nat.reduceLT, Int.reduceLT, if_true, Int.toNat_natCast, mul_mod, mulL, mulR, Int.reduceNeg, hv2]
      refine ⟨_, v, ?_, rfl⟩
      rw [List.length_append, List.length_singleton, ← Nat.add_assoc]
      simp only [List.mem_cons, List.not_mem_nil, or_false] at hv
      rcases hv with rfl | rfl
      · refine .tup (by simp) fun z hz => ?_
        simp only [List.mem_cons, List.not_mem_nil, or_false] at hz
        rcases hz with rfl | rfl
        · exact .str _ (by decide)
        · exact hy
      · refine .tup (by simp) fun z hz => ?_
        simp only [List.mem_cons, List.not_mem_nil, or_false] at hz
        rcases hz with rfl | rfl
        · exact .str _ (by decide)
        · exact hy
    · rintro env S ⟨⟨x8, y, hy, rfl⟩, e'⟩
      subst S
      rw [List.length_range] at hy
      try simp only [ok_ok, ok_no, ok_bind, ok_of_some, ok_var, ok_cst, ok_nil, ok_cons, ok_tup, ok_lst, ok_lstM, ok_op2, ok_op1, ok_blt, ok_listM, ok_chain, ok_and, ok_or, ok_not, ok_tval, ok_band, ok_bor, ok_bnot, ok_yes, ok_mif, ok_callM, ok_call, ok_lm, ok_optN, ok_optS, ok_slice, ok_ival, ok_range1, ok_range2, ok_zip, ok_sm, ok_addM, ok_get1, ok_get2, ok_comp, ok_compM, s_skip, s_seq, s_expr, s_asg, s_put, s_ret, s_retN, s_brk, s_cnt, s_if, s_for, s_while, List.map_cons, List.map_nil, List.cons_append, List.nil_append, List.replicate, List.getElem?_cons_zero, List.getElem?_cons_succ, List.set_cons_zero, List.set_cons_succ, Option.some.injEq, exists_eq_left', exists_eq_left, Nat.reduceSub, Nat.reduceAdd, Nat.reduceMul, wipeE, gNm, gNms, gTp, D.int.injEq, true_and, and_true, List.length_cons, List.length_nil, Option.bind_some, idx_ref, ixC_lst, idx_lst, idx_tup, idx_frz, at0, at1, at2, at3, add_int, sub_int, mod_int, fdiv_int, pow18, lt_int, le_int, gt_int, ge_int, tru_bl, tru_int, eq_int, ne_int, eq_str, ne_str, eq_bl, ne_bl, put_ref, putC_lst, ix0, ix1, ix2, ix3, len_lst, len_tup, len_frz, len_ref, lenC_lst, un1_one, tuple_lst, tuple_tup, list_lst, list_tup, slice_tup, slice_lst, it_tup, it_lst, cut_from1, Option.map_some, List.set_set, Nat.reduceLT, Int.reduceLT, if_true, Int.toNat_natCast, mul_mod, mulL, mulR, Int.reduceNeg]
      rw [add_lst (by simp; unfold big; omega)]
      try simp only [ok_ok, ok_no, ok_bind, ok_of_some, ok_var, ok_cst, ok_nil, ok_cons, ok_tup, ok_lst, ok_lstM, ok_op2, ok_op1, ok_blt, ok_listM, ok_chain, ok_and, ok_or, ok_not, ok_tval, ok_band, ok_bor, ok_bnot, ok_yes, ok_mif, ok_callM, ok_call, ok_lm, ok_optN, ok_optS, ok_slice, ok_ival, ok_range1, ok_range2, ok_zip, ok_sm, ok_addM, ok_get1, ok_get2, ok_comp, ok_compM, s_skip, s_seq, s_expr, s_asg, s_put, s_ret, s_retN, s_brk, s_cnt, s_if, s_for, s_while, List.map_cons, List.map_nil, List.cons_append, List.nil_append, List.replicate, List.getElem?_cons_zero, List.getElem?_cons_succ, List.set_cons_zero, List.set_cons_succ, Option.some.injEq, exists_eq_left', exists_eq_left, Nat.reduceSub, Nat.reduceAdd, Nat.reduceMul, wipeE, gNm, gNms, gTp, D.int.injEq, true_and, and_true, List.length_cons, List.length_nil, Option.bind_some, idx_ref, ixC_lst, idx_lst, idx_tup, idx_frz, at0, at1, at2, at3, add_int, sub_int, mod_int, fdiv_int, pow18, lt_int, le_int, gt_int, ge_int, tru_bl, tru_int, eq_int, ne_int, eq_str, ne_str, eq_bl, ne_bl, put_ref, putC_lst, ix0, ix1, ix2, ix3, len_lst, len_tup, len_frz, len_ref, lenC_lst, un1_one, tuple_lst, tuple_tup, list_lst, list_tup, slice_tup, slice_lst, it_tup, it_lst, cut_from1, Option.map_some, List.set_set, Nat.reduceLT, Int.reduceLT, if_true, Int.toNat_natCast, mul_mod, mulL, mulR, Int.reduceNeg]
      refine ⟨_, _, _, _, fun x hx => ?_, ?_, rfl⟩
      · rcases List.mem_append.mp hx with z | z
        · exact hxs x z
        · simp only [List.mem_cons, List.not_mem_nil, or_false] at z
          rcases z with rfl | rfl
          · exact hy.mono (by omega) (by omega)
          · refine .tup (d := 39) (by simp) fun z hz => ?_
            simp only [List.mem_cons, List.not_mem_nil, or_false] at hz
            rcases hz with rfl | rfl | rfl
            · exact .str _ (by decide)
            · exact hy.mono (by omega) (by omega)
            · exact thgB_ok (by decide +kernel)
      · simp; omega
  rintro env S ⟨⟨xs, x7, x8, x9, hxs, hxl, rfl⟩, e'⟩
  subst S
  try simp only [ok_ok, ok_no, ok_bind, ok_of_some, ok_var, ok_cst, ok_nil, ok_cons, ok_tup, ok_lst, ok_lstM, ok_op2, ok_op1, ok_blt, ok_listM, ok_chain, ok_and, ok_or, ok_not, ok_tval, ok_band, ok_bor, ok_bnot, ok_yes, ok_mif, ok_callM, ok_call, ok_lm, ok_optN, ok_optS, ok_slice, ok_ival, ok_range1, ok_range2, ok_zip, ok_sm, ok_addM, ok_get1, ok_get2, ok_comp, ok_compM, s_skip, s_seq, s_expr, s_asg, s_put, s_ret, s_retN, s_brk, s_cnt, s_if, s_for, s_while, List.map_cons, List.map_nil, List.cons_append, List.nil_append, List.replicate, List.getElem?_cons_zero, List.getElem?_cons_succ, List.set_cons_zero, List.set_cons_succ, Option.some.injEq, exists_eq_left', exists_eq_left, Nat.reduceSub, Nat.reduceAdd, Nat.reduceMul, wipeE, gNm, gNms, gTp, D.int.injEq, true_and, and_true, List.length_cons, List.length_nil, Option.bind_some, idx_ref, ixC_lst, idx_lst, idx_tup, idx_frz, at0, at1, at2, at3, add_int, sub_int, mod_int, fdiv_int, pow18, lt_int, le_int, gt_int, ge_int, tru_bl, tru_int, eq_int, ne_int, eq_str, ne_str, eq_bl, ne_bl, put_ref, putC_lst, ix0, ix1, ix2, ix3, len_lst, len_tup, len_frz, len_ref, lenC_lst, un1_one, tuple_lst, tuple_tup, list_lst, list_tup, slice_tup, slice_lst, it_tup, it_lst, cut_from1, Option.map_some, List.set_set, Nat.reduceLT, Int.reduceLT, if_true, Int.toNat_natCast, mul_mod, mulL, mulR, Int.reduceNeg]
  refine ⟨by unfold big; omega, ?_⟩
  have hO1 : ∀ o ∈ [D.tup [.str "stay"], .str "stay", .str "use", .tup [.str "never"], .str "x", .str "then", encT t], Thg 11 14 o ∧ dsz o ≤ 60 := fun o ho => by
    simp only [List.mem_cons, List.not_mem_nil, or_false] at ho
    have hz := (dsz_T (t := t)).2
    have hz2 := hp.siz
    rcases ho with rfl | rfl | rfl | rfl | rfl | rfl | rfl
    all_goals first | exact ⟨thgB_ok (by decide +kernel), by decide⟩ | exact ⟨hTp, by omega⟩
  have hO2 : ∀ o ∈ [D.str "any", .tup [.str "any", .str "x"], .tup [.str "use", .str "r"]], Thg 23 2 o ∧ dsz o ≤ 60 := fun o ho => by
    simp only [List.mem_cons, List.not_mem_nil, or_false] at ho
    rcases ho with rfl | rfl | rfl
    all_goals exact ⟨thgB_ok (by decide +kernel), by decide⟩
  refine for_gen (e := fun k : Nat => D.int k) (List.range 14) (fun done env S => (∃ (xs : List D) (x7 x8 x9 x10 : Option D), (∀ x ∈ xs, Thg 47 40 x) ∧ xs.length = 22 + 2 * done.length ∧ env = [some (.frz ns), some (.ref 0), some (encS sg), some (.tup (rs.map encRl)), some (.lst ((rs.map (·.1)).map D.str)), some (encT t), some (.lst xs), x7, x8, x9, x10, none, none]) ∧ Fd FC 0 S) rfl ⟨⟨_, _, _, _, _, hxs, by rw [hxl]; rfl, rfl⟩, Fb⟩ ?_ (fun _ _ _ _ => gNone) ?_
  · rintro k rest done env S he ⟨⟨xs, x7, x8, x9, x10, hxs, hxl, rfl⟩, F⟩
    have hdl : done.length < 14 := by
      have := congrArg List.length he
      simp at this
      omega
    refine ⟨_, rfl, ?_⟩
    try simp only [ok_ok, ok_no, ok_bind, ok_of_some, ok_var, ok_cst, ok_nil, ok_cons, ok_tup, ok_lst, ok_lstM, ok_op2, ok_op1, ok_blt, ok_listM, ok_chain, ok_and, ok_or, ok_not, ok_tval, ok_band, ok_bor, ok_bnot, ok_yes, ok_mif, ok_callM, ok_call, ok_lm, ok_optN, ok_optS, ok_slice, ok_ival, ok_range1, ok_range2, ok_zip, ok_sm, ok_addM, ok_get1, ok_get2, ok_comp, ok_compM, s_skip, s_seq, s_expr, s_asg, s_put, s_ret, s_retN, s_brk, s_cnt, s_if, s_for, s_while, List.map_cons, List.map_nil, List.cons_append, List.nil_append, List.replicate, List.getElem?_cons_zero, List.getElem?_cons_succ, List.set_cons_zero, List.set_cons_succ, Option.some.injEq, exists_eq_left', exists_eq_left, Nat.reduceSub, Nat.reduceAdd, Nat.reduceMul, wipeE, gNm, gNms, gTp, D.int.injEq, true_and, and_true, List.length_cons, List.length_nil, Option.bind_some, idx_ref, ixC_lst, idx_lst, idx_tup, idx_frz, at0, at1, at2, at3, add_int, sub_int, mod_int, fdiv_int, pow18, lt_int, le_int, gt_int, ge_int, tru_bl, tru_int, eq_int, ne_int, eq_str, ne_str, eq_bl, ne_bl, put_ref, putC_lst, ix0, ix1, ix2, ix3, len_lst, len_tup, len_frz, len_ref, lenC_lst, un1_one, tuple_lst, tuple_tup, list_lst, list_tup, slice_tup, slice_lst, it_tup, it_lst, cut_from1, Option.map_some, List.set_set, Nat.reduceLT, Int.reduceLT, if_true, Int.toNat_natCast, mul_mod, mulL, mulR, Int.reduceNeg]
    rw [show m + 79 = 14 + (m + 63) + 2 by omega]
    refine ok_ice_val ((bent_ok (L := 11) (D' := 14) (M := 60) (by omega) (by omega) (by omega) (fun o ho => (hO1 o ho).1) (by omega) (fun o ho => (hO1 o ho).2) (by simp) 14 (m + 63) (encT t) S F hTp).mono ?_)
    rintro y1 Sc ⟨hy1, _, gc1⟩
    refine ⟨hy1.ref, ?_⟩
    have Fc := gc1.fd F.lt
    try simp only [ok_ok, ok_no, ok_bind, ok_of_some, ok_var, ok_cst, ok_nil, ok_cons, ok_tup, ok_lst, ok_lstM, ok_op2, ok_op1, ok_blt, ok_listM, ok_chain, ok_and, ok_or, ok_not, ok_tval, ok_band, ok_bor, ok_bnot, ok_yes, ok_mif, ok_callM, ok_call, ok_lm, ok_optN, ok_optS, ok_slice, ok_ival, ok_range1, ok_range2, ok_zip, ok_sm, ok_addM, ok_get1, ok_get2, ok_comp, ok_compM, s_skip, s_seq, s_expr, s_asg, s_put, s_ret, s_retN, s_brk, s_cnt, s_if, s_for, s_while, List.map_cons, List.map_nil, List.cons_append, List.nil_append, List.replicate, List.getElem?_cons_zero, List.getElem?_cons_succ, List.set_cons_zero, List.set_cons_succ, Option.some.injEq, exists_eq_left', exists_eq_left, Nat.reduceSub, Nat.reduceAdd, Nat.reduceMul, wipeE, gNm, gNms, gTp, D.int.injEq, true_and, and_true, List.length_cons, List.length_nil, Option.bind_some, idx_ref, ixC_lst, idx_lst, idx_tup, idx_frz, at0, at1, at2, at3, add_int, sub_int, mod_int, fdiv_int, pow18, lt_int, le_int, gt_int, ge_int, tru_bl, tru_int, eq_int, ne_int, eq_str, ne_str, eq_bl, ne_bl, put_ref, putC_lst, ix0, ix1, ix2, ix3, len_lst, len_tup, len_frz, len_ref, lenC_lst, un1_one, tuple_lst, tuple_tup, list_lst, list_tup, slice_tup, slice_lst, it_tup, it_lst, cut_from1, Option.map_some, List.set_set, Nat.reduceLT, Int.reduceLT, if_true, Int.toNat_natCast, mul_mod, mulL, mulR, Int.reduceNeg]
    rw [show 14 + (m + 63) + 2 = 28 + (m + 49) + 2 by omega]
    refine ok_ice_val ((bent_ok (L := 23) (D' := 2) (M := 60) (by omega) (by omega) (by omega) (fun o ho => (hO2 o ho).1) (by omega) (fun o ho => (hO2 o ho).2) (by simp) 28 (m + 49) y1 Sc Fc (hy1.mono (by omega) (by omega))).mono ?_)
    rintro y2 Sd ⟨hy2, _, gc2⟩
    refine ⟨hy2.ref, ?_⟩
    try simp only [ok_ok, ok_no, ok_bind, ok_of_some, ok_var, ok_cst, ok_nil, ok_cons, ok_tup, ok_lst, ok_lstM, ok_op2, ok_op1, ok_blt, ok_listM, ok_chain, ok_and, ok_or, ok_not, ok_tval, ok_band, ok_bor, ok_bnot, ok_yes, ok_mif, ok_callM, ok_call, ok_lm, ok_optN, ok_optS, ok_slice, ok_ival, ok_range1, ok_range2, ok_zip, ok_sm, ok_addM, ok_get1, ok_get2, ok_comp, ok_compM, s_skip, s_seq, s_expr, s_asg, s_put, s_ret, s_retN, s_brk, s_cnt, s_if, s_for, s_while, List.map_cons, List.map_nil, List.cons_append, List.nil_append, List.replicate, List.getElem?_cons_zero, List.getElem?_cons_succ, List.set_cons_zero, List.set_cons_succ, Option.some.injEq, exists_eq_left', exists_eq_left, Nat.reduceSub, Nat.reduceAdd, Nat.reduceMul, wipeE, gNm, gNms, gTp, D.int.injEq, true_and, and_true, List.length_cons, List.length_nil, Option.bind_some, idx_ref, ixC_lst, idx_lst, idx_tup, idx_frz, at0, at1, at2, at3, add_int, sub_int, mod_int, fdiv_int, pow18, lt_int, le_int, gt_int, ge_int, tru_bl, tru_int, eq_int, ne_int, eq_str, ne_str, eq_bl, ne_bl, put_ref, putC_lst, ix0, ix1, ix2, ix3, len_lst, len_tup, len_frz, len_ref, lenC_lst, un1_one, tuple_lst, tuple_tup, list_lst, list_tup, slice_tup, slice_lst, it_tup, it_lst, cut_from1, Option.map_some, List.set_set, Nat.reduceLT, Int.reduceLT, if_true, Int.toNat_natCast, mul_mod, mulL, mulR, Int.reduceNeg]
    rw [add_lst (by simp; unfold big; omega)]
    try simp only [ok_ok, ok_no, ok_bind, ok_of_some, ok_var, ok_cst, ok_nil, ok_cons, ok_tup, ok_lst, ok_lstM, ok_op2, ok_op1, ok_blt, ok_listM, ok_chain, ok_and, ok_or, ok_not, ok_tval, ok_band, ok_bor, ok_bnot, ok_yes, ok_mif, ok_callM, ok_call, ok_lm, ok_optN, ok_optS, ok_slice, ok_ival, ok_range1, ok_range2, ok_zip, ok_sm, ok_addM, ok_get1, ok_get2, ok_comp, ok_compM, s_skip, s_seq, s_expr, s_asg, s_put, s_ret, s_retN, s_brk, s_cnt, s_if, s_for, s_while, List.map_cons, List.map_nil, List.cons_append, List.nil_append, List.replicate, List.getElem?_cons_zero, List.getElem?_cons_succ, List.set_cons_zero, List.set_cons_succ, Option.some.injEq, exists_eq_left', exists_eq_left, Nat.reduceSub, Nat.reduceAdd, Nat.reduceMul, wipeE, gNm, gNms, gTp, D.int.injEq, true_and, and_true, List.length_cons, List.length_nil, Option.bind_some, idx_ref, ixC_lst, idx_lst, idx_tup, idx_frz, at0, at1, at2, at3, add_int, sub_int, mod_int, fdiv_int, pow18, lt_int, le_int, gt_int, ge_int, tru_bl, tru_int, eq_int, ne_int, eq_str, ne_str, eq_bl, ne_bl, put_ref, putC_lst, ix0, ix1, ix2, ix3, len_lst, len_tup, len_frz, len_ref, lenC_lst, un1_one, tuple_lst, tuple_tup, list_lst, list_tup, slice_tup, slice_lst, it_tup, it_lst, cut_from1, Option.map_some, List.set_set, Nat.reduceLT, Int.reduceLT, if_true, Int.toNat_natCast, mul_mod, mulL, mulR, Int.reduceNeg]
    refine ⟨⟨_, _, _, _, _, fun x hx => ?_, ?_, rfl⟩, gc2.fd Fc.lt⟩
    · rcases List.mem_append.mp hx with z | z
      · exact hxs x z
      · simp only [List.mem_cons, List.not_mem_nil, or_false] at z
        rcases z with rfl | rfl
        · exact hy1.mono (by omega) (by omega)
        · exact hy2.mono (by omega) (by omega)
    · simp; omega
  rintro env S ⟨⟨xs, x7, x8, x9, x10, hxs, hxl, rfl⟩, F⟩
  try simp only [ok_ok, ok_no, ok_bind, ok_of_some, ok_var, ok_cst, ok_nil, ok_cons, ok_tup, ok_lst, ok_lstM, ok_op2, ok_op1, ok_blt, ok_listM, ok_chain, ok_and, ok_or, ok_not, ok_tval, ok_band, ok_bor, ok_bnot, ok_yes, ok_mif, ok_callM, ok_call, ok_lm, ok_optN, ok_optS, ok_slice, ok_ival, ok_range1, ok_range2, ok_zip, ok_sm, ok_addM, ok_get1, ok_get2, ok_comp, ok_compM, s_skip, s_seq, s_expr, s_asg, s_put, s_ret, s_retN, s_brk, s_cnt, s_if, s_for, s_while, List.map_cons, List.map_nil, List.cons_append, List.nil_append, List.replicate, List.getElem?_cons_zero, List.getElem?_cons_succ, List.set_cons_zero, List.set_cons_succ, Option.some.injEq, exists_eq_left', exists_eq_left, Nat.reduceSub, Nat.reduceAdd, Nat.reduceMul, wipeE, gNm, gNms, gTp, D.int.injEq, true_and, and_true, List.length_cons, List.length_nil, Option.bind_some, idx_ref, ixC_lst, idx_lst, idx_tup, idx_frz, at0, at1, at2, at3, add_int, sub_int, mod_int, fdiv_int, pow18, lt_int, le_int, gt_int, ge_int, tru_bl, tru_int, eq_int, ne_int, eq_str, ne_str, eq_bl, ne_bl, put_ref, putC_lst, ix0, ix1, ix2, ix3, len_lst, len_tup, len_frz, len_ref, lenC_lst, un1_one, tuple_lst, tuple_tup, list_lst, list_tup, slice_tup, slice_lst, it_tup, it_lst, cut_from1, Option.map_some, List.set_set, Nat.reduceLT, Int.reduceLT, if_true, Int.toNat_natCast, mul_mod, mulL, mulR, Int.reduceNeg]
  refine comp_enc (e := id) xs (fun _ => D.bl true) (by simp) gNone ?_ ?_
  · intro x hx
    refine ⟨_, rfl, ?_⟩
    try simp only [ok_ok, ok_no, ok_bind, ok_of_some, ok_var, ok_cst, ok_nil, ok_cons, ok_tup, ok_lst, ok_lstM, ok_op2, ok_op1, ok_blt, ok_listM, ok_chain, ok_and, ok_or, ok_not, ok_tval, ok_band, ok_bor, ok_bnot, ok_yes, ok_mif, ok_callM, ok_call, ok_lm, ok_optN, ok_optS, ok_slice, ok_ival, ok_range1, ok_range2, ok_zip, ok_sm, ok_addM, ok_get1, ok_get2, ok_comp, ok_compM, s_skip, s_seq, s_expr, s_asg, s_put, s_ret, s_retN, s_brk, s_cnt, s_if, s_for, s_while, List.map_cons, List.map_nil, List.cons_append, List.nil_append, List.replicate, List.getElem?_cons_zero, List.getElem?_cons_succ, List.set_cons_zero, List.set_cons_succ, Option.some.injEq, exists_eq_left', exists_eq_left, Nat.reduceSub, Nat.reduceAdd, Nat.reduceMul, wipeE, gNm, gNms, gTp, D.int.injEq, true_and, and_true, List.length_cons, List.length_nil, Option.bind_some, idx_ref, ixC_lst, idx_lst, idx_tup, idx_frz, at0, at1, at2, at3, add_int, sub_int, mod_int, fdiv_int, pow18, lt_int, le_int, gt_int, ge_int, tru_bl, tru_int, eq_int, ne_int, eq_str, ne_str, eq_bl, ne_bl, put_ref, putC_lst, ix0, ix1, ix2, ix3, len_lst, len_tup, len_frz, len_ref, lenC_lst, un1_one, tuple_lst, tuple_tup, list_lst, list_tup, slice_tup, slice_lst, it_tup, it_lst, cut_from1, Option.map_some, List.set_set, Nat.reduceLT, Int.reduceLT, if_true, Int.toNat_natCast, mul_mod, mulL, mulR, Int.reduceNeg]
    rw [show m + 79 = 40 + (m + 34) + 5 by omega]
    exact plan_right_call (L := 47) (by omega) (hxs x hx) ⟨rfl, rfl⟩
  · have e2 : (xs.map fun _ => D.bl true) = (xs.map fun _ => true).map D.bl := by rw [List.map_map]; rfl
    rw [e2, nin_fls]
    have e3 : ((xs.map fun _ => true).all id) = true := by simp
    rw [e3]
    refine ⟨_, rfl, gc_bl _ _ _⟩
end RP
open PySem
theorem PySem.Challenge.cw_ruleplans_k06_plans_and_their_parts_holds : PySem.Challenge.rw_ruleplans_k06_plans_and_their_parts.Holds := by
  refine holds_of 79 ⟨rfl, by decide, by decide⟩ fun ns _ => ?_
  obtain ⟨d, st, e, rfl⟩ := (RP.law_true 0 ns).ex
  exact ⟨st, (congrArg (fun n => RP.run (RP.tabOf RP.LL) n "law" [.frz ns] []) (Nat.zero_add 80)).symm.trans e⟩
end
