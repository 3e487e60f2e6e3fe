import PyProof.Rows.All
import Wide.All
import OpenK.AllK
import Wide.FinOn
import PySem.Challenge.RW_blockrooms_k07_names_refused
import HandS.Base
import HandS.Call
import HandS.List
import HandS.Words
import HandS.Comp
import HandS.Wide
import HandS.Exc
import HandS.HeadHook1
import HandS.Deep
import HandS.IsInst
import HandS.Conv
import HandS.TupAny
import HandS.Strs
import HandS.Text
import PyProof.ReprRoads
import HandS.Ends
import HandS.Defaults
import HandS.HeadHook2
import KE.KIsAll
import KE.KTryMore
import HandS.SortInts
import HandS.Iter
import HandS.Zip
import HandS.ExcOwn
import HandS.ExcValue
import HandS.NoneIn
import PyProof.TupleOfSeq
import KE.GoesEnum
import KE.GoesMore
import HandS.Dict
import HandS.DictComp
import HandS.TupMul
import HandS.SetFor
import HandS.FStr
import HandS.RaiseMore
import HandS.WordsExc
import HandS.ExcIs
import HandS.More
import HandS.Head0
import HandS.Head1
import HandS.Head2
import HandS.HeadEnd
import KE.KStateDown
set_option Elab.async false
set_option linter.all false
set_option maxRecDepth 100000
set_option maxHeartbeats 0
/-! The machine that the mirrors run on: data trees, a store of shared cells, slots; total functions, no program in sight. -/
namespace BR
open PySem

inductive D where
  | non
  | bl (b : Bool)
  | int (i : Int)
  | str (s : PySem.Str)
  | ty (n : String)
  | tup (xs : List D)
  | trn (xs : List D)
  | lst (xs : List D)
  | scr (xs : List D)
  | dK (ks : List L2.Key) (vs : List D)
  | dT (ks : List (List L2.Key)) (vs : List D)
  | ref (k : Nat)
  | xc (n : String)
  deriving Inhabited

abbrev Store := List (Option D)
structure Exc where
  cls : String
  arg : Option D
inductive Res (α : Type) where
  | ok (a : α) (S : Store)
  | exc (e : Exc) (S : Store)
  | bad
def Res.bind {α β : Type} (r : Res α) (f : α → Store → Res β) : Res β := match r with
  | .ok a S => f a S
  | .exc e S => .exc e S
  | .bad => .bad
@[simp] theorem bind_ok {α β : Type} (a : α) (S : Store) (f : α → Store → Res β) : (Res.ok a S).bind f = f a S := rfl
@[simp] theorem bind_exc {α β : Type} (e : Exc) (S : Store) (f : α → Store → Res β) : (Res.exc e S).bind f = .exc e S := rfl
@[simp] theorem bind_bad {α β : Type} (f : α → Store → Res β) : (Res.bad : Res α).bind f = .bad := rfl

inductive Slot where
  | no
  | val (d : D)
  | own (d : D)
  deriving Inhabited
abbrev Env := List Slot
abbrev EM := Env → Store → Res D
abbrev TM := Env → Store → Res Bool
abbrev LM := Env → Store → Res (List D)
inductive Out where
  | nx (r : Env)
  | rt (d : D)
  | bk (r : Env)
  | ct (r : Env)
abbrev SM := Env → Store → Res Out
abbrev FM := List D → Store → Res D

/-! ### expressions -/
def eC (d : D) : EM := fun _ S => .ok d S
/-- a slot's value, to be kept -/
def eV (i : Nat) : EM := fun r S => match r[i]? with
  | some (.val d) => .ok d S
  | _ => .bad
/-- a slot's value, to be read -/
def eB (i : Nat) : EM := fun r S => match r[i]? with
  | some (.val d) => .ok d S
  | some (.own d) => .ok d S
  | _ => .bad
def e1 (f : D → Store → Res D) (a : EM) : EM := fun r S => (a r S).bind f
def e2 (f : D → D → Store → Res D) (a b : EM) : EM := fun r S => (a r S).bind fun x S1 => (b r S1).bind fun y S2 => f x y S2
def aN : LM := fun _ S => .ok [] S
def aC (a : EM) (b : LM) : LM := fun r S => (a r S).bind fun x S1 => (b r S1).bind fun xs S2 => .ok (x :: xs) S2
def lim : Nat := 16777216
def eTup (a : LM) : EM := fun r S => (a r S).bind fun xs S1 => if xs.length ≤ lim then .ok (.tup xs) S1 else .bad
def eTrn (a : LM) : EM := fun r S => (a r S).bind fun xs S1 => if xs.length ≤ lim then .ok (.trn xs) S1 else .bad
def eA (f : List D → Store → Res D) (a : LM) : EM := fun r S => (a r S).bind f
/-- a fresh list that is never changed again -/
def eFrz (a : LM) : EM := fun r S => (a r S).bind fun xs S1 => .ok (.lst xs) S1
/-- a fresh list that is shared: a new cell -/
def eNew (a : LM) : EM := fun r S => (a r S).bind fun xs S1 => .ok (.ref S1.length) (S1 ++ [some (.lst xs)])
def eIf (t : TM) (a b : EM) : EM := fun r S => (t r S).bind fun c S1 => if c = true then a r S1 else b r S1
def eT (t : TM) : EM := fun r S => (t r S).bind fun c S1 => .ok (.bl c) S1

/-! ### tests -/
def tE (a : EM) : TM := fun r S => (a r S).bind fun x S1 => match x with
  | .bl b => .ok b S1
  | _ => .bad
def tNot (a : TM) : TM := fun r S => (a r S).bind fun c S1 => .ok (!c) S1
def tAnd (a b : TM) : TM := fun r S => (a r S).bind fun c S1 => if c = true then b r S1 else .ok false S1
def tOr (a b : TM) : TM := fun r S => (a r S).bind fun c S1 => if c = true then .ok true S1 else b r S1
def tYes : TM := fun _ S => .ok true S

/-! ### fresh lists -/
def lLst (a : LM) : LM := fun r S => (a r S).bind fun xs S1 => if xs.length ≤ lim then .ok xs S1 else .bad
def l1 (f : D → Store → Res (List D)) (a : EM) : LM := fun r S => (a r S).bind f
def l2 (f : D → D → Store → Res (List D)) (a b : EM) : LM := fun r S => (a r S).bind fun x S1 => (b r S1).bind fun y S2 => f x y S2
/-- targets -/
abbrev GM := D → Env → Option Env
def gN (i : Nat) : GM := fun d r => some (r.set i (.val d))
def gAll : List GM → List D → Env → Option Env
  | [], [], r => some r
  | g :: gs, d :: ds, r => (g d r).bind (gAll gs ds)
  | _, _, _ => none
def gT (gs : List GM) : GM := fun d r => match d with
  | .tup ds => gAll gs ds r
  | .trn ds => gAll gs ds r
  | _ => none
def wipeE (r : Env) : List Nat → Env
  | [] => r
  | i :: is => (wipeE r is).set i .no
/-- what is walked: these, or the cell k's list as it stands at each turn -/
inductive Src where
  | fix (ds : List D)
  | cell (k : Nat)
abbrev IM := Env → Store → Res Src
def fuel : Nat := 1000000000
def lstAt (S : Store) (k : Nat) : Option (List D) := match S[k]? with
  | some (some (.lst xs)) => some xs
  | _ => none
def lcGo (g : GM) (t : TM) (e : EM) (r : Env) : List D → List D → Store → Res (List D)
  | [], acc, S => .ok acc S
  | d :: ds, acc, S => match g d r with
    | none => .bad
    | some r1 => (t r1 S).bind fun c S1 => if c = true then (e r1 S1).bind fun y S2 => if acc.length < lim then lcGo g t e r ds (acc ++ [y]) S2 else .bad else lcGo g t e r ds acc S1
/-- [e for g in it if t] -/
def lcGoV (k : Nat) (g : GM) (t : TM) (e : EM) (r : Env) : Nat → Nat → List D → Store → Res (List D)
  | 0, _, _, _ => .bad
  | m + 1, i, acc, S => match lstAt S k with
    | none => .bad
    | some ds => match ds[i]? with
      | none => .ok acc S
      | some d => match g d r with
        | none => .bad
        | some r1 => (t r1 S).bind fun c S1 => if c = true then (e r1 S1).bind fun y S2 => if acc.length < lim then lcGoV k g t e r m (i + 1) (acc ++ [y]) S2 else .bad else lcGoV k g t e r m (i + 1) acc S1
def lLc (it : IM) (g : GM) (t : TM) (e : EM) (vs : List Nat) : LM := fun r S => (it r S).bind fun src S1 => match src with
  | .fix ds => lcGo g t e (wipeE r vs) ds [] S1
  | .cell k => lcGoV k g t e (wipeE r vs) fuel 0 [] S1

/-! ### what is walked -/
def big62 : Int := 4611686018427387904
def rangeD (i j : Int) : List D := (List.range (j - i).toNat).map fun (k : Nat) => D.int (i + (k : Int))
def iRange1 (a : EM) : IM := fun r S => (a r S).bind fun x S1 => match x with
  | .int j => if -big62 ≤ j ∧ j < big62 then .ok (.fix (rangeD 0 j)) S1 else .bad
  | _ => .bad
def iRange2 (a b : EM) : IM := fun r S => (a r S).bind fun x S1 => (b r S1).bind fun y S2 => match x, y with
  | .int i, .int j => if -big62 ≤ i ∧ i < big62 ∧ -big62 ≤ j ∧ j < big62 then .ok (.fix (rangeD i j)) S2 else .bad
  | _, _ => .bad
/-! ### statements -/
def mNil : SM := fun r S => .ok (.nx r) S
def mSeq (a b : SM) : SM := fun r S => match a r S with
  | .ok (.nx r1) S1 => b r1 S1
  | x => x
def mSet (g : GM) (e : EM) : SM := fun r S => (e r S).bind fun d S1 => match g d r with
  | some r1 => .ok (.nx r1) S1
  | none => .bad
/-- name = a fresh list of one's own -/
def mOwn (i : Nat) (a : LM) : SM := fun r S => (a r S).bind fun xs S1 => .ok (.nx (r.set i (.own (.lst xs)))) S1
/-- name = {} -/
def mOwnD (i : Nat) (d : D) : SM := fun r S => .ok (.nx (r.set i (.own d))) S
/-- a slot's own list is changed no more -/
def mFrz (i : Nat) (a : SM) : SM := fun r S => match r[i]? with
  | some (.own d) => a (r.set i (.val d)) S
  | _ => a r S
def mIf (t : TM) (a b : SM) : SM := fun r S => (t r S).bind fun c S1 => if c = true then a r S1 else b r S1
def mRet (e : EM) : SM := fun r S => (e r S).bind fun d S1 => .ok (.rt d) S1
def mRetN : SM := fun _ S => .ok (.rt .non) S
def mDrop (e : EM) : SM := fun r S => (e r S).bind fun _ S1 => .ok (.nx r) S1
def mBreak : SM := fun r S => .ok (.bk r) S
def mCont : SM := fun r S => .ok (.ct r) S
def mBad : SM := fun _ _ => .bad
def forGo (g : GM) (b : SM) : List D → SM
  | [], r, S => .ok (.nx r) S
  | d :: ds, r, S => match g d r with
    | none => .bad
    | some r1 => match b r1 S with
      | .ok (.nx r2) S2 => forGo g b ds r2 S2
      | .ok (.ct r2) S2 => forGo g b ds r2 S2
      | .ok (.bk r2) S2 => .ok (.nx r2) S2
      | x => x
def forGoV (k : Nat) (g : GM) (b : SM) : Nat → Nat → SM
  | 0, _, _, _ => .bad
  | m + 1, i, r, S => match lstAt S k with
    | none => .bad
    | some ds => match ds[i]? with
      | none => .ok (.nx r) S
      | some d => match g d r with
        | none => .bad
        | some r1 => match b r1 S with
          | .ok (.nx r2) S2 => forGoV k g b m (i + 1) r2 S2
          | .ok (.ct r2) S2 => forGoV k g b m (i + 1) r2 S2
          | .ok (.bk r2) S2 => .ok (.nx r2) S2
          | x => x
def mFor (it : IM) (g : GM) (b : SM) : SM := fun r S => (it r S).bind fun src S1 => match src with
  | .fix ds => forGo g b ds r S1
  | .cell k => forGoV k g b fuel 0 r S1
def whileGo (t : TM) (b : SM) : Nat → SM
  | 0, _, _ => .bad
  | n + 1, r, S => (t r S).bind fun c S1 => if c = true then (match b r S1 with
      | .ok (.nx r2) S2 => whileGo t b n r2 S2
      | .ok (.ct r2) S2 => whileGo t b n r2 S2
      | .ok (.bk r2) S2 => .ok (.nx r2) S2
      | x => x) else .ok (.nx r) S1
def mWhile (t : TM) (b : SM) : SM := fun r S => whileGo t b fuel r S
/-- name.append(e): the name's own list, or a shared one -/
def mApp (i : Nat) (e : EM) : SM := fun r S => match r[i]? with
  | some (.own (.lst xs)) => (e r S).bind fun d S1 => if xs.length < lim then .ok (.nx (r.set i (.own (.lst (xs ++ [d]))))) S1 else .bad
  | some (.val (.ref k)) => (match lstAt S k with
    | some _ => (e r S).bind fun d S1 => (match lstAt S1 k with
      | some xs => if xs.length < lim then .ok (.nx r) (S1.set k (some (.lst (xs ++ [d])))) else .bad
      | none => .bad)
    | none => .bad)
  | _ => .bad
/-- name.extend(e) of the name's own list -/
def mExt (i : Nat) (e : EM) : SM := fun r S => match r[i]? with
  | some (.own (.lst xs)) => (e r S).bind fun d S1 => match d with
    | .lst ys => if xs.length + ys.length ≤ lim then .ok (.nx (r.set i (.own (.lst (xs ++ ys))))) S1 else .bad
    | _ => .bad
  | _ => .bad
/-- target = name.pop() of the name's own list -/
def mPop (g : GM) (i : Nat) : SM := fun r S => match r[i]? with
  | some (.own (.lst xs)) => (match xs[xs.length - 1]? with
    | some y => (match g y (r.set i (.own (.lst xs.dropLast))) with
      | some r1 => .ok (.nx r1) S
      | none => .bad)
    | none => .bad)
  | _ => .bad
def start (n : Nat) (ds : List D) : Env := ds.map Slot.val ++ List.replicate (n - ds.length) Slot.no
def runF (n : Nat) (m : SM) : FM := fun ds S => match m (start n ds) S with
  | .ok (.rt d) S1 => .ok d S1
  | .ok (.nx _) S1 => .ok .non S1
  | .ok _ _ => .bad
  | .exc e S1 => .exc e S1
  | .bad => .bad

/-! ### operations on values -/
def okI (c : Bool) (d : D) (S : Store) : Res D := if c = true then .ok d S else .bad
@[simp] theorem okI_true (d : D) (S : Store) : okI true d S = .ok d S := rfl
/-- what stands at a value: a cell's content, else itself -/
def vw (S : Store) : D → Option D
  | .ref k => match S[k]? with
    | some (some c) => some c
    | _ => none
  | d => some d
def seqD : D → Option (List D)
  | .tup xs => some xs
  | .trn xs => some xs
  | .lst xs => some xs
  | .scr xs => some xs
  | _ => none
def seqS (S : Store) (d : D) : Option (List D) := (vw S d).bind seqD
def iSeq (a : EM) : IM := fun r S => (a r S).bind fun x S1 => match x with
  | .ref k => (match lstAt S1 k with
    | some _ => .ok (.cell k) S1
    | none => .bad)
  | x => (match seqD x with
    | some xs => .ok (.fix xs) S1
    | none => .bad)
def dAdd : D → D → Store → Res D
  | .int i, .int j, S => .ok (.int (i + j)) S
  | .str x, .str y, S => okI (decide (x.length + y.length ≤ lim)) (.str (x ++ y)) S
  | .tup xs, .tup ys, S => okI (decide (xs.length + ys.length ≤ lim)) (.tup (xs ++ ys)) S
  | .trn xs, .tup ys, S => okI (decide (xs.length + ys.length ≤ lim ∧ xs ≠ [] ∧ ys ≠ [])) (.tup (xs ++ ys)) S
  | .tup xs, .trn ys, S => okI (decide (xs.length + ys.length ≤ lim ∧ xs ≠ [] ∧ ys ≠ [])) (.tup (xs ++ ys)) S
  | .trn xs, .trn ys, S => okI (decide (xs.length + ys.length ≤ lim ∧ xs ≠ [] ∧ ys ≠ [])) (.tup (xs ++ ys)) S
  | .lst xs, .lst ys, S => okI (decide (xs.length + ys.length ≤ lim)) (.lst (xs ++ ys)) S
  | _, _, _ => .bad
def dSub : D → D → Store → Res D
  | .int i, .int j, S => .ok (.int (i - j)) S
  | _, _, _ => .bad
def okRep (n : Nat) (k : Int) : Bool := decide (-9223372036854775808 ≤ k ∧ k < 9223372036854775808 ∧ n * k.toNat ≤ lim)
def dMul : D → D → Store → Res D
  | .int i, .int j, S => okI (decide (i.natAbs.log2 + j.natAbs.log2 < 1000000)) (.int (i * j)) S
  | .lst xs, .int k, S => okI (okRep xs.length k) (.lst (List.replicate k.toNat xs).flatten) S
  | _, _, _ => .bad
def dFdiv : D → D → Store → Res D
  | .int i, .int j, S => okI (decide (0 < j ∧ j.natAbs.log2 < 9000)) (.int (i / j)) S
  | _, _, _ => .bad
def dMod : D → D → Store → Res D
  | .int i, .int j, S => okI (decide (0 < j)) (.int (i % j)) S
  | _, _, _ => .bad
def dPow : D → D → Store → Res D
  | .int i, .int j, S => okI (decide (0 ≤ j ∧ j ≤ 1000000 ∧ i.natAbs < 18446744073709551616)) (.int (i ^ j.toNat)) S
  | _, _, _ => .bad
def dNeg : D → Store → Res D
  | .int i, S => .ok (.int (-i)) S
  | _, _ => .bad
def dLt : D → D → Store → Res D
  | .int i, .int j, S => .ok (.bl (decide (i < j))) S
  | _, _, _ => .bad
def dLe : D → D → Store → Res D
  | .int i, .int j, S => .ok (.bl (decide (i ≤ j))) S
  | _, _, _ => .bad
def dGt : D → D → Store → Res D
  | .int i, .int j, S => .ok (.bl (decide (j < i))) S
  | _, _, _ => .bad
def dGe : D → D → Store → Res D
  | .int i, .int j, S => .ok (.bl (decide (j ≤ i))) S
  | _, _, _ => .bad
def isNon : D → Bool
  | .non => true
  | _ => false
def dIs : D → D → Store → Res D
  | x, .non, S => .ok (.bl (isNon x)) S
  | _, _, _ => .bad
def dIsNot : D → D → Store → Res D
  | x, .non, S => .ok (.bl (!isNon x)) S
  | _, _, _ => .bad
/-! == -/
def flatD : D → Bool
  | .non | .bl _ | .int _ | .str _ => true
  | _ => false
def eqF : D → D → Bool
  | .non, .non => true
  | .bl a, .bl b => a == b
  | .bl a, .int b => (if a then 1 else 0) == b
  | .int a, .bl b => a == (if b then 1 else 0)
  | .int a, .int b => a == b
  | .str a, .str b => a == b
  | _, _ => false
mutual
def toP : D → PyData
  | .bl b => .bool b
  | .int i => .int i
  | .str s => .str s
  | .tup ds => .tuple (toPs ds)
  | .trn ds => .tuple (toPs ds)
  | .lst ds => .list (toPs ds)
  | .scr ds => .list (toPs ds)
  | .non | .ty _ | .dK _ _ | .dT _ _ | .ref _ | .xc _ => .none
def toPs : List D → List PyData
  | [] => []
  | d :: ds => toP d :: toPs ds
end
/-- of a depth of less than k, without cells -/
def okP : Nat → D → Bool
  | 0, _ => false
  | k + 1, d => match d with
    | .non | .bl _ | .int _ => true
    | .str s => PyData.strOk s
    | .tup ds => ds.all (okP k)
    | .trn ds => ds.all (okP k)
    | .lst ds => ds.all (okP k)
    | .scr ds => ds.all (okP k)
    | .ty _ | .dK _ _ | .dT _ _ | .ref _ | .xc _ => false
def eqD (x y : D) : Bool := PyData.eqv (toP x) (toP y)
def deep : Nat := 60
def dEq (x y : D) (S : Store) : Res D := match vw S x, vw S y with
  | some a, some b => okI (okP deep a && okP deep b) (.bl (eqD a b)) S
  | _, _ => .bad
def dNe (x y : D) (S : Store) : Res D := match vw S x, vw S y with
  | some a, some b => okI (okP deep a && okP deep b) (.bl (!eqD a b)) S
  | _, _ => .bad
/-- x in y -/
def inD (x y : D) (S : Store) : Option Bool := match vw S y with
  | some (.tup ds) => if (flatD x && ds.all flatD) = true then some (ds.any fun z => eqF z x) else none
  | some (.trn ds) => if (flatD x && ds.all flatD) = true then some (ds.any fun z => eqF z x) else none
  | some (.lst ds) => if (okP deep x && okP deep (.lst ds)) = true then some (ds.any fun z => eqD z x) else none
  | some (.scr ds) => if (okP deep x && okP deep (.scr ds)) = true then some (ds.any fun z => eqD z x) else none
  | _ => none
def dIn (x y : D) (S : Store) : Res D := match inD x y S with
  | some b => .ok (.bl b) S
  | none => .bad
def dNotIn (x y : D) (S : Store) : Res D := match inD x y S with
  | some b => .ok (.bl (!b)) S
  | none => .bad
def dLen (d : D) (S : Store) : Res D := match vw S d with
  | some (.str x) => okI (decide (x.length ≤ lim)) (.int x.length) S
  | some c => (match seqD c with
    | some xs => .ok (.int xs.length) S
    | none => .bad)
  | none => .bad
/-- xs[i] -/
def dIdx (d i : D) (S : Store) : Res D := match i with
  | .int j => (match seqS S d with
    | some xs => (match L2.atI xs j with
      | some x => .ok x S
      | none => .bad)
    | none => .bad)
  | _ => .bad
/-- list(x), tuple(x) -/
def lList (d : D) (S : Store) : Res (List D) := match seqS S d with
  | some xs => .ok xs S
  | none => .bad
def dTuple (d : D) (S : Store) : Res D := match vw S d with
  | some (.tup xs) => .ok (.tup xs) S
  | some (.trn xs) => .ok (.trn xs) S
  | some (.lst xs) => .ok (.tup xs) S
  | some (.scr xs) => .ok (.tup xs) S
  | _ => .bad
def dTrn (d : D) (S : Store) : Res D := match vw S d with
  | some (.tup xs) => .ok (.tup xs) S
  | some (.trn xs) => .ok (.trn xs) S
  | some (.lst xs) => .ok (.trn xs) S
  | some (.scr xs) => .ok (.trn xs) S
  | _ => .bad
def blsD : List D → Option (List Bool)
  | [] => some []
  | .bl b :: ds => (blsD ds).map (b :: ·)
  | _ => none
def intsD : List D → Option (List Int)
  | [] => some []
  | .int i :: ds => (intsD ds).map (i :: ·)
  | _ => none
def lstD : D → Option (List D)
  | .lst xs => some xs
  | .scr xs => some xs
  | _ => none
def lstS (S : Store) (d : D) : Option (List D) := (vw S d).bind lstD
def dAll (d : D) (S : Store) : Res D := match (lstS S d).bind blsD with
  | some bs => .ok (.bl (bs.all id)) S
  | none => .bad
def dAny (d : D) (S : Store) : Res D := match (lstS S d).bind blsD with
  | some bs => .ok (.bl (bs.any id)) S
  | none => .bad
def dSum (d : D) (S : Store) : Res D := match (lstS S d).bind intsD with
  | some is => .ok (.int is.sum) S
  | none => .bad
def dMax2 : D → D → Store → Res D
  | .int i, .int j, S => .ok (.int (if j > i then j else i)) S
  | _, _, _ => .bad
def dMin2 : D → D → Store → Res D
  | .int i, .int j, S => .ok (.int (if j < i then j else i)) S
  | _, _, _ => .bad
def dAbs : D → Store → Res D
  | .int i, S => .ok (.int (if i < 0 then -i else i)) S
  | _, _ => .bad
def dInt : D → Store → Res D
  | .int i, S => .ok (.int i) S
  | .bl b, S => .ok (.int (if b then 1 else 0)) S
  | _, _ => .bad
/-- a value's built-in type -/
def tyD : D → String
  | .non => "NoneType"
  | .bl _ => "bool"
  | .int _ => "int"
  | .str _ => "str"
  | .ty _ => "type"
  | .tup _ | .trn _ => "tuple"
  | .lst _ | .scr _ => "list"
  | .dK _ _ | .dT _ _ => "dict"
  | .ref _ | .xc _ => "object"
def subTy (t c : String) : Bool := t == c || (t == "bool" && c == "int")
def dIsi (c : List String) (d : D) (S : Store) : Res D := match vw S d with
  | some (.ty _) => .bad
  | some (.ref _) => .bad
  | some (.xc _) => .bad
  | some x => .ok (.bl (c.any fun t => subTy (tyD x) t)) S
  | none => .bad
/-- xs[a:b] of a list: new -/
def cutD (xs : List D) (lo hi : Option Int) : List D := (xs.drop (HT.sIx xs.length 0 lo)).take (HT.sIx xs.length xs.length hi - HT.sIx xs.length 0 lo)
def partD : Option D → Option (Option Int)
  | none => some none
  | some (.int i) => some (some i)
  | some _ => none
abbrev PM := Env → Store → Res (Option Int)
def pNo : PM := fun _ S => .ok none S
def pSo (a : EM) : PM := fun r S => (a r S).bind fun x S1 => match x with
  | .int i => .ok (some i) S1
  | _ => .bad
def cutT (z : PySem.Str) (lo hi : Option Int) : PySem.Str := ⟨((z.cps.toList.drop (HT.sIx z.length 0 lo)).take (HT.sIx z.length z.length hi - HT.sIx z.length 0 lo)).toArray⟩
def lSl (a : EM) (lo hi : PM) : LM := fun r S => (a r S).bind fun x S1 => (lo r S1).bind fun i S2 => (hi r S2).bind fun j S3 => match (vw S3 x).bind lstD with
  | some xs => .ok (cutD xs i j) S3
  | none => .bad
def eSl (a : EM) (lo hi : PM) : EM := fun r S => (a r S).bind fun x S1 => (lo r S1).bind fun i S2 => (hi r S2).bind fun j S3 => match vw S3 x with
  | some (.lst xs) => .ok (.lst (cutD xs i j)) S3
  | some (.scr xs) => .ok (.lst (cutD xs i j)) S3
  | some (.tup xs) => .ok (.tup (cutD xs i j)) S3
  | some (.str x) => okI (decide (x.length ≤ lim)) (.str (cutT x i j)) S3
  | _ => .bad
/-- repr -/
def dRepr (d : D) (S : Store) : Res D := match vw S d with
  | some c => okI (okP deep c && (toP c).showable && decide ((toP c).shown.length ≤ lim)) (.str (toP c).shown) S
  | none => .bad
/-- name[i] = e, o[i] = e -/
def mSetV (x : Nat) (i e : EM) : SM := fun r S => (e r S).bind fun v S1 => match r[x]? with
  | some (.own (.lst xs)) => (i r S1).bind fun j S2 => (match j with
    | .int n => (match L2.ixN xs.length n with
      | some p => .ok (.nx (r.set x (.own (.lst (xs.set p v))))) S2
      | none => .bad)
    | _ => .bad)
  | _ => .bad
def mSetE (o i e : EM) : SM := fun r S => (e r S).bind fun v S1 => (o r S1).bind fun x S2 => (i r S2).bind fun j S3 => match x, j with
  | .ref k, .int n => (match lstAt S3 k with
    | some xs => (match L2.ixN xs.length n with
      | some p => .ok (.nx r) (S3.set k (some (.lst (xs.set p v))))
      | none => .bad)
    | none => .bad)
  | _, _ => .bad
/-- o.append(e), o.pop(i), o.pop() of a shared list -/
def mAppE (o e : EM) : SM := fun r S => (o r S).bind fun x S1 => match x with
  | .ref k => (match lstAt S1 k with
    | some _ => (e r S1).bind fun v S2 => (match lstAt S2 k with
      | some xs => if xs.length < lim then .ok (.nx r) (S2.set k (some (.lst (xs ++ [v])))) else .bad
      | none => .bad)
    | none => .bad)
  | _ => .bad
def ePopAt (o i : EM) : EM := fun r S => (o r S).bind fun x S1 => match x with
  | .ref k => (match lstAt S1 k with
    | some _ => (i r S1).bind fun j S2 => (match lstAt S2 k, j with
      | some xs, .int n => if -9223372036854775808 ≤ n ∧ n < 9223372036854775808 then (match L2.ixN xs.length n with
        | some p => (match xs[p]? with
          | some y => .ok y (S2.set k (some (.lst (xs.eraseIdx p))))
          | none => .bad)
        | none => .bad) else .bad
      | _, _ => .bad)
    | none => .bad)
  | _ => .bad
def ePop (o : EM) : EM := fun r S => (o r S).bind fun x S1 => match x with
  | .ref k => (match lstAt S1 k with
    | some xs => (match xs[xs.length - 1]? with
      | some y => .ok y (S1.set k (some (.lst xs.dropLast)))
      | none => .bad)
    | none => .bad)
  | _ => .bad
/-- the first place of an equal flat one -/
def idxOf (x : D) : List D → Nat → Option Nat
  | [], _ => none
  | d :: ds, k => if eqF d x = true then some k else idxOf x ds (k + 1)
def dIndexL (xs x : D) (S : Store) : Res D := match lstS S xs with
  | some ds => if (flatD x && ds.all flatD) = true then (match idxOf x ds 0 with
    | some k => .ok (.int k) S
    | none => .bad) else .bad
  | none => .bad
def dIndexT (xs x : D) (S : Store) : Res D := match xs with
  | .trn ds => if (flatD x && ds.all flatD) = true then (match idxOf x ds 0 with
    | some k => .ok (.int k) S
    | none => .bad) else .bad
  | _ => .bad
def eIndexL (o i : EM) : EM := fun r S => (o r S).bind fun x S1 => match lstS S1 x with
  | some _ => (i r S1).bind fun y S2 => dIndexL x y S2
  | none => .bad
def eIndexT (o i : EM) : EM := fun r S => (o r S).bind fun x S1 => match x with
  | .trn ds => (i r S1).bind fun y S2 => dIndexT (.trn ds) y S2
  | _ => .bad
end BR

/-! The machine against the hand layer: what stands for what, and what an evaluation may change. -/
namespace BR
open PySem PySem.Spec PyProof.Rows L2

/-- a tuple without a dict of its own -/
def TrN (K : PySem.W.Frag) (G : Hp) (a : Addr) (vs : List V) : Prop := (∃ o, G a = some (.frz o (.tup vs)) ∧ o.dict = none) ∨
  ∃ (o : Obj) (its : Array Value) (n : Nat), K.lookup a = some o ∧ o.cls = .type "tuple" ∧ o.dict = none ∧ o.data = .seq its n ∧ its.size ≤ sizeLine ∧ Vals vs its.toList
theorem TrN.sq {K : PySem.W.Frag} {G : Hp} {a : Addr} {vs : List V} (h : TrN K G a vs) : SqT K G a vs := by
  rcases h with ⟨o, h, _⟩ | ⟨o, its, n, h1, h2, _, h4, h5, h6⟩
  · exact .inl (.inr ⟨o, h⟩)
  · exact .inr ⟨o, its, n, h1, h2, h4, h5, h6⟩
/-- an exception of the class cls, at a -/
def ExV (cls : Value) (a : Addr) : HO := .ext fun h => ∃ (oe : Obj) (vs : Array Value), h.get? a = some oe ∧ Zc cls none oe ∧ oe.data = .fields vs
/-- the class of this name -/
def clsV (K : PySem.W.Frag) (n : String) : Value := .ref (He.ga K (PySem.Str.ofString n))
mutual
def Rel (K : PySem.W.Frag) (G : Hp) (n : List Addr) : D → V → Prop
  | .non, v => v = .non
  | .bl b, v => v = .bl b
  | .int i, v => v = .int i
  | .str s, v => v = .str s
  | .ty t, v => v = .ty t
  | .tup ds, v => ∃ a vs, v = .ref a ∧ G a = some (.tup vs) ∧ RelL K G n ds vs
  | .trn ds, v => ∃ a vs, v = .ref a ∧ TrN K G a vs ∧ RelL K G n ds vs
  | .lst ds, v => ∃ a vs, v = .ref a ∧ G a = some (.lst vs) ∧ RelL K G n ds vs
  | .scr ds, v => ∃ a vs, v = .ref a ∧ SqL K G a vs ∧ RelL K G n ds vs
  | .dK ks ds, v => ∃ a kvs, v = .ref a ∧ G a = some (.dK kvs) ∧ ks = kvs.map (·.1) ∧ RelL K G n ds (kvs.map (·.2))
  | .dT ks ds, v => ∃ a kvs, v = .ref a ∧ G a = some (.dT kvs) ∧ ks = kvs.map (·.1) ∧ RelL K G n ds (kvs.map (·.2))
  | .ref k, v => ∃ a, v = .ref a ∧ n[k]? = some a
  | .xc x, v => ∃ a, v = .ref a ∧ G a = some (ExV (clsV K x) a)
def RelL (K : PySem.W.Frag) (G : Hp) (n : List Addr) : List D → List V → Prop
  | [], vs => vs = []
  | d :: ds, vs => ∃ v r, vs = v :: r ∧ Rel K G n d v ∧ RelL K G n ds r
end
/-- what stands at a changing object -/
def HoR (K : PySem.W.Frag) (G : Hp) (n : List Addr) : D → HO → Prop
  | .lst ds, o => ∃ vs, o = .lst vs ∧ RelL K G n ds vs
  | .dK ks ds, o => ∃ kvs, o = .dK kvs ∧ ks = kvs.map (·.1) ∧ RelL K G n ds (kvs.map (·.2))
  | .dT ks ds, o => ∃ kvs, o = .dT kvs ∧ ks = kvs.map (·.1) ∧ RelL K G n ds (kvs.map (·.2))
  | _, _ => False
def Sub (G G' : Hp) : Prop := ∀ a o, G a = some o → G' a = some o
theorem Sub.refl (G : Hp) : Sub G G := fun _ _ h => h
theorem Sub.trans {A B C : Hp} (x : Sub A B) (y : Sub B C) : Sub A C := fun a o h => y a o (x a o h)
theorem Sub.rd {G G' : Hp} (h : Sub G G') {a : Addr} {u : HO} (r : Rd G a u) : Rd G' a u := by
  rcases r with r | ⟨o, r⟩
  · exact .inl (h _ _ r)
  · exact .inr ⟨o, h _ _ r⟩
theorem Sub.sl {K : PySem.W.Frag} {G G' : Hp} (h : Sub G G') {a : Addr} {xs : List V} (r : SqL K G a xs) : SqL K G' a xs := by
  rcases r with r | r
  · exact .inl (h.rd r)
  · exact .inr r
theorem Sub.st {K : PySem.W.Frag} {G G' : Hp} (h : Sub G G') {a : Addr} {xs : List V} (r : SqT K G a xs) : SqT K G' a xs := by
  rcases r with r | r
  · exact .inl (h.rd r)
  · exact .inr r
theorem Sub.tn {K : PySem.W.Frag} {G G' : Hp} (h : Sub G G') {a : Addr} {xs : List V} (r : TrN K G a xs) : TrN K G' a xs := by
  rcases r with ⟨o, r, z⟩ | r
  · exact .inl ⟨o, h _ _ r, z⟩
  · exact .inr r
def Pre (n n' : List Addr) : Prop := ∃ t, n' = n ++ t
theorem Pre.refl (n : List Addr) : Pre n n := ⟨[], by simp⟩
theorem Pre.trans {a b c : List Addr} (x : Pre a b) (y : Pre b c) : Pre a c := by
  obtain ⟨s, rfl⟩ := x
  obtain ⟨t, rfl⟩ := y
  exact ⟨s ++ t, by simp⟩
theorem Pre.get {n n' : List Addr} (h : Pre n n') {k : Nat} {a : Addr} (e : n[k]? = some a) : n'[k]? = some a := by
  obtain ⟨t, rfl⟩ := h
  have hk : k < n.length := (List.getElem?_eq_some_iff.mp e).1
  rw [List.getElem?_append_left hk]
  exact e
theorem Pre.len {n n' : List Addr} (h : Pre n n') : n.length ≤ n'.length := by
  obtain ⟨t, rfl⟩ := h
  simp
theorem Pre.back {n n' : List Addr} (h : Pre n n') {k : Nat} {a : Addr} (e : n'[k]? = some a) (hk : k < n.length) : n[k]? = some a := by
  obtain ⟨t, rfl⟩ := h
  rw [List.getElem?_append_left hk] at e
  exact e

section
variable {K : PySem.W.Frag} {G G' : Hp} {n n' : List Addr}
mutual
theorem Rel.mono (hs : Sub G G') (hp : Pre n n') : ∀ (d : D) (v : V), Rel K G n d v → Rel K G' n' d v
  | .non, _, h | .bl _, _, h | .int _, _, h | .str _, _, h | .ty _, _, h => by
    simpa only [Rel] using h
  | .tup ds, v, h => by
    simp only [Rel] at h ⊢
    obtain ⟨a, vs, e, s, r⟩ := h
    exact ⟨a, vs, e, hs _ _ s, RelL.mono hs hp ds vs r⟩
  | .trn ds, v, h => by
    simp only [Rel] at h ⊢
    obtain ⟨a, vs, e, s, r⟩ := h
    exact ⟨a, vs, e, hs.tn s, RelL.mono hs hp ds vs r⟩
  | .lst ds, v, h => by
    simp only [Rel] at h ⊢
    obtain ⟨a, vs, e, s, r⟩ := h
    exact ⟨a, vs, e, hs _ _ s, RelL.mono hs hp ds vs r⟩
  | .scr ds, v, h => by
    simp only [Rel] at h ⊢
    obtain ⟨a, vs, e, s, r⟩ := h
    exact ⟨a, vs, e, hs.sl s, RelL.mono hs hp ds vs r⟩
  | .dK ks ds, v, h => by
    simp only [Rel] at h ⊢
    obtain ⟨a, kvs, e, s, ek, r⟩ := h
    exact ⟨a, kvs, e, hs _ _ s, ek, RelL.mono hs hp ds _ r⟩
  | .dT ks ds, v, h => by
    simp only [Rel] at h ⊢
    obtain ⟨a, kvs, e, s, ek, r⟩ := h
    exact ⟨a, kvs, e, hs _ _ s, ek, RelL.mono hs hp ds _ r⟩
  | .ref k, v, h => by
    simp only [Rel] at h ⊢
    obtain ⟨a, e, s⟩ := h
    exact ⟨a, e, hp.get s⟩
  | .xc x, v, h => by
    simp only [Rel] at h ⊢
    obtain ⟨a, e, s⟩ := h
    exact ⟨a, e, hs _ _ s⟩
theorem RelL.mono (hs : Sub G G') (hp : Pre n n') : ∀ (ds : List D) (vs : List V), RelL K G n ds vs → RelL K G' n' ds vs
  | [], vs, h => by simpa only [RelL] using h
  | d :: ds, vs, h => by
    simp only [RelL] at h ⊢
    obtain ⟨v, r, e, h1, h2⟩ := h
    exact ⟨v, r, e, Rel.mono hs hp d v h1, RelL.mono hs hp ds r h2⟩
end
theorem HoR.mono (hs : Sub G G') (hp : Pre n n') : ∀ (d : D) (o : HO), HoR K G n d o → HoR K G' n' d o
  | .lst ds, o, ⟨vs, e, r⟩ => ⟨vs, e, RelL.mono hs hp _ _ r⟩
  | .dK ks ds, o, ⟨kvs, e, ek, r⟩ => ⟨kvs, e, ek, RelL.mono hs hp _ _ r⟩
  | .dT ks ds, o, ⟨kvs, e, ek, r⟩ => ⟨kvs, e, ek, RelL.mono hs hp _ _ r⟩
  | .non, _, h | .bl _, _, h | .int _, _, h | .str _, _, h | .ty _, _, h | .tup _, _, h | .trn _, _, h | .scr _, _, h | .ref _, _, h | .xc _, _, h => h.elim
theorem RelL.len : ∀ {ds : List D} {vs : List V}, RelL K G n ds vs → ds.length = vs.length
  | [], vs, h => by simp only [RelL] at h; subst h; rfl
  | d :: ds, vs, h => by
    simp only [RelL] at h
    obtain ⟨v, r, e, _, h2⟩ := h
    subst e
    simp [h2.len]
theorem RelL.cons {d : D} {ds : List D} {v : V} {vs : List V} (h : Rel K G n d v) (hr : RelL K G n ds vs) : RelL K G n (d :: ds) (v :: vs) := by
  simp only [RelL]
  exact ⟨v, vs, rfl, h, hr⟩
theorem RelL.nil : RelL K G n [] [] := by simp only [RelL]
theorem RelL.append : ∀ {ds es : List D} {vs ws : List V}, RelL K G n ds vs → RelL K G n es ws → RelL K G n (ds ++ es) (vs ++ ws)
  | [], es, vs, ws, h, h2 => by simp only [RelL] at h; subst h; exact h2
  | d :: ds, es, vs, ws, h, h2 => by
    simp only [RelL] at h
    obtain ⟨v, r, e, h3, h4⟩ := h
    subst e
    exact .cons h3 (RelL.append h4 h2)
theorem RelL.get : ∀ {ds : List D} {vs : List V} {i : Nat} {d : D}, RelL K G n ds vs → ds[i]? = some d → ∃ v, vs[i]? = some v ∧ Rel K G n d v
  | [], _, _, _, _, e => by simp at e
  | d :: ds, vs, i, x, h, e => by
    simp only [RelL] at h
    obtain ⟨v, r, ev, h3, h4⟩ := h
    subst ev
    cases i with
    | zero => simp at e; subst e; exact ⟨v, rfl, h3⟩
    | succ i => simpa using RelL.get (i := i) h4 (by simpa using e)
theorem RelL.set : ∀ {ds : List D} {vs : List V} (i : Nat) {d : D} {v : V}, RelL K G n ds vs → Rel K G n d v → RelL K G n (ds.set i d) (vs.set i v)
  | [], _, _, _, _, h, _ => by simp only [RelL] at h; subst h; exact .nil
  | d :: ds, vs, i, x, y, h, hx => by
    simp only [RelL] at h
    obtain ⟨v, r, ev, h3, h4⟩ := h
    subst ev
    cases i with
    | zero => exact .cons hx h4
    | succ i => exact .cons h3 (RelL.set i h4 hx)
theorem RelL.take : ∀ {ds : List D} {vs : List V} (k : Nat), RelL K G n ds vs → RelL K G n (ds.take k) (vs.take k)
  | [], _, k, h => by simp only [RelL] at h; subst h; simp; exact .nil
  | d :: ds, vs, k, h => by
    simp only [RelL] at h
    obtain ⟨v, r, ev, h3, h4⟩ := h
    subst ev
    cases k with
    | zero => exact .nil
    | succ k => exact .cons h3 (h4.take k)
theorem RelL.drop : ∀ {ds : List D} {vs : List V} (k : Nat), RelL K G n ds vs → RelL K G n (ds.drop k) (vs.drop k)
  | [], _, k, h => by simp only [RelL] at h; subst h; simp; exact .nil
  | d :: ds, vs, k, h => by
    have h0 := h
    simp only [RelL] at h
    obtain ⟨v, r, ev, h3, h4⟩ := h
    subst ev
    cases k with
    | zero => exact h0
    | succ k => exact h4.drop k
theorem RelL.erase : ∀ {ds : List D} {vs : List V} (k : Nat), RelL K G n ds vs → RelL K G n (ds.eraseIdx k) (vs.eraseIdx k)
  | [], _, k, h => by simp only [RelL] at h; subst h; exact .nil
  | d :: ds, vs, k, h => by
    simp only [RelL] at h
    obtain ⟨v, r, ev, h3, h4⟩ := h
    subst ev
    cases k with
    | zero => exact h4
    | succ k => exact .cons h3 (h4.erase k)
end

/-! ### states -/
def Live (n : List Addr) (S : Store) (a : Addr) : Prop := ∃ (k : Nat) (d : D), n[k]? = some a ∧ S[k]? = some (some d)
structure SR (K : PySem.W.Frag) (G : Hp) (n : List Addr) (S : Store) (H : Hp) : Prop where
  sub : Sub G H
  len : n.length = S.length
  cell : ∀ (k : Nat) (a : Addr) (d : D), n[k]? = some a → S[k]? = some (some d) → G a = none ∧ ∃ o, H a = some o ∧ HoR K G n d o
  inj : ∀ (j k : Nat) (a : Addr) (d e : D), n[j]? = some a → S[j]? = some (some d) → n[k]? = some a → S[k]? = some (some e) → j = k
theorem SR.live {K : PySem.W.Frag} {G : Hp} {n : List Addr} {S : Store} {H : Hp} (h : SR K G n S H) {a : Addr} (l : Live n S a) : G a = none ∧ ∃ o, H a = some o := by
  obtain ⟨k, d, e1, e2⟩ := l
  obtain ⟨g, o, ho, _⟩ := h.cell k a d e1 e2
  exact ⟨g, o, ho⟩
structure ER (K : PySem.W.Frag) (G : Hp) (n : List Addr) (S : Store) (H : Hp) (r : Env) (σ : L2.St) : Prop where
  len : r.length = σ.length
  val : ∀ (i : Nat) (d : D), r[i]? = some (.val d) → ∃ v, σ[i]? = some (some v) ∧ Rel K G n d v
  own : ∀ (i : Nat) (d : D), r[i]? = some (.own d) → ∃ a o, σ[i]? = some (some (.ref a)) ∧ G a = none ∧ ¬ Live n S a ∧ H a = some o ∧ HoR K G n d o
  inj : ∀ (i j : Nat) (a : Addr) (d e : D), r[i]? = some (.own d) → σ[i]? = some (some (.ref a)) → r[j]? = some (.own e) → σ[j]? = some (some (.ref a)) → i = j
def Own (r : Env) (σ : L2.St) (a : Addr) : Prop := ∃ (i : Nat) (d : D), r[i]? = some (.own d) ∧ σ[i]? = some (some (.ref a))
def NoO : Addr → Prop := fun _ => False
structure Post (K : PySem.W.Frag) (O : Addr → Prop) (G : Hp) (n : List Addr) (S : Store) (H : Hp) (G' : Hp) (n' : List Addr) (S' : Store) (H' : Hp) : Prop where
  sr0 : SR K G n S H
  sr : SR K G' n' S' H'
  sub : Sub G G'
  eta : Pre n n'
  frame : ∀ a o, H a = some o → ¬ Live n S a → ¬ O a → H' a = some o
  there : ∀ a o, H a = some o → ∃ o', H' a = some o'
  newc : ∀ (k : Nat) (a : Addr), n.length ≤ k → n'[k]? = some a → H a = none
  dead : ∀ k : Nat, S[k]? = some none → S'[k]? = some none
  gnew : ∀ a o, G' a = some o → G a = some o ∨ H a = none ∨ Live n S a ∨ O a
section
variable {K : PySem.W.Frag} {O O1 O2 : Addr → Prop} {G G1 G2 G' : Hp} {n n1 n2 n' : List Addr} {S S1 S2 S' : Store} {H H1 H2 H' : Hp} {r : Env} {σ : L2.St}
theorem Post.refl (h : SR K G n S H) : Post K O G n S H G n S H :=
  ⟨h, h, Sub.refl _, Pre.refl _, fun _ _ e _ _ => e, fun _ o e => ⟨o, e⟩, fun k a hk e => by
    have : k < n.length := (List.getElem?_eq_some_iff.mp e).1
    omega, fun _ e => e, fun _ _ e => .inl e⟩
theorem Post.back (p : Post K O G n S H G' n' S' H') {a : Addr} (e : H' a = none) : H a = none := by
  cases q : H a with
  | none => rfl
  | some o =>
    obtain ⟨o', q'⟩ := p.there a o q
    rw [e] at q'; cases q'
theorem Post.live (p : Post K O G n S H G' n' S' H') {a : Addr} (l : Live n' S' a) : Live n S a ∨ H a = none := by
  obtain ⟨k, d, e1, e2⟩ := l
  by_cases hk : k < n.length
  · have e3 := p.eta.back e1 hk
    have hS : k < S.length := by rw [← p.sr0.len]; exact hk
    cases q : S[k]? with
    | none => exact absurd (List.getElem?_eq_none_iff.mp q) (by omega)
    | some c =>
      cases c with
      | none =>
        have := p.dead k q
        rw [e2] at this; cases this
      | some d' => exact .inl ⟨k, d', e3, q⟩
  · exact .inr (p.newc k a (by omega) e1)
theorem Post.trans (p : Post K O1 G n S H G1 n1 S1 H1) (q : Post K O2 G1 n1 S1 H1 G2 n2 S2 H2) (ho : ∀ a, O2 a → O1 a ∨ H a = none) : Post K O1 G n S H G2 n2 S2 H2 := by
  refine ⟨p.sr0, q.sr, p.sub.trans q.sub, p.eta.trans q.eta, fun a o e nl no => ?_, fun a o e => ?_, fun k a hk e => ?_, fun k e => q.dead k (p.dead k e), fun a o e => ?_⟩
  · refine q.frame a o (p.frame a o e nl no) (fun l => ?_) fun x => ?_
    · rcases p.live l with l | l
      · exact nl l
      · rw [e] at l; cases l
    · rcases ho a x with x | x
      · exact no x
      · rw [e] at x; cases x
  · obtain ⟨o1, e1⟩ := p.there a o e
    exact q.there a o1 e1
  · by_cases h : k < n1.length
    · exact p.newc k a hk (q.eta.back e h)
    · exact p.back (q.newc k a (by omega) e)
  · rcases q.gnew a o e with x | x | x | x
    · exact p.gnew a o x
    · exact .inr (.inl (p.back x))
    · rcases p.live x with l | l
      · exact .inr (.inr (.inl l))
      · exact .inr (.inl l)
    · rcases ho a x with x | x
      · exact .inr (.inr (.inr x))
      · exact .inr (.inl x)
theorem Post.tr (p : Post K O G n S H G1 n1 S1 H1) (q : Post K NoO G1 n1 S1 H1 G2 n2 S2 H2) : Post K O G n S H G2 n2 S2 H2 := p.trans q fun _ x => x.elim
theorem Post.mono (p : Post K O1 G n S H G' n' S' H') (h : ∀ a, O1 a → O2 a) : Post K O2 G n S H G' n' S' H' :=
  ⟨p.sr0, p.sr, p.sub, p.eta, fun a o e nl no => p.frame a o e nl fun x => no (h a x), p.there, p.newc, p.dead, fun a o e => by
    rcases p.gnew a o e with x | x | x | x
    · exact .inl x
    · exact .inr (.inl x)
    · exact .inr (.inr (.inl x))
    · exact .inr (.inr (.inr (h a x)))⟩
theorem ER.post (e : ER K G n S H r σ) (p : Post K NoO G n S H G' n' S' H') : ER K G' n' S' H' r σ := by
  refine ⟨e.len, fun i d h => ?_, fun i d h => ?_, e.inj⟩
  · obtain ⟨v, h1, h2⟩ := e.val i d h
    exact ⟨v, h1, Rel.mono p.sub p.eta _ _ h2⟩
  · obtain ⟨a, o, h1, h2, h3, h4, h5⟩ := e.own i d h
    refine ⟨a, o, h1, ?_, fun l => ?_, p.frame a o h4 h3 (fun x => x), HoR.mono p.sub p.eta _ _ h5⟩
    · cases q : G' a with
      | none => rfl
      | some u =>
        rcases p.gnew a u q with x | x | x | x
        · rw [h2] at x; cases x
        · rw [h4] at x; cases x
        · exact absurd x h3
        · exact x.elim
    · rcases p.live l with l | l
      · exact h3 l
      · rw [h4] at l; cases l
/-- a new object that will not change -/
theorem Post.frz {p : Addr} {o : HO} (h : SR K G n S H) (hp : H p = none) : Post K NoO G n S H (upd G p o) n S (upd H p o) := by
  have gp : G p = none := by
    cases q : G p with
    | none => rfl
    | some u => rw [h.sub p u q] at hp; cases hp
  have s1 : Sub G (upd G p o) := fun a u e => by
    by_cases x : a = p
    · subst x; rw [gp] at e; cases e
    · rw [upd_ne x]; exact e
  have nl : ∀ a, Live n S a → a ≠ p := fun a l x => by
    obtain ⟨_, u, e⟩ := h.live l
    rw [x, hp] at e; cases e
  refine ⟨h, ⟨fun a u e => ?_, h.len, fun k a d e1 e2 => ?_, h.inj⟩, s1, Pre.refl _, fun a u e _ _ => ?_, fun a u e => ?_, fun k a hk e => ?_, fun _ e => e, fun a u e => ?_⟩
  · by_cases x : a = p
    · subst x; rw [upd_same] at e ⊢; exact e
    · rw [upd_ne x] at e ⊢; exact h.sub a u e
  · obtain ⟨g1, u, g2, g3⟩ := h.cell k a d e1 e2
    have x := nl a ⟨k, d, e1, e2⟩
    exact ⟨by rw [upd_ne x]; exact g1, u, by rw [upd_ne x]; exact g2, HoR.mono s1 (Pre.refl _) _ _ g3⟩
  · have x : a ≠ p := fun x => by rw [x, hp] at e; cases e
    rw [upd_ne x]; exact e
  · have x : a ≠ p := fun x => by rw [x, hp] at e; cases e
    exact ⟨u, by rw [upd_ne x]; exact e⟩
  · have : k < n.length := (List.getElem?_eq_some_iff.mp e).1
    omega
  · by_cases x : a = p
    · subst x; exact .inr (.inl hp)
    · rw [upd_ne x] at e; exact .inl e
/-- a new object, hidden -/
theorem Post.hid {p : Addr} {o : HO} (h : SR K G n S H) (hp : H p = none) : Post K NoO G n S H G n S (upd H p o) := by
  have nl : ∀ a, Live n S a → a ≠ p := fun a l x => by
    obtain ⟨_, u, e⟩ := h.live l
    rw [x, hp] at e; cases e
  refine ⟨h, ⟨fun a u e => ?_, h.len, fun k a d e1 e2 => ?_, h.inj⟩, Sub.refl _, Pre.refl _, fun a u e _ _ => ?_, fun a u e => ?_, fun k a hk e => ?_, fun _ e => e, fun a u e => .inl e⟩
  · have e' := h.sub a u e
    have x : a ≠ p := fun x => by rw [x, hp] at e'; cases e'
    rw [upd_ne x]; exact e'
  · obtain ⟨g1, u, g2, g3⟩ := h.cell k a d e1 e2
    exact ⟨g1, u, by rw [upd_ne (nl a ⟨k, d, e1, e2⟩)]; exact g2, g3⟩
  · have x : a ≠ p := fun x => by rw [x, hp] at e; cases e
    rw [upd_ne x]; exact e
  · have x : a ≠ p := fun x => by rw [x, hp] at e; cases e
    exact ⟨u, by rw [upd_ne x]; exact e⟩
  · have : k < n.length := (List.getElem?_eq_some_iff.mp e).1
    omega
/-- a hidden object (not among the cells, not kept) changes -/
theorem Post.hidW {p : Addr} {o u0 : HO} (h : SR K G n S H) (hp : H p = some u0) (hg : G p = none) (hl : ¬ Live n S p) (ho : O p) : Post K O G n S H G n S (upd H p o) := by
  refine ⟨h, ⟨fun a u e => ?_, h.len, fun k a d e1 e2 => ?_, h.inj⟩, Sub.refl _, Pre.refl _, fun a u e _ no => ?_, fun a u e => ?_, fun k a hk e => ?_, fun _ e => e, fun a u e => .inl e⟩
  · have x : a ≠ p := fun x => by rw [x, hg] at e; cases e
    rw [upd_ne x]; exact h.sub a u e
  · obtain ⟨g1, u, g2, g3⟩ := h.cell k a d e1 e2
    have x : a ≠ p := fun x => hl (x ▸ ⟨k, d, e1, e2⟩)
    exact ⟨g1, u, by rw [upd_ne x]; exact g2, g3⟩
  · have x : a ≠ p := fun x => no (x ▸ ho)
    rw [upd_ne x]; exact e
  · by_cases x : a = p
    · exact ⟨o, by rw [x, upd_same]⟩
    · exact ⟨u, by rw [upd_ne x]; exact e⟩
  · have : k < n.length := (List.getElem?_eq_some_iff.mp e).1
    omega
/-- a hidden object is kept from now on -/
theorem Post.keep {p : Addr} {o : HO} (h : SR K G n S H) (hp : H p = some o) (hg : G p = none) (hl : ¬ Live n S p) (ho : O p) : Post K O G n S H (upd G p o) n S H := by
  have s1 : Sub G (upd G p o) := fun a u e => by
    by_cases x : a = p
    · subst x; rw [hg] at e; cases e
    · rw [upd_ne x]; exact e
  refine ⟨h, ⟨fun a u e => ?_, h.len, fun k a d e1 e2 => ?_, h.inj⟩, s1, Pre.refl _, fun a u e _ _ => e, fun a u e => ⟨u, e⟩, fun k a hk e => ?_, fun _ e => e, fun a u e => ?_⟩
  · by_cases x : a = p
    · subst x; rw [upd_same] at e; cases e; exact hp
    · rw [upd_ne x] at e; exact h.sub a u e
  · obtain ⟨g1, u, g2, g3⟩ := h.cell k a d e1 e2
    have x : a ≠ p := fun x => hl (x ▸ ⟨k, d, e1, e2⟩)
    exact ⟨by rw [upd_ne x]; exact g1, u, g2, HoR.mono s1 (Pre.refl _) _ _ g3⟩
  · have : k < n.length := (List.getElem?_eq_some_iff.mp e).1
    omega
  · by_cases x : a = p
    · subst x; exact .inr (.inr (.inr ho))
    · rw [upd_ne x] at e; exact .inl e
/-- a hidden object becomes a cell -/
theorem Post.newCell {p : Addr} {o : HO} {d : D} (h : SR K G n S H) (hp : H p = none) (hd : HoR K G n d o) : Post K NoO G n S H G (n ++ [p]) (S ++ [some d]) (upd H p o) := by
  have old : ∀ {k : Nat} {a : Addr} {c : D}, (n ++ [p])[k]? = some a → (S ++ [some d])[k]? = some (some c) → (n[k]? = some a ∧ S[k]? = some (some c)) ∨ (k = n.length ∧ a = p ∧ c = d) := fun {k a c} e1 e2 => by
    by_cases hk : k < n.length
    · rw [List.getElem?_append_left hk] at e1
      rw [List.getElem?_append_left (by rw [← h.len]; exact hk)] at e2
      exact .inl ⟨e1, e2⟩
    · have hk' : k = n.length := by
        have := (List.getElem?_eq_some_iff.mp e1).1
        simp at this; omega
      subst hk'
      rw [List.getElem?_append_right (Nat.le_refl _)] at e1
      have e3 : (S ++ [some d])[n.length]? = some (some d) := by
        rw [h.len, List.getElem?_append_right (Nat.le_refl _)]; simp
      rw [e3] at e2
      simp at e1 e2
      exact .inr ⟨rfl, e1.symm, e2.symm⟩
  have pl : ∀ k, n[k]? = some p → ∀ c, S[k]? = some (some c) → False := fun k e c ec => by
    obtain ⟨_, u, q⟩ := h.live ⟨k, c, e, ec⟩
    rw [hp] at q; cases q
  have gp : G p = none := by
    cases q : G p with
    | none => rfl
    | some u => rw [h.sub p u q] at hp; cases hp
  have pre : Pre n (n ++ [p]) := ⟨[p], rfl⟩
  refine ⟨h, ⟨fun a u e => ?_, by simp [h.len], fun k a c e1 e2 => ?_, fun j k a c e e1 e2 e3 e4 => ?_⟩, Sub.refl _, pre, fun a u e _ _ => ?_, fun a u e => ?_, fun k a hk e => ?_, fun k e => ?_, fun a u e => .inl e⟩
  · have e' := h.sub a u e
    have x : a ≠ p := fun x => by rw [x, hp] at e'; cases e'
    rw [upd_ne x]; exact e'
  · rcases old e1 e2 with ⟨f1, f2⟩ | ⟨f1, f2, f3⟩
    · obtain ⟨g1, u, g2, g3⟩ := h.cell k a c f1 f2
      have x : a ≠ p := fun x => by rw [x, hp] at g2; cases g2
      exact ⟨g1, u, by rw [upd_ne x]; exact g2, HoR.mono (Sub.refl _) pre _ _ g3⟩
    · subst f2 f3
      exact ⟨gp, o, upd_same, HoR.mono (Sub.refl _) pre _ _ hd⟩
  · rcases old e1 e2 with ⟨f1, f2⟩ | ⟨f1, f2, _⟩
    · rcases old e3 e4 with ⟨g1, g2⟩ | ⟨g1, g2, _⟩
      · exact h.inj j k a c e f1 f2 g1 g2
      · subst g2; exact (pl j f1 c f2).elim
    · rcases old e3 e4 with ⟨g1, g2⟩ | ⟨g1, _, _⟩
      · subst f2; exact (pl k g1 e g2).elim
      · omega
  · have x : a ≠ p := fun x => by rw [x, hp] at e; cases e
    rw [upd_ne x]; exact e
  · have x : a ≠ p := fun x => by rw [x, hp] at e; cases e
    exact ⟨u, by rw [upd_ne x]; exact e⟩
  · have hk' : k = n.length := by
      have := (List.getElem?_eq_some_iff.mp e).1
      simp at this; omega
    subst hk'
    rw [List.getElem?_append_right (Nat.le_refl _)] at e
    simp at e; subst e; exact hp
  · rw [List.getElem?_append_left (List.getElem?_eq_some_iff.mp e).1]
    exact e
/-- a hidden object becomes a cell -/
theorem Post.addCell {p : Addr} {o : HO} {d : D} (q : Post K NoO G n S H G1 n1 S1 H1) (hn : H p = none) (hp : H1 p = some o) (hg : G1 p = none) (hl : ¬ Live n1 S1 p) (hd : HoR K G1 n1 d o) : Post K NoO G n S H G1 (n1 ++ [p]) (S1 ++ [some d]) H1 := by
  have h := q.sr
  have pre : Pre n1 (n1 ++ [p]) := ⟨[p], rfl⟩
  have old : ∀ {k : Nat} {a : Addr} {c : D}, (n1 ++ [p])[k]? = some a → (S1 ++ [some d])[k]? = some (some c) → (n1[k]? = some a ∧ S1[k]? = some (some c)) ∨ (k = n1.length ∧ a = p ∧ c = d) := fun {k a c} e1 e2 => by
    by_cases hk : k < n1.length
    · rw [List.getElem?_append_left hk] at e1
      rw [List.getElem?_append_left (by rw [← h.len]; exact hk)] at e2
      exact .inl ⟨e1, e2⟩
    · have hk' : k = n1.length := by
        have := (List.getElem?_eq_some_iff.mp e1).1
        simp at this; omega
      subst hk'
      rw [List.getElem?_append_right (Nat.le_refl _)] at e1
      have e3 : (S1 ++ [some d])[n1.length]? = some (some d) := by
        rw [h.len, List.getElem?_append_right (Nat.le_refl _)]; simp
      rw [e3] at e2
      simp at e1 e2
      exact .inr ⟨rfl, e1.symm, e2.symm⟩
  refine ⟨q.sr0, ⟨h.sub, by simp [h.len], fun k a c e1 e2 => ?_, fun j k a c e e1 e2 e3 e4 => ?_⟩, q.sub, q.eta.trans pre, q.frame, q.there, fun k a hk e => ?_, fun k e => ?_, q.gnew⟩
  · rcases old e1 e2 with ⟨f1, f2⟩ | ⟨f1, f2, f3⟩
    · obtain ⟨g1, u, g2, g3⟩ := h.cell k a c f1 f2
      exact ⟨g1, u, g2, HoR.mono (Sub.refl _) pre _ _ g3⟩
    · subst f2 f3
      exact ⟨hg, o, hp, HoR.mono (Sub.refl _) pre _ _ hd⟩
  · rcases old e1 e2 with ⟨f1, f2⟩ | ⟨f1, f2, _⟩
    · rcases old e3 e4 with ⟨g1, g2⟩ | ⟨g1, g2, _⟩
      · exact h.inj j k a c e f1 f2 g1 g2
      · subst g2; exact (hl ⟨j, c, f1, f2⟩).elim
    · rcases old e3 e4 with ⟨g1, g2⟩ | ⟨g1, _, _⟩
      · subst f2; exact (hl ⟨k, e, g1, g2⟩).elim
      · omega
  · by_cases hk1 : k < n1.length
    · rw [List.getElem?_append_left hk1] at e
      exact q.newc k a hk e
    · have hk' : k = n1.length := by
        have := (List.getElem?_eq_some_iff.mp e).1
        simp at this; omega
      subst hk'
      rw [List.getElem?_append_right (Nat.le_refl _)] at e
      simp at e; subst e; exact hn
  · have := q.dead k e
    rw [List.getElem?_append_left (List.getElem?_eq_some_iff.mp this).1]
    exact this
/-- a cell changes -/
theorem Post.setCell {k : Nat} {p : Addr} {o : HO} {d d' : D} (h : SR K G n S H) (e1 : n[k]? = some p) (e2 : S[k]? = some (some d)) (hd : HoR K G n d' o) : Post K NoO G n S H G n (S.set k (some d')) (upd H p o) := by
  obtain ⟨gp, u0, hp, _⟩ := h.cell k p d e1 e2
  have lp : Live n S p := ⟨k, d, e1, e2⟩
  have old : ∀ {j : Nat} {c : D}, (S.set k (some d'))[j]? = some (some c) → (j = k ∧ c = d') ∨ (j ≠ k ∧ S[j]? = some (some c)) := fun {j c} e => by
    by_cases x : j = k
    · subst x
      rw [List.getElem?_set_self (List.getElem?_eq_some_iff.mp e2).1] at e
      simp at e; exact .inl ⟨rfl, e.symm⟩
    · rw [List.getElem?_set_ne (Ne.symm x)] at e
      exact .inr ⟨x, e⟩
  have kk : ∀ {j : Nat} {c : D}, S[j]? = some (some c) → n[j]? = some p → j = k := fun {j c} e e' => h.inj j k p c d e' e e1 e2
  refine ⟨h, ⟨fun a u e => ?_, by simp [h.len], fun j a c f1 f2 => ?_, fun i j a c e f1 f2 f3 f4 => ?_⟩, Sub.refl _, Pre.refl _, fun a u e nl _ => ?_, fun a u e => ?_, fun j a hk e => ?_, fun j e => ?_, fun a u e => .inl e⟩
  · have x : a ≠ p := fun x => by rw [x, gp] at e; cases e
    rw [upd_ne x]; exact h.sub a u e
  · rcases old f2 with ⟨x, y⟩ | ⟨x, y⟩
    · subst x y
      rw [e1] at f1; cases f1
      exact ⟨gp, o, upd_same, hd⟩
    · obtain ⟨g1, u, g2, g3⟩ := h.cell j a c f1 y
      have z : a ≠ p := fun z => x (kk y (z ▸ f1))
      exact ⟨g1, u, by rw [upd_ne z]; exact g2, g3⟩
  · have lift : ∀ {j : Nat} {c : D}, (S.set k (some d'))[j]? = some (some c) → ∃ c', S[j]? = some (some c') := fun {j c} e => by
      rcases old e with ⟨x, _⟩ | ⟨_, y⟩
      · exact ⟨d, x ▸ e2⟩
      · exact ⟨c, y⟩
    obtain ⟨c1, g1⟩ := lift f2
    obtain ⟨c2, g2⟩ := lift f4
    exact h.inj i j a c1 c2 f1 g1 f3 g2
  · have x : a ≠ p := fun x => nl (x ▸ lp)
    rw [upd_ne x]; exact e
  · by_cases x : a = p
    · exact ⟨o, by rw [x, upd_same]⟩
    · exact ⟨u, by rw [upd_ne x]; exact e⟩
  · have : j < n.length := (List.getElem?_eq_some_iff.mp e).1
    omega
  · have x : j ≠ k := fun x => by rw [x, e2] at e; cases e
    rw [List.getElem?_set_ne (Ne.symm x)]
    exact e
end

/-! ### values to be read: the top stands now, what is within is kept -/
open Classical in
/-- the heap without the cells -/
noncomputable def NL (n : List Addr) (S : Store) (H : Hp) : Hp := fun a => if Live n S a then none else H a
section
variable {K : PySem.W.Frag} {O : Addr → Prop} {G G' : Hp} {n n' : List Addr} {S S' : Store} {H H' : Hp} {r : Env} {σ : L2.St}
theorem NL.sub : Sub (NL n S H) H := fun a o e => by
  unfold NL at e
  split at e
  · cases e
  · exact e
theorem NL.of {a : Addr} {o : HO} (e : H a = some o) (l : ¬ Live n S a) : NL n S H a = some o := by
  unfold NL
  rw [if_neg l]
  exact e
theorem NL.gsub (h : SR K G n S H) : Sub G (NL n S H) := fun a o e => NL.of (h.sub a o e) fun l => by
  have := (h.live l).1
  rw [e] at this; cases this
theorem NL.post (p : Post K NoO G n S H G' n' S' H') : Sub (NL n S H) (NL n' S' H') := fun a o e => by
  have l : ¬ Live n S a := fun l => by
    unfold NL at e
    rw [if_pos l] at e; cases e
  have e' := NL.sub a o e
  refine NL.of (p.frame a o e' l fun x => x) fun l' => ?_
  rcases p.live l' with x | x
  · exact l x
  · rw [e'] at x; cases x
def RelT (K : PySem.W.Frag) (G N : Hp) (n : List Addr) : D → V → Prop
  | .lst ds, v => ∃ a vs, v = .ref a ∧ N a = some (.lst vs) ∧ RelL K G n ds vs
  | .scr ds, v => ∃ a vs, v = .ref a ∧ SqL K N a vs ∧ RelL K G n ds vs
  | .dK ks ds, v => ∃ a kvs, v = .ref a ∧ N a = some (.dK kvs) ∧ ks = kvs.map (·.1) ∧ RelL K G n ds (kvs.map (·.2))
  | .dT ks ds, v => ∃ a kvs, v = .ref a ∧ N a = some (.dT kvs) ∧ ks = kvs.map (·.1) ∧ RelL K G n ds (kvs.map (·.2))
  | d, v => Rel K G n d v
theorem RelT.of {N : Hp} (hs : Sub G N) : ∀ {d : D} {v : V}, Rel K G n d v → RelT K G N n d v := by
  intro d v h
  cases d with
  | lst ds => simp only [Rel] at h; obtain ⟨a, vs, e, s, q⟩ := h; exact ⟨a, vs, e, hs _ _ s, q⟩
  | scr ds => simp only [Rel] at h; obtain ⟨a, vs, e, s, q⟩ := h; exact ⟨a, vs, e, hs.sl s, q⟩
  | dK ks ds => simp only [Rel] at h; obtain ⟨a, vs, e, s, q⟩ := h; exact ⟨a, vs, e, hs _ _ s, q⟩
  | dT ks ds => simp only [Rel] at h; obtain ⟨a, vs, e, s, q⟩ := h; exact ⟨a, vs, e, hs _ _ s, q⟩
  | _ => exact h
theorem RelT.mono {N N' : Hp} (hs : Sub G G') (hn : Sub N N') (hp : Pre n n') : ∀ {d : D} {v : V}, RelT K G N n d v → RelT K G' N' n' d v := by
  intro d v h
  cases d with
  | lst ds => obtain ⟨a, vs, e, s, q⟩ := h; exact ⟨a, vs, e, hn _ _ s, RelL.mono hs hp _ _ q⟩
  | scr ds => obtain ⟨a, vs, e, s, q⟩ := h; exact ⟨a, vs, e, hn.sl s, RelL.mono hs hp _ _ q⟩
  | dK ks ds => obtain ⟨a, vs, e, s, ek, q⟩ := h; exact ⟨a, vs, e, hn _ _ s, ek, RelL.mono hs hp _ _ q⟩
  | dT ks ds => obtain ⟨a, vs, e, s, ek, q⟩ := h; exact ⟨a, vs, e, hn _ _ s, ek, RelL.mono hs hp _ _ q⟩
  | _ => exact Rel.mono hs hp _ _ h
theorem RelT.post {d : D} {v : V} (h : RelT K G (NL n S H) n d v) (p : Post K NoO G n S H G' n' S' H') : RelT K G' (NL n' S' H') n' d v := h.mono p.sub (NL.post p) p.eta
theorem RelT.own {d : D} {a : Addr} {o : HO} (e : H a = some o) (l : ¬ Live n S a) (h : HoR K G n d o) : RelT K G (NL n S H) n d (.ref a) := by
  cases d with
  | lst ds => obtain ⟨vs, rfl, q⟩ := h; exact ⟨a, vs, rfl, NL.of e l, q⟩
  | dK ks ds => obtain ⟨vs, rfl, q⟩ := h; exact ⟨a, vs, rfl, NL.of e l, q⟩
  | dT ks ds => obtain ⟨vs, rfl, q⟩ := h; exact ⟨a, vs, rfl, NL.of e l, q⟩
  | _ => exact h.elim
end

/-! ### what an expression asks -/
abbrev XQ := BR.Exc → XK
abbrev Z0 : XQ := fun _ _ _ _ => False
def ExcR (x : Exc) (c : Value) (dd : Option Addr) (H : Hp) : Prop := True
section
variable (K : PySem.W.Frag) (EE : XQ)
def WpE (x : Res D) (G : Hp) (n : List Addr) (S : Store) (H : Hp) (Q : VK) : Prop := match x with
  | .ok d S' => ∀ v G' n' H', Post K NoO G n S H G' n' S' H' → Rel K G' n' d v → Q v H'
  | .exc x S' => ∀ c dd G' n' H', Post K NoO G n S H G' n' S' H' → ExcR x c dd H' → EE x c dd H'
  | .bad => False
def WpB (x : Res D) (G : Hp) (n : List Addr) (S : Store) (H : Hp) (Q : VK) : Prop := match x with
  | .ok d S' => ∀ v G' n' H', Post K NoO G n S H G' n' S' H' → RelT K G' (NL n' S' H') n' d v → Q v H'
  | .exc x S' => ∀ c dd G' n' H', Post K NoO G n S H G' n' S' H' → ExcR x c dd H' → EE x c dd H'
  | .bad => False
def WpT (x : Res Bool) (G : Hp) (n : List Addr) (S : Store) (H : Hp) (Q : Bool → Hp → Prop) : Prop := match x with
  | .ok b S' => ∀ G' n' H', Post K NoO G n S H G' n' S' H' → Q b H'
  | .exc x S' => ∀ c dd G' n' H', Post K NoO G n S H G' n' S' H' → ExcR x c dd H' → EE x c dd H'
  | .bad => False
def WpA (x : Res (List D)) (G : Hp) (n : List Addr) (S : Store) (H : Hp) (Q : List V → Hp → Prop) : Prop := match x with
  | .ok ds S' => ∀ vs G' n' H', Post K NoO G n S H G' n' S' H' → RelL K G' n' ds vs → Q vs H'
  | .exc x S' => ∀ c dd G' n' H', Post K NoO G n S H G' n' S' H' → ExcR x c dd H' → EE x c dd H'
  | .bad => False
/-- a new object p that nothing else knows, a list -/
def WpL (x : Res (List D)) (G : Hp) (n : List Addr) (S : Store) (H : Hp) (Q : VK) : Prop := match x with
  | .ok ds S' => ∀ p vs G' n' H', Post K NoO G n S H G' n' S' H' → H p = none → G' p = none → ¬ Live n' S' p → H' p = some (.lst vs) → RelL K G' n' ds vs → Q (.ref p) H'
  | .exc x S' => ∀ c dd G' n' H', Post K NoO G n S H G' n' S' H' → ExcR x c dd H' → EE x c dd H'
  | .bad => False
def SE (te : TE) (m : EM) : Prop := ∀ G n S H r σ Q, SR K G n S H → ER K G n S H r σ → WpE K EE (m r S) G n S H Q → te σ H Q
def SB (te : TE) (m : EM) : Prop := ∀ G n S H r σ Q, SR K G n S H → ER K G n S H r σ → WpB K EE (m r S) G n S H Q → te σ H Q
def ST (te : TT) (m : TM) : Prop := ∀ G n S H r σ Q, SR K G n S H → ER K G n S H r σ → WpT K EE (m r S) G n S H Q → te σ H Q
def SA (te : TA) (m : LM) : Prop := ∀ G n S H r σ Q, SR K G n S H → ER K G n S H r σ → WpA K EE (m r S) G n S H Q → te σ H Q
def SL (te : TE) (m : LM) : Prop := ∀ G n S H r σ Q, SR K G n S H → ER K G n S H r σ → WpL K EE (m r S) G n S H Q → te σ H Q
/-- an operation on values -/
def O1 (t : V → Hp → VK → Prop) (f : D → Store → Res D) : Prop := ∀ G n S H x d Q, SR K G n S H → RelT K G (NL n S H) n d x → WpE K EE (f d S) G n S H Q → t x H Q
def O2 (t : R2) (f : D → D → Store → Res D) : Prop := ∀ G n S H x y d e Q, SR K G n S H → RelT K G (NL n S H) n d x → RelT K G (NL n S H) n e y → WpE K EE (f d e S) G n S H Q → t x y H Q
end
section
variable {K : PySem.W.Frag} {EE : XQ} {G G1 : Hp} {n n1 : List Addr} {S S1 : Store} {H H1 : Hp} {te ta tb : TE} {m a b : EM}
theorem WpE.at {x : Res D} {Q : VK} (p : Post K NoO G n S H G1 n1 S1 H1) (h : WpE K EE x G n S H Q) : WpE K EE x G1 n1 S1 H1 Q := by
  cases x with
  | ok d S' => exact fun v G' n' H' q => h v G' n' H' (p.tr q)
  | exc x S' => exact fun c dd G' n' H' q => h c dd G' n' H' (p.tr q)
  | bad => exact h
theorem WpB.at {x : Res D} {Q : VK} (p : Post K NoO G n S H G1 n1 S1 H1) (h : WpB K EE x G n S H Q) : WpB K EE x G1 n1 S1 H1 Q := by
  cases x with
  | ok d S' => exact fun v G' n' H' q => h v G' n' H' (p.tr q)
  | exc x S' => exact fun c dd G' n' H' q => h c dd G' n' H' (p.tr q)
  | bad => exact h
theorem WpT.at {x : Res Bool} {Q : Bool → Hp → Prop} (p : Post K NoO G n S H G1 n1 S1 H1) (h : WpT K EE x G n S H Q) : WpT K EE x G1 n1 S1 H1 Q := by
  cases x with
  | ok d S' => exact fun G' n' H' q => h G' n' H' (p.tr q)
  | exc x S' => exact fun c dd G' n' H' q => h c dd G' n' H' (p.tr q)
  | bad => exact h
theorem WpA.at {x : Res (List D)} {Q : List V → Hp → Prop} (p : Post K NoO G n S H G1 n1 S1 H1) (h : WpA K EE x G n S H Q) : WpA K EE x G1 n1 S1 H1 Q := by
  cases x with
  | ok d S' => exact fun v G' n' H' q => h v G' n' H' (p.tr q)
  | exc x S' => exact fun c dd G' n' H' q => h c dd G' n' H' (p.tr q)
  | bad => exact h
theorem WpL.at {x : Res (List D)} {Q : VK} (p : Post K NoO G n S H G1 n1 S1 H1) (h : WpL K EE x G n S H Q) : WpL K EE x G1 n1 S1 H1 Q := by
  cases x with
  | ok d S' => exact fun v vs G' n' H' q z => h v vs G' n' H' (p.tr q) (p.back z)
  | exc x S' => exact fun c dd G' n' H' q => h c dd G' n' H' (p.tr q)
  | bad => exact h
/-- the first step of two: A by a (kept values), then the rest -/
theorem SE.bind {α : Type} {x : Res D} {r : Env} {σ : L2.St} {Q : VK} {W : Res α → Hp → List Addr → Store → Hp → Prop} {f : D → Store → Res α}
    (hb : W .bad G n S H → False) (hx : ∀ e S', W (.exc e S') G n S H → WpE K EE (.exc e S' : Res D) G n S H Q)
    (h : W (x.bind f) G n S H) (hk : ∀ d S', x = .ok d S' → ∀ v G' n' H', Post K NoO G n S H G' n' S' H' → Rel K G' n' d v → Q v H') : WpE K EE x G n S H Q := by
  cases x with
  | ok d S' => exact hk d S' rfl
  | exc e S' => exact hx e S' h
  | bad => exact hb h
theorem SB.bind {α : Type} {x : Res D} {r : Env} {σ : L2.St} {Q : VK} {W : Res α → Hp → List Addr → Store → Hp → Prop} {f : D → Store → Res α}
    (hb : W .bad G n S H → False) (hx : ∀ e S', W (.exc e S') G n S H → WpB K EE (.exc e S' : Res D) G n S H Q)
    (h : W (x.bind f) G n S H) (hk : ∀ d S', x = .ok d S' → ∀ v G' n' H', Post K NoO G n S H G' n' S' H' → RelT K G' (NL n' S' H') n' d v → Q v H') : WpB K EE x G n S H Q := by
  cases x with
  | ok d S' => exact hk d S' rfl
  | exc e S' => exact hx e S' h
  | bad => exact hb h
theorem SE.bor (h : SE K EE te m) : SB K EE te m := fun G n S H r σ Q s e w => h G n S H r σ Q s e (by
  cases q : m r S with
  | ok d S' =>
    rw [q] at w
    exact fun v G' n' H' p rl => w v G' n' H' p (RelT.of (NL.gsub p.sr) rl)
  | exc x S' => rw [q] at w; exact w
  | bad => rw [q] at w; exact w)
theorem SB.op1 {t : V → Hp → VK → Prop} {f : D → Store → Res D} (ha : SB K EE ta a) (ho : O1 K EE t f) : SE K EE (tUn t ta) (e1 f a) := fun G n S H r σ Q s e w => by
  refine ha G n S H r σ _ s e ?_
  unfold e1 at w
  cases q : a r S with
  | ok d S1 =>
    rw [q] at w
    exact fun v G1 n1 H1 p rl => ho G1 n1 S1 H1 v d Q p.sr rl (WpE.at p w)
  | exc x S' => rw [q] at w; exact w
  | bad => rw [q] at w; exact w
theorem SB.op2 {t : R2} {f : D → D → Store → Res D} (ha : SB K EE ta a) (hb : SB K EE tb b) (ho : O2 K EE t f) : SE K EE (tOp t ta tb) (e2 f a b) := fun G n S H r σ Q s e w => by
  refine ha G n S H r σ _ s e ?_
  unfold e2 at w
  cases q : a r S with
  | ok d S1 =>
    rw [q] at w
    refine fun v G1 n1 H1 p rl => hb G1 n1 S1 H1 r σ _ p.sr (e.post p) ?_
    have w1 : WpE K EE ((b r S1).bind fun y S2 => f d y S2) G1 n1 S1 H1 Q := WpE.at p w
    cases q2 : b r S1 with
    | ok d2 S2 =>
      rw [q2] at w1
      exact fun v2 G2 n2 H2 p2 rl2 => ho G2 n2 S2 H2 v v2 d d2 Q p2.sr (rl.post p2) rl2 (WpE.at p2 w1)
    | exc x S' => rw [q2] at w1; exact w1
    | bad => rw [q2] at w1; exact w1
  | exc x S' => rw [q] at w; exact w
  | bad => rw [q] at w; exact w
theorem SE.c {d : D} {v : V} (h : ∀ G n, Rel K G n d v) : SE K EE (tC v) (eC d) := fun G n S H r σ Q s e w => w v G n H (Post.refl s) (h G n)
theorem SE.var (i : Nat) : SE K EE (tVar i) (eV i) := fun G n S H r σ Q s e w => by
  unfold eV at w
  cases q : r[i]? with
  | none => rw [q] at w; exact w.elim
  | some sl =>
    rw [q] at w
    cases sl with
    | val d =>
      obtain ⟨v, h1, h2⟩ := e.val i d q
      exact ⟨v, h1, w v G n H (Post.refl s) h2⟩
    | _ => exact w.elim
theorem SB.var (i : Nat) : SB K EE (tVar i) (eB i) := fun G n S H r σ Q s e w => by
  unfold eB at w
  cases q : r[i]? with
  | none => rw [q] at w; exact w.elim
  | some sl =>
    rw [q] at w
    cases sl with
    | val d =>
      obtain ⟨v, h1, h2⟩ := e.val i d q
      exact ⟨v, h1, w v G n H (Post.refl s) (RelT.of (NL.gsub s) h2)⟩
    | own d =>
      obtain ⟨a, o, h1, h2, h3, h4, h5⟩ := e.own i d q
      exact ⟨.ref a, h1, w _ G n H (Post.refl s) (RelT.own h4 h3 h5)⟩
    | no => exact w.elim
theorem SA.nil : SA K EE tNil aN := fun G n S H r σ Q s e w => w [] G n H (Post.refl s) .nil
theorem SA.cons {tr : TA} {l : LM} (ha : SE K EE ta a) (hr : SA K EE tr l) : SA K EE (tCons ta tr) (aC a l) := fun G n S H r σ Q s e w => by
  refine ha G n S H r σ _ s e ?_
  unfold aC at w
  cases q : a r S with
  | ok d S1 =>
    rw [q] at w
    refine fun v G1 n1 H1 p rl => hr G1 n1 S1 H1 r σ _ p.sr (e.post p) ?_
    have w1 : WpA K EE ((l r S1).bind fun xs S2 => .ok (d :: xs) S2) G1 n1 S1 H1 Q := WpA.at p w
    cases q2 : l r S1 with
    | ok ds S2 =>
      rw [q2] at w1
      exact fun vs G2 n2 H2 p2 rl2 => w1 (v :: vs) G2 n2 H2 p2 (.cons (Rel.mono p2.sub p2.eta _ _ rl) rl2)
    | exc x S' => rw [q2] at w1; exact w1
    | bad => rw [q2] at w1; exact w1
  | exc x S' => rw [q] at w; exact w
  | bad => rw [q] at w; exact w
theorem lim_eq : lim = sizeLine := by rw [sizeLine_eq]; rfl
theorem SE.tup {t : TA} {l : LM} (h : SA K EE t l) : SE K EE (tTup t) (eTup l) := fun G n S H r σ Q s e w => by
  refine h G n S H r σ _ s e ?_
  unfold eTup at w
  cases q : l r S with
  | ok ds S1 =>
    rw [q] at w
    refine fun vs G1 n1 H1 p rl => ?_
    have w1 : WpE K EE (if ds.length ≤ lim then .ok (.tup ds) S1 else .bad) G n S H Q := w
    by_cases hl : ds.length ≤ lim
    · rw [if_pos hl] at w1
      refine ⟨by rw [← rl.len, ← lim_eq]; exact hl, fun b hb => ?_⟩
      have p2 := Post.frz (o := .tup vs) p.sr hb
      exact w1 _ _ _ _ (p.tr p2) (by simp only [Rel]; exact ⟨b, vs, rfl, upd_same, RelL.mono p2.sub p2.eta _ _ rl⟩)
    · rw [if_neg hl] at w1; exact w1.elim
  | exc x S' => rw [q] at w; exact w
  | bad => rw [q] at w; exact w
def tTrn (t : TA) : TE := fun σ H Q => t σ H fun xs H1 => xs.length ≤ sizeLine ∧ ∀ (p : Addr) (o : Obj), H1 p = none → o.dict = none → Q (.ref p) (upd H1 p (.frz o (.tup xs)))
theorem SE.trn {t : TA} {l : LM} (h : SA K EE t l) : SE K EE (tTrn t) (eTrn l) := fun G n S H r σ Q s e w => by
  refine h G n S H r σ _ s e ?_
  unfold eTrn at w
  cases q : l r S with
  | ok ds S1 =>
    rw [q] at w
    refine fun vs G1 n1 H1 p rl => ?_
    have w1 : WpE K EE (if ds.length ≤ lim then .ok (.trn ds) S1 else .bad) G n S H Q := w
    by_cases hl : ds.length ≤ lim
    · rw [if_pos hl] at w1
      refine ⟨by rw [← rl.len, ← lim_eq]; exact hl, fun b o hb ho => ?_⟩
      have p2 := Post.frz (o := .frz o (.tup vs)) p.sr hb
      exact w1 _ _ _ _ (p.tr p2) (by simp only [Rel]; exact ⟨b, vs, rfl, .inl ⟨o, upd_same, ho⟩, RelL.mono p2.sub p2.eta _ _ rl⟩)
    · rw [if_neg hl] at w1; exact w1.elim
  | exc x S' => rw [q] at w; exact w
  | bad => rw [q] at w; exact w
theorem SL.lst {t : TA} {l : LM} (h : SA K EE t l) : SL K EE (tLst t) (lLst l) := fun G n S H r σ Q s e w => by
  refine h G n S H r σ _ s e ?_
  unfold lLst at w
  cases q : l r S with
  | ok ds S1 =>
    rw [q] at w
    refine fun vs G1 n1 H1 p rl => ?_
    have w1 : WpL K EE (if ds.length ≤ lim then .ok ds S1 else .bad) G n S H Q := w
    by_cases hl : ds.length ≤ lim
    · rw [if_pos hl] at w1
      refine ⟨by rw [← rl.len, ← lim_eq]; exact hl, fun b hb => ?_⟩
      have p2 := Post.hid (o := .lst vs) p.sr hb
      refine w1 b vs _ _ _ (p.tr p2) (p.back hb) ?_ (fun l => ?_) upd_same rl
      · cases q : G1 b with
        | none => rfl
        | some u => rw [p.sr.sub b u q] at hb; cases hb
      · obtain ⟨_, u, q⟩ := p.sr.live l
        rw [hb] at q; cases q
    · rw [if_neg hl] at w1; exact w1.elim
  | exc x S' => rw [q] at w; exact w
  | bad => rw [q] at w; exact w
theorem SL.frz {l : LM} (h : SL K EE te l) : SE K EE te (eFrz l) := fun G n S H r σ Q s e w => by
  refine h G n S H r σ _ s e ?_
  unfold eFrz at w
  cases q : l r S with
  | ok ds S1 =>
    rw [q] at w
    refine fun b vs G1 n1 H1 p hn hg hl hb rl => ?_
    have p2 : Post K (fun a => a = b) G1 n1 S1 H1 (upd G1 b (.lst vs)) n1 S1 H1 := Post.keep p.sr hb hg hl rfl
    have p3 : Post K NoO G n S H (upd G1 b (.lst vs)) n1 S1 H1 := p.trans p2 fun a x => .inr (x ▸ hn)
    exact w _ _ _ _ p3 (by simp only [Rel]; exact ⟨b, vs, rfl, upd_same, RelL.mono p2.sub p2.eta _ _ rl⟩)
  | exc x S' => rw [q] at w; exact w
  | bad => rw [q] at w; exact w
theorem SE.call {t : TA} {l : LM} {sp : Sp} {f : List D → Store → Res D} (h : SA K EE t l)
    (hs : ∀ G n S H vs ds Q, SR K G n S H → RelL K G n ds vs → WpE K EE (f ds S) G n S H Q → sp vs H Q E) : SE K EE (tCall sp [] E t) (eA f l) := fun G n S H r σ Q s e w => by
  refine h G n S H r σ _ s e ?_
  unfold eA at w
  cases q : l r S with
  | ok ds S1 =>
    rw [q] at w
    refine fun vs G1 n1 H1 p rl => ?_
    show sp (vs ++ []) H1 Q E
    rw [List.append_nil]
    exact hs G1 n1 S1 H1 vs ds Q p.sr rl (WpE.at p w)
  | exc x S' => rw [q] at w; exact w
  | bad => rw [q] at w; exact w
end
end BR

/-! Statements, tests, targets, walks, comprehensions, defs: the machine against the hand layer. -/
namespace BR
open PySem PySem.Spec PyProof.Rows L2

/-! ### tests -/
section
variable {K : PySem.W.Frag} {EE : XQ} {te ta tb : TE} {m a b : EM} {tt tu : TT} {t u : TM}
theorem ST.of (h : SB K EE te m) : ST K EE (tTest te) (tE m) := fun G n S H r σ Q s e w => by
  refine h G n S H r σ _ s e ?_
  unfold tE at w
  cases q : m r S with
  | ok d S1 =>
    rw [q] at w
    intro v G1 n1 H1 p rl
    cases d with
    | bl c =>
      obtain rfl : v = .bl c := by simpa only [RelT, Rel] using rl
      exact ⟨c, rfl, w G1 n1 H1 p⟩
    | _ => exact w.elim
  | exc x S' => rw [q] at w; exact w
  | bad => rw [q] at w; exact w
theorem ST.not (h : ST K EE tt t) : ST K EE (L2.tNot tt) (tNot t) := fun G n S H r σ Q s e w => by
  refine h G n S H r σ _ s e ?_
  unfold tNot at w
  cases q : t r S with
  | ok d S1 => rw [q] at w; exact w
  | exc x S' => rw [q] at w; exact w
  | bad => rw [q] at w; exact w
theorem ST.and (h : ST K EE tt t) (h2 : ST K EE tu u) : ST K EE (L2.tAnd tt tu) (tAnd t u) := fun G n S H r σ Q s e w => by
  refine h G n S H r σ _ s e ?_
  unfold tAnd at w
  cases q : t r S with
  | ok d S1 =>
    rw [q] at w
    intro G1 n1 H1 p
    have w1 : WpT K EE (if d = true then u r S1 else .ok false S1) G1 n1 S1 H1 Q := WpT.at p w
    cases d with
    | true => exact h2 G1 n1 S1 H1 r σ Q p.sr (e.post p) w1
    | false => exact w1 G1 n1 H1 (Post.refl p.sr)
  | exc x S' => rw [q] at w; exact w
  | bad => rw [q] at w; exact w
theorem ST.or (h : ST K EE tt t) (h2 : ST K EE tu u) : ST K EE (L2.tOr tt tu) (tOr t u) := fun G n S H r σ Q s e w => by
  refine h G n S H r σ _ s e ?_
  unfold tOr at w
  cases q : t r S with
  | ok d S1 =>
    rw [q] at w
    intro G1 n1 H1 p
    have w1 : WpT K EE (if d = true then .ok true S1 else u r S1) G1 n1 S1 H1 Q := WpT.at p w
    cases d with
    | false => exact h2 G1 n1 S1 H1 r σ Q p.sr (e.post p) w1
    | true => exact w1 G1 n1 H1 (Post.refl p.sr)
  | exc x S' => rw [q] at w; exact w
  | bad => rw [q] at w; exact w
theorem ST.yes : ST K EE L2.tYes tYes := fun G n S H r σ Q s e w => w G n H (Post.refl s)
theorem SE.ite (h : ST K EE tt t) (ha : SE K EE ta a) (hb : SE K EE tb b) : SE K EE (tIf tt ta tb) (eIf t a b) := fun G n S H r σ Q s e w => by
  refine h G n S H r σ _ s e ?_
  unfold eIf at w
  cases q : t r S with
  | ok d S1 =>
    rw [q] at w
    intro G1 n1 H1 p
    have w1 : WpE K EE (if d = true then a r S1 else b r S1) G1 n1 S1 H1 Q := WpE.at p w
    cases d with
    | true => exact ha G1 n1 S1 H1 r σ Q p.sr (e.post p) w1
    | false => exact hb G1 n1 S1 H1 r σ Q p.sr (e.post p) w1
  | exc x S' => rw [q] at w; exact w
  | bad => rw [q] at w; exact w
/-- and, or, not as values -/
theorem SE.andV (ha : SE K EE ta a) (hb : SE K EE tb b) : SE K EE (tAndV ta tb) (eIf (tE a) b (eC (.bl false))) := fun G n S H r σ Q s e w => by
  refine ha G n S H r σ _ s e ?_
  unfold eIf tE at w
  cases q : a r S with
  | ok d S1 =>
    rw [q] at w
    intro v G1 n1 H1 p rl
    cases d with
    | bl c =>
      obtain rfl : v = .bl c := by simpa only [Rel] using rl
      refine ⟨c, rfl, ?_⟩
      have w1 : WpE K EE (if c = true then b r S1 else eC (.bl false) r S1) G1 n1 S1 H1 Q := WpE.at p w
      cases c with
      | true => exact hb G1 n1 S1 H1 r σ Q p.sr (e.post p) w1
      | false => exact w1 _ _ _ _ (Post.refl p.sr) (by simp only [Rel])
    | _ => exact w.elim
  | exc x S' => rw [q] at w; exact w
  | bad => rw [q] at w; exact w
theorem SE.orV (ha : SE K EE ta a) (hb : SE K EE tb b) : SE K EE (tOrV ta tb) (eIf (tE a) (eC (.bl true)) b) := fun G n S H r σ Q s e w => by
  refine ha G n S H r σ _ s e ?_
  unfold eIf tE at w
  cases q : a r S with
  | ok d S1 =>
    rw [q] at w
    intro v G1 n1 H1 p rl
    cases d with
    | bl c =>
      obtain rfl : v = .bl c := by simpa only [Rel] using rl
      refine ⟨c, rfl, ?_⟩
      have w1 : WpE K EE (if c = true then eC (.bl true) r S1 else b r S1) G1 n1 S1 H1 Q := WpE.at p w
      cases c with
      | false => exact hb G1 n1 S1 H1 r σ Q p.sr (e.post p) w1
      | true => exact w1 _ _ _ _ (Post.refl p.sr) (by simp only [Rel])
    | _ => exact w.elim
  | exc x S' => rw [q] at w; exact w
  | bad => rw [q] at w; exact w
theorem SE.notV (ha : SE K EE ta a) : SE K EE (tNotV ta) (eT (tNot (tE a))) := fun G n S H r σ Q s e w => by
  refine ha G n S H r σ _ s e ?_
  unfold eT tNot tE at w
  cases q : a r S with
  | ok d S1 =>
    rw [q] at w
    intro v G1 n1 H1 p rl
    cases d with
    | bl c =>
      obtain rfl : v = .bl c := by simpa only [Rel] using rl
      exact ⟨c, rfl, w _ _ _ _ p (by simp only [Rel])⟩
    | _ => exact w.elim
  | exc x S' => rw [q] at w; exact w
  | bad => rw [q] at w; exact w
end

/-! ### slots -/
def OwnSub (r : Env) (σ : L2.St) (H : Hp) (r' : Env) (σ' : L2.St) : Prop := ∀ a, Own r' σ' a → Own r σ a ∨ H a = none
section
variable {K : PySem.W.Frag} {O : Addr → Prop} {G G1 G' : Hp} {n n1 n' : List Addr} {S S1 S' : Store} {H H1 H' : Hp} {r r1 r2 : Env} {σ σ1 σ2 : L2.St}
theorem OwnSub.refl : OwnSub r σ H r σ := fun _ h => .inl h
theorem OwnSub.trans (h : OwnSub r σ H r1 σ1) (h2 : OwnSub r1 σ1 H1 r2 σ2) (hb : ∀ a, H1 a = none → H a = none) : OwnSub r σ H r2 σ2 := fun a x => by
  rcases h2 a x with y | y
  · exact h a y
  · exact .inr (hb a y)
theorem set_some {α : Type} {l : List α} {i j : Nat} {x y : α} (h : (l.set i x)[j]? = some y) : (j = i ∧ y = x) ∨ (j ≠ i ∧ l[j]? = some y) := by
  by_cases e : j = i
  · subst e
    by_cases hl : j < l.length
    · rw [List.getElem?_set_self hl] at h
      exact .inl ⟨rfl, (Option.some.inj h).symm⟩
    · have : (l.set j x)[j]? = none := List.getElem?_eq_none_iff.mpr (by simpa using hl)
      rw [this] at h; cases h
  · rw [List.getElem?_set_ne (Ne.symm e)] at h
    exact .inr ⟨e, h⟩
theorem ER.setVal (e : ER K G n S H r σ) (i : Nat) {d : D} {v : V} (h : Rel K G n d v) : ER K G n S H (r.set i (.val d)) (σ.set i (some v)) := by
  have get : ∀ {j : Nat}, j ≠ i → (σ.set i (some v))[j]? = σ[j]? := fun {j} x => List.getElem?_set_ne (Ne.symm x)
  refine ⟨by simp [e.len], fun j c h1 => ?_, fun j c h1 => ?_, fun j k a c f h1 h2 h3 h4 => ?_⟩
  · rcases set_some h1 with ⟨x, y⟩ | ⟨x, y⟩
    · subst x; cases y
      have hj : j < σ.length := by
        have := (List.getElem?_eq_some_iff.mp h1).1
        rw [← e.len]; simpa using this
      exact ⟨v, List.getElem?_set_self hj, h⟩
    · rw [get x]; exact e.val j c y
  · rcases set_some h1 with ⟨x, y⟩ | ⟨x, y⟩
    · cases y
    · rw [get x]; exact e.own j c y
  · rcases set_some h1 with ⟨x, y⟩ | ⟨x, y⟩
    · cases y
    · rcases set_some h3 with ⟨x', y'⟩ | ⟨x', y'⟩
      · cases y'
      · rw [get x] at h2; rw [get x'] at h4
        exact e.inj j k a c f y h2 y' h4
theorem OwnSub.setVal (i : Nat) {d : D} {v : V} : OwnSub r σ H (r.set i (.val d)) (σ.set i (some v)) := fun a ⟨j, c, h1, h2⟩ => by
  rcases set_some h1 with ⟨x, y⟩ | ⟨x, y⟩
  · cases y
  · rw [List.getElem?_set_ne (Ne.symm x)] at h2
    exact .inl ⟨j, c, y, h2⟩
theorem ER.setOwn (e : ER K G n S H r σ) (i : Nat) {d : D} {p : Addr} {o : HO} (hg : G p = none) (hl : ¬ Live n S p) (hp : H p = some o) (hd : HoR K G n d o) (hx : ¬ Own r σ p) : ER K G n S H (r.set i (.own d)) (σ.set i (some (.ref p))) := by
  have get : ∀ {j : Nat}, j ≠ i → (σ.set i (some (.ref p)))[j]? = σ[j]? := fun {j} x => List.getElem?_set_ne (Ne.symm x)
  refine ⟨by simp [e.len], fun j c h1 => ?_, fun j c h1 => ?_, fun j k a c f h1 h2 h3 h4 => ?_⟩
  · rcases set_some h1 with ⟨x, y⟩ | ⟨x, y⟩
    · cases y
    · rw [get x]; exact e.val j c y
  · rcases set_some h1 with ⟨x, y⟩ | ⟨x, y⟩
    · subst x; cases y
      have hj : j < σ.length := by
        have := (List.getElem?_eq_some_iff.mp h1).1
        rw [← e.len]; simpa using this
      exact ⟨p, o, List.getElem?_set_self hj, hg, hl, hp, hd⟩
    · rw [get x]; exact e.own j c y
  · have self : ∀ {k : Nat}, k = i → (σ.set i (some (V.ref p)))[k]? = some (some (.ref a)) → a = p := fun {k} x z => by
      subst x
      rcases set_some z with ⟨_, y⟩ | ⟨y, _⟩
      · cases y; rfl
      · exact absurd rfl y
    rcases set_some h1 with ⟨x, y⟩ | ⟨x, y⟩
    · rcases set_some h3 with ⟨x', y'⟩ | ⟨x', y'⟩
      · omega
      · rw [get x'] at h4
        have z := self x h2
        subst z
        exact absurd ⟨k, f, y', h4⟩ hx
    · rw [get x] at h2
      rcases set_some h3 with ⟨x', y'⟩ | ⟨x', y'⟩
      · have z := self x' h4
        subst z
        exact absurd ⟨j, c, y, h2⟩ hx
      · rw [get x'] at h4
        exact e.inj j k a c f y h2 y' h4
theorem OwnSub.setOwn (i : Nat) {d : D} {p : Addr} (hp : H p = none) : OwnSub r σ H (r.set i (.own d)) (σ.set i (some (.ref p))) := fun a ⟨j, c, h1, h2⟩ => by
  rcases set_some h1 with ⟨x, y⟩ | ⟨x, y⟩
  · rcases set_some h2 with ⟨_, z⟩ | ⟨z, _⟩
    · cases z; exact .inr hp
    · exact absurd x z
  · rw [List.getElem?_set_ne (Ne.symm x)] at h2
    exact .inl ⟨j, c, y, h2⟩
/-- a name's own object has changed -/
theorem ER.reOwn (e : ER K G n S H r σ) {i : Nat} {d d' : D} {p : Addr} {o : HO} (h1 : r[i]? = some (.own d)) (h2 : σ[i]? = some (some (.ref p))) (hd : HoR K G n d' o) : ER K G n S (upd H p o) (r.set i (.own d')) σ := by
  obtain ⟨p', u, f1, f2, f3, f4, f5⟩ := e.own i d h1
  rw [h2] at f1; cases f1
  have own : ∀ {j : Nat} {c : D}, (r.set i (.own d'))[j]? = some (.own c) → ∃ c', r[j]? = some (.own c') := fun {j c} z => by
    rcases set_some z with ⟨x, _⟩ | ⟨_, y⟩
    · exact ⟨d, x ▸ h1⟩
    · exact ⟨c, y⟩
  refine ⟨by simp [e.len], fun j c z => ?_, fun j c z => ?_, fun j k a c f z1 z2 z3 z4 => ?_⟩
  · rcases set_some z with ⟨_, y⟩ | ⟨x, y⟩
    · cases y
    · exact e.val j c y
  · rcases set_some z with ⟨x, y⟩ | ⟨x, y⟩
    · subst x; cases y
      exact ⟨p, o, h2, f2, f3, upd_same, hd⟩
    · obtain ⟨a, u', g1, g2, g3, g4, g5⟩ := e.own j c y
      have ne : a ≠ p := fun z => x (e.inj j i p c d y (z ▸ g1) h1 h2)
      exact ⟨a, u', g1, g2, g3, by rw [upd_ne ne]; exact g4, g5⟩
  · obtain ⟨c', y⟩ := own z1
    obtain ⟨f', y'⟩ := own z3
    exact e.inj j k a c' f' y z2 y' z4
theorem OwnSub.reOwn {i : Nat} {d d' : D} (h1 : r[i]? = some (.own d)) : OwnSub r σ H (r.set i (.own d')) σ := fun a ⟨j, c, z1, z2⟩ => by
  rcases set_some z1 with ⟨x, _⟩ | ⟨_, y⟩
  · exact .inl ⟨j, d, x ▸ h1, z2⟩
  · exact .inl ⟨j, c, y, z2⟩
/-- slots wiped -/
theorem wipe_get {σ : L2.St} {i : Nat} : ∀ {vs : List Nat}, i ∉ vs → (wipe σ vs)[i]? = σ[i]?
  | [], _ => rfl
  | j :: vs, h => by
    show ((wipe σ vs).set j none)[i]? = _
    rw [List.getElem?_set_ne (fun e => h (by rw [e]; exact List.mem_cons_self)), wipe_get fun z => h (List.mem_cons_of_mem _ z)]
theorem wipeE_length : ∀ vs : List Nat, (wipeE r vs).length = r.length
  | [] => rfl
  | j :: vs => by
    show ((wipeE r vs).set j .no).length = _
    rw [List.length_set, wipeE_length vs]
theorem wipeE_some {i : Nat} {x : Slot} (hx : x ≠ .no) : ∀ {vs : List Nat}, (wipeE r vs)[i]? = some x → r[i]? = some x ∧ i ∉ vs
  | [], h => ⟨h, by simp⟩
  | j :: vs, h => by
    have h' : ((wipeE r vs).set j .no)[i]? = some x := h
    rcases set_some h' with ⟨_, y⟩ | ⟨z, y⟩
    · exact absurd y hx
    · obtain ⟨h1, h2⟩ := wipeE_some hx y
      exact ⟨h1, by simp [z, h2]⟩
theorem ER.wipe (e : ER K G n S H r σ) (vs : List Nat) : ER K G n S H (wipeE r vs) (wipe σ vs) := by
  refine ⟨by rw [wipeE_length, wipe_length, e.len], fun i d h => ?_, fun i d h => ?_, fun i j a d f h1 h2 h3 h4 => ?_⟩
  · obtain ⟨h1, h2⟩ := wipeE_some (by simp) h
    rw [wipe_get h2]; exact e.val i d h1
  · obtain ⟨h1, h2⟩ := wipeE_some (by simp) h
    rw [wipe_get h2]; exact e.own i d h1
  · obtain ⟨f1, f2⟩ := wipeE_some (by simp) h1
    obtain ⟨f3, f4⟩ := wipeE_some (by simp) h3
    rw [wipe_get f2] at h2
    rw [wipe_get f4] at h4
    exact e.inj i j a d f f1 h2 f3 h4
end

/-! ### targets -/
section
variable (K : PySem.W.Frag)
def SG (g : TG) (m : GM) (is : List Nat) : Prop := ∀ G n S H r σ d v r' (Q : L2.St → Hp → Prop), SR K G n S H → ER K G n S H r σ → Rel K G n d v → m d r = some r' →
  (∀ σ', ER K G n S H r' σ' → OwnSub r σ H r' σ' → (∀ vs, (∀ i ∈ is, i ∈ vs) → wipe σ' vs = wipe σ vs) → Q σ' H) → g v σ H Q
def SGs (g : TGs) (m : List GM) (is : List Nat) : Prop := ∀ G n S H r σ ds vs r' (Q : L2.St → Hp → Prop), SR K G n S H → ER K G n S H r σ → RelL K G n ds vs → gAll m ds r = some r' →
  (∀ σ', ER K G n S H r' σ' → OwnSub r σ H r' σ' → (∀ vs, (∀ i ∈ is, i ∈ vs) → wipe σ' vs = wipe σ vs) → Q σ' H) → g vs σ H Q
end
theorem wipe_set {σ : L2.St} {i : Nat} {x : Option V} : ∀ {vs : List Nat}, i ∈ vs → wipe (σ.set i x) vs = wipe σ vs
  | [], h => absurd h (by simp)
  | j :: vs, h => by
    show (wipe (σ.set i x) vs).set j none = (wipe σ vs).set j none
    by_cases hi : i ∈ vs
    · rw [wipe_set hi]
    · have hj : i = j := by
        rcases List.mem_cons.mp h with e | e
        · exact e
        · exact absurd e hi
      subst hj
      apply List.ext_getElem?
      intro k
      by_cases hk : k = i
      · subst hk
        by_cases hl : k < σ.length
        · rw [List.getElem?_set_self (by rw [wipe_length]; simpa using hl), List.getElem?_set_self (by rw [wipe_length]; exact hl)]
        · rw [List.getElem?_eq_none_iff.mpr (by rw [List.length_set, wipe_length]; simpa using hl), List.getElem?_eq_none_iff.mpr (by rw [List.length_set, wipe_length]; simpa using hl)]
      · rw [List.getElem?_set_ne (Ne.symm hk), List.getElem?_set_ne (Ne.symm hk)]
        by_cases hv : k ∈ vs
        · have z : ∀ (τ : L2.St) (ws : List Nat), k ∈ ws → k < τ.length → (wipe τ ws)[k]? = some none := by
            intro τ ws
            induction ws with
            | nil => intro h; simp at h
            | cons w ws ih =>
              intro h hl
              show ((wipe τ ws).set w none)[k]? = _
              by_cases e : k = w
              · subst e
                rw [List.getElem?_set_self (by rw [wipe_length]; exact hl)]
              · rw [List.getElem?_set_ne (Ne.symm e)]
                rcases List.mem_cons.mp h with x | x
                · exact absurd x e
                · exact ih x hl
          by_cases hl : k < σ.length
          · rw [z _ _ hv hl, z _ _ hv (by simpa using hl)]
          · rw [List.getElem?_eq_none_iff.mpr (by rw [wipe_length]; simpa using hl), List.getElem?_eq_none_iff.mpr (by rw [wipe_length]; simpa using hl)]
        · rw [wipe_get hv, wipe_get hv, List.getElem?_set_ne (Ne.symm hk)]
section
variable {K : PySem.W.Frag}
theorem SG.name (i : Nat) : SG K (gName i) (gN i) [i] := fun G n S H r σ d v r' Q s e rl hm k => by
  cases hm
  exact k _ (e.setVal i rl) (OwnSub.setVal i) fun vs hv => wipe_set (hv i (by simp))
theorem SGs.nil : SGs K gNil [] [] := fun G n S H r σ ds vs r' Q s e rl hm k => by
  cases ds with
  | nil =>
    simp only [RelL] at rl
    subst rl
    cases hm
    exact ⟨rfl, k _ e OwnSub.refl fun _ _ => rfl⟩
  | cons d ds => cases hm
theorem SGs.cons {g : TG} {gs : TGs} {m : GM} {ms : List GM} {is js : List Nat} (h : SG K g m is) (hs : SGs K gs ms js) : SGs K (gCons g gs) (m :: ms) (is ++ js) := fun G n S H r σ ds vs r' Q s e rl hm k => by
  cases ds with
  | nil => cases hm
  | cons d ds =>
    simp only [RelL] at rl
    obtain ⟨v, w, rfl, r1, r2⟩ := rl
    have hm' : (m d r).bind (gAll ms ds) = some r' := hm
    cases q : m d r with
    | none => rw [q] at hm'; cases hm'
    | some ra =>
      rw [q] at hm'
      refine ⟨v, w, rfl, h G n S H r σ d v ra _ s e r1 q fun σ1 e1 o1 w1 => ?_⟩
      refine hs G n S H ra σ1 ds w r' Q s e1 r2 hm' fun σ2 e2 o2 w2 => ?_
      refine k σ2 e2 (o1.trans o2 fun _ z => z) fun vs hv => ?_
      rw [w2 vs fun i hi => hv i (List.mem_append_right _ hi), w1 vs fun i hi => hv i (List.mem_append_left _ hi)]
theorem SG.tup {gs : TGs} {ms : List GM} {is : List Nat} {k : Nat} (hs : SGs K gs ms is) (hk : ms.length = k) : SG K (gTup K k gs) (gT ms) is := fun G n S H r σ d v r' Q s e rl hm c => by
  have main : ∀ ds a vs, v = .ref a → SqT K G a vs → RelL K G n ds vs → gAll ms ds r = some r' → gTup K k gs v σ H Q := by
    intro ds a vs ev q rm hm
    subst ev
    have len : ∀ (ms : List GM) (ds : List D) (r r' : Env), gAll ms ds r = some r' → ms.length = ds.length := by
      intro ms
      induction ms with
      | nil => intro ds r r' h; cases ds with
        | nil => rfl
        | cons => cases h
      | cons m ms ih => intro ds r r' h; cases ds with
        | nil => cases h
        | cons d ds =>
          have h' : (m d r).bind (gAll ms ds) = some r' := h
          cases q : m d r with
          | none => rw [q] at h'; cases h'
          | some ra =>
            rw [q] at h'
            simp [ih ds ra r' h']
    have hl := len ms ds r r' hm
    exact ⟨a, vs, rfl, s.sub.st q, by rw [← rm.len, ← hl]; exact hk, hs G n S H r σ ds vs r' Q s e rm hm c⟩
  cases d with
  | tup ds =>
    simp only [Rel] at rl
    obtain ⟨a, vs, rfl, q, rl⟩ := rl
    exact main ds a vs rfl (.inl (.inl q)) rl hm
  | trn ds =>
    simp only [Rel] at rl
    obtain ⟨a, vs, rfl, q, rl⟩ := rl
    exact main ds a vs rfl q.sq rl hm
  | _ => cases hm
end

/-! ### statements -/
section
variable (K : PySem.W.Frag) (EE : XQ)
def WpS (x : Res Out) (G : Hp) (n : List Addr) (S : Store) (H : Hp) (r : Env) (σ : L2.St) (D : Ends) : Prop := match x with
  | .ok (.nx r') S' => ∀ G' n' H' σ', Post K (Own r σ) G n S H G' n' S' H' → ER K G' n' S' H' r' σ' → OwnSub r σ H r' σ' → D.nx σ' H'
  | .ok (.bk r') S' => ∀ G' n' H' σ', Post K (Own r σ) G n S H G' n' S' H' → ER K G' n' S' H' r' σ' → OwnSub r σ H r' σ' → D.bk σ' H'
  | .ok (.ct r') S' => ∀ G' n' H' σ', Post K (Own r σ) G n S H G' n' S' H' → ER K G' n' S' H' r' σ' → OwnSub r σ H r' σ' → D.ct σ' H'
  | .ok (.rt d) S' => ∀ v G' n' H', Post K (Own r σ) G n S H G' n' S' H' → Rel K G' n' d v → D.rt v H'
  | .exc x S' => ∀ c dd G' n' H', Post K (Own r σ) G n S H G' n' S' H' → ExcR x c dd H' → EE x c dd H'
  | .bad => False
def SS (ts : TS) (m : SM) : Prop := ∀ G n S H r σ D, SR K G n S H → ER K G n S H r σ → WpS K EE (m r S) G n S H r σ D → ts D σ H
end
section
variable {K : PySem.W.Frag} {EE : XQ} {G G1 : Hp} {n n1 : List Addr} {S S1 : Store} {H H1 : Hp} {r r1 : Env} {σ σ1 : L2.St} {D : Ends} {ts tu : TS} {ms mu : SM} {te : TE} {m : EM} {tt : TT} {t : TM}
theorem WpS.at {x : Res Out} (p : Post K (Own r σ) G n S H G1 n1 S1 H1) (o : OwnSub r σ H r1 σ1) (h : WpS K EE x G n S H r σ D) : WpS K EE x G1 n1 S1 H1 r1 σ1 D := by
  cases x with
  | ok d S' => cases d with
    | nx r' => exact fun G' n' H' σ' q e o' => h G' n' H' σ' (p.trans q o) e (o.trans o' fun _ => p.back)
    | bk r' => exact fun G' n' H' σ' q e o' => h G' n' H' σ' (p.trans q o) e (o.trans o' fun _ => p.back)
    | ct r' => exact fun G' n' H' σ' q e o' => h G' n' H' σ' (p.trans q o) e (o.trans o' fun _ => p.back)
    | rt d => exact fun v G' n' H' q => h v G' n' H' (p.trans q o)
  | exc x S' => exact fun c dd G' n' H' q => h c dd G' n' H' (p.trans q o)
  | bad => exact h
theorem WpS.at0 {x : Res Out} (p : Post K NoO G n S H G1 n1 S1 H1) (h : WpS K EE x G n S H r σ D) : WpS K EE x G1 n1 S1 H1 r σ D := h.at (p.mono fun _ z => z.elim) OwnSub.refl
theorem Post.own (p : Post K NoO G n S H G1 n1 S1 H1) : Post K (Own r σ) G n S H G1 n1 S1 H1 := p.mono fun _ z => z.elim
theorem SS.nil : SS K EE tNext mNil := fun G n S H r σ D s e w => w G n H σ (Post.refl s) e OwnSub.refl
theorem SS.seq (h1 : SS K EE ts ms) (h2 : SS K EE tu mu) : SS K EE (tSeq ts tu) (mSeq ms mu) := fun G n S H r σ D s e w => by
  refine h1 G n S H r σ _ s e ?_
  unfold mSeq at w
  cases q : ms r S with
  | ok d S1 => cases d with
    | nx r1 =>
      rw [q] at w
      exact fun G1 n1 H1 σ1 p e1 o => h2 G1 n1 S1 H1 r1 σ1 D p.sr e1 (WpS.at p o w)
    | bk r1 => rw [q] at w; exact w
    | ct r1 => rw [q] at w; exact w
    | rt d => rw [q] at w; exact w
  | exc x S' => rw [q] at w; exact w
  | bad => rw [q] at w; exact w
theorem SS.set {g : TG} {gm : GM} {is : List Nat} (he : SE K EE te m) (hg : SG K g gm is) : SS K EE (tAsg te g) (mSet gm m) := fun G n S H r σ D s e w => by
  refine he G n S H r σ _ s e ?_
  unfold mSet at w
  cases q : m r S with
  | ok d S1 =>
    rw [q] at w
    intro v G1 n1 H1 p rl
    have w1 : WpS K EE (match gm d r with | some r1 => .ok (.nx r1) S1 | none => .bad) G n S H r σ D := w
    cases q2 : gm d r with
    | none => rw [q2] at w1; exact w1.elim
    | some r1 =>
      rw [q2] at w1
      exact hg G1 n1 S1 H1 r σ d v r1 _ p.sr (e.post p) rl q2 fun σ1 e1 o1 _ => w1 G1 n1 H1 σ1 p.own e1 fun a x => (o1 a x).imp id p.back
  | exc x S' => rw [q] at w; exact fun c dd G' n' H' p => w c dd G' n' H' p.own
  | bad => rw [q] at w; exact w
theorem SS.own {i : Nat} {l : LM} (hl : SL K EE te l) : SS K EE (tAsg te (gName i)) (mOwn i l) := fun G n S H r σ D s e w => by
  refine hl G n S H r σ _ s e ?_
  unfold mOwn at w
  cases q : l r S with
  | ok ds S1 =>
    rw [q] at w
    intro b vs G1 n1 H1 p hn hg hl hb rl
    have nx : ¬ Own r σ b := fun ⟨j, c, z1, z2⟩ => by
      obtain ⟨a, o, g1, _, _, g4, _⟩ := e.own j c z1
      rw [z2] at g1; cases g1
      rw [hn] at g4; cases g4
    exact w G1 n1 H1 _ p.own ((e.post p).setOwn i hg hl hb ⟨vs, rfl, rl⟩ nx) (OwnSub.setOwn i hn)
  | exc x S' => rw [q] at w; exact fun c dd G' n' H' p => w c dd G' n' H' p.own
  | bad => rw [q] at w; exact w
theorem SS.frz {i : Nat} (h : SS K EE ts ms) : SS K EE ts (mFrz i ms) := fun G n S H r σ D s e w => by
  unfold mFrz at w
  cases q : r[i]? with
  | none => rw [q] at w; exact h G n S H r σ D s e w
  | some sl => cases sl with
    | no => rw [q] at w; exact h G n S H r σ D s e w
    | val d => rw [q] at w; exact h G n S H r σ D s e w
    | own d =>
      rw [q] at w
      obtain ⟨a, o, h1, h2, h3, h4, h5⟩ := e.own i d q
      have ow : Own r σ a := ⟨i, d, q, h1⟩
      have p : Post K (Own r σ) G n S H (upd G a o) n S H := Post.keep s h4 h2 h3 ow
      have sub := p.sub
      have rl : Rel K (upd G a o) n d (.ref a) := by
        cases d with
        | lst ds => obtain ⟨vs, rfl, z⟩ := h5; simp only [Rel]; exact ⟨a, vs, rfl, upd_same, RelL.mono sub p.eta _ _ z⟩
        | dK ks ds => obtain ⟨kvs, rfl, ek, z⟩ := h5; simp only [Rel]; exact ⟨a, kvs, rfl, upd_same, ek, RelL.mono sub p.eta _ _ z⟩
        | dT ks ds => obtain ⟨kvs, rfl, ek, z⟩ := h5; simp only [Rel]; exact ⟨a, kvs, rfl, upd_same, ek, RelL.mono sub p.eta _ _ z⟩
        | _ => exact h5.elim
      have e1 : ER K (upd G a o) n S H (r.set i (.val d)) σ := by
        refine ⟨by simp [e.len], fun j c z => ?_, fun j c z => ?_, fun j k b c f z1 z2 z3 z4 => ?_⟩
        · rcases set_some z with ⟨x, y⟩ | ⟨x, y⟩
          · subst x; cases y; exact ⟨.ref a, h1, rl⟩
          · obtain ⟨v, g1, g2⟩ := e.val j c y
            exact ⟨v, g1, Rel.mono sub p.eta _ _ g2⟩
        · rcases set_some z with ⟨x, y⟩ | ⟨x, y⟩
          · cases y
          · obtain ⟨b, u, g1, g2, g3, g4, g5⟩ := e.own j c y
            have ne : b ≠ a := fun z => x (e.inj j i a c d y (z ▸ g1) q h1)
            exact ⟨b, u, g1, by rw [upd_ne ne]; exact g2, g3, g4, HoR.mono sub p.eta _ _ g5⟩
        · rcases set_some z1 with ⟨x, y⟩ | ⟨x, y⟩
          · cases y
          · rcases set_some z3 with ⟨x', y'⟩ | ⟨x', y'⟩
            · cases y'
            · exact e.inj j k b c f y z2 y' z4
      have o1 : OwnSub r σ H (r.set i (.val d)) σ := fun b ⟨j, c, z1, z2⟩ => by
        rcases set_some z1 with ⟨x, y⟩ | ⟨x, y⟩
        · cases y
        · exact .inl ⟨j, c, y, z2⟩
      exact h _ n S H _ σ D p.sr e1 (WpS.at p o1 w)
theorem SS.ite (h : ST K EE tt t) (h1 : SS K EE ts ms) (h2 : SS K EE tu mu) : SS K EE (tIfS tt ts tu) (mIf t ms mu) := fun G n S H r σ D s e w => by
  refine h G n S H r σ _ s e ?_
  unfold mIf at w
  cases q : t r S with
  | ok c S1 =>
    rw [q] at w
    intro G1 n1 H1 p
    have w1 : WpS K EE (if c = true then ms r S1 else mu r S1) G1 n1 S1 H1 r σ D := WpS.at0 p w
    cases c with
    | true => exact h1 G1 n1 S1 H1 r σ D p.sr (e.post p) w1
    | false => exact h2 G1 n1 S1 H1 r σ D p.sr (e.post p) w1
  | exc x S' => rw [q] at w; exact fun c dd G' n' H' p => w c dd G' n' H' p.own
  | bad => rw [q] at w; exact w
theorem SS.ret (he : SE K EE te m) : SS K EE (tRet te) (mRet m) := fun G n S H r σ D s e w => by
  refine he G n S H r σ _ s e ?_
  unfold mRet at w
  cases q : m r S with
  | ok d S1 => rw [q] at w; exact fun v G1 n1 H1 p rl => w v G1 n1 H1 p.own rl
  | exc x S' => rw [q] at w; exact fun c dd G' n' H' p => w c dd G' n' H' p.own
  | bad => rw [q] at w; exact w
theorem SS.retN : SS K EE tRetN mRetN := fun G n S H r σ D s e w => w .non G n H (Post.refl s) (by simp only [Rel])
theorem SS.drop (he : SB K EE te m) : SS K EE (tDrop te) (mDrop m) := fun G n S H r σ D s e w => by
  refine he G n S H r σ _ s e ?_
  unfold mDrop at w
  cases q : m r S with
  | ok d S1 => rw [q] at w; exact fun v G1 n1 H1 p rl => w G1 n1 H1 σ p.own (e.post p) OwnSub.refl
  | exc x S' => rw [q] at w; exact fun c dd G' n' H' p => w c dd G' n' H' p.own
  | bad => rw [q] at w; exact w
theorem SS.brk : SS K EE tBreak mBreak := fun G n S H r σ D s e w => w G n H σ (Post.refl s) e OwnSub.refl
theorem SS.cont : SS K EE tCont mCont := fun G n S H r σ D s e w => w G n H σ (Post.refl s) e OwnSub.refl
theorem SS.bad : SS K EE tNever mBad := fun G n S H r σ D s e w => w
end

/-! ### walks -/
def ItOk (K : PySem.W.Frag) (B G : Hp) (n : List Addr) (ds : List D) (J : It) : Prop := ∀ H2, Sub B H2 → (∀ i, ds.length ≤ i → J.stop i H2) ∧
  ∀ i d, ds[i]? = some d → J.go i H2 ∧ ∀ x H3, J.yld i H2 x H3 → (H3 = H2 ∧ Rel K G n d x) ∨ ∃ T vs es, H2 T = none ∧ H3 = upd H2 T (.tup vs) ∧ x = .ref T ∧ d = .tup es ∧ RelL K G n es vs
def ItOkS (K : PySem.W.Frag) (B G : Hp) (n : List Addr) (src : Src) (J : It) : Prop := match src with
  | .fix ds => ItOk K B G n ds J
  | .cell k => ∃ a, n[k]? = some a ∧ J = Itl K a
section
variable (K : PySem.W.Frag) (EE : XQ)
def WpI (st : Bool) (x : Res Src) (G : Hp) (n : List Addr) (S : Store) (H : Hp) (R : It → Hp → Prop) : Prop := match x with
  | .ok ds S' => ∀ J G' n' H', Post K NoO G n S H G' n' S' H' → ItOkS K (if st = true then G' else NL n' S' H') G' n' ds J → R J H'
  | .exc x S' => ∀ c dd G' n' H', Post K NoO G n S H G' n' S' H' → ExcR x c dd H' → EE x c dd H'
  | .bad => False
/-- st: what is walked is kept -/
def SI (st : Bool) (wi : TI) (m : IM) : Prop := ∀ G n S H r σ R, SR K G n S H → ER K G n S H r σ → WpI K EE st (m r S) G n S H R → wi σ H R
end
section
variable {K : PySem.W.Frag} {EE : XQ} {G G1 G' : Hp} {n n1 n' : List Addr} {S S1 S' : Store} {H H1 H' : Hp} {r r1 : Env} {σ σ1 : L2.St} {D : Ends} {wi : TI} {g : TG} {gm : GM} {is : List Nat} {tb : TS} {mb : SM} {im : IM} {tt : TT} {t : TM}
theorem hidden {a : Addr} {o : HO} (p : Post K NoO G n S H G' n' S' H') (h : H a = some o) (hg : G a = none) (hl : ¬ Live n S a) : G' a = none ∧ ¬ Live n' S' a ∧ H' a = some o := by
  refine ⟨?_, fun l => ?_, p.frame a o h hl fun z => z⟩
  · cases q : G' a with
    | none => rfl
    | some u =>
      rcases p.gnew a u q with x | x | x | x
      · rw [hg] at x; cases x
      · rw [h] at x; cases x
      · exact absurd x hl
      · exact x.elim
  · rcases p.live l with x | x
    · exact hl x
    · rw [h] at x; cases x
theorem lstAt_some {k : Nat} {xs : List BR.D} (h : lstAt S k = some xs) : S[k]? = some (some (.lst xs)) := by
  unfold lstAt at h
  cases q : S[k]? with
  | none => rw [q] at h; cases h
  | some o =>
    rw [q] at h
    cases o with
    | none => cases h
    | some c => cases c <;> first | (cases h; done) | (cases h; rfl)
theorem cell_lst {k : Nat} {a : Addr} {xs : List BR.D} (s : SR K G n S H) (h : n[k]? = some a) (e : lstAt S k = some xs) : ∃ vs, H a = some (.lst vs) ∧ RelL K G n xs vs := by
  obtain ⟨_, o, ho, vs, rfl, q⟩ := s.cell k a _ h (lstAt_some e)
  exact ⟨vs, ho, q⟩
theorem drop_cons {α : Type} {l : List α} {i : Nat} {d : α} (h : l[i]? = some d) : l.drop i = d :: l.drop (i + 1) := by
  obtain ⟨h1, h2⟩ := List.getElem?_eq_some_iff.mp h
  rw [← h2]
  exact List.drop_eq_getElem_cons h1
def ForGoal (J : It) (g : TG) (tb : TS) (D : Ends) (σ : L2.St) (H : Hp) : Prop := ∃ W : Nat → Nat → L2.St → Hp → Prop, (∃ m, W 0 m σ H) ∧ ∀ i m σ H, W i m σ H →
  (J.stop i H ∧ D.nx σ H) ∨ (J.go i H ∧ ∃ N : L2.St → Hp → Prop, (∀ σ' H', N σ' H' → ∃ m', m' < m ∧ W (i + 1) m' σ' H') ∧ ∀ x H', J.yld i H x H' → g x σ H' fun σ2 H2 => tb { D with nx := N, ct := N, bk := D.nx } σ2 H2)
theorem for_core {J : It} {ds : List BR.D} (hg : SG K g gm is) (hb : SS K EE tb mb) (s1 : SR K G1 n1 S1 H1) (e1 : ER K G1 n1 S1 H1 r σ) (it : ItOk K G1 G1 n1 ds J) (w1 : WpS K EE (forGo gm mb ds r S1) G1 n1 S1 H1 r σ D) : ForGoal J g tb D σ H1 := by
  refine ⟨fun i m σ2 H2 => m = ds.length - i ∧ i ≤ ds.length ∧ ∃ G2 n2 S2 r2, Post K (Own r σ) G1 n1 S1 H1 G2 n2 S2 H2 ∧ ER K G2 n2 S2 H2 r2 σ2 ∧ OwnSub r σ H1 r2 σ2 ∧ WpS K EE (forGo gm mb (ds.drop i) r2 S2) G2 n2 S2 H2 r2 σ2 D,
    ⟨ds.length, by simp, Nat.zero_le _, G1, n1, S1, r, Post.refl s1, e1, OwnSub.refl, w1⟩, ?_⟩
  rintro i m σ2 H2 ⟨rfl, hi2, G2, n2, S2, r2, p2, e2, o2, w2⟩
  obtain ⟨stop, go⟩ := it H2 (p2.sub.trans p2.sr.sub)
  by_cases hlt : i < ds.length
  · refine .inr ?_
    have hd : ds[i]? = some ds[i] := List.getElem?_eq_getElem hlt
    obtain ⟨g1, g2⟩ := go i _ hd
    rw [drop_cons hd] at w2
    refine ⟨g1, fun σ' H' => (ds.length - (i + 1) = ds.length - (i + 1)) ∧ i + 1 ≤ ds.length ∧ ∃ G3 n3 S3 r3, Post K (Own r σ) G1 n1 S1 H1 G3 n3 S3 H' ∧ ER K G3 n3 S3 H' r3 σ' ∧ OwnSub r σ H1 r3 σ' ∧ WpS K EE (forGo gm mb (ds.drop (i + 1)) r3 S3) G3 n3 S3 H' r3 σ' D,
      fun σ' H' z => ⟨ds.length - (i + 1), by omega, z⟩, fun x H3 y => ?_⟩
    -- the item, at a state (G3, H3)
    have main : ∀ G3, Post K NoO G2 n2 S2 H2 G3 n2 S2 H3 → Rel K G3 n2 ds[i] x → g x σ2 H3 fun σ3 H4 => tb { D with nx := fun σ' H' => (ds.length - (i + 1) = ds.length - (i + 1)) ∧ i + 1 ≤ ds.length ∧ ∃ G3 n3 S3 r3, Post K (Own r σ) G1 n1 S1 H1 G3 n3 S3 H' ∧ ER K G3 n3 S3 H' r3 σ' ∧ OwnSub r σ H1 r3 σ' ∧ WpS K EE (forGo gm mb (ds.drop (i + 1)) r3 S3) G3 n3 S3 H' r3 σ' D, ct := fun σ' H' => (ds.length - (i + 1) = ds.length - (i + 1)) ∧ i + 1 ≤ ds.length ∧ ∃ G3 n3 S3 r3, Post K (Own r σ) G1 n1 S1 H1 G3 n3 S3 H' ∧ ER K G3 n3 S3 H' r3 σ' ∧ OwnSub r σ H1 r3 σ' ∧ WpS K EE (forGo gm mb (ds.drop (i + 1)) r3 S3) G3 n3 S3 H' r3 σ' D, bk := D.nx } σ3 H4 := by
      intro G3 p3 rl
      unfold forGo at w2
      cases q2 : gm ds[i] r2 with
      | none => simp only [q2] at w2; exact w2.elim
      | some r3 =>
        simp only [q2] at w2
        refine hg G3 n2 S2 H3 r2 σ2 ds[i] x r3 _ p3.sr (e2.post p3) rl q2 fun σ3 e3 o3 _ => ?_
        have pb : Post K (Own r2 σ2) G2 n2 S2 H2 G3 n2 S2 H3 := p3.own
        have ob : OwnSub r2 σ2 H2 r3 σ3 := fun a z => (o3 a z).imp id p3.back
        refine hb G3 n2 S2 H3 r3 σ3 _ p3.sr e3 ?_
        have again : ∀ {G4 : Hp} {n4 : List Addr} {S4 : Store} {H4 : Hp} {r4 : Env} {σ4 : L2.St}, Post K (Own r3 σ3) G3 n2 S2 H3 G4 n4 S4 H4 → ER K G4 n4 S4 H4 r4 σ4 → OwnSub r3 σ3 H3 r4 σ4 → WpS K EE (forGo gm mb (ds.drop (i + 1)) r4 S4) G2 n2 S2 H2 r2 σ2 D →
            ds.length - (i + 1) = ds.length - (i + 1) ∧ i + 1 ≤ ds.length ∧ ∃ G3 n3 S3 r3, Post K (Own r σ) G1 n1 S1 H1 G3 n3 S3 H4 ∧ ER K G3 n3 S3 H4 r3 σ4 ∧ OwnSub r σ H1 r3 σ4 ∧ WpS K EE (forGo gm mb (ds.drop (i + 1)) r3 S3) G3 n3 S3 H4 r3 σ4 D := by
          intro G4 n4 S4 H4 r4 σ4 p4 e4 o4 w4
          have p24 : Post K (Own r2 σ2) G2 n2 S2 H2 G4 n4 S4 H4 := pb.trans p4 ob
          have o24 : OwnSub r2 σ2 H2 r4 σ4 := ob.trans o4 fun _ => p3.back
          exact ⟨rfl, hlt, G4, n4, S4, r4, p2.trans p24 o2, e4, o2.trans o24 fun _ => p2.back, WpS.at p24 o24 w4⟩
        cases q3 : mb r3 S2 with
        | ok d S4 => cases d with
          | nx r4 => simp only [q3] at w2; exact fun G4 n4 H4 σ4 p4 e4 o4 => again p4 e4 o4 w2
          | ct r4 => simp only [q3] at w2; exact fun G4 n4 H4 σ4 p4 e4 o4 => again p4 e4 o4 w2
          | bk r4 =>
            simp only [q3] at w2
            exact fun G4 n4 H4 σ4 p4 e4 o4 => w2 G4 n4 H4 σ4 (pb.trans p4 ob) e4 (ob.trans o4 fun _ => p3.back)
          | rt d => simp only [q3] at w2; exact fun v G4 n4 H4 p4 => w2 v G4 n4 H4 (pb.trans p4 ob)
        | exc x S' => simp only [q3] at w2; exact fun c dd G4 n4 H4 p4 => w2 c dd G4 n4 H4 (pb.trans p4 ob)
        | bad => simp only [q3] at w2; exact w2
    rcases g2 x H3 y with ⟨rfl, rl⟩ | ⟨T, vs, es, hT, rfl, rfl, ed, rl⟩
    · exact main G2 (Post.refl p2.sr) (Rel.mono p2.sub p2.eta _ _ rl)
    · have p3 : Post K NoO G2 n2 S2 H2 (upd G2 T (.tup vs)) n2 S2 (upd H2 T (.tup vs)) := Post.frz p2.sr hT
      refine main _ p3 ?_
      rw [ed]
      simp only [Rel]
      exact ⟨T, vs, rfl, upd_same, RelL.mono (p2.sub.trans p3.sub) (p2.eta.trans p3.eta) _ _ rl⟩
  · have hi3 : i = ds.length := by omega
    refine .inl ⟨stop i (by omega), ?_⟩
    rw [List.drop_eq_nil_of_le (by omega)] at w2
    exact w2 G2 n2 H2 σ2 (Post.refl p2.sr) e2 OwnSub.refl
theorem for_coreV {k : Nat} {a : Addr} (hg : SG K g gm is) (hb : SS K EE tb mb) (s1 : SR K G1 n1 S1 H1) (e1 : ER K G1 n1 S1 H1 r σ) (ha : n1[k]? = some a) (w1 : WpS K EE (forGoV k gm mb fuel 0 r S1) G1 n1 S1 H1 r σ D) : ForGoal (Itl K a) g tb D σ H1 := by
  refine ⟨fun i m σ2 H2 => ∃ G2 n2 S2 r2, Post K (Own r σ) G1 n1 S1 H1 G2 n2 S2 H2 ∧ ER K G2 n2 S2 H2 r2 σ2 ∧ OwnSub r σ H1 r2 σ2 ∧ WpS K EE (forGoV k gm mb m i r2 S2) G2 n2 S2 H2 r2 σ2 D,
    ⟨fuel, G1, n1, S1, r, Post.refl s1, e1, OwnSub.refl, w1⟩, ?_⟩
  rintro i m σ2 H2 ⟨G2, n2, S2, r2, p2, e2, o2, w2⟩
  cases m with
  | zero => exact w2.elim
  | succ m =>
    unfold forGoV at w2
    cases ql : lstAt S2 k with
    | none => simp only [ql] at w2; exact w2.elim
    | some ds =>
      simp only [ql] at w2
      obtain ⟨vs, hv, rl⟩ := cell_lst p2.sr (p2.eta.get ha) ql
      have sq : SqL K H2 a vs := .inl (.inl hv)
      cases qd : ds[i]? with
      | none =>
        simp only [qd] at w2
        refine .inl ⟨⟨vs, sq, by rw [← rl.len]; exact List.getElem?_eq_none_iff.mp qd⟩, w2 G2 n2 H2 σ2 (Post.refl p2.sr) e2 OwnSub.refl⟩
      | some d =>
        simp only [qd] at w2
        obtain ⟨v, e3, rv⟩ := rl.get qd
        refine .inr ⟨⟨vs, v, sq, e3⟩, fun σ' H' => ∃ G3 n3 S3 r3, Post K (Own r σ) G1 n1 S1 H1 G3 n3 S3 H' ∧ ER K G3 n3 S3 H' r3 σ' ∧ OwnSub r σ H1 r3 σ' ∧ WpS K EE (forGoV k gm mb m (i + 1) r3 S3) G3 n3 S3 H' r3 σ' D, fun σ' H' z => ⟨m, Nat.lt_succ_self m, z⟩, fun x H3 y => ?_⟩
        obtain ⟨rfl, y2⟩ := y
        have e4 := y2 vs sq
        rw [e3] at e4
        obtain rfl : v = x := Option.some.inj e4
        cases q2 : gm d r2 with
        | none => simp only [q2] at w2; exact w2.elim
        | some r3 =>
          simp only [q2] at w2
          refine hg G2 n2 S2 H3 r2 σ2 d v r3 _ p2.sr e2 rv q2 fun σ3 e3 o3 _ => ?_
          refine hb G2 n2 S2 H3 r3 σ3 _ p2.sr e3 ?_
          have again : ∀ {G4 : Hp} {n4 : List Addr} {S4 : Store} {H4 : Hp} {r4 : Env} {σ4 : L2.St}, Post K (Own r3 σ3) G2 n2 S2 H3 G4 n4 S4 H4 → ER K G4 n4 S4 H4 r4 σ4 → OwnSub r3 σ3 H3 r4 σ4 → WpS K EE (forGoV k gm mb m (i + 1) r4 S4) G2 n2 S2 H3 r2 σ2 D →
              ∃ G3 n3 S3 r3, Post K (Own r σ) G1 n1 S1 H1 G3 n3 S3 H4 ∧ ER K G3 n3 S3 H4 r3 σ4 ∧ OwnSub r σ H1 r3 σ4 ∧ WpS K EE (forGoV k gm mb m (i + 1) r3 S3) G3 n3 S3 H4 r3 σ4 D := by
            intro G4 n4 S4 H4 r4 σ4 p4 e4 o4 w4
            have p24 : Post K (Own r2 σ2) G2 n2 S2 H3 G4 n4 S4 H4 := (Post.refl p2.sr).trans p4 o3
            have o24 : OwnSub r2 σ2 H3 r4 σ4 := o3.trans o4 fun _ z => z
            exact ⟨G4, n4, S4, r4, p2.trans p24 o2, e4, o2.trans o24 fun _ => p2.back, WpS.at p24 o24 w4⟩
          have pb : Post K (Own r2 σ2) G2 n2 S2 H3 G2 n2 S2 H3 := Post.refl p2.sr
          cases q3 : mb r3 S2 with
          | ok d S4 => cases d with
            | nx r4 => simp only [q3] at w2; exact fun G4 n4 H4 σ4 p4 e4 o4 => again p4 e4 o4 w2
            | ct r4 => simp only [q3] at w2; exact fun G4 n4 H4 σ4 p4 e4 o4 => again p4 e4 o4 w2
            | bk r4 =>
              simp only [q3] at w2
              exact fun G4 n4 H4 σ4 p4 e4 o4 => w2 G4 n4 H4 σ4 (pb.trans p4 o3) e4 (o3.trans o4 fun _ z => z)
            | rt d => simp only [q3] at w2; exact fun v G4 n4 H4 p4 => w2 v G4 n4 H4 (pb.trans p4 o3)
          | exc x S' => simp only [q3] at w2; exact fun c dd G4 n4 H4 p4 => w2 c dd G4 n4 H4 (pb.trans p4 o3)
          | bad => simp only [q3] at w2; exact w2
theorem SS.for (hi : SI K EE true wi im) (hg : SG K g gm is) (hb : SS K EE tb mb) : SS K EE (tFor wi g tb) (mFor im gm mb) := fun G n S H r σ D s e w => by
  refine hi G n S H r σ _ s e ?_
  unfold mFor at w
  cases q : im r S with
  | ok src S1 =>
    rw [q] at w
    intro J G1 n1 H1 p it
    rw [if_pos rfl] at it
    simp only [bind_ok] at w
    cases src with
    | fix ds => exact for_core hg hb p.sr (e.post p) it (WpS.at0 p w)
    | cell k =>
      obtain ⟨a, ha, rfl⟩ := it
      exact for_coreV hg hb p.sr (e.post p) ha (WpS.at0 p w)
  | exc x S' => rw [q] at w; exact fun c dd G' n' H' p => w c dd G' n' H' p.own
  | bad => rw [q] at w; exact w
theorem SS.while (ht : ST K EE tt t) (hb : SS K EE tb mb) : SS K EE (tWhile tt tb) (mWhile t mb) := fun G n S H r σ D s e w => by
  refine ⟨fun m σ2 H2 => ∃ G2 n2 S2 r2, Post K (Own r σ) G n S H G2 n2 S2 H2 ∧ ER K G2 n2 S2 H2 r2 σ2 ∧ OwnSub r σ H r2 σ2 ∧ WpS K EE (whileGo t mb m r2 S2) G2 n2 S2 H2 r2 σ2 D, ⟨fuel, G, n, S, r, Post.refl s, e, OwnSub.refl, w⟩, ?_⟩
  rintro m σ2 H2 ⟨G2, n2, S2, r2, p2, e2, o2, w2⟩
  cases m with
  | zero => exact w2.elim
  | succ m =>
    refine ht G2 n2 S2 H2 r2 σ2 _ p2.sr e2 ?_
    unfold whileGo at w2
    cases q : t r2 S2 with
    | ok c S3 =>
      rw [q] at w2
      intro G3 n3 H3 p3
      have w3 := WpS.at0 p3 w2
      cases c with
      | false =>
        simp only [bind_ok, Bool.false_eq_true, if_false] at w3
        exact w3 G3 n3 H3 σ2 (Post.refl p3.sr) (e2.post p3) OwnSub.refl
      | true =>
        simp only [bind_ok, if_true] at w3
        refine ⟨fun σ' H' => ∃ G4 n4 S4 r4, Post K (Own r σ) G n S H G4 n4 S4 H' ∧ ER K G4 n4 S4 H' r4 σ' ∧ OwnSub r σ H r4 σ' ∧ WpS K EE (whileGo t mb m r4 S4) G4 n4 S4 H' r4 σ' D, fun σ' H' z => ⟨m, Nat.lt_succ_self m, z⟩, ?_⟩
        refine hb G3 n3 S3 H3 r2 σ2 _ p3.sr (e2.post p3) ?_
        have pb : Post K (Own r2 σ2) G2 n2 S2 H2 G3 n3 S3 H3 := p3.own
        have again : ∀ {G4 : Hp} {n4 : List Addr} {S4 : Store} {H4 : Hp} {r4 : Env} {σ4 : L2.St}, Post K (Own r2 σ2) G3 n3 S3 H3 G4 n4 S4 H4 → ER K G4 n4 S4 H4 r4 σ4 → OwnSub r2 σ2 H3 r4 σ4 → WpS K EE (whileGo t mb m r4 S4) G3 n3 S3 H3 r2 σ2 D →
            ∃ G4 n4 S4 r4, Post K (Own r σ) G n S H G4 n4 S4 H4 ∧ ER K G4 n4 S4 H4 r4 σ4 ∧ OwnSub r σ H r4 σ4 ∧ WpS K EE (whileGo t mb m r4 S4) G4 n4 S4 H4 r4 σ4 D := by
          intro G4 n4 S4 H4 r4 σ4 p4 e4 o4 w4
          have p24 : Post K (Own r2 σ2) G2 n2 S2 H2 G4 n4 S4 H4 := pb.trans p4 OwnSub.refl
          have o24 : OwnSub r2 σ2 H2 r4 σ4 := fun a z => (o4 a z).imp id p3.back
          exact ⟨G4, n4, S4, r4, p2.trans p24 o2, e4, o2.trans o24 fun _ => p2.back, WpS.at p4 o4 w4⟩
        cases q3 : mb r2 S3 with
        | ok d S4 => cases d with
          | nx r4 => simp only [q3] at w3; exact fun G4 n4 H4 σ4 p4 e4 o4 => again p4 e4 o4 w3
          | ct r4 => simp only [q3] at w3; exact fun G4 n4 H4 σ4 p4 e4 o4 => again p4 e4 o4 w3
          | bk r4 => simp only [q3] at w3; exact w3
          | rt d => simp only [q3] at w3; exact w3
        | exc x S' => simp only [q3] at w3; exact w3
        | bad => simp only [q3] at w3; exact w3
    | exc x S' => rw [q] at w2; exact fun c dd G' n' H' p => w2 c dd G' n' H' p.own
    | bad => rw [q] at w2; exact w2
theorem wipe_idem (σ : L2.St) (vs : List Nat) : wipe (wipe σ vs) vs = wipe σ vs := by
  have this : ∀ (us : List Nat) (τ : L2.St), (∀ k ∈ us, ∀ x, τ[k]? = some x → x = none) → wipe τ us = τ := by
    intro us
    induction us with
    | nil => intro τ _; rfl
    | cons k us ih =>
      intro τ h
      show (wipe τ us).set k none = τ
      rw [ih τ fun j hj => h j (List.mem_cons_of_mem _ hj)]
      apply List.ext_getElem?
      intro j
      by_cases e : j = k
      · subst e
        by_cases hl : j < τ.length
        · rw [List.getElem?_set_self hl, List.getElem?_eq_getElem hl, h j List.mem_cons_self _ (List.getElem?_eq_getElem hl)]
        · rw [List.getElem?_eq_none_iff.mpr (by simpa using hl), List.getElem?_eq_none_iff.mpr (by simpa using hl)]
      · rw [List.getElem?_set_ne (Ne.symm e)]
  refine this vs (wipe σ vs) fun k hk x hx => ?_
  cases x with
  | none => rfl
  | some y => exact absurd hk (wipe_some hx).2
def LcGoal (J : It) (g : TG) (tt : TT) (te : TE) (vs : List Nat) (σ : L2.St) (H : Hp) (Q : VK) : Prop := ∀ D, H D = none → ∃ W : Nat → Nat → Hp → Prop, (∃ m, W 0 m (upd H D (.lst []))) ∧ ∀ i m H, W i m H →
  (J.stop i H ∧ Q (.ref D) H) ∨ (J.go i H ∧ ∃ Nx : Hp → Prop, (∀ H', Nx H' → ∃ m', m' < m ∧ W (i + 1) m' H') ∧ ∀ x H', J.yld i H x H' → g x (wipe σ vs) H' fun σ2 H2 => wipe σ2 vs = wipe σ vs ∧ tt σ2 H2 fun b H3 =>
    if b = true then te σ2 H3 fun y H4 => ∃ acc, H4 D = some (.lst acc) ∧ acc.length < sizeLine ∧ Nx (upd H4 D (.lst (acc ++ [y]))) else Nx H3)
theorem lcm_core {te : TE} {em : EM} {vs : List Nat} {J : It} {ds : List BR.D} {Q : VK} (hg : SG K g gm is) (ht : ST K EE tt t) (he : SE K EE te em) (hv : ∀ i ∈ is, i ∈ vs) (s1 : SR K G1 n1 S1 H1) (e1 : ER K G1 n1 S1 H1 r σ) (it' : ItOk K (NL n1 S1 H1) G1 n1 ds J)
    (w1 : WpL K EE (lcGo gm t em (wipeE r vs) ds [] S1) G1 n1 S1 H1 Q) : LcGoal J g tt te vs σ H1 Q := by
  intro Dd hD
  have gD : G1 Dd = none := by
    cases q : G1 Dd with
    | none => rfl
    | some u => rw [s1.sub Dd u q] at hD; cases hD
  have lD : ¬ Live n1 S1 Dd := fun l => by
    obtain ⟨_, u, z⟩ := s1.live l
    rw [hD] at z; cases z
  refine ⟨fun i m H2 => m = ds.length - i ∧ i ≤ ds.length ∧ ∃ G2 n2 S2 acc ws, Post K NoO G1 n1 S1 H1 G2 n2 S2 H2 ∧ G2 Dd = none ∧ ¬ Live n2 S2 Dd ∧ H2 Dd = some (.lst ws) ∧ RelL K G2 n2 acc ws ∧ WpL K EE (lcGo gm t em (wipeE r vs) (ds.drop i) acc S2) G1 n1 S1 H1 Q,
    ⟨ds.length, by simp, Nat.zero_le _, G1, n1, S1, [], [], Post.hid s1 hD, gD, lD, upd_same, .nil, w1⟩, ?_⟩
  rintro i m H2 ⟨rfl, hi2, G2, n2, S2, acc, ws, p2, d1, d2, d3, d4, w2⟩
  obtain ⟨stop, go⟩ := it' H2 ((NL.post p2).trans NL.sub)
  by_cases hlt : i < ds.length
  · refine .inr ?_
    have hd : ds[i]? = some ds[i] := List.getElem?_eq_getElem hlt
    obtain ⟨g1, g2⟩ := go i _ hd
    rw [drop_cons hd] at w2
    refine ⟨g1, fun H' => (ds.length - (i + 1) = ds.length - (i + 1)) ∧ i + 1 ≤ ds.length ∧ ∃ G2 n2 S2 acc ws, Post K NoO G1 n1 S1 H1 G2 n2 S2 H' ∧ G2 Dd = none ∧ ¬ Live n2 S2 Dd ∧ H' Dd = some (.lst ws) ∧ RelL K G2 n2 acc ws ∧ WpL K EE (lcGo gm t em (wipeE r vs) (ds.drop (i + 1)) acc S2) G1 n1 S1 H1 Q,
      fun H' z => ⟨ds.length - (i + 1), by omega, z⟩, fun x H3 y => ?_⟩
    have e1 : ER K G1 n1 S1 H1 (wipeE r vs) (wipe σ vs) := e1.wipe vs
    have ne : ∀ {H : Hp} {T : Addr}, H Dd = some (.lst ws) → H T = none → T ≠ Dd := fun h1 h2 z => by rw [z, h1] at h2; cases h2
    -- the item, at a state (G3, H3)
    have main : ∀ G3, Post K NoO G2 n2 S2 H2 G3 n2 S2 H3 → Rel K G3 n2 ds[i] x → g x (wipe σ vs) H3 fun σ2 H4 => wipe σ2 vs = wipe σ vs ∧ tt σ2 H4 fun b H5 => if b = true then te σ2 H5 fun y H6 => ∃ ac, H6 Dd = some (.lst ac) ∧ ac.length < sizeLine ∧
        ((ds.length - (i + 1) = ds.length - (i + 1)) ∧ i + 1 ≤ ds.length ∧ ∃ G2 n2 S2 acc ws, Post K NoO G1 n1 S1 H1 G2 n2 S2 (upd H6 Dd (.lst (ac ++ [y]))) ∧ G2 Dd = none ∧ ¬ Live n2 S2 Dd ∧ (upd H6 Dd (.lst (ac ++ [y]))) Dd = some (.lst ws) ∧ RelL K G2 n2 acc ws ∧ WpL K EE (lcGo gm t em (wipeE r vs) (ds.drop (i + 1)) acc S2) G1 n1 S1 H1 Q)
        else ((ds.length - (i + 1) = ds.length - (i + 1)) ∧ i + 1 ≤ ds.length ∧ ∃ G2 n2 S2 acc ws, Post K NoO G1 n1 S1 H1 G2 n2 S2 H5 ∧ G2 Dd = none ∧ ¬ Live n2 S2 Dd ∧ H5 Dd = some (.lst ws) ∧ RelL K G2 n2 acc ws ∧ WpL K EE (lcGo gm t em (wipeE r vs) (ds.drop (i + 1)) acc S2) G1 n1 S1 H1 Q) := by
      intro G3 p3 rl
      obtain ⟨c1, c2, c3⟩ := hidden p3 d3 d1 d2
      have p13 := p2.tr p3
      unfold lcGo at w2
      cases q2 : gm ds[i] (wipeE r vs) with
      | none => simp only [q2] at w2; exact w2.elim
      | some r3 =>
        simp only [q2] at w2
        refine hg G3 n2 S2 H3 _ _ ds[i] x r3 _ p3.sr (e1.post p13) rl q2 fun σ3 e3 o3 wp => ?_
        refine ⟨(wp vs hv).trans (wipe_idem σ vs), ?_⟩
        refine ht G3 n2 S2 H3 r3 σ3 _ p3.sr e3 ?_
        cases q3 : t r3 S2 with
        | ok c S4 =>
          rw [q3] at w2
          intro G4 n4 H4 p4
          obtain ⟨b1, b2, b3⟩ := hidden p4 c3 c1 c2
          have p14 := p13.tr p4
          cases c with
          | false =>
            simp only [bind_ok, Bool.false_eq_true, if_false] at w2
            exact ⟨rfl, hlt, G4, n4, S4, acc, ws, p14, b1, b2, b3, RelL.mono (p3.sub.trans p4.sub) (p3.eta.trans p4.eta) _ _ d4, w2⟩
          | true =>
            simp only [bind_ok, if_true] at w2
            refine he G4 n4 S4 H4 r3 σ3 _ p4.sr (e3.post p4) ?_
            cases q4 : em r3 S4 with
            | ok y S5 =>
              rw [q4] at w2
              intro v G5 n5 H5 p5 rl5
              obtain ⟨a1, a2, a3⟩ := hidden p5 b3 b1 b2
              have p15 := p14.tr p5
              simp only [bind_ok] at w2
              by_cases hl : acc.length < lim
              · rw [if_pos hl] at w2
                have rl6 : RelL K G5 n5 acc ws := RelL.mono ((p3.sub.trans p4.sub).trans p5.sub) ((p3.eta.trans p4.eta).trans p5.eta) _ _ d4
                have p6 : Post K (fun a => a = Dd) G5 n5 S5 H5 G5 n5 S5 (upd H5 Dd (.lst (ws ++ [v]))) := Post.hidW p5.sr a3 a1 a2 rfl
                exact ⟨ws, a3, by rw [← rl6.len, ← lim_eq]; exact hl, rfl, hlt, G5, n5, S5, acc ++ [y], ws ++ [v], p15.trans p6 fun a z => .inr (z ▸ hD), a1, a2, upd_same, rl6.append (.cons rl5 .nil), w2⟩
              · rw [if_neg hl] at w2; exact w2.elim
            | exc x S' => rw [q4] at w2; exact fun c dd G' n' H' p' => w2 c dd G' n' H' (p14.tr p')
            | bad => rw [q4] at w2; exact w2.elim
        | exc x S' => rw [q3] at w2; exact fun c dd G' n' H' p' => w2 c dd G' n' H' (p13.tr p')
        | bad => rw [q3] at w2; exact w2.elim
    rcases g2 x H3 y with ⟨rfl, rl⟩ | ⟨T, us, es, hT, rfl, rfl, ed, rl⟩
    · exact main G2 (Post.refl p2.sr) (Rel.mono p2.sub p2.eta _ _ rl)
    · have p3 : Post K NoO G2 n2 S2 H2 (upd G2 T (.tup us)) n2 S2 (upd H2 T (.tup us)) := Post.frz p2.sr hT
      refine main _ p3 ?_
      rw [ed]
      simp only [Rel]
      exact ⟨T, us, rfl, upd_same, RelL.mono (p2.sub.trans p3.sub) (p2.eta.trans p3.eta) _ _ rl⟩
  · refine .inl ⟨stop i (by omega), ?_⟩
    rw [List.drop_eq_nil_of_le (by omega)] at w2
    exact w2 Dd ws G2 n2 H2 p2 hD d1 d2 d3 d4
theorem lcm_coreV {te : TE} {em : EM} {vs : List Nat} {k : Nat} {a : Addr} {Q : VK} (hg : SG K g gm is) (ht : ST K EE tt t) (he : SE K EE te em) (hv : ∀ i ∈ is, i ∈ vs) (s1 : SR K G1 n1 S1 H1) (e1 : ER K G1 n1 S1 H1 r σ) (ha : n1[k]? = some a)
    (w1 : WpL K EE (lcGoV k gm t em (wipeE r vs) fuel 0 [] S1) G1 n1 S1 H1 Q) : LcGoal (Itl K a) g tt te vs σ H1 Q := by
  intro Dd hD
  have gD : G1 Dd = none := by
    cases q : G1 Dd with
    | none => rfl
    | some u => rw [s1.sub Dd u q] at hD; cases hD
  have lD : ¬ Live n1 S1 Dd := fun l => by
    obtain ⟨_, u, z⟩ := s1.live l
    rw [hD] at z; cases z
  refine ⟨fun i m H2 => ∃ G2 n2 S2 acc ws, Post K NoO G1 n1 S1 H1 G2 n2 S2 H2 ∧ G2 Dd = none ∧ ¬ Live n2 S2 Dd ∧ H2 Dd = some (.lst ws) ∧ RelL K G2 n2 acc ws ∧ WpL K EE (lcGoV k gm t em (wipeE r vs) m i acc S2) G1 n1 S1 H1 Q,
    ⟨fuel, G1, n1, S1, [], [], Post.hid s1 hD, gD, lD, upd_same, .nil, w1⟩, ?_⟩
  rintro i m H2 ⟨G2, n2, S2, acc, ws, p2, d1, d2, d3, d4, w2⟩
  cases m with
  | zero => exact w2.elim
  | succ m =>
    unfold lcGoV at w2
    cases ql : lstAt S2 k with
    | none => simp only [ql] at w2; exact w2.elim
    | some ds =>
      simp only [ql] at w2
      obtain ⟨us, hu, rl⟩ := cell_lst p2.sr (p2.eta.get ha) ql
      have sq : SqL K H2 a us := .inl (.inl hu)
      cases qd : ds[i]? with
      | none =>
        simp only [qd] at w2
        exact .inl ⟨⟨us, sq, by rw [← rl.len]; exact List.getElem?_eq_none_iff.mp qd⟩, w2 Dd ws G2 n2 H2 p2 hD d1 d2 d3 d4⟩
      | some d =>
        simp only [qd] at w2
        obtain ⟨v, e3, rv⟩ := rl.get qd
        refine .inr ⟨⟨us, v, sq, e3⟩, fun H' => ∃ G2 n2 S2 acc ws, Post K NoO G1 n1 S1 H1 G2 n2 S2 H' ∧ G2 Dd = none ∧ ¬ Live n2 S2 Dd ∧ H' Dd = some (.lst ws) ∧ RelL K G2 n2 acc ws ∧ WpL K EE (lcGoV k gm t em (wipeE r vs) m (i + 1) acc S2) G1 n1 S1 H1 Q,
          fun H' z => ⟨m, Nat.lt_succ_self m, z⟩, fun x H3 y => ?_⟩
        obtain ⟨rfl, y2⟩ := y
        have e4 := y2 us sq
        rw [e3] at e4
        obtain rfl : v = x := Option.some.inj e4
        have e1 : ER K G1 n1 S1 H1 (wipeE r vs) (wipe σ vs) := e1.wipe vs
        cases q2 : gm d (wipeE r vs) with
        | none => simp only [q2] at w2; exact w2.elim
        | some r3 =>
          simp only [q2] at w2
          refine hg G2 n2 S2 H3 _ _ d v r3 _ p2.sr (e1.post p2) rv q2 fun σ3 e3 o3 wp => ?_
          refine ⟨(wp vs hv).trans (wipe_idem σ vs), ?_⟩
          refine ht G2 n2 S2 H3 r3 σ3 _ p2.sr e3 ?_
          cases q3 : t r3 S2 with
          | ok c S4 =>
            rw [q3] at w2
            intro G4 n4 H4 p4
            obtain ⟨b1, b2, b3⟩ := hidden p4 d3 d1 d2
            have p14 := p2.tr p4
            cases c with
            | false =>
              simp only [bind_ok, Bool.false_eq_true, if_false] at w2
              exact ⟨G4, n4, S4, acc, ws, p14, b1, b2, b3, RelL.mono p4.sub p4.eta _ _ d4, w2⟩
            | true =>
              simp only [bind_ok, if_true] at w2
              refine he G4 n4 S4 H4 r3 σ3 _ p4.sr (e3.post p4) ?_
              cases q4 : em r3 S4 with
              | ok y S5 =>
                rw [q4] at w2
                intro v G5 n5 H5 p5 rl5
                obtain ⟨a1, a2, a3⟩ := hidden p5 b3 b1 b2
                have p15 := p14.tr p5
                simp only [bind_ok] at w2
                by_cases hl : acc.length < lim
                · rw [if_pos hl] at w2
                  have rl6 : RelL K G5 n5 acc ws := RelL.mono (p4.sub.trans p5.sub) (p4.eta.trans p5.eta) _ _ d4
                  have p6 : Post K (fun a => a = Dd) G5 n5 S5 H5 G5 n5 S5 (upd H5 Dd (.lst (ws ++ [v]))) := Post.hidW p5.sr a3 a1 a2 rfl
                  exact ⟨ws, a3, by rw [← rl6.len, ← lim_eq]; exact hl, G5, n5, S5, acc ++ [y], ws ++ [v], p15.trans p6 fun a z => .inr (z ▸ hD), a1, a2, upd_same, rl6.append (.cons rl5 .nil), w2⟩
                · rw [if_neg hl] at w2; exact w2.elim
              | exc x S' => rw [q4] at w2; exact fun c dd G' n' H' p' => w2 c dd G' n' H' (p14.tr p')
              | bad => rw [q4] at w2; exact w2.elim
          | exc x S' => rw [q3] at w2; exact fun c dd G' n' H' p' => w2 c dd G' n' H' (p2.tr p')
          | bad => rw [q3] at w2; exact w2.elim
/-- [e for g in it if t] -/
theorem SL.lc {st : Bool} {te : TE} {em : EM} {vs : List Nat} (hi : SI K EE st wi im) (hg : SG K g gm is) (ht : ST K EE tt t) (he : SE K EE te em) (hv : ∀ i ∈ is, i ∈ vs) : SL K EE (tLc wi g tt te vs) (lLc im gm t em vs) := fun G n S H r σ Q s e w => by
  refine hi G n S H r σ _ s e ?_
  unfold lLc at w
  cases q : im r S with
  | ok src S1 =>
    rw [q] at w
    intro J G1 n1 H1 p it
    simp only [bind_ok] at w
    cases src with
    | fix ds =>
      have it' : ItOk K (NL n1 S1 H1) G1 n1 ds J := by
        intro H2 h2
        refine it H2 ?_
        cases st with
        | true => exact (NL.gsub p.sr).trans h2
        | false => exact h2
      exact lcm_core hg ht he hv p.sr (e.post p) it' (WpL.at p w)
    | cell k =>
      obtain ⟨a, ha, rfl⟩ := it
      exact lcm_coreV hg ht he hv p.sr (e.post p) ha (WpL.at p w)
  | exc x S' => rw [q] at w; exact w
  | bad => rw [q] at w; exact w
/-! ### iterables -/
theorem SI.range1 {ta : TE} {a : EM} (ha : SB K EE ta a) : SI K EE true (iRng1 (tCons ta tNil)) (iRange1 a) := fun G n S H r σ R s e w => by
  refine ha G n S H r σ _ s e ?_
  unfold iRange1 at w
  cases q : a r S with
  | ok d S1 =>
    rw [q] at w
    intro v G1 n1 H1 p rl
    cases d with
    | int j =>
      obtain rfl : v = .int j := by simpa only [RelT, Rel] using rl
      simp only [bind_ok] at w
      by_cases hj : -big62 ≤ j ∧ j < big62
      · rw [if_pos hj] at w
        have b : big62 = 2 ^ 62 := by decide
        refine ⟨j, rfl, by rw [← b]; exact hj.1, by rw [← b]; exact hj.2, w _ G1 n1 H1 p fun H2 h2 => ?_⟩
        have hl : (rangeD 0 j).length = j.toNat := by simp [rangeD]
        refine ⟨fun i hi => ?_, fun i d hd => ?_⟩
        · show j.toNat ≤ i
          rw [hl] at hi; exact hi
        · have hi : i < j.toNat := by rw [← hl]; exact (List.getElem?_eq_some_iff.mp hd).1
          refine ⟨hi, fun x H3 y => .inl ⟨y.1, ?_⟩⟩
          rw [y.2]
          unfold rangeD at hd
          rw [List.getElem?_map, List.getElem?_range (by simpa using hi)] at hd
          cases hd
          simp only [Rel]
      · rw [if_neg hj] at w; exact w.elim
    | _ => exact w.elim
  | exc x S' => rw [q] at w; exact w
  | bad => rw [q] at w; exact w
theorem SI.range2 {ta tb : TE} {a b : EM} (ha : SB K EE ta a) (hb : SB K EE tb b) : SI K EE true (iRng2 (tCons ta (tCons tb tNil))) (iRange2 a b) := fun G n S H r σ R s e w => by
  refine ha G n S H r σ _ s e ?_
  unfold iRange2 at w
  cases q : a r S with
  | ok d S1 =>
    rw [q] at w
    intro v G1 n1 H1 p rl
    simp only [bind_ok] at w
    refine hb G1 n1 S1 H1 r σ _ p.sr (e.post p) ?_
    cases q2 : b r S1 with
    | ok d2 S2 =>
      rw [q2] at w
      intro v2 G2 n2 H2 p2 rl2
      simp only [bind_ok] at w
      cases d with
      | int i =>
        cases d2 with
        | int j =>
          obtain rfl : v = .int i := by simpa only [RelT, Rel] using rl
          obtain rfl : v2 = .int j := by simpa only [RelT, Rel] using rl2
          by_cases hj : -big62 ≤ i ∧ i < big62 ∧ -big62 ≤ j ∧ j < big62
          · simp only [if_pos hj] at w
            have b : big62 = 2 ^ 62 := by decide
            refine ⟨i, j, rfl, by rw [← b]; exact hj, w _ G2 n2 H2 (p.tr p2) fun H3 h3 => ?_⟩
            have hl : (rangeD i j).length = (j - i).toNat := by simp [rangeD]
            refine ⟨fun k hk => ?_, fun k d hd => ?_⟩
            · show (j - i).toNat ≤ k
              rw [hl] at hk; exact hk
            · have hk : k < (j - i).toNat := by rw [← hl]; exact (List.getElem?_eq_some_iff.mp hd).1
              refine ⟨hk, fun x H4 y => .inl ⟨y.1, ?_⟩⟩
              rw [y.2]
              unfold rangeD at hd
              rw [List.getElem?_map, List.getElem?_range hk] at hd
              cases hd
              simp only [Rel]
          · simp only [if_neg hj] at w; exact w.elim
        | _ => exact w.elim
      | _ => exact w.elim
    | exc x S' => rw [q2] at w; exact fun c dd G' n' H' p' => w c dd G' n' H' (p.tr p')
    | bad => rw [q2] at w; exact w
  | exc x S' => rw [q] at w; exact w
  | bad => rw [q] at w; exact w
/-- a list or a tuple -/
def iSeqV (K : PySem.W.Frag) (tl : TE) : TI := fun σ H R => tl σ H fun x H1 => ∃ a, x = .ref a ∧ (((∃ xs, SqL K H1 a xs) ∧ R (Itl K a) H1) ∨ ((∃ xs, SqT K H1 a xs) ∧ R (Itt K a) H1))
theorem itl_ok {B : Hp} {a : Addr} {vs : List V} {ds : List BR.D} (h : SqL K B a vs) (rl : RelL K G n ds vs) : ItOk K B G n ds (Itl K a) := fun H2 h2 => by
  have q := h2.sl h
  refine ⟨fun i hi => ⟨vs, q, by rw [← rl.len]; exact hi⟩, fun i d hd => ?_⟩
  obtain ⟨v, e1, e2⟩ := rl.get hd
  exact ⟨⟨vs, v, q, e1⟩, fun x H3 y => .inl ⟨y.1, by
    have := y.2 vs q
    rw [e1] at this; cases this; exact e2⟩⟩
theorem itt_ok {B : Hp} {a : Addr} {vs : List V} {ds : List BR.D} (h : SqT K B a vs) (rl : RelL K G n ds vs) : ItOk K B G n ds (Itt K a) := fun H2 h2 => by
  have q := h2.st h
  refine ⟨fun i hi => ⟨vs, q, by rw [← rl.len]; exact hi⟩, fun i d hd => ?_⟩
  obtain ⟨v, e1, e2⟩ := rl.get hd
  exact ⟨⟨vs, v, q, e1⟩, fun x H3 y => .inl ⟨y.1, by
    have := y.2 vs q
    rw [e1] at this; cases this; exact e2⟩⟩
theorem SI.seq {ta : TE} {a : EM} (ha : SE K EE ta a) : SI K EE true (iSeqV K ta) (iSeq a) := fun G n S H r σ R s e w => by
  refine ha G n S H r σ _ s e ?_
  unfold iSeq at w
  cases q : a r S with
  | ok d S1 =>
    rw [q] at w
    intro v G1 n1 H1 p rl
    cases d with
    | lst ds =>
      simp only [Rel] at rl
      obtain ⟨a, vs, rfl, h1, h2⟩ := rl
      exact ⟨a, rfl, .inl ⟨⟨vs, SqL.of (p.sr.sub _ _ h1)⟩, w _ G1 n1 H1 p (itl_ok (SqL.of h1) h2)⟩⟩
    | scr ds =>
      simp only [Rel] at rl
      obtain ⟨a, vs, rfl, h1, h2⟩ := rl
      exact ⟨a, rfl, .inl ⟨⟨vs, p.sr.sub.sl h1⟩, w _ G1 n1 H1 p (itl_ok h1 h2)⟩⟩
    | tup ds =>
      simp only [Rel] at rl
      obtain ⟨a, vs, rfl, h1, h2⟩ := rl
      have h1 : SqT K G1 a vs := .inl (.inl h1)
      exact ⟨a, rfl, .inr ⟨⟨vs, p.sr.sub.st h1⟩, w _ G1 n1 H1 p (itt_ok h1 h2)⟩⟩
    | trn ds =>
      simp only [Rel] at rl
      obtain ⟨a, vs, rfl, h1, h2⟩ := rl
      exact ⟨a, rfl, .inr ⟨⟨vs, p.sr.sub.st h1.sq⟩, w _ G1 n1 H1 p (itt_ok h1.sq h2)⟩⟩
    | ref k =>
      simp only [Rel] at rl
      obtain ⟨a, rfl, ha⟩ := rl
      simp only [bind_ok] at w
      cases ql : lstAt S1 k with
      | none => simp only [ql] at w; exact w.elim
      | some xs =>
        simp only [ql] at w
        obtain ⟨vs, hv, _⟩ := cell_lst p.sr ha ql
        exact ⟨a, rfl, .inl ⟨⟨vs, .inl (.inl hv)⟩, w (Itl K a) G1 n1 H1 p ⟨a, ha, rfl⟩⟩⟩
    | _ => exact w.elim
  | exc x S' => rw [q] at w; exact w
  | bad => rw [q] at w; exact w
theorem SI.seqB {ta : TE} {a : EM} (ha : SB K EE ta a) : SI K EE false (iSeqV K ta) (iSeq a) := fun G n S H r σ R s e w => by
  refine ha G n S H r σ _ s e ?_
  unfold iSeq at w
  cases q : a r S with
  | ok d S1 =>
    rw [q] at w
    intro v G1 n1 H1 p rl
    cases d with
    | lst ds =>
      obtain ⟨a, vs, rfl, h1, h2⟩ := rl
      exact ⟨a, rfl, .inl ⟨⟨vs, SqL.of (NL.sub _ _ h1)⟩, w _ G1 n1 H1 p (itl_ok (SqL.of h1) h2)⟩⟩
    | scr ds =>
      obtain ⟨a, vs, rfl, h1, h2⟩ := rl
      exact ⟨a, rfl, .inl ⟨⟨vs, NL.sub.sl h1⟩, w _ G1 n1 H1 p (itl_ok h1 h2)⟩⟩
    | trn ds =>
      have rl' : Rel K G1 n1 (.trn ds) v := rl
      simp only [Rel] at rl'
      obtain ⟨a, vs, rfl, h1, h2⟩ := rl'
      exact ⟨a, rfl, .inr ⟨⟨vs, p.sr.sub.st h1.sq⟩, w _ G1 n1 H1 p (itt_ok ((NL.gsub p.sr).st h1.sq) h2)⟩⟩
    | tup ds =>
      have rl' : Rel K G1 n1 (.tup ds) v := rl
      simp only [Rel] at rl'
      obtain ⟨a, vs, rfl, h1, h2⟩ := rl'
      have h1 : SqT K G1 a vs := .inl (.inl h1)
      exact ⟨a, rfl, .inr ⟨⟨vs, p.sr.sub.st h1⟩, w _ G1 n1 H1 p (itt_ok ((NL.gsub p.sr).st h1) h2)⟩⟩
    | ref k =>
      have rl : Rel K G1 n1 (.ref k) v := rl
      simp only [Rel] at rl
      obtain ⟨a, rfl, ha⟩ := rl
      simp only [bind_ok] at w
      cases ql : lstAt S1 k with
      | none => simp only [ql] at w; exact w.elim
      | some xs =>
        simp only [ql] at w
        obtain ⟨vs, hv, _⟩ := cell_lst p.sr ha ql
        exact ⟨a, rfl, .inl ⟨⟨vs, .inl (.inl hv)⟩, w (Itl K a) G1 n1 H1 p ⟨a, ha, rfl⟩⟩⟩
    | _ => exact w.elim
  | exc x S' => rw [q] at w; exact w
  | bad => rw [q] at w; exact w
/-- its walk: a list or a tuple -/
theorem pi_seqV {X : Cx} {tg l : Expr} {tl : TE} (hl : PE X l tl) : PI X tg l (iSeqV X.K tl) := by
  constructor
  intro pins s σ H R I h
  refine thn (hl.run pins s σ H _ I h) fun v s1 z => ?_
  obtain ⟨x, H1, I1, r1, a, rfl, q⟩ := z
  cases r1
  have one : ∀ b ∈ [s1.heap.objs.size], FpOk X pins H1 b := fun b hb => by
    obtain rfl := List.mem_singleton.mp hb
    exact I1.fpOk (Nat.le_refl _) I1.fresh
  rcases q with ⟨⟨xs, hq⟩, q⟩ | ⟨⟨xs, hq⟩, q⟩
  · obtain ⟨its, rv, pl, hz⟩ := I1.list hq
    exact wpAny_pyIter_list pl.isList ⟨_, _, _, _, H1, rfl, I1.kept (t' := s1.toks) (fun b o e => Heap.get?_push_of_some _ e), turn_list a _, ⟨_, Heap.get?_push_size _ rfl, rfl, rfl⟩, one, q⟩
  · obtain ⟨its, rv, pl, hz⟩ := I1.tuple hq
    exact wpAny_pyIter_tuple (show s1.heap.IsTuple a its.toArray from pl) ⟨_, _, _, _, H1, rfl, I1.kept (t' := s1.toks) (fun b o e => Heap.get?_push_of_some _ e), turn_tuple a _, ⟨_, Heap.get?_push_size _ rfl, rfl, rfl⟩, one, q⟩
end

/-! ### defs -/
def spOf (K : PySem.W.Frag) (k : Nat) (m : FM) : List V → Hp → VK → XQ → Prop := fun vs H Q E => vs.length = k ∧ ∃ G n S ds, SR K G n S H ∧ RelL K G n ds vs ∧ WpE K E (m ds S) G n S H Q
section
variable {K : PySem.W.Frag} {G : Hp} {n : List Addr} {S : Store} {H : Hp}
theorem start_val {k : Nat} {ds : List BR.D} {i : Nat} {d : BR.D} (h : (start k ds)[i]? = some (.val d)) : ds[i]? = some d := by
  unfold start at h
  by_cases hi : i < ds.length
  · rw [List.getElem?_append_left (by simpa using hi), List.getElem?_map] at h
    rw [List.getElem?_eq_getElem hi] at h ⊢
    simpa using h
  · rw [List.getElem?_append_right (by simpa using hi), List.getElem?_replicate] at h
    split at h <;> cases h
theorem start_own {k : Nat} {ds : List BR.D} {i : Nat} {d : BR.D} (h : (start k ds)[i]? = some (.own d)) : False := by
  unfold start at h
  by_cases hi : i < ds.length
  · rw [List.getElem?_append_left (by simpa using hi), List.getElem?_map, List.getElem?_eq_getElem hi] at h
    simp at h
  · rw [List.getElem?_append_right (by simpa using hi), List.getElem?_replicate] at h
    split at h <;> cases h
theorem ER.start {N : List Str} {k : Nat} {ds : List BR.D} {vs : List V} (hk : k = N.length) (rl : RelL K G n ds vs) : ER K G n S H (start k ds) (L2.start N vs) := by
  have hl := rl.len
  refine ⟨?_, fun i d h => ?_, fun i d h => (start_own h).elim, fun i j a d e h => (start_own h).elim⟩
  · simp [BR.start, L2.start, hk, hl]
  · have h1 := start_val h
    obtain ⟨v, h2, h3⟩ := rl.get h1
    refine ⟨v, ?_, h3⟩
    unfold L2.start
    have hi : i < vs.length := (List.getElem?_eq_some_iff.mp h2).1
    rw [List.getElem?_append_left (by simpa using hi), List.getElem?_map, h2]
    rfl
/-- a def's body -/
theorem body_ok {N : List Str} {k ar : Nat} {ts : TS} {m : SM} {vs : List V} {Q : VK} {E : XQ} (h : SS K E ts m) (hk : k = N.length) (hs : spOf K ar (runF k m) vs H Q E) :
    ts { nx := fun _ H' => Q .non H', rt := Q } (L2.start N vs) H := by
  obtain ⟨_, G, n, S, ds, s, rl, w⟩ := hs
  refine h G n S H (start k ds) _ _ s (ER.start hk rl) ?_
  have no : ∀ a, Own (start k ds) (L2.start N vs) a → NoO a := fun a ⟨i, d, z, _⟩ => (start_own z).elim
  unfold runF at w
  cases q : m (start k ds) S with
  | ok o S1 => cases o with
    | nx r1 => rw [q] at w; exact fun G' n' H' σ' p _ _ => w .non G' n' H' (p.mono no) (by simp only [Rel])
    | rt d => rw [q] at w; exact fun v G' n' H' p => w v G' n' H' (p.mono no)
    | bk r1 => rw [q] at w; exact w.elim
    | ct r1 => rw [q] at w; exact w.elim
  | exc x S1 => rw [q] at w; exact fun c dd G' n' H' p => w c dd G' n' H' (p.mono no)
  | bad => rw [q] at w; exact w.elim
theorem sp_call {k : Nat} {m : FM} {EE : XQ} {G : Hp} {n : List Addr} {S : Store} {H : Hp} {vs : List V} {ds : List BR.D} {Q : VK} (hk : ds.length = k) (s : SR K G n S H) (rl : RelL K G n ds vs) (w : WpE K EE (m ds S) G n S H Q) : spOf K k m vs H Q EE :=
  ⟨by rw [← rl.len]; exact hk, G, n, S, ds, s, rl, w⟩
end
end BR

/-! Operations on values: the machine against the hand layer. -/
namespace BR
open PySem PySem.Spec PyProof.Rows L2

section
variable {K : PySem.W.Frag} {EE : XQ} {G G1 : Hp} {n n1 : List Addr} {S S1 : Store} {H H1 : Hp} {te ta tb : TE} {m a b : EM}
theorem vw_rel {d c : BR.D} {x : V} (s : SR K G n S H) (h : RelT K G (NL n S H) n d x) (e : vw S d = some c) : RelT K G H n c x := by
  cases d with
  | ref k =>
    have h' : Rel K G n (.ref k) x := h
    simp only [Rel] at h'
    obtain ⟨p, rfl, hk⟩ := h'
    simp only [vw] at e
    cases q : S[k]? with
    | none => rw [q] at e; cases e
    | some o =>
      rw [q] at e
      cases o with
      | none => cases e
      | some c' =>
        cases e
        obtain ⟨_, o, ho, hr⟩ := s.cell k p c hk q
        cases c with
        | lst ds => obtain ⟨vs, rfl, q⟩ := hr; exact ⟨p, vs, rfl, ho, q⟩
        | dK ks ds => obtain ⟨vs, rfl, q⟩ := hr; exact ⟨p, vs, rfl, ho, q⟩
        | dT ks ds => obtain ⟨vs, rfl, q⟩ := hr; exact ⟨p, vs, rfl, ho, q⟩
        | _ => exact hr.elim
  | _ => cases e; exact RelT.mono (Sub.refl _) NL.sub (Pre.refl _) h
theorem RelT.tup {ds : List BR.D} {x : V} {N : Hp} (h : RelT K G N n (.tup ds) x) : ∃ p vs, x = .ref p ∧ SqT K G p vs ∧ RelL K G n ds vs := by
  have h' : Rel K G n (.tup ds) x := h
  simp only [Rel] at h'
  obtain ⟨p, vs, e, q, r⟩ := h'
  exact ⟨p, vs, e, .inl (.inl q), r⟩
theorem RelT.tupx {ds : List BR.D} {x : V} {N : Hp} (h : RelT K G N n (.tup ds) x) : ∃ p vs, x = .ref p ∧ G p = some (.tup vs) ∧ RelL K G n ds vs := by
  have h' : Rel K G n (.tup ds) x := h
  simpa only [Rel] using h'
theorem RelT.trn {ds : List BR.D} {x : V} {N : Hp} (h : RelT K G N n (.trn ds) x) : ∃ p vs, x = .ref p ∧ TrN K G p vs ∧ RelL K G n ds vs := by
  have h' : Rel K G n (.trn ds) x := h
  simpa only [Rel] using h'
theorem seq_rel {c : BR.D} {x : V} {ds : List BR.D} {N : Hp} (hs : Sub G N) (h : RelT K G N n c x) (e : seqD c = some ds) : ∃ p vs, x = .ref p ∧ (SqL K N p vs ∨ SqT K N p vs) ∧ RelL K G n ds vs := by
  cases c with
  | lst xs => cases e; obtain ⟨p, vs, rfl, h1, h2⟩ := h; exact ⟨p, vs, rfl, .inl (SqL.of h1), h2⟩
  | scr xs => cases e; obtain ⟨p, vs, rfl, h1, h2⟩ := h; exact ⟨p, vs, rfl, .inl h1, h2⟩
  | tup xs => cases e; obtain ⟨p, vs, rfl, h1, h2⟩ := h.tup; exact ⟨p, vs, rfl, .inr (hs.st h1), h2⟩
  | trn xs => cases e; obtain ⟨p, vs, rfl, h1, h2⟩ := h.trn; exact ⟨p, vs, rfl, .inr (hs.st h1.sq), h2⟩
  | _ => cases e
theorem seqS_rel {d : BR.D} {x : V} {ds : List BR.D} (s : SR K G n S H) (h : RelT K G (NL n S H) n d x) (e : seqS S d = some ds) : ∃ p vs, x = .ref p ∧ (SqL K H p vs ∨ SqT K H p vs) ∧ RelL K G n ds vs := by
  unfold seqS at e
  cases q : vw S d with
  | none => rw [q] at e; cases e
  | some c =>
    rw [q] at e
    exact seq_rel s.sub (vw_rel s h q) e
theorem okI_wp {c : Bool} {d : BR.D} {Q : VK} (w : WpE K EE (okI c d S) G n S H Q) : c = true ∧ WpE K EE (.ok d S) G n S H Q := by
  unfold okI at w
  cases c with
  | true => exact ⟨rfl, w⟩
  | false => exact w.elim
theorem WpE.now {d : BR.D} {v : V} {Q : VK} (s : SR K G n S H) (w : WpE K EE (.ok d S) G n S H Q) (h : Rel K G n d v) : Q v H := w v G n H (Post.refl s) h
theorem RelT.int {N : Hp} {i : Int} {x : V} (h : RelT K G N n (.int i) x) : x = .int i := by simpa only [RelT, Rel] using h
theorem RelT.bl {N : Hp} {i : Bool} {x : V} (h : RelT K G N n (.bl i) x) : x = .bl i := by simpa only [RelT, Rel] using h
theorem RelT.str {N : Hp} {i : Str} {x : V} (h : RelT K G N n (.str i) x) : x = .str i := by simpa only [RelT, Rel] using h
theorem RelT.non {N : Hp} {x : V} (h : RelT K G N n .non x) : x = .non := by simpa only [RelT, Rel] using h
theorem rInt {i : Int} : Rel K G n (.int i) (.int i) := by simp only [Rel]
theorem rBl {i : Bool} : Rel K G n (.bl i) (.bl i) := by simp only [Rel]
theorem rStr {i : Str} : Rel K G n (.str i) (.str i) := by simp only [Rel]
theorem rNon : Rel K G n .non .non := by simp only [Rel]

/-! ### calls of built-ins, by values -/
theorem SB.cb1 {t : List V → Hp → VK → Prop} {f : BR.D → Store → Res BR.D} (ha : SB K EE ta a)
    (ho : ∀ G n S H x d Q, SR K G n S H → RelT K G (NL n S H) n d x → WpE K EE (f d S) G n S H Q → t [x] H Q) : SE K EE (tCB t (tCons ta tNil)) (e1 f a) := fun G n S H r σ Q s e w => by
  refine ha G n S H r σ _ s e ?_
  unfold e1 at w
  cases q : a r S with
  | ok d S1 => rw [q] at w; exact fun v G1 n1 H1 p rl => ho G1 n1 S1 H1 v d Q p.sr rl (WpE.at p w)
  | exc x S' => rw [q] at w; exact w
  | bad => rw [q] at w; exact w
theorem SB.cb2 {t : List V → Hp → VK → Prop} {f : BR.D → BR.D → Store → Res BR.D} (ha : SB K EE ta a) (hb : SB K EE tb b)
    (ho : ∀ G n S H x y d e Q, SR K G n S H → RelT K G (NL n S H) n d x → RelT K G (NL n S H) n e y → WpE K EE (f d e S) G n S H Q → t [x, y] H Q) : SE K EE (tCB t (tCons ta (tCons tb tNil))) (e2 f a b) :=
  fun G n S H r σ Q s e w => SB.op2 (t := fun x y => t [x, y]) ha hb ho G n S H r σ Q s e w
/-- a fresh list by an operation of one value -/
theorem SB.l1 {t : List V → Hp → VK → Prop} {f : BR.D → Store → Res (List BR.D)} (ha : SB K EE ta a)
    (ho : ∀ G n S H x d Q, SR K G n S H → RelT K G (NL n S H) n d x → WpL K EE (f d S) G n S H Q → t [x] H Q) : SL K EE (tCB t (tCons ta tNil)) (l1 f a) := fun G n S H r σ Q s e w => by
  refine ha G n S H r σ _ s e ?_
  unfold BR.l1 at w
  cases q : a r S with
  | ok d S1 => rw [q] at w; exact fun v G1 n1 H1 p rl => ho G1 n1 S1 H1 v d Q p.sr rl (WpL.at p w)
  | exc x S' => rw [q] at w; exact w
  | bad => rw [q] at w; exact w
theorem WpL.new {ds : List BR.D} {vs : List V} {Q : VK} (s : SR K G n S H) (w : WpL K EE (.ok ds S) G n S H Q) (h : RelL K G n ds vs) : ∀ p, H p = none → Q (.ref p) (upd H p (.lst vs)) := fun p hp => by
  refine w p vs G n _ (Post.hid s hp) hp ?_ (fun l => ?_) upd_same h
  · cases q : G p with
    | none => rfl
    | some u => rw [s.sub p u q] at hp; cases hp
  · obtain ⟨_, u, q⟩ := s.live l
    rw [hp] at q; cases q
theorem WpE.newL {ds : List BR.D} {vs : List V} {Q : VK} (s : SR K G n S H) (w : WpE K EE (.ok (.lst ds) S) G n S H Q) (h : RelL K G n ds vs) : ∀ p, H p = none → Q (.ref p) (upd H p (.lst vs)) := fun p hp => by
  have p2 := Post.frz (o := .lst vs) s hp
  exact w _ _ _ _ p2 (by simp only [Rel]; exact ⟨p, vs, rfl, upd_same, RelL.mono p2.sub p2.eta _ _ h⟩)
theorem WpE.newT {ds : List BR.D} {vs : List V} {Q : VK} (s : SR K G n S H) (w : WpE K EE (.ok (.tup ds) S) G n S H Q) (h : RelL K G n ds vs) : ∀ p, H p = none → Q (.ref p) (upd H p (.tup vs)) := fun p hp => by
  have p2 := Post.frz (o := .tup vs) s hp
  exact w _ _ _ _ p2 (by simp only [Rel]; exact ⟨p, vs, rfl, upd_same, RelL.mono p2.sub p2.eta _ _ h⟩)

/-! ### ints -/
theorem O2.int {C : Int → Int → Prop} {g : Int → Int → BR.D} {gv : Int → Int → V} {f : BR.D → BR.D → Store → Res BR.D} (hf : ∀ x y S Q G n H, WpE K EE (f x y S) G n S H Q → ∃ i j, x = .int i ∧ y = .int j ∧ C i j ∧ WpE K EE (.ok (g i j) S) G n S H Q)
    (hg : ∀ i j G n, Rel K G n (g i j) (gv i j)) : O2 K EE (rI C gv) f := fun G n S H x y d e Q s hx hy w => by
  obtain ⟨i, j, rfl, rfl, c, w2⟩ := hf _ _ _ _ _ _ _ w
  exact ⟨i, j, hx.int, hy.int, c, WpE.now s w2 (hg i j G n)⟩
theorem O2.int0 {g : Int → Int → BR.D} {gv : Int → Int → V} {f : BR.D → BR.D → Store → Res BR.D} (hf : ∀ x y S Q G n H, WpE K EE (f x y S) G n S H Q → ∃ i j, x = .int i ∧ y = .int j ∧ WpE K EE (.ok (g i j) S) G n S H Q)
    (hg : ∀ i j G n, Rel K G n (g i j) (gv i j)) : O2 K EE (rI0 gv) f := fun G n S H x y d e Q s hx hy w => by
  obtain ⟨i, j, rfl, rfl, w2⟩ := hf _ _ _ _ _ _ _ w
  exact ⟨i, j, hx.int, hy.int, WpE.now s w2 (hg i j G n)⟩
theorem o_sub : O2 K EE (rI0 fun i j => .int (i - j)) dSub := .int0 (fun x y S Q G n H w => by
  cases x <;> cases y <;> first | exact (w : False).elim | exact ⟨_, _, rfl, rfl, w⟩) fun _ _ _ _ => rInt
theorem o_lt : O2 K EE (rI0 fun i j => .bl (decide (i < j))) dLt := .int0 (fun x y S Q G n H w => by
  cases x <;> cases y <;> first | exact (w : False).elim | exact ⟨_, _, rfl, rfl, w⟩) fun _ _ _ _ => rBl
theorem o_le : O2 K EE (rI0 fun i j => .bl (decide (i ≤ j))) dLe := .int0 (fun x y S Q G n H w => by
  cases x <;> cases y <;> first | exact (w : False).elim | exact ⟨_, _, rfl, rfl, w⟩) fun _ _ _ _ => rBl
theorem o_gt : O2 K EE (rI0 fun i j => .bl (decide (j < i))) dGt := .int0 (fun x y S Q G n H w => by
  cases x <;> cases y <;> first | exact (w : False).elim | exact ⟨_, _, rfl, rfl, w⟩) fun _ _ _ _ => rBl
theorem o_ge : O2 K EE (rI0 fun i j => .bl (decide (j ≤ i))) dGe := .int0 (fun x y S Q G n H w => by
  cases x <;> cases y <;> first | exact (w : False).elim | exact ⟨_, _, rfl, rfl, w⟩) fun _ _ _ _ => rBl
theorem o_fdiv : O2 K EE (rI CDivW fun i j => .int (i / j)) dFdiv := .int (fun x y S Q G n H w => by
  cases x <;> cases y <;> first
    | exact (w : False).elim
    | (obtain ⟨c, w⟩ := okI_wp w
       have c := of_decide_eq_true c
       exact ⟨_, _, rfl, rfl, c, w⟩)) fun _ _ _ _ => rInt
theorem o_mod : O2 K EE (rI (fun _ j => 0 < j) fun i j => .int (i % j)) dMod := .int (fun x y S Q G n H w => by
  cases x <;> cases y <;> first
    | exact (w : False).elim
    | (obtain ⟨c, w⟩ := okI_wp w
       exact ⟨_, _, rfl, rfl, of_decide_eq_true c, w⟩)) fun _ _ _ _ => rInt
theorem o_pow : O2 K EE (rI CPow fun i j => .int (i ^ j.toNat)) dPow := .int (fun x y S Q G n H w => by
  cases x <;> cases y <;> first
    | exact (w : False).elim
    | (obtain ⟨c, w⟩ := okI_wp w
       have c := of_decide_eq_true c
       exact ⟨_, _, rfl, rfl, ⟨c.1, c.2.1, by have := c.2.2; omega⟩, w⟩)) fun _ _ _ _ => rInt
theorem o_neg : O1 K EE (rU fun i => .int (-i)) dNeg := fun G n S H x d Q s hx w => by
  cases d <;> first | exact (w : False).elim | exact ⟨_, hx.int, WpE.now s w rInt⟩
/-- + of ints, texts, tuples, lists -/
def rAddA (K : PySem.W.Frag) : R2 := fun x y H Q => rI0 (fun i j => .int (i + j)) x y H Q ∨ (∃ i j, x = .str i ∧ y = .str j ∧ i.length + j.length ≤ sizeLine ∧ Q (.str (i ++ j)) H) ∨ L2.rCatA K x y H Q ∨ rCat x y H Q
theorem o_add : O2 K EE (rAddA K) dAdd := fun G n S H x y d e Q s hx hy w => by
  have hx' := RelT.mono (Sub.refl _) NL.sub (Pre.refl _) hx
  have hy' := RelT.mono (Sub.refl _) NL.sub (Pre.refl _) hy
  cases d <;> cases e <;> first | exact (w : False).elim | skip
  case int.int i j => exact .inl ⟨i, j, hx.int, hy.int, WpE.now s w rInt⟩
  case str.str i j =>
    obtain ⟨c, w⟩ := okI_wp w
    exact .inr (.inl ⟨i, j, hx.str, hy.str, by rw [← lim_eq]; exact of_decide_eq_true c, WpE.now s w rStr⟩)
  case tup.tup xs ys =>
    obtain ⟨c, w⟩ := okI_wp w
    have c := of_decide_eq_true c
    obtain ⟨p, vs, rfl, h1, h2⟩ := hx.tupx
    obtain ⟨q, us, rfl, h3, h4⟩ := hy.tupx
    refine .inr (.inr (.inl ⟨p, q, vs, us, rfl, rfl, .inl (.inl (s.sub _ _ h1)), .inl (.inl (s.sub _ _ h3)), by rw [← h2.len, ← h4.len, ← lim_eq]; exact c, fun z => ?_, fun _ z => ?_, fun _ _ => WpE.newT s w (h2.append h4)⟩))
    · subst z
      obtain rfl : xs = [] := List.length_eq_zero_iff.mp h2.len
      exact WpE.now s w (by simp only [Rel]; exact ⟨q, us, rfl, h3, h4⟩)
    · subst z
      obtain rfl : ys = [] := List.length_eq_zero_iff.mp h4.len
      exact WpE.now s w (by simp only [Rel]; exact ⟨p, vs, rfl, h1, by rw [List.append_nil]; exact h2⟩)
  case trn.tup xs ys =>
    obtain ⟨c, w⟩ := okI_wp w
    have c := of_decide_eq_true c
    obtain ⟨p, vs, rfl, h1, h2⟩ := hx.trn
    obtain ⟨q, us, rfl, h3, h4⟩ := hy.tup
    refine .inr (.inr (.inl ⟨p, q, vs, us, rfl, rfl, s.sub.st h1.sq, s.sub.st h3, by rw [← h2.len, ← h4.len, ← lim_eq]; exact c.1, fun z => ?_, fun _ z => ?_, fun _ _ => WpE.newT s w (h2.append h4)⟩))
    · subst z
      exact absurd (List.length_eq_zero_iff.mp h2.len) c.2.1
    · subst z
      exact absurd (List.length_eq_zero_iff.mp h4.len) c.2.2
  case tup.trn xs ys =>
    obtain ⟨c, w⟩ := okI_wp w
    have c := of_decide_eq_true c
    obtain ⟨p, vs, rfl, h1, h2⟩ := hx.tup
    obtain ⟨q, us, rfl, h3, h4⟩ := hy.trn
    refine .inr (.inr (.inl ⟨p, q, vs, us, rfl, rfl, s.sub.st h1, s.sub.st h3.sq, by rw [← h2.len, ← h4.len, ← lim_eq]; exact c.1, fun z => ?_, fun _ z => ?_, fun _ _ => WpE.newT s w (h2.append h4)⟩))
    · subst z
      exact absurd (List.length_eq_zero_iff.mp h2.len) c.2.1
    · subst z
      exact absurd (List.length_eq_zero_iff.mp h4.len) c.2.2
  case trn.trn xs ys =>
    obtain ⟨c, w⟩ := okI_wp w
    have c := of_decide_eq_true c
    obtain ⟨p, vs, rfl, h1, h2⟩ := hx.trn
    obtain ⟨q, us, rfl, h3, h4⟩ := hy.trn
    refine .inr (.inr (.inl ⟨p, q, vs, us, rfl, rfl, s.sub.st h1.sq, s.sub.st h3.sq, by rw [← h2.len, ← h4.len, ← lim_eq]; exact c.1, fun z => ?_, fun _ z => ?_, fun _ _ => WpE.newT s w (h2.append h4)⟩))
    · subst z
      exact absurd (List.length_eq_zero_iff.mp h2.len) c.2.1
    · subst z
      exact absurd (List.length_eq_zero_iff.mp h4.len) c.2.2
  case lst.lst xs ys =>
    obtain ⟨c, w⟩ := okI_wp w
    have c := of_decide_eq_true c
    obtain ⟨p, vs, rfl, h1, h2⟩ := hx'
    obtain ⟨q, us, rfl, h3, h4⟩ := hy'
    exact .inr (.inr (.inr ⟨p, q, vs, us, rfl, rfl, h1, h3, by rw [← h2.len, ← h4.len, ← lim_eq]; exact c, WpE.newL s w (h2.append h4)⟩))
/-- * of ints, of a list and an int -/
def rMulA : R2 := fun x y H Q => rI CMulW (fun i j => .int (i * j)) x y H Q ∨ rRep x y H Q
theorem RelL.rep {ds : List BR.D} {vs : List V} (h : RelL K G n ds vs) : ∀ k : Nat, RelL K G n (List.replicate k ds).flatten (List.replicate k vs).flatten
  | 0 => RelL.nil
  | k + 1 => by
    rw [List.replicate_succ, List.replicate_succ, List.flatten_cons, List.flatten_cons]
    exact h.append (RelL.rep h k)
theorem o_mul : O2 K EE rMulA dMul := fun G n S H x y d e Q s hx hy w => by
  have hx' := RelT.mono (Sub.refl _) NL.sub (Pre.refl _) hx
  cases d <;> cases e <;> first | exact (w : False).elim | skip
  case int.int i j =>
    obtain ⟨c, w⟩ := okI_wp w
    have c := of_decide_eq_true c
    exact .inl ⟨i, j, hx.int, hy.int, c, WpE.now s w rInt⟩
  case lst.int xs k =>
    obtain ⟨c, w⟩ := okI_wp w
    have c := of_decide_eq_true c
    obtain ⟨p, vs, rfl, h1, h2⟩ := hx'
    exact .inr ⟨p, k, vs, rfl, hy.int, h1, by have := c.1; omega, by have := c.2.1; omega, by rw [← h2.len, ← lim_eq]; exact c.2.2, WpE.newL s w (h2.rep _)⟩
/-- is None, is not None -/
def rIsN : R2 := fun x y H Q => y = .non ∧ Q (.bl (decide (x = .non))) H
def rNotN : R2 := fun x y H Q => y = .non ∧ Q (.bl (!decide (x = .non))) H
theorem isNon_rel {N : Hp} {d : BR.D} {x : V} (h : RelT K G N n d x) : decide (x = .non) = isNon d := by
  cases d with
  | non => rw [h.non]; rfl
  | bl b => rw [h.bl]; rfl
  | int b => rw [h.int]; rfl
  | str b => rw [h.str]; rfl
  | ty t => obtain rfl : x = .ty t := by simpa only [RelT, Rel] using h
            rfl
  | tup ds => obtain ⟨p, vs, rfl, _⟩ := h.tup; rfl
  | trn ds => obtain ⟨p, vs, rfl, _⟩ := h.trn; rfl
  | lst ds => obtain ⟨p, vs, rfl, _⟩ := h; rfl
  | scr ds => obtain ⟨p, vs, rfl, _⟩ := h; rfl
  | dK ks ds => obtain ⟨p, vs, rfl, _⟩ := h; rfl
  | dT ks ds => obtain ⟨p, vs, rfl, _⟩ := h; rfl
  | ref k =>
    have h' : Rel K G n (.ref k) x := h
    simp only [Rel] at h'
    obtain ⟨p, rfl, _⟩ := h'; rfl
  | xc k =>
    have h' : Rel K G n (.xc k) x := h
    simp only [Rel] at h'
    obtain ⟨p, rfl, _⟩ := h'; rfl
theorem o_is : O2 K EE rIsN dIs := fun G n S H x y d e Q s hx hy w => by
  cases e <;> first | (cases d <;> exact (w : False).elim) | skip
  have w' : WpE K EE (.ok (.bl (isNon d)) S) G n S H Q := by cases d <;> exact w
  exact ⟨hy.non, by rw [isNon_rel hx]; exact WpE.now s w' rBl⟩
theorem o_isNot : O2 K EE rNotN dIsNot := fun G n S H x y d e Q s hx hy w => by
  cases e <;> first | (cases d <;> exact (w : False).elim) | skip
  have w' : WpE K EE (.ok (.bl (!isNon d)) S) G n S H Q := by cases d <;> exact w
  exact ⟨hy.non, by rw [isNon_rel hx]; exact WpE.now s w' rBl⟩
/-! ### data -/
mutual
theorem dp_rel {H : Hp} (hs : Sub G H) : ∀ (k : Nat) (d : BR.D) (v : V), okP k d = true → Rel K G n d v → Dp K H v (toP d)
  | 0, _, _, h, _ => by simp [okP] at h
  | k + 1, .non, v, _, r => by simp only [Rel] at r; subst r; exact .non
  | k + 1, .bl b, v, _, r => by simp only [Rel] at r; subst r; exact .bl b
  | k + 1, .int b, v, _, r => by simp only [Rel] at r; subst r; exact .int b
  | k + 1, .str b, v, _, r => by simp only [Rel] at r; subst r; exact .str b
  | k + 1, .ty _, v, h, r => by simp [okP] at h
  | k + 1, .dK _ _, v, h, r => by simp [okP] at h
  | k + 1, .dT _ _, v, h, r => by simp [okP] at h
  | k + 1, .ref _, v, h, r => by simp [okP] at h
  | k + 1, .tup ds, v, h, r => by
    simp only [Rel] at r
    obtain ⟨a, vs, rfl, h1, h2⟩ := r
    exact .tup (.inl (.inl (hs _ _ h1))) (dps_rel hs k ds vs (by simpa only [okP] using h) h2)
  | k + 1, .trn ds, v, h, r => by
    simp only [Rel] at r
    obtain ⟨a, vs, rfl, h1, h2⟩ := r
    exact .tup (hs.st h1.sq) (dps_rel hs k ds vs (by simpa only [okP] using h) h2)
  | k + 1, .lst ds, v, h, r => by
    simp only [Rel] at r
    obtain ⟨a, vs, rfl, h1, h2⟩ := r
    exact .lst (SqL.of (hs _ _ h1)) (dps_rel hs k ds vs (by simpa only [okP] using h) h2)
  | k + 1, .scr ds, v, h, r => by
    simp only [Rel] at r
    obtain ⟨a, vs, rfl, h1, h2⟩ := r
    exact .lst (hs.sl h1) (dps_rel hs k ds vs (by simpa only [okP] using h) h2)
theorem dps_rel {H : Hp} (hs : Sub G H) : ∀ (k : Nat) (ds : List BR.D) (vs : List V), ds.all (okP k) = true → RelL K G n ds vs → DpAll K H vs (toPs ds)
  | k, [], vs, _, r => by simp only [RelL] at r; subst r; exact .nil
  | k, d :: ds, vs, h, r => by
    simp only [RelL] at r
    obtain ⟨v, w, rfl, r1, r2⟩ := r
    rw [List.all_cons, Bool.and_eq_true] at h
    exact .cons (dp_rel hs k d v h.1 r1) (dps_rel hs k ds w h.2 r2)
end
theorem dp_relT {k : Nat} {d : BR.D} {v : V} (s : Sub G H) (h : okP k d = true) (r : RelT K G H n d v) : Dp K H v (toP d) := by
  cases k with
  | zero => simp [okP] at h
  | succ k =>
    cases d with
    | lst ds => obtain ⟨a, vs, rfl, h1, h2⟩ := r; exact .lst (SqL.of h1) (dps_rel s k ds vs (by simpa only [okP] using h) h2)
    | scr ds => obtain ⟨a, vs, rfl, h1, h2⟩ := r; exact .lst h1 (dps_rel s k ds vs (by simpa only [okP] using h) h2)
    | dK ks ds => simp [okP] at h
    | dT ks ds => simp [okP] at h
    | _ => exact dp_rel (n := n) s (k + 1) _ v h r
mutual
theorem okP_lay : ∀ (k : Nat) (d : BR.D), okP k d = true → (toP d).canLay0 = true ∧ (toP d).depth ≤ k
  | 0, _, h => by simp [okP] at h
  | k + 1, .non, _ | k + 1, .bl _, _ | k + 1, .int _, _ => by simp [toP, PyData.canLay0, PyData.depth]
  | k + 1, .str b, h => by simp only [okP] at h; simp [toP, PyData.canLay0, PyData.depth, h]
  | k + 1, .ty _, h | k + 1, .dK _ _, h | k + 1, .dT _ _, h | k + 1, .ref _, h => by simp [okP] at h
  | k + 1, .tup ds, h | k + 1, .trn ds, h | k + 1, .lst ds, h | k + 1, .scr ds, h => by
    obtain ⟨h1, h2⟩ := okPs_lay k ds (by simpa only [okP] using h)
    simp only [toP, PyData.canLay0, PyData.depth]
    exact ⟨h1, by omega⟩
theorem okPs_lay : ∀ (k : Nat) (ds : List BR.D), ds.all (okP k) = true → PyData.canLayAll0 (toPs ds) = true ∧ PyData.depthAll (toPs ds) ≤ k
  | k, [], _ => by simp [toPs, PyData.canLayAll0, PyData.depthAll]
  | k, d :: ds, h => by
    rw [List.all_cons, Bool.and_eq_true] at h
    obtain ⟨h1, h2⟩ := okP_lay k d h.1
    obtain ⟨h3, h4⟩ := okPs_lay k ds h.2
    simp only [toPs, PyData.canLayAll0, PyData.depthAll, h1, h3, Bool.and_self, true_and]
    omega
end
theorem okP_shaped {d : BR.D} (h : okP deep d = true) : SeqAt.shaped (toP d) = true := by
  obtain ⟨h1, h2⟩ := okP_lay deep d h
  unfold SeqAt.shaped
  rw [h1, decide_eq_true (by have : deep = 60 := rfl; omega)]
  rfl
theorem o_eq : O2 K EE (rEqD K) dEq := fun G n S H x y d e Q s hx hy w => by
  unfold dEq at w
  cases q : vw S d with
  | none => rw [q] at w; exact w.elim
  | some a =>
    cases q2 : vw S e with
    | none => rw [q, q2] at w; exact w.elim
    | some b =>
      rw [q, q2] at w
      obtain ⟨c, w⟩ := okI_wp w
      rw [Bool.and_eq_true] at c
      exact ⟨_, _, dp_relT s.sub c.1 (vw_rel s hx q), dp_relT s.sub c.2 (vw_rel s hy q2), okP_shaped c.1, okP_shaped c.2, WpE.now s w rBl⟩
theorem o_ne : O2 K EE (rNeD K) dNe := fun G n S H x y d e Q s hx hy w => by
  unfold dNe at w
  cases q : vw S d with
  | none => rw [q] at w; exact w.elim
  | some a =>
    cases q2 : vw S e with
    | none => rw [q, q2] at w; exact w.elim
    | some b =>
      rw [q, q2] at w
      obtain ⟨c, w⟩ := okI_wp w
      rw [Bool.and_eq_true] at c
      exact ⟨_, _, dp_relT s.sub c.1 (vw_rel s hx q), dp_relT s.sub c.2 (vw_rel s hy q2), okP_shaped c.1, okP_shaped c.2, WpE.now s w rBl⟩
/-! ### in -/
theorem flat_rel {N : Hp} {d : BR.D} {v : V} (f : flatD d = true) (h : RelT K G N n d v) : flatV v = true := by
  cases d with
  | non => rw [h.non]; rfl
  | bl b => rw [h.bl]; rfl
  | int b => rw [h.int]; rfl
  | str b => rw [h.str]; rfl
  | _ => cases f
theorem flat_rel0 {d : BR.D} {v : V} (f : flatD d = true) (h : Rel K G n d v) : flatV v = true := by
  cases d with
  | non => simp only [Rel] at h; subst h; rfl
  | bl b => simp only [Rel] at h; subst h; rfl
  | int b => simp only [Rel] at h; subst h; rfl
  | str b => simp only [Rel] at h; subst h; rfl
  | _ => cases f
theorem eqF_rel {N : Hp} {d e : BR.D} {v u : V} (f : flatD d = true) (g : flatD e = true) (h : Rel K G n d v) (h2 : RelT K G N n e u) : eqV v u = eqF d e := by
  cases d <;> first | (cases f; done) | skip
  all_goals (cases e <;> first | (cases g; done) | skip)
  all_goals (simp only [RelT, Rel] at h h2; subst h h2; rfl)
theorem flats_rel : ∀ {ds : List BR.D} {vs : List V}, ds.all flatD = true → RelL K G n ds vs → vs.all flatV = true
  | [], vs, _, r => by simp only [RelL] at r; subst r; rfl
  | d :: ds, vs, h, r => by
    simp only [RelL] at r
    obtain ⟨v, w, rfl, r1, r2⟩ := r
    rw [List.all_cons, Bool.and_eq_true] at h ⊢
    exact ⟨flat_rel0 h.1 r1, flats_rel h.2 r2⟩
theorem inV_rel {N : Hp} {e : BR.D} {u : V} (g : flatD e = true) (h2 : RelT K G N n e u) : ∀ {ds : List BR.D} {vs : List V}, ds.all flatD = true → RelL K G n ds vs → inV u vs = ds.any fun z => eqF z e
  | [], vs, _, r => by simp only [RelL] at r; subst r; rfl
  | d :: ds, vs, h, r => by
    simp only [RelL] at r
    obtain ⟨v, w, rfl, r1, r2⟩ := r
    rw [List.all_cons, Bool.and_eq_true] at h
    have := inV_rel g h2 h.2 r2
    unfold inV at this ⊢
    rw [List.any_cons, List.any_cons, this, eqF_rel h.1 g r1 h2]
theorem any_toPs {p : PyData} : ∀ ds : List BR.D, (toPs ds).any (fun z => PyData.eqv z p) = ds.any fun z => PyData.eqv (toP z) p
  | [] => rfl
  | d :: ds => by simp only [toPs, List.any_cons, any_toPs ds]
def rInA (K : PySem.W.Frag) : R2 := fun x y H Q => rIn K false x y H Q ∨ rInD K x y H Q
def rNotInA (K : PySem.W.Frag) : R2 := fun x y H Q => rIn K true x y H Q ∨ rNotInD K x y H Q
theorem inD_rel {x y : V} {d e : BR.D} {b : Bool} (s : SR K G n S H) (hx : RelT K G (NL n S H) n d x) (hy : RelT K G (NL n S H) n e y) (w : inD d e S = some b) :
    (∃ p xs, y = .ref p ∧ (SqL K H p xs ∨ SqT K H p xs) ∧ flatV x = true ∧ xs.all flatV = true ∧ inV x xs = b) ∨ ∃ d ds, Dp K H x d ∧ Dp K H y (.list ds) ∧ SeqAt.shaped d = true ∧ SeqAt.shaped (.list ds) = true ∧ (ds.any fun z => PyData.eqv z d) = b := by
  unfold inD at w
  have hx' : RelT K G H n d x := RelT.mono (Sub.refl _) NL.sub (Pre.refl _) hx
  cases q : vw S e with
  | none => rw [q] at w; cases w
  | some c =>
    have hy' := vw_rel s hy q
    rw [q] at w
    cases c with
    | tup ds =>
      simp only [] at w
      split at w
      · rename_i c
        cases w
        rw [Bool.and_eq_true] at c
        obtain ⟨p, vs, rfl, h1, h2⟩ := hy'.tup
        exact .inl ⟨p, vs, rfl, .inr (s.sub.st h1), flat_rel c.1 hx, flats_rel c.2 h2, inV_rel c.1 hx c.2 h2⟩
      · cases w
    | trn ds =>
      simp only [] at w
      split at w
      · rename_i c
        cases w
        rw [Bool.and_eq_true] at c
        obtain ⟨p, vs, rfl, h1, h2⟩ := hy'.trn
        exact .inl ⟨p, vs, rfl, .inr (s.sub.st h1.sq), flat_rel c.1 hx, flats_rel c.2 h2, inV_rel c.1 hx c.2 h2⟩
      · cases w
    | lst ds =>
      simp only [] at w
      split at w
      · rename_i c
        cases w
        rw [Bool.and_eq_true] at c
        exact .inr ⟨toP d, toPs ds, dp_relT s.sub c.1 hx', by have := dp_relT s.sub c.2 hy'; simpa only [toP] using this, okP_shaped c.1, by have := okP_shaped c.2; simpa only [toP] using this, any_toPs ds⟩
      · cases w
    | scr ds =>
      simp only [] at w
      split at w
      · rename_i c
        cases w
        rw [Bool.and_eq_true] at c
        exact .inr ⟨toP d, toPs ds, dp_relT s.sub c.1 hx', by have := dp_relT s.sub c.2 hy'; simpa only [toP] using this, okP_shaped c.1, by have := okP_shaped c.2; simpa only [toP] using this, any_toPs ds⟩
      · cases w
    | _ => cases w
theorem o_in : O2 K EE (rInA K) dIn := fun G n S H x y d e Q s hx hy w => by
  unfold dIn at w
  cases q : inD d e S with
  | none => rw [q] at w; exact w.elim
  | some b =>
    rw [q] at w
    rcases inD_rel s hx hy q with ⟨p, xs, rfl, h1, h2, h3, h4⟩ | ⟨d', ds, h1, h2, h3, h4, h5⟩
    · exact .inl ⟨p, xs, rfl, h1, h2, h3, by rw [h4]; exact WpE.now s w rBl⟩
    · exact .inr ⟨d', ds, h1, h2, h3, h4, by rw [h5]; exact WpE.now s w rBl⟩
theorem o_notIn : O2 K EE (rNotInA K) dNotIn := fun G n S H x y d e Q s hx hy w => by
  unfold dNotIn at w
  cases q : inD d e S with
  | none => rw [q] at w; exact w.elim
  | some b =>
    rw [q] at w
    rcases inD_rel s hx hy q with ⟨p, xs, rfl, h1, h2, h3, h4⟩ | ⟨d', ds, h1, h2, h3, h4, h5⟩
    · exact .inl ⟨p, xs, rfl, h1, h2, h3, by rw [h4]; exact WpE.now s w rBl⟩
    · exact .inr ⟨d', ds, h1, h2, h3, h4, by rw [h5]; exact WpE.now s w rBl⟩
/-! ### len, items, list, tuple -/
def rLenA (K : PySem.W.Frag) : List V → Hp → VK → Prop := fun xs H Q => ∃ x m, xs = [x] ∧ LenV K x H m ∧ Q (.int m) H
theorem s_len (ha : SB K EE ta a) : SE K EE (tCB (rLenA K) (tCons ta tNil)) (e1 dLen a) := ha.cb1 fun G n S H x d Q s hx w => by
  unfold dLen at w
  cases q : vw S d with
  | none => rw [q] at w; exact w.elim
  | some c =>
    have hy := vw_rel s hx q
    rw [q] at w
    have seq : ∀ ds, seqD c = some ds → WpE K EE (.ok (.int ds.length) S) G n S H Q → rLenA K [x] H Q := fun ds h w => by
      obtain ⟨p, vs, rfl, h1, h2⟩ := seq_rel s.sub hy h
      refine ⟨.ref p, ds.length, rfl, ?_, WpE.now s w rInt⟩
      rw [h2.len]
      rcases h1 with h1 | h1
      · exact .inl ⟨vs, h1, rfl⟩
      · exact .inr ⟨vs, h1, rfl⟩
    cases c with
    | str z =>
      obtain ⟨c, w⟩ := okI_wp w
      obtain rfl := hy.str
      exact ⟨.str z, z.length, rfl, ⟨by rw [← lim_eq]; exact of_decide_eq_true c, rfl⟩, WpE.now s w rInt⟩
    | lst ds => exact seq ds rfl w
    | scr ds => exact seq ds rfl w
    | tup ds => exact seq ds rfl w
    | trn ds => exact seq ds rfl w
    | _ => exact w.elim
theorem RelL.atI {ds : List BR.D} {vs : List V} {j : Int} {d : BR.D} (h : RelL K G n ds vs) (e : L2.atI ds j = some d) : ∃ v, L2.atI vs j = some v ∧ Rel K G n d v := by
  unfold L2.atI at e ⊢
  rw [← h.len]
  cases q : ixN ds.length j with
  | none => rw [q] at e; cases e
  | some k =>
    rw [q] at e
    exact h.get (i := k) e
theorem o_idx : O2 K EE (rIx K) dIdx := fun G n S H x y d e Q s hx hy w => by
  unfold dIdx at w
  cases e with
  | int j =>
    simp only [] at w
    cases q : seqS S d with
    | none => rw [q] at w; exact w.elim
    | some ds =>
      rw [q] at w
      cases q2 : L2.atI ds j with
      | none => simp only [q2] at w; exact w.elim
      | some z =>
        simp only [q2] at w
        obtain ⟨p, vs, rfl, h1, h2⟩ := seqS_rel s hx q
        obtain ⟨v, h3, h4⟩ := h2.atI q2
        rcases h1 with h1 | h1
        · exact .inl ⟨p, vs, j, v, rfl, hy.int, h1, h3, WpE.now s w h4⟩
        · exact .inr (.inl ⟨p, vs, j, v, rfl, hy.int, h1, h3, WpE.now s w h4⟩)
  | _ => exact w.elim
def rListA (K : PySem.W.Frag) : List V → Hp → VK → Prop := fun xs H Q => ∃ p ys, xs = [.ref p] ∧ (SqL K H p ys ∨ SqT K H p ys) ∧ ∀ l, H l = none → Q (.ref l) (upd H l (.lst ys))
theorem s_list (ha : SB K EE ta a) : SL K EE (tCB (rListA K) (tCons ta tNil)) (BR.l1 lList a) := ha.l1 fun G n S H x d Q s hx w => by
  unfold lList at w
  cases q : seqS S d with
  | none => rw [q] at w; exact w.elim
  | some ds =>
    rw [q] at w
    obtain ⟨p, vs, rfl, h1, h2⟩ := seqS_rel s hx q
    exact ⟨p, vs, rfl, h1, WpL.new s w h2⟩
def rTupleA (K : PySem.W.Frag) : List V → Hp → VK → Prop := fun xs H Q => ∃ p ys, xs = [.ref p] ∧ ((SqL K H p ys ∧ ∀ l, H l = none → Q (.ref l) (upd H l (.tup ys))) ∨ (SqT K H p ys ∧ Q (.ref p) H))
theorem s_tuple (ha : SB K EE ta a) : SE K EE (tCB (rTupleA K) (tCons ta tNil)) (e1 dTuple a) := ha.cb1 fun G n S H x d Q s hx w => by
  unfold dTuple at w
  cases q2 : vw S d with
  | none => rw [q2] at w; exact w.elim
  | some c =>
    rw [q2] at w
    have hy := vw_rel s hx q2
    cases c with
    | lst xs => obtain ⟨p, vs, rfl, h1, h2⟩ := hy; exact ⟨p, vs, rfl, .inl ⟨SqL.of h1, WpE.newT s w h2⟩⟩
    | scr xs => obtain ⟨p, vs, rfl, h1, h2⟩ := hy; exact ⟨p, vs, rfl, .inl ⟨h1, WpE.newT s w h2⟩⟩
    | tup xs => obtain ⟨p, vs, rfl, h1, h2⟩ := hy.tupx; exact ⟨p, vs, rfl, .inr ⟨.inl (.inl (s.sub _ _ h1)), WpE.now s w (by simp only [Rel]; exact ⟨p, vs, rfl, h1, h2⟩)⟩⟩
    | trn xs => obtain ⟨p, vs, rfl, h1, h2⟩ := hy.trn; exact ⟨p, vs, rfl, .inr ⟨s.sub.st h1.sq, WpE.now s w (by simp only [Rel]; exact ⟨p, vs, rfl, h1, h2⟩)⟩⟩
    | _ => exact w.elim
theorem WpE.newN {ds : List BR.D} {vs : List V} {Q : VK} (s : SR K G n S H) (w : WpE K EE (.ok (.trn ds) S) G n S H Q) (h : RelL K G n ds vs) : ∀ (p : Addr) (o : Obj), H p = none → o.dict = none → Q (.ref p) (upd H p (.frz o (.tup vs))) := fun p o hp ho => by
  have p2 := Post.frz (o := .frz o (.tup vs)) s hp
  exact w _ _ _ _ p2 (by simp only [Rel]; exact ⟨p, vs, rfl, .inl ⟨o, upd_same, ho⟩, RelL.mono p2.sub p2.eta _ _ h⟩)
def rTrnA (K : PySem.W.Frag) : List V → Hp → VK → Prop := fun xs H Q => ∃ p ys, xs = [.ref p] ∧ ((SqL K H p ys ∧ ∀ (l : Addr) (o : Obj), H l = none → o.dict = none → Q (.ref l) (upd H l (.frz o (.tup ys)))) ∨ (SqT K H p ys ∧ Q (.ref p) H))
theorem s_trn (ha : SB K EE ta a) : SE K EE (tCB (rTrnA K) (tCons ta tNil)) (e1 dTrn a) := ha.cb1 fun G n S H x d Q s hx w => by
  unfold dTrn at w
  cases q2 : vw S d with
  | none => rw [q2] at w; exact w.elim
  | some c =>
    rw [q2] at w
    have hy := vw_rel s hx q2
    cases c with
    | lst xs => obtain ⟨p, vs, rfl, h1, h2⟩ := hy; exact ⟨p, vs, rfl, .inl ⟨SqL.of h1, WpE.newN s w h2⟩⟩
    | scr xs => obtain ⟨p, vs, rfl, h1, h2⟩ := hy; exact ⟨p, vs, rfl, .inl ⟨h1, WpE.newN s w h2⟩⟩
    | tup xs => obtain ⟨p, vs, rfl, h1, h2⟩ := hy.tupx; exact ⟨p, vs, rfl, .inr ⟨.inl (.inl (s.sub _ _ h1)), WpE.now s w (by simp only [Rel]; exact ⟨p, vs, rfl, h1, h2⟩)⟩⟩
    | trn xs => obtain ⟨p, vs, rfl, h1, h2⟩ := hy.trn; exact ⟨p, vs, rfl, .inr ⟨s.sub.st h1.sq, WpE.now s w (by simp only [Rel]; exact ⟨p, vs, rfl, h1, h2⟩)⟩⟩
    | _ => exact w.elim
/-- tuple(..) of a list as a tuple that is known to its object -/
theorem call_trn {X : Cx} : CallR X (.type "tuple") (rTrnA X.K) := by
  intro pins s σ H xs us Q I r h
  obtain ⟨p, ys, rfl, h⟩ := h
  obtain ⟨u, rfl, rx⟩ := vals1 r
  cases rx
  rcases h with ⟨hs, q⟩ | ⟨hs, q⟩
  · obtain ⟨its, rv, pl, hz⟩ := I.list hs
    refine call_tuple_list pl.isList (fun h' hk => ?_) (by rw [List.size_toArray, ← rv.length]; exact hz)
    have I1 : Inv X pins σ H { s with heap := h' } := I.kept (t' := s.toks) hk
    exact ⟨V.ref _, _, I1.laid (t' := s.toks) (o := .frz _ (.tup ys)) (fun b o e => Heap.get?_push_of_some _ e) (Nat.le_refl _) ⟨Heap.get?_push_size _ rfl, hz, its, rv, IsTup.new _ _⟩, rfl, q _ _ (I1.hok.fresh (Nat.le_refl _)) rfl⟩
  · obtain ⟨its, rv, pl, hz⟩ := I.tuple hs
    exact call_tuple_tup pl ⟨.ref p, H, I, rfl, q⟩
/-- a written tuple, known to its object -/
theorem pe_trn {X : Cx} {es : List Expr} {t : TA} {k : Nat} {pos : Pos} (h : PA X es t) : PE X (.Tuple es k pos) (tTrn t) := by
  constructor
  intro pins s σ H Q I hq
  refine wpAny_Tuple_spliced (thn (h.run pos pins s σ H _ I hq) fun us s1 z => ?_)
  obtain ⟨xs, H1, I1, r, z, q⟩ := z
  refine ⟨by rw [← r.length]; exact z, ?_⟩
  exact ⟨V.ref _, _, I1.laid (t' := s1.toks) (o := .frz _ (.tup xs)) (fun b u e => Heap.get?_push_of_some _ e) (Nat.le_refl _) ⟨Heap.get?_push_size _ rfl, z, us, r, IsTup.new _ _⟩, rfl, q _ _ (I1.hok.fresh (Nat.le_refl _)) rfl⟩
/-- a method of such a tuple -/
def tBMT (K : PySem.W.Frag) (r : V → List V → Hp → VK → Prop) (to : TE) (t : TA) : TE := fun σ H Q => to σ H fun x H1 => (∃ a vs, x = .ref a ∧ TrN K H1 a vs) ∧ t σ H1 fun xs H2 => r x xs H2 Q
theorem trn_is {X : Cx} {pins : List (Addr × Obj)} {σ : L2.St} {H : Hp} {s : Shared} {a : Addr} {vs : List V} (I : Inv X pins σ H s) (h : TrN X.K H a vs) : s.TypeIs (.ref a) "tuple" ∧ ∃ ob, s.heap.get? a = some ob ∧ ob.dict = none := by
  rcases h with ⟨o, h, hd⟩ | ⟨o, its, n, h1, h2, h3, _⟩
  · obtain ⟨e, _, _, _, o', e', c, _⟩ := (show ObjOk X.prog X.w H s.heap a (.frz o (.tup vs)) from I.hok a _ h)
    exact ⟨⟨o', e', c⟩, o, e, hd⟩
  · exact ⟨⟨o, I.kIn a o h1, h2⟩, o, I.kIn a o h1, h3⟩
theorem pe_bmT {X : Cx} {o e : Expr} {es : List Expr} {to : TE} {t : TA} {name : Str} {apos cpos : Pos} {id : String} {r : V → List V → Hp → VK → Prop} (slot : PySem.Slot "tuple" name id) (hty : typeOf (.builtin id) = pure (.type "method_descriptor")) (hm : MtR X id r) (ho : PE X o to) (ha : PA X (e :: es) t)
    (hb : attributeBase o name X.env (eval o X.env) = eval o X.env := by rfl)
    (hf : ((backTo cpos (starEach (e :: es) X.env)).all (fun x => !x.1) && (backToKw cpos (keywordEach [] X.env)).all (fun x => x.1.isSome) && decide ((e :: es).length + ([] : List Keyword).length + (if ([] : List Keyword).isEmpty then 0 else 1) < 30)) = true := by rfl)
    (hl : (apos.endLine == cpos.line) = true := by rfl) (hs : starEach (e :: es) X.env = (false, eval e X.env) :: starEach es X.env := by rfl) (hp : (backTo cpos (starEach es X.env)).any (·.1) = false := by rfl) :
    PE X (.Call (.Attribute o name apos) (e :: es) [] cpos) (tBMT X.K r to t) := by
  constructor
  intro pins s σ H Q I h
  refine wpAny_Call_method_late hb hf hl rfl (thn (ho.run pins s σ H _ I h) fun v s1 z => ?_)
  obtain ⟨x, H1, I1, r1, ⟨a, vs, rfl, ht⟩, q1⟩ := z
  cases r1
  obtain ⟨h1, h2⟩ := trn_is I1 ht
  refine ⟨"tuple", id, PySem.F.plainAttrs_tuple, slot, hty, h1, fun b eb => by cases eb; exact h2, ?_⟩
  have hA := ha.run cpos pins s1 σ H1 _ I1 q1
  rw [hs] at hA ⊢
  refine Calls.callWith_builtin (by show (false || (backTo cpos (starEach es X.env)).any (·.1)) = false; rw [hp] <;> rfl) (Calls.evalArgs_plain (thn hA fun us s2 z => ?_))
  obtain ⟨ws, H2, I2, r2, q2⟩ := z
  exact hm pins s2 σ H2 (V.ref a) ws _ us Q I2 rfl r2 q2
/-- t.index(x), x and all items flat -/
def rIndexT (K : PySem.W.Frag) : V → List V → Hp → VK → Prop := fun x xs H Q => ∃ (a : Addr) (ys : List V) (y : V) (j : Nat) (z : V), x = .ref a ∧ xs = [y] ∧ SqT K H a ys ∧ flatV y = true ∧ ys.all flatV = true ∧ ys[j]? = some z ∧ eqV z y = true ∧
  (∀ (m : Nat) (z' : V), m < j → ys[m]? = some z' → eqV z' y = false) ∧ Q (.int (j : Nat)) H
theorem mt_indexT {X : Cx} : MtR X "tuple.index" (rIndexT X.K) := by
  intro pins s σ H x xs v us Q I rx rs h
  obtain ⟨p, ys, y, j, z, rfl, rfl, hq, fy, fs, hz, hzj, hno, q⟩ := h
  cases rx
  obtain ⟨u, rfl, ru⟩ := vals1 rs
  obtain ⟨its, r, pl, _⟩ := I.tuple hq
  obtain ⟨⟨cls, dd, dt, sl⟩, ho, hc, n, hd⟩ := pl
  simp only at hc hd
  subst hc
  subst hd
  have hl : its.toArray.size = ys.length := by rw [List.size_toArray, ← r.length]
  have hj : j < its.toArray.size := by rw [hl]; exact (List.getElem?_eq_some_iff.mp hz).1
  have at' : ∀ (m : Nat) (hm : m < its.toArray.size) (z' : V), ys[m]? = some z' → eqU y its.toArray[m] = eqV z' y := fun m hm z' hz' => by
    obtain ⟨w, hw, rw'⟩ := r.get hz'
    have e : its.toArray[m] = w := by
      have := (List.getElem?_eq_some_iff.mp hw).2
      simpa using this
    rw [e, eqU_of rw' (flat_at fs hz')]
  refine call_meets PySem.F.slot_tuple_index ⟨_, ho, rfl⟩ PySem.F.entry_tuple_index (PySem.F.args_tuple_index_2 _ _) (TI.tuple_indexAt p its.toArray n dd sl u (eqU y) j hj ?_ ?_)
    ⟨ho, fun w hw => mem_eqAt ru fy r fs w (by simpa using hw), ⟨.int (j : Nat), H, I.tok _, ⟨_, rfl⟩, q⟩⟩
  · rw [at' j hj z hz]; exact hzj
  · intro m hm hmj
    have hm' : m < ys.length := by rw [← hl]; exact hm
    rw [at' m hm _ (List.getElem?_eq_getElem hm')]
    exact hno m _ hmj (List.getElem?_eq_getElem hm')
theorem idxOf_ge {x : BR.D} : ∀ {ds : List BR.D} {k j : Nat}, idxOf x ds k = some j → k ≤ j
  | [], _, _, h => by cases h
  | d :: ds, k, j, h => by
    simp only [idxOf] at h
    split at h
    · cases h; exact Nat.le_refl _
    · have := idxOf_ge h; omega
theorem idxOf_rel {N : Hp} {x : BR.D} {y : V} (fx : flatD x = true) (hx : RelT K G N n x y) : ∀ {ds : List BR.D} {vs : List V} {k j : Nat}, ds.all flatD = true → RelL K G n ds vs → idxOf x ds k = some j →
    ∃ z, vs[j - k]? = some z ∧ eqV z y = true ∧ ∀ (m : Nat) (z' : V), m < j - k → vs[m]? = some z' → eqV z' y = false
  | [], _, _, _, _, _, h => by cases h
  | d :: ds, vs, k, j, f, r, h => by
    rw [List.all_cons, Bool.and_eq_true] at f
    simp only [RelL] at r
    obtain ⟨v, w, rfl, r1, r2⟩ := r
    have e := eqF_rel f.1 fx r1 hx
    simp only [idxOf] at h
    split at h
    · rename_i c
      cases h
      refine ⟨v, by simp, by rw [e]; exact c, fun m z' hm => by omega⟩
    · rename_i c
      have hk := idxOf_ge h
      obtain ⟨z, h1, h2, h3⟩ := idxOf_rel fx hx f.2 r2 h
      have ej : j - k = (j - (k + 1)) + 1 := by omega
      refine ⟨z, by rw [ej]; simpa using h1, h2, fun m z' hm hz => ?_⟩
      cases m with
      | zero =>
        simp at hz; subst hz
        rw [e]; simpa using c
      | succ m => exact h3 m z' (by omega) (by simpa using hz)
theorem s_indexT {to ti : TE} {o i : EM} (ho : SE K EE to o) (hi : SB K EE ti i) : SE K EE (tBMT K (rIndexT K) to (tCons ti tNil)) (eIndexT o i) := fun G n S H r σ Q s e w => by
  refine ho G n S H r σ _ s e ?_
  unfold eIndexT at w
  cases q : o r S with
  | ok x S1 =>
    rw [q] at w
    intro v G1 n1 H1 p rl
    simp only [bind_ok] at w
    cases x with
    | trn ds =>
      have rl' := rl
      simp only [Rel] at rl'
      obtain ⟨a, vs, rfl, ht, h2⟩ := rl'
      refine ⟨⟨a, vs, rfl, p.sr.sub.tn ht⟩, hi G1 n1 S1 H1 r σ _ p.sr (e.post p) ?_⟩
      simp only [] at w
      cases q2 : i r S1 with
      | ok y S2 =>
        rw [q2] at w
        intro u G2 n2 H2 p2 rl2
        simp only [bind_ok, dIndexT] at w
        by_cases f : (flatD y && ds.all flatD) = true
        · rw [if_pos f] at w
          rw [Bool.and_eq_true] at f
          cases q3 : idxOf y ds 0 with
          | none => rw [q3] at w; exact w.elim
          | some k =>
            rw [q3] at w
            have h3 := RelL.mono p2.sub p2.eta _ _ h2
            obtain ⟨z, k1, k2, k3⟩ := idxOf_rel f.1 rl2 f.2 h3 q3
            exact ⟨a, vs, u, k, z, rfl, rfl, p2.sr.sub.st (p2.sub.tn ht).sq, flat_rel f.1 rl2, flats_rel f.2 h3, k1, k2, k3, w _ _ _ _ (p.tr p2) rInt⟩
        · rw [if_neg f] at w; exact w.elim
      | exc x S' => rw [q2] at w; exact fun c dd G' n' H' p' => w c dd G' n' H' (p.tr p')
      | bad => rw [q2] at w; exact w.elim
    | _ => exact w.elim
  | exc x S' => rw [q] at w; exact w
  | bad => rw [q] at w; exact w.elim
/-! ### all, any, sum, min, max, abs, int -/
theorem bls_rel : ∀ {ds : List BR.D} {vs : List V} {bs : List Bool}, blsD ds = some bs → RelL K G n ds vs → vs = bs.map V.bl
  | [], vs, bs, h, r => by simp only [RelL] at r; subst r; cases h; rfl
  | d :: ds, vs, bs, h, r => by
    simp only [RelL] at r
    obtain ⟨v, w, rfl, r1, r2⟩ := r
    cases d <;> first | (cases h; done) | skip
    rename_i b
    simp only [blsD] at h
    cases q : blsD ds with
    | none => rw [q] at h; cases h
    | some cs =>
      rw [q] at h; cases h
      simp only [Rel] at r1; subst r1
      rw [bls_rel q r2]; rfl
theorem ints_rel : ∀ {ds : List BR.D} {vs : List V} {bs : List Int}, intsD ds = some bs → RelL K G n ds vs → vs = bs.map V.int
  | [], vs, bs, h, r => by simp only [RelL] at r; subst r; cases h; rfl
  | d :: ds, vs, bs, h, r => by
    simp only [RelL] at r
    obtain ⟨v, w, rfl, r1, r2⟩ := r
    cases d <;> first | (cases h; done) | skip
    rename_i b
    simp only [intsD] at h
    cases q : intsD ds with
    | none => rw [q] at h; cases h
    | some cs =>
      rw [q] at h; cases h
      simp only [Rel] at r1; subst r1
      rw [ints_rel q r2]; rfl
/-- the items of a list, to be read -/
theorem lstS_rel {d : BR.D} {x : V} {ds : List BR.D} (s : SR K G n S H) (h : RelT K G (NL n S H) n d x) (e : lstS S d = some ds) : ∃ p vs, x = .ref p ∧ SqL K H p vs ∧ RelL K G n ds vs := by
  unfold lstS at e
  cases q : vw S d with
  | none => rw [q] at e; cases e
  | some c =>
    rw [q] at e
    have hy := vw_rel s h q
    cases c with
    | lst xs => cases e; obtain ⟨p, vs, rfl, h1, h2⟩ := hy; exact ⟨p, vs, rfl, SqL.of h1, h2⟩
    | scr xs => cases e; obtain ⟨p, vs, rfl, h1, h2⟩ := hy; exact ⟨p, vs, rfl, h1, h2⟩
    | _ => cases e
theorem s_all (ha : SB K EE ta a) : SE K EE (tCB (rAll K) (tCons ta tNil)) (e1 dAll a) := ha.cb1 fun G n S H x d Q s hx w => by
  unfold dAll at w
  cases q : lstS S d with
  | none => rw [q] at w; exact w.elim
  | some ds =>
    rw [q] at w
    obtain ⟨p, vs, rfl, h1, h2⟩ := lstS_rel s hx q
    simp only [Option.bind_some] at w
    cases q2 : blsD ds with
    | none => simp only [q2] at w; exact w.elim
    | some bs =>
      simp only [q2] at w
      exact ⟨p, bs, rfl, by rw [← bls_rel q2 h2]; exact h1, WpE.now s w rBl⟩
theorem s_any (ha : SB K EE ta a) : SE K EE (tCB (rAny K) (tCons ta tNil)) (e1 dAny a) := ha.cb1 fun G n S H x d Q s hx w => by
  unfold dAny at w
  cases q : lstS S d with
  | none => rw [q] at w; exact w.elim
  | some ds =>
    rw [q] at w
    obtain ⟨p, vs, rfl, h1, h2⟩ := lstS_rel s hx q
    simp only [Option.bind_some] at w
    cases q2 : blsD ds with
    | none => simp only [q2] at w; exact w.elim
    | some bs =>
      simp only [q2] at w
      exact ⟨p, bs, rfl, by rw [← bls_rel q2 h2]; exact h1, WpE.now s w rBl⟩
theorem s_sum (ha : SB K EE ta a) : SE K EE (tCB (rSum K) (tCons ta tNil)) (e1 dSum a) := ha.cb1 fun G n S H x d Q s hx w => by
  unfold dSum at w
  cases q : lstS S d with
  | none => rw [q] at w; exact w.elim
  | some ds =>
    rw [q] at w
    obtain ⟨p, vs, rfl, h1, h2⟩ := lstS_rel s hx q
    simp only [Option.bind_some] at w
    cases q2 : intsD ds with
    | none => simp only [q2] at w; exact w.elim
    | some bs =>
      simp only [q2] at w
      exact ⟨p, bs, rfl, by rw [← ints_rel q2 h2]; exact h1, WpE.now s w rInt⟩
def rMax2 : List V → Hp → VK → Prop := fun xs H Q => ∃ i j, xs = [.int i, .int j] ∧ Q (.int (if j > i then j else i)) H
def rMin2 : List V → Hp → VK → Prop := fun xs H Q => ∃ i j, xs = [.int i, .int j] ∧ Q (.int (if j < i then j else i)) H
theorem s_max2 (ha : SB K EE ta a) (hb : SB K EE tb b) : SE K EE (tCB rMax2 (tCons ta (tCons tb tNil))) (e2 dMax2 a b) := ha.cb2 hb fun G n S H x y d e Q s hx hy w => by
  cases d <;> cases e <;> first | exact (w : False).elim | skip
  rename_i i j
  exact ⟨i, j, by rw [hx.int, hy.int], WpE.now s w rInt⟩
theorem s_min2 (ha : SB K EE ta a) (hb : SB K EE tb b) : SE K EE (tCB rMin2 (tCons ta (tCons tb tNil))) (e2 dMin2 a b) := ha.cb2 hb fun G n S H x y d e Q s hx hy w => by
  cases d <;> cases e <;> first | exact (w : False).elim | skip
  rename_i i j
  exact ⟨i, j, by rw [hx.int, hy.int], WpE.now s w rInt⟩
def rAbs : List V → Hp → VK → Prop := fun xs H Q => ∃ i, xs = [.int i] ∧ Q (.int (if i < 0 then -i else i)) H
theorem s_abs (ha : SB K EE ta a) : SE K EE (tCB rAbs (tCons ta tNil)) (e1 dAbs a) := ha.cb1 fun G n S H x d Q s hx w => by
  cases d <;> first | exact (w : False).elim | skip
  rename_i i
  exact ⟨i, by rw [hx.int], WpE.now s w rInt⟩
def rInt1 : List V → Hp → VK → Prop := fun xs H Q => (∃ i, xs = [.int i] ∧ Q (.int i) H) ∨ ∃ k, xs = [.bl k] ∧ Q (.int (if k then 1 else 0)) H
theorem s_int (ha : SB K EE ta a) : SE K EE (tCB rInt1 (tCons ta tNil)) (e1 dInt a) := ha.cb1 fun G n S H x d Q s hx w => by
  cases d <;> first | exact (w : False).elim | skip
  · rename_i k
    exact .inr ⟨k, by rw [hx.bl], WpE.now s w rInt⟩
  · rename_i i
    exact .inl ⟨i, by rw [hx.int], WpE.now s w rInt⟩
/-! ### isinstance -/
def tyNames : List String := ["NoneType", "bool", "int", "str", "tuple", "list", "dict"]
def clsNames : List String := ["bool", "int", "str", "tuple", "list", "dict"]
theorem kitB_all : (tyNames.all fun t => clsNames.all fun c => decide (kitB t c = some (subTy t c))) = true := by decide +kernel
theorem kitB_of {t c : String} (ht : t ∈ tyNames) (hc : c ∈ clsNames) : kitB t c = some (subTy t c) := of_decide_eq_true (List.all_eq_true.mp (List.all_eq_true.mp kitB_all t ht) c hc)
theorem tyX_rel {d c : BR.D} {x : V} (s : SR K G n S H) (h : RelT K G (NL n S H) n d x) (e : vw S d = some c) (h1 : ∀ t, c ≠ .ty t) (h2 : (∀ k, c ≠ .ref k) ∧ ∀ k, c ≠ .xc k) : TyX K H x (.type (tyD c)) ∧ tyD c ∈ tyNames := by
  have hy := vw_rel s h e
  cases c with
  | non => rw [hy.non]; exact ⟨.base .non, by simp [tyD, tyNames]⟩
  | bl b => rw [hy.bl]; exact ⟨.base (.bl b), by simp [tyD, tyNames]⟩
  | int b => rw [hy.int]; exact ⟨.base (.int b), by simp [tyD, tyNames]⟩
  | str b => rw [hy.str]; exact ⟨.base (.str b), by simp [tyD, tyNames]⟩
  | ty t => exact absurd rfl (h1 t)
  | ref k => exact absurd rfl (h2.1 k)
  | xc k => exact absurd rfl (h2.2 k)
  | trn ds =>
    obtain ⟨p, vs, rfl, q, _⟩ := hy.trn
    refine ⟨?_, by simp [tyD, tyNames]⟩
    rcases q with ⟨o, q, _⟩ | ⟨o, its, m, q, c, _⟩
    · exact .fTuple (s.sub _ _ q)
    · exact .kTuple q c
  | tup ds =>
    obtain ⟨p, vs, rfl, q, _⟩ := hy.tup
    refine ⟨?_, by simp [tyD, tyNames]⟩
    rcases q with (q | ⟨o, q⟩) | ⟨o, its, m, q, c, _⟩
    · exact .base (.tup (s.sub _ _ q))
    · exact .fTuple (s.sub _ _ q)
    · exact .kTuple q c
  | lst ds => obtain ⟨p, vs, rfl, q, _⟩ := hy; exact ⟨.base (.lst q), by simp [tyD, tyNames]⟩
  | scr ds =>
    obtain ⟨p, vs, rfl, q, _⟩ := hy
    refine ⟨?_, by simp [tyD, tyNames]⟩
    rcases q with (q | ⟨o, q⟩) | ⟨o, its, m, q, c, _⟩
    · exact .base (.lst q)
    · exact .base (.frz q)
    · exact .kList q c
  | dK ks ds => obtain ⟨p, vs, rfl, q, _⟩ := hy; exact ⟨.base (.dK q), by simp [tyD, tyNames]⟩
  | dT ks ds => obtain ⟨p, vs, rfl, q, _⟩ := hy; exact ⟨.base (.dT q), by simp [tyD, tyNames]⟩
theorem isi_w {S0 : Store} {cs : List String} {d : BR.D} {Q : VK} (w : WpE K EE (dIsi cs d S) G n S0 H Q) : ∃ c, vw S d = some c ∧ (∀ t, c ≠ .ty t) ∧ ((∀ k, c ≠ .ref k) ∧ ∀ k, c ≠ .xc k) ∧ WpE K EE (.ok (.bl (cs.any fun t => subTy (tyD c) t)) S) G n S0 H Q := by
  unfold dIsi at w
  cases q : vw S d with
  | none => rw [q] at w; exact w.elim
  | some c =>
    rw [q] at w
    cases c <;> first | exact (w : False).elim | exact ⟨_, rfl, by simp, ⟨by simp, by simp⟩, w⟩
theorem s_isi {c : String} (hc : c ∈ clsNames) (ha : SB K EE ta a) : SE K EE (tCB (rIsi K) (tCons ta (tCons (tC (.ty c)) tNil))) (e1 (dIsi [c]) a) := fun G n S H r σ Q s e w => by
  refine ha G n S H r σ _ s e ?_
  unfold e1 at w
  cases q : a r S with
  | ok d S1 =>
    rw [q] at w
    intro v G1 n1 H1 p rl
    obtain ⟨x, h1, h2, h3, w2⟩ := isi_w (show WpE K EE (dIsi _ d S1) G n S H Q from w)
    obtain ⟨h4, h5⟩ := tyX_rel p.sr rl h1 h2 h3
    refine ⟨v, .ty c, _, _, subTy (tyD x) c, rfl, .ty c, h4, kit_ty (kitB_of h5 hc), ?_⟩
    have : ([c].any fun t => subTy (tyD x) t) = subTy (tyD x) c := by simp
    rw [this] at w2
    exact w2 _ _ _ _ p rBl
  | exc x S' => rw [q] at w; exact w
  | bad => rw [q] at w; exact w
theorem s_isi2 {c c' : String} (hc : c ∈ clsNames) (hc' : c' ∈ clsNames) (ha : SB K EE ta a) : SE K EE (tCB (rIsiT K) (tCons ta (tCons (tTup (tCons (tC (.ty c)) (tCons (tC (.ty c')) tNil))) tNil))) (e1 (dIsi [c, c']) a) := fun G n S H r σ Q s e w => by
  refine ha G n S H r σ _ s e ?_
  unfold e1 at w
  cases q : a r S with
  | ok d S1 =>
    rw [q] at w
    intro v G1 n1 H1 p rl
    refine ⟨by show 2 ≤ sizeLine; rw [sizeLine_eq]; decide, fun t ht => ?_⟩
    have p2 := Post.frz (o := .tup [.ty c, .ty c']) p.sr ht
    obtain ⟨x, h1, h2, h3, w2⟩ := isi_w (show WpE K EE (dIsi _ d S1) G n S H Q from w)
    obtain ⟨h4, h5⟩ := tyX_rel p2.sr (rl.post p2) h1 h2 h3
    refine ⟨v, t, [.ty c, .ty c'], _, [.type c, .type c'], ([c, c'].any fun t => subTy (tyD x) t), rfl, upd_same, .cons (.ty c) (.cons (.ty c') .nil), h4, ?_, w2 _ _ _ _ (p.tr p2) rBl⟩
    refine kitAny_cons (kit_ty (kitB_of h5 hc)) (fun f => ?_) (fun f => by simp [f])
    refine kitAny_cons (kit_ty (kitB_of h5 hc')) (fun g => ?_) (fun g => by simp [g])
    rw [kitAny_nil]; simp [f, g]
  | exc x S' => rw [q] at w; exact w
  | bad => rw [q] at w; exact w
/-! ### repr -/
def rRepr (K : PySem.W.Frag) : List V → Hp → VK → Prop := fun xs H Q => ∃ x d, xs = [x] ∧ Dp K H x d ∧ d.canLay0 = true ∧ d.depth ≤ 60 ∧ d.showable = true ∧ d.shown.length ≤ sizeLine ∧ Q (.str d.shown) H
theorem call_reprA {X : Cx} (hg : X.A.guards = some []) (hu : X.A.units + 100 < cLine) : CallR X (.builtin "repr") (rRepr X.K) := by
  intro pins s σ H xs us Q I r h
  obtain ⟨x, d, rfl, hd, hc, hp, hs, hz, q⟩ := h
  obtain ⟨u, rfl, rx⟩ := vals1 r
  have hd' := hd
  cases hd with
  | non => cases rx; exact PySem.P.repr_of_none ⟨.str _, H, I.tok _, ⟨_, rfl⟩, q⟩
  | bl b => cases rx; exact PySem.P.repr_of_bool ⟨.str _, H, I.tok _, ⟨_, rfl⟩, by cases b <;> exact q⟩
  | int i => obtain ⟨t, rfl⟩ := rx; exact PySem.P.repr_of_int (of_decide_eq_true hs) ⟨.str _, H, I.tok _, ⟨_, rfl⟩, q⟩
  | str z => obtain ⟨t, rfl⟩ := rx; exact PySem.P.repr_of_str ⟨.str _, H, I.tok _, ⟨_, rfl⟩, q⟩ hz
  | lst h1 h2 =>
    cases rx
    obtain ⟨as, h3⟩ := Dp.reads I _ _ _ hd' rfl
    exact repr_of_reads' h3 hs (PyData.noDict_hsm (PyData.hasDict_of_canLay _ hc)) hg (by omega) (fun _ _ e => e) (fun h' u tk k => ⟨.str _, H, I.kept k, ⟨_, rfl⟩, q⟩) hz
  | tup h1 h2 =>
    cases rx
    obtain ⟨as, h3⟩ := Dp.reads I _ _ _ hd' rfl
    exact repr_of_reads' h3 hs (PyData.noDict_hsm (PyData.hasDict_of_canLay _ hc)) hg (by omega) (fun _ _ e => e) (fun h' u tk k => ⟨.str _, H, I.kept k, ⟨_, rfl⟩, q⟩) hz
theorem s_repr (ha : SB K EE ta a) : SE K EE (tCB (rRepr K) (tCons ta tNil)) (e1 dRepr a) := ha.cb1 fun G n S H x d Q s hx w => by
  unfold dRepr at w
  cases q : vw S d with
  | none => rw [q] at w; exact w.elim
  | some c =>
    rw [q] at w
    obtain ⟨h, w⟩ := okI_wp w
    rw [Bool.and_eq_true, Bool.and_eq_true] at h
    obtain ⟨⟨h1, h2⟩, h3⟩ := h
    obtain ⟨h4, h5⟩ := okP_lay deep c h1
    exact ⟨x, toP c, rfl, dp_relT s.sub h1 (vw_rel s hx q), h4, h5, h2, by rw [← lim_eq]; exact of_decide_eq_true h3, WpE.now s w rStr⟩
/-! ### slices -/
def WpO (K : PySem.W.Frag) (EE : XQ) (x : Res (Option Int)) (G : Hp) (n : List Addr) (S : Store) (H : Hp) (Q : Option Int → Hp → Prop) : Prop := match x with
  | .ok o S' => ∀ G' n' H', Post K NoO G n S H G' n' S' H' → Q o H'
  | .exc x S' => ∀ c dd G' n' H', Post K NoO G n S H G' n' S' H' → ExcR x c dd H' → EE x c dd H'
  | .bad => False
def SO (K : PySem.W.Frag) (EE : XQ) (to : TO) (m : PM) : Prop := ∀ G n S H r σ Q, SR K G n S H → ER K G n S H r σ → WpO K EE (m r S) G n S H Q → to σ H Q
theorem SO.none : SO K EE tNoPart pNo := fun G n S H r σ Q s e w => w G n H (Post.refl s)
theorem SO.some (ha : SB K EE ta a) : SO K EE (tPart ta) (pSo a) := fun G n S H r σ Q s e w => by
  refine ha G n S H r σ _ s e ?_
  unfold pSo at w
  cases q : a r S with
  | ok d S1 =>
    rw [q] at w
    intro v G1 n1 H1 p rl
    cases d with
    | int i => exact ⟨i, rl.int, w G1 n1 H1 p⟩
    | _ => exact w.elim
  | exc x S' => rw [q] at w; exact w
  | bad => rw [q] at w; exact w
theorem cut_rel {ds : List BR.D} {vs : List V} (h : RelL K G n ds vs) (lo hi : Option Int) : RelL K G n (cutD ds lo hi) (cutV vs lo hi) := by
  unfold cutD cutV
  rw [h.len]
  exact (h.drop _).take _
theorem s_lSl {tl th : TO} {lo hi : PM} (ha : SB K EE ta a) (hl : SO K EE tl lo) (hh : SO K EE th hi) : SL K EE (tSl (rSlL K) ta tl th) (lSl a lo hi) := fun G n S H r σ Q s e w => by
  refine ha G n S H r σ _ s e ?_
  unfold lSl at w
  cases q : a r S with
  | ok d S1 =>
    rw [q] at w
    intro v G1 n1 H1 p rl
    simp only [bind_ok] at w
    refine hl G1 n1 S1 H1 r σ _ p.sr (e.post p) ?_
    cases q2 : lo r S1 with
    | ok i S2 =>
      rw [q2] at w
      intro G2 n2 H2 p2
      simp only [bind_ok] at w
      refine hh G2 n2 S2 H2 r σ _ p2.sr ((e.post p).post p2) ?_
      cases q3 : hi r S2 with
      | ok j S3 =>
        rw [q3] at w
        intro G3 n3 H3 p3
        simp only [bind_ok] at w
        have rl3 := (rl.post p2).post p3
        have p13 := (p.tr p2).tr p3
        cases q4 : (vw S3 d).bind lstD with
        | none => simp only [q4] at w; exact w.elim
        | some xs =>
          simp only [q4] at w
          obtain ⟨a, vs, rfl, h1, h2⟩ := lstS_rel p3.sr rl3 q4
          exact ⟨a, vs, rfl, h1, WpL.new p3.sr (WpL.at p13 w) (cut_rel h2 i j)⟩
      | exc x S' => rw [q3] at w; exact fun c dd G' n' H' p' => w c dd G' n' H' ((p.tr p2).tr p')
      | bad => rw [q3] at w; exact w
    | exc x S' => rw [q2] at w; exact fun c dd G' n' H' p' => w c dd G' n' H' (p.tr p')
    | bad => rw [q2] at w; exact w
  | exc x S' => rw [q] at w; exact w
  | bad => rw [q] at w; exact w
def rSlAll (K : PySem.W.Frag) : V → Option Int → Option Int → Hp → VK → Prop := fun x lo hi H Q => rSlL K x lo hi H Q ∨ rSlA K x lo hi H Q ∨ rSlS x lo hi H Q
theorem s_eSl {tl th : TO} {lo hi : PM} (ha : SB K EE ta a) (hl : SO K EE tl lo) (hh : SO K EE th hi) : SE K EE (tSl (rSlAll K) ta tl th) (eSl a lo hi) := fun G n S H r σ Q s e w => by
  refine ha G n S H r σ _ s e ?_
  unfold eSl at w
  cases q : a r S with
  | ok d S1 =>
    rw [q] at w
    intro v G1 n1 H1 p rl
    simp only [bind_ok] at w
    refine hl G1 n1 S1 H1 r σ _ p.sr (e.post p) ?_
    cases q2 : lo r S1 with
    | ok i S2 =>
      rw [q2] at w
      intro G2 n2 H2 p2
      simp only [bind_ok] at w
      refine hh G2 n2 S2 H2 r σ _ p2.sr ((e.post p).post p2) ?_
      cases q3 : hi r S2 with
      | ok j S3 =>
        rw [q3] at w
        intro G3 n3 H3 p3
        simp only [bind_ok] at w
        have rl3 := (rl.post p2).post p3
        have p13 := (p.tr p2).tr p3
        cases q4 : vw S3 d with
        | none => simp only [q4] at w; exact w.elim
        | some c =>
          simp only [q4] at w
          have hy := vw_rel p3.sr rl3 q4
          cases c with
          | lst xs =>
            obtain ⟨a, vs, rfl, h1, h2⟩ := hy
            exact .inl ⟨a, vs, rfl, SqL.of h1, WpE.newL p3.sr (WpE.at p13 w) (cut_rel h2 i j)⟩
          | scr xs =>
            obtain ⟨a, vs, rfl, h1, h2⟩ := hy
            exact .inl ⟨a, vs, rfl, h1, WpE.newL p3.sr (WpE.at p13 w) (cut_rel h2 i j)⟩
          | tup xs =>
            obtain ⟨a, vs, rfl, h1, h2⟩ := hy.tupx
            refine .inr (.inl ⟨a, vs, rfl, .inl (.inl (p3.sr.sub _ _ h1)), fun z => ?_, fun _ => WpE.newT p3.sr (WpE.at p13 w) (cut_rel h2 i j)⟩)
            have w1 : WpE K EE (.ok (.tup (cutD xs i j)) S3) G3 n3 S3 H3 Q := WpE.at p13 w
            refine WpE.now p3.sr w1 ?_
            have : cutD xs i j = xs := by
              unfold cutD
              rw [h2.len, z.1, z.2, ← h2.len]
              simp
            rw [this]
            simp only [Rel]
            exact ⟨a, vs, rfl, h1, h2⟩
          | str z =>
            obtain ⟨c, w⟩ := okI_wp (WpE.at p13 w)
            exact .inr (.inr ⟨z, hy.str, by rw [← lim_eq]; exact of_decide_eq_true c, WpE.now p3.sr w rStr⟩)
          | _ => exact w.elim
      | exc x S' => rw [q3] at w; exact fun c dd G' n' H' p' => w c dd G' n' H' ((p.tr p2).tr p')
      | bad => rw [q3] at w; exact w
    | exc x S' => rw [q2] at w; exact fun c dd G' n' H' p' => w c dd G' n' H' (p.tr p')
    | bad => rw [q2] at w; exact w
  | exc x S' => rw [q] at w; exact w
  | bad => rw [q] at w; exact w

/-! ### lists that change -/
theorem ref_rel {k : Nat} {v : V} (h : Rel K G n (.ref k) v) : ∃ a, v = .ref a ∧ n[k]? = some a := by simpa only [Rel] using h
/-- name.append(e) -/
theorem s_app {i : Nat} (he : SE K EE te m) : SS K EE (tDrop (tBM K "list" rAppend (tVar i) (tCons te tNil))) (mApp i m) := fun G n S H r σ D s e w => by
  unfold mApp at w
  cases q : r[i]? with
  | none => rw [q] at w; exact w.elim
  | some sl => cases sl with
    | no => rw [q] at w; exact w.elim
    | own d => cases d with
      | lst xs =>
        rw [q] at w
        obtain ⟨a, o, h1, h2, h3, h4, vs, rfl, h5⟩ := e.own i _ q
        refine ⟨.ref a, h1, .inl ⟨rfl, _, .inl (.inl h4)⟩, he G n S H r σ _ s e ?_⟩
        simp only [] at w
        cases q2 : m r S with
        | ok d S1 =>
          rw [q2] at w
          intro v G1 n1 H1 p rl
          simp only [bind_ok] at w
          obtain ⟨g1, g2, g3⟩ := hidden p h4 h2 h3
          have rl5 := RelL.mono p.sub p.eta _ _ h5
          by_cases hl : xs.length < lim
          · rw [if_pos hl] at w
            refine ⟨a, vs, v, rfl, rfl, g3, by rw [← h5.len, ← lim_eq]; exact hl, ?_⟩
            have e1 := e.post p
            have ow : Own r σ a := ⟨i, _, q, h1⟩
            have p2 : Post K (Own r σ) G1 n1 S1 H1 G1 n1 S1 (upd H1 a (.lst (vs ++ [v]))) := Post.hidW p.sr g3 g1 g2 ow
            exact w G1 n1 _ σ (p.own.trans p2 fun b z => .inl z) (e1.reOwn q h1 ⟨_, rfl, rl5.append (.cons rl .nil)⟩) (OwnSub.reOwn q)
          · rw [if_neg hl] at w; exact w.elim
        | exc x S' => rw [q2] at w; exact fun c dd G' n' H' p => w c dd G' n' H' p.own
        | bad => rw [q2] at w; exact w.elim
      | _ => rw [q] at w; exact w.elim
    | val d => cases d with
      | ref k =>
        rw [q] at w
        obtain ⟨v0, h1, h2⟩ := e.val i _ q
        obtain ⟨a, rfl, hk⟩ := ref_rel h2
        simp only [] at w
        cases q0 : lstAt S k with
        | none => rw [q0] at w; exact w.elim
        | some xs0 =>
          rw [q0] at w
          obtain ⟨vs0, h3, _⟩ := cell_lst s hk q0
          refine ⟨.ref a, h1, .inl ⟨rfl, _, .inl (.inl h3)⟩, he G n S H r σ _ s e ?_⟩
          simp only [] at w
          cases q2 : m r S with
          | ok d S1 =>
            rw [q2] at w
            intro v G1 n1 H1 p rl
            simp only [bind_ok] at w
            cases q3 : lstAt S1 k with
            | none => simp only [q3] at w; exact w.elim
            | some xs =>
              simp only [q3] at w
              obtain ⟨vs, g1, g2⟩ := cell_lst p.sr (p.eta.get hk) q3
              by_cases hl : xs.length < lim
              · rw [if_pos hl] at w
                refine ⟨a, vs, v, rfl, rfl, g1, by rw [← g2.len, ← lim_eq]; exact hl, ?_⟩
                have p2 : Post K NoO G1 n1 S1 H1 G1 n1 (S1.set k (some (.lst (xs ++ [d])))) (upd H1 a (.lst (vs ++ [v]))) := Post.setCell p.sr (p.eta.get hk) (lstAt_some q3) ⟨_, rfl, g2.append (.cons rl .nil)⟩
                exact w G1 n1 _ σ (p.tr p2).own (e.post (p.tr p2)) OwnSub.refl
              · rw [if_neg hl] at w; exact w.elim
          | exc x S' => rw [q2] at w; exact fun c dd G' n' H' p => w c dd G' n' H' p.own
          | bad => rw [q2] at w; exact w.elim
      | _ => rw [q] at w; exact w.elim
/-- name.extend(e) -/
theorem s_ext {i : Nat} (he : SB K EE te m) : SS K EE (tDrop (tBM K "list" rExtend (tVar i) (tCons te tNil))) (mExt i m) := fun G n S H r σ D s e w => by
  unfold mExt at w
  cases q : r[i]? with
  | none => rw [q] at w; exact w.elim
  | some sl => cases sl with
    | no => rw [q] at w; exact w.elim
    | val d => rw [q] at w; exact w.elim
    | own d => cases d with
      | lst xs =>
        rw [q] at w
        obtain ⟨a, o, h1, h2, h3, h4, vs, rfl, h5⟩ := e.own i _ q
        refine ⟨.ref a, h1, .inl ⟨rfl, _, .inl (.inl h4)⟩, he G n S H r σ _ s e ?_⟩
        simp only [] at w
        cases q2 : m r S with
        | ok d S1 =>
          rw [q2] at w
          intro v G1 n1 H1 p rl
          simp only [bind_ok] at w
          obtain ⟨g1, g2, g3⟩ := hidden p h4 h2 h3
          have rl5 := RelL.mono p.sub p.eta _ _ h5
          cases d with
          | lst ys =>
            obtain ⟨b, us, rfl, k1, k2⟩ := rl
            simp only [] at w
            by_cases hl : xs.length + ys.length ≤ lim
            · rw [if_pos hl] at w
              refine ⟨a, b, vs, us, rfl, rfl, g3, NL.sub _ _ k1, by rw [← h5.len, ← k2.len, ← lim_eq]; exact hl, ?_⟩
              have e1 := e.post p
              have ow : Own r σ a := ⟨i, _, q, h1⟩
              have p2 : Post K (Own r σ) G1 n1 S1 H1 G1 n1 S1 (upd H1 a (.lst (vs ++ us))) := Post.hidW p.sr g3 g1 g2 ow
              exact w G1 n1 _ σ (p.own.trans p2 fun b z => .inl z) (e1.reOwn q h1 ⟨_, rfl, rl5.append k2⟩) (OwnSub.reOwn q)
            · rw [if_neg hl] at w; exact w.elim
          | _ => exact w.elim
        | exc x S' => rw [q2] at w; exact fun c dd G' n' H' p => w c dd G' n' H' p.own
        | bad => rw [q2] at w; exact w.elim
      | _ => rw [q] at w; exact w.elim
/-- target = name.pop() -/
theorem s_popV {i : Nat} {g : TG} {gm : GM} {is : List Nat} (hg : SG K g gm is) : SS K EE (tAsg (tBM0 K "list" rPop (tVar i)) g) (mPop gm i) := fun G n S H r σ D s e w => by
  unfold mPop at w
  cases q : r[i]? with
  | none => rw [q] at w; exact w.elim
  | some sl => cases sl with
    | no => rw [q] at w; exact w.elim
    | val d => rw [q] at w; exact w.elim
    | own d => cases d with
      | lst xs =>
        rw [q] at w
        obtain ⟨a, o, h1, h2, h3, h4, vs, rfl, h5⟩ := e.own i _ q
        simp only [] at w
        cases q2 : xs[xs.length - 1]? with
        | none => rw [q2] at w; exact w.elim
        | some y =>
          rw [q2] at w
          simp only [] at w
          obtain ⟨v, k1, k2⟩ := h5.get q2
          cases q3 : gm y (r.set i (.own (.lst xs.dropLast))) with
          | none => rw [q3] at w; exact w.elim
          | some r1 =>
            rw [q3] at w
            refine ⟨.ref a, h1, .inl ⟨rfl, _, .inl (.inl h4)⟩, a, vs, v, rfl, rfl, h4, by rw [← h5.len]; exact k1, ?_⟩
            have ow : Own r σ a := ⟨i, _, q, h1⟩
            have p2 : Post K (Own r σ) G n S H G n S (upd H a (.lst vs.dropLast)) := Post.hidW s h4 h2 h3 ow
            have dl : RelL K G n xs.dropLast vs.dropLast := by
              rw [List.dropLast_eq_take, List.dropLast_eq_take, ← h5.len]
              exact h5.take _
            have e2 := e.reOwn q h1 (d' := .lst xs.dropLast) ⟨_, rfl, dl⟩
            refine hg G n S _ _ σ y v r1 _ p2.sr e2 k2 q3 fun σ1 e3 o3 _ => ?_
            have o2 : OwnSub r σ H (r.set i (.own (.lst xs.dropLast))) σ := OwnSub.reOwn q
            exact w G n _ σ1 p2 e3 (o2.trans o3 fun b => p2.back)
      | _ => rw [q] at w; exact w.elim
/-- o.append(e) of a shared list -/
theorem s_appE {to : TE} {o : EM} (ho : SE K EE to o) (he : SE K EE te m) : SS K EE (tDrop (tBM K "list" rAppend to (tCons te tNil))) (mAppE o m) := fun G n S H r σ D s e w => by
  refine ho G n S H r σ _ s e ?_
  unfold mAppE at w
  cases q : o r S with
  | ok x S1 =>
    rw [q] at w
    intro v0 G1 n1 H1 p rl
    simp only [bind_ok] at w
    cases x with
    | ref k =>
      obtain ⟨a, rfl, hk⟩ := ref_rel rl
      simp only [] at w
      cases q0 : lstAt S1 k with
      | none => rw [q0] at w; exact w.elim
      | some xs0 =>
        rw [q0] at w
        obtain ⟨vs0, h3, _⟩ := cell_lst p.sr hk q0
        refine ⟨.inl ⟨rfl, _, .inl (.inl h3)⟩, he G1 n1 S1 H1 r σ _ p.sr (e.post p) ?_⟩
        simp only [] at w
        cases q2 : m r S1 with
        | ok d S2 =>
          rw [q2] at w
          intro v G2 n2 H2 p2 rl2
          simp only [bind_ok] at w
          cases q3 : lstAt S2 k with
          | none => simp only [q3] at w; exact w.elim
          | some xs =>
            simp only [q3] at w
            obtain ⟨vs, g1, g2⟩ := cell_lst p2.sr (p2.eta.get hk) q3
            by_cases hl : xs.length < lim
            · rw [if_pos hl] at w
              refine ⟨a, vs, v, rfl, rfl, g1, by rw [← g2.len, ← lim_eq]; exact hl, ?_⟩
              have p3 : Post K NoO G2 n2 S2 H2 G2 n2 (S2.set k (some (.lst (xs ++ [d])))) (upd H2 a (.lst (vs ++ [v]))) := Post.setCell p2.sr (p2.eta.get hk) (lstAt_some q3) ⟨_, rfl, g2.append (.cons rl2 .nil)⟩
              have p13 := (p.tr p2).tr p3
              exact w G2 n2 _ σ p13.own (e.post p13) OwnSub.refl
            · rw [if_neg hl] at w; exact w.elim
        | exc x S' => rw [q2] at w; exact fun c dd G' n' H' p' => w c dd G' n' H' (p.tr p').own
        | bad => rw [q2] at w; exact w.elim
    | _ => exact w.elim
  | exc x S' => rw [q] at w; exact fun c dd G' n' H' p' => w c dd G' n' H' p'.own
  | bad => rw [q] at w; exact w.elim
/-- o.pop(i), o.pop() of a shared list -/
theorem s_popAt {to ti : TE} {o i : EM} (ho : SE K EE to o) (hi : SB K EE ti i) : SE K EE (tBM K "list" rPopAt to (tCons ti tNil)) (ePopAt o i) := fun G n S H r σ Q s e w => by
  refine ho G n S H r σ _ s e ?_
  unfold ePopAt at w
  cases q : o r S with
  | ok x S1 =>
    rw [q] at w
    intro v0 G1 n1 H1 p rl
    simp only [bind_ok] at w
    cases x with
    | ref k =>
      obtain ⟨a, rfl, hk⟩ := ref_rel rl
      simp only [] at w
      cases q0 : lstAt S1 k with
      | none => rw [q0] at w; exact w.elim
      | some xs0 =>
        rw [q0] at w
        obtain ⟨vs0, h3, _⟩ := cell_lst p.sr hk q0
        refine ⟨.inl ⟨rfl, _, .inl (.inl h3)⟩, hi G1 n1 S1 H1 r σ _ p.sr (e.post p) ?_⟩
        simp only [] at w
        cases q2 : i r S1 with
        | ok d S2 =>
          rw [q2] at w
          intro v G2 n2 H2 p2 rl2
          simp only [bind_ok] at w
          cases q3 : lstAt S2 k with
          | none => simp only [q3] at w; exact w.elim
          | some xs =>
            cases d with
            | int j =>
              simp only [q3] at w
              obtain ⟨vs, g1, g2⟩ := cell_lst p2.sr (p2.eta.get hk) q3
              by_cases hb : -9223372036854775808 ≤ j ∧ j < 9223372036854775808
              · rw [if_pos hb] at w
                cases q4 : ixN xs.length j with
                | none => simp only [q4] at w; exact w.elim
                | some c =>
                  simp only [q4] at w
                  cases q5 : xs[c]? with
                  | none => simp only [q5] at w; exact w.elim
                  | some y =>
                    simp only [q5] at w
                    obtain ⟨u, k1, k2⟩ := g2.get q5
                    refine ⟨a, vs, j, c, u, rfl, by rw [rl2.int], g1, by have := hb.1; omega, by have := hb.2; omega, by rw [← g2.len]; exact (ixN_seq q4).1, k1, ?_⟩
                    have p3 : Post K NoO G2 n2 S2 H2 G2 n2 (S2.set k (some (.lst (xs.eraseIdx c)))) (upd H2 a (.lst (vs.eraseIdx c))) := Post.setCell p2.sr (p2.eta.get hk) (lstAt_some q3) ⟨_, rfl, g2.erase c⟩
                    exact w _ _ _ _ ((p.tr p2).tr p3) k2
              · rw [if_neg hb] at w; exact w.elim
            | _ => simp only [q3] at w; exact w.elim
        | exc x S' => rw [q2] at w; exact fun c dd G' n' H' p' => w c dd G' n' H' (p.tr p')
        | bad => rw [q2] at w; exact w.elim
    | _ => exact w.elim
  | exc x S' => rw [q] at w; exact w
  | bad => rw [q] at w; exact w.elim
theorem s_pop {to : TE} {o : EM} (ho : SE K EE to o) : SE K EE (tBM0 K "list" rPop to) (ePop o) := fun G n S H r σ Q s e w => by
  refine ho G n S H r σ _ s e ?_
  unfold ePop at w
  cases q : o r S with
  | ok x S1 =>
    rw [q] at w
    intro v0 G1 n1 H1 p rl
    simp only [bind_ok] at w
    cases x with
    | ref k =>
      obtain ⟨a, rfl, hk⟩ := ref_rel rl
      simp only [] at w
      cases q0 : lstAt S1 k with
      | none => rw [q0] at w; exact w.elim
      | some xs =>
        rw [q0] at w
        obtain ⟨vs, h3, g2⟩ := cell_lst p.sr hk q0
        simp only [] at w
        cases q5 : xs[xs.length - 1]? with
        | none => rw [q5] at w; exact w.elim
        | some y =>
          rw [q5] at w
          obtain ⟨u, k1, k2⟩ := g2.get q5
          have dl : RelL K G1 n1 xs.dropLast vs.dropLast := by
            rw [List.dropLast_eq_take, List.dropLast_eq_take, ← g2.len]
            exact g2.take _
          refine ⟨.inl ⟨rfl, _, .inl (.inl h3)⟩, a, vs, u, rfl, rfl, h3, by rw [← g2.len]; exact k1, ?_⟩
          have p3 : Post K NoO G1 n1 S1 H1 G1 n1 (S1.set k (some (.lst xs.dropLast))) (upd H1 a (.lst vs.dropLast)) := Post.setCell p.sr hk (lstAt_some q0) ⟨_, rfl, dl⟩
          exact w _ _ _ _ (p.tr p3) k2
    | _ => exact w.elim
  | exc x S' => rw [q] at w; exact w
  | bad => rw [q] at w; exact w.elim
/-- name[i] = e of the name's own list -/
theorem s_setV {x : Nat} {ti : TE} {i : EM} (he : SE K EE te m) (hi : SB K EE ti i) : SS K EE (tAsg te (gSub (tVar x) ti rSetL)) (mSetV x i m) := fun G n S H r σ D s e w => by
  refine he G n S H r σ _ s e ?_
  unfold mSetV at w
  cases q : m r S with
  | ok d S1 =>
    rw [q] at w
    intro v G1 n1 H1 p rl
    simp only [bind_ok] at w
    cases q1 : r[x]? with
    | none => rw [q1] at w; exact w.elim
    | some sl => cases sl with
      | no => rw [q1] at w; exact w.elim
      | val d => rw [q1] at w; exact w.elim
      | own d' => cases d' with
        | lst xs =>
          rw [q1] at w
          have e1 := e.post p
          obtain ⟨a, o, h1, h2, h3, h4, vs, rfl, h5⟩ := e1.own x _ q1
          refine ⟨.ref a, h1, hi G1 n1 S1 H1 r σ _ p.sr e1 ?_⟩
          simp only [] at w
          cases q2 : i r S1 with
          | ok j S2 =>
            rw [q2] at w
            intro u G2 n2 H2 p2 rl2
            simp only [bind_ok] at w
            cases j with
            | int z =>
              simp only [] at w
              cases q3 : ixN xs.length z with
              | none => rw [q3] at w; exact w.elim
              | some c =>
                rw [q3] at w
                obtain ⟨g1, g2, g3⟩ := hidden p2 h4 h2 h3
                have rl5 := RelL.mono p2.sub p2.eta _ _ h5
                refine ⟨a, vs, z, c, rfl, rl2.int, g3, by rw [← h5.len]; exact q3, ?_⟩
                have ow : Own r σ a := ⟨x, _, q1, h1⟩
                have p3 : Post K (Own r σ) G2 n2 S2 H2 G2 n2 S2 (upd H2 a (.lst (vs.set c v))) := Post.hidW p2.sr g3 g1 g2 ow
                exact w G2 n2 _ σ ((p.tr p2).own.trans p3 fun b z => .inl z) ((e1.post p2).reOwn q1 h1 ⟨_, rfl, rl5.set c (Rel.mono p2.sub p2.eta _ _ rl)⟩) (OwnSub.reOwn q1)
            | _ => exact w.elim
          | exc x S' => rw [q2] at w; exact fun c dd G' n' H' p' => w c dd G' n' H' (p.tr p').own
          | bad => rw [q2] at w; exact w.elim
        | _ => rw [q1] at w; exact w.elim
  | exc x S' => rw [q] at w; exact fun c dd G' n' H' p' => w c dd G' n' H' p'.own
  | bad => rw [q] at w; exact w.elim
/-- o[i] = e of a shared list -/
theorem s_setE {to ti : TE} {o i : EM} (he : SE K EE te m) (ho : SE K EE to o) (hi : SB K EE ti i) : SS K EE (tAsg te (gSub to ti rSetL)) (mSetE o i m) := fun G n S H r σ D s e w => by
  refine he G n S H r σ _ s e ?_
  unfold mSetE at w
  cases q : m r S with
  | ok d S1 =>
    rw [q] at w
    intro v G1 n1 H1 p rl
    simp only [bind_ok] at w
    refine ho G1 n1 S1 H1 r σ _ p.sr (e.post p) ?_
    cases q1 : o r S1 with
    | ok x S2 =>
      rw [q1] at w
      intro u G2 n2 H2 p2 rl2
      simp only [bind_ok] at w
      refine hi G2 n2 S2 H2 r σ _ p2.sr ((e.post p).post p2) ?_
      cases q2 : i r S2 with
      | ok j S3 =>
        rw [q2] at w
        intro t G3 n3 H3 p3 rl3
        simp only [bind_ok] at w
        cases x with
        | ref k =>
          cases j with
          | int z =>
            simp only [] at w
            obtain ⟨a, rfl, hk⟩ := ref_rel rl2
            cases q3 : lstAt S3 k with
            | none => rw [q3] at w; exact w.elim
            | some xs =>
              rw [q3] at w
              simp only [] at w
              obtain ⟨vs, g1, g2⟩ := cell_lst p3.sr (p3.eta.get hk) q3
              cases q4 : ixN xs.length z with
              | none => rw [q4] at w; exact w.elim
              | some c =>
                rw [q4] at w
                refine ⟨a, vs, z, c, rfl, rl3.int, g1, by rw [← g2.len]; exact q4, ?_⟩
                have p4 : Post K NoO G3 n3 S3 H3 G3 n3 (S3.set k (some (.lst (xs.set c d)))) (upd H3 a (.lst (vs.set c v))) := Post.setCell p3.sr (p3.eta.get hk) (lstAt_some q3) ⟨_, rfl, g2.set c (Rel.mono (p2.sub.trans p3.sub) (p2.eta.trans p3.eta) _ _ rl)⟩
                have p14 := ((p.tr p2).tr p3).tr p4
                exact w G3 n3 _ σ p14.own (e.post p14) OwnSub.refl
          | _ => exact w.elim
        | _ => exact w.elim
      | exc x S' => rw [q2] at w; exact fun c dd G' n' H' p' => w c dd G' n' H' ((p.tr p2).tr p').own
      | bad => rw [q2] at w; exact w.elim
    | exc x S' => rw [q1] at w; exact fun c dd G' n' H' p' => w c dd G' n' H' (p.tr p').own
    | bad => rw [q1] at w; exact w.elim
  | exc x S' => rw [q] at w; exact fun c dd G' n' H' p' => w c dd G' n' H' p'.own
  | bad => rw [q] at w; exact w.elim
/-- a fresh list that is shared from now on -/
theorem SL.new {l : LM} (h : SL K EE te l) : SE K EE te (eNew l) := fun G n S H r σ Q s e w => by
  refine h G n S H r σ _ s e ?_
  unfold eNew at w
  cases q : l r S with
  | ok ds S1 =>
    rw [q] at w
    intro b vs G1 n1 H1 p hn hg hl hb rl
    simp only [bind_ok] at w
    have p2 := Post.addCell (d := .lst ds) p hn hb hg hl ⟨vs, rfl, rl⟩
    exact w _ _ _ _ p2 (by
      simp only [Rel]
      exact ⟨b, rfl, by rw [← p.sr.len, List.getElem?_append_right (Nat.le_refl _)]; simp⟩)
  | exc x S' => rw [q] at w; exact w
  | bad => rw [q] at w; exact w.elim
/-- list.index, flat items -/
theorem s_indexL {to ti : TE} {o i : EM} (ho : SB K EE to o) (hi : SB K EE ti i) : SE K EE (tBM K "list" (rIndex K) to (tCons ti tNil)) (eIndexL o i) := fun G n S H r σ Q s e w => by
  refine ho G n S H r σ _ s e ?_
  unfold eIndexL at w
  cases q : o r S with
  | ok x S1 =>
    rw [q] at w
    intro v G1 n1 H1 p rl
    simp only [bind_ok] at w
    cases q1 : lstS S1 x with
    | none => rw [q1] at w; exact w.elim
    | some ds0 =>
      rw [q1] at w
      obtain ⟨a0, vs0, rfl, h1, _⟩ := lstS_rel p.sr rl q1
      refine ⟨.inl ⟨rfl, _, h1⟩, hi G1 n1 S1 H1 r σ _ p.sr (e.post p) ?_⟩
      simp only [] at w
      cases q2 : i r S1 with
      | ok y S2 =>
        rw [q2] at w
        intro u G2 n2 H2 p2 rl2
        simp only [bind_ok, dIndexL] at w
        cases q3 : lstS S2 x with
        | none => rw [q3] at w; exact w.elim
        | some ds =>
          rw [q3] at w
          obtain ⟨a, vs, ea, h3, h4⟩ := lstS_rel p2.sr (rl.post p2) q3
          cases ea
          simp only [] at w
          by_cases f : (flatD y && ds.all flatD) = true
          · rw [if_pos f] at w
            rw [Bool.and_eq_true] at f
            cases q5 : idxOf y ds 0 with
            | none => rw [q5] at w; exact w.elim
            | some k =>
              rw [q5] at w
              obtain ⟨z, k1, k2, k3⟩ := idxOf_rel f.1 rl2 f.2 h4 q5
              exact ⟨_, vs, u, k, z, rfl, rfl, h3, flat_rel f.1 rl2, flats_rel f.2 h4, k1, k2, k3, w _ _ _ _ (p.tr p2) rInt⟩
          · rw [if_neg f] at w; exact w.elim
      | exc x S' => rw [q2] at w; exact fun c dd G' n' H' p' => w c dd G' n' H' (p.tr p')
      | bad => rw [q2] at w; exact w.elim
  | exc x S' => rw [q] at w; exact w
  | bad => rw [q] at w; exact w.elim
end
end BR

/-! A piece of syntax with its mirror; defs; a law's end. -/
namespace BR
open PySem PySem.Spec PyProof.Rows L2

/-! ### room, with nothing that is being shown -/
structure Rm (k : Nat) (A : Around) : Prop where
  room : Room k A
  gd : A.guards = some []
theorem Rm.mono {j k : Nat} {A : Around} (r : Rm k A) (h : j ≤ k) : Rm j A := ⟨r.room.mono h, r.gd⟩
theorem Rm.deeper {k : Nat} {A : Around} (r : Rm (k + 1) A) (env : PySem.Env) : Rm k (A.deeper env) := ⟨r.room.deeper env, r.gd⟩

structure FnG (P : Program) (w : World) (K : PySem.W.Frag) (mg : Str → Option Value) (base : Heap) (CX : CXT) (k : Nat) (f : Addr) (fd : FuncData) (ps : List Str) (sp : Sp) : Prop where
  len : ∀ vs H Q E, sp vs H Q E → vs.length = ps.length
  run : ∀ (A : Around) (outer : List PySem.Env) (s : Shared) (H : Hp) (args : Args) (us : List Value) (vs : List V) (Q : VK) (E : XK), Rm k A → Env0 P w K mg base A outer s H →
    BindsTo s fd args (ps.zip us) → Vals vs us → sp vs H Q E → codeAny (model P w) A (.call (.ref f) args) (CR CX outer P w H s Q E) s
/-- what is known of a def, by its name: at level k it does as its mirror -/
structure DefOk (P : Program) (w : World) (K : PySem.W.Frag) (mg : Str → Option Value) (base : Heap) (CX : CXT) (x : Str) (k : Nat) (sp : Sp) : Prop where
  ex : ∃ (f : Addr) (fd : FuncData) (ps : List Str), FnG P w K mg base CX k f fd ps sp ∧ mg x = some (.ref f) ∧ PySem.W.keepIn K (.ref f) = true ∧ Binds K fd ps []
def sp0 (K : PySem.W.Frag) (k : Nat) (m : FM) : Sp := fun vs H Q _ => spOf K k m vs H Q Z0
section
variable {X : Cx} {CX : CXT} {E : XK} {EE : XQ}

/-! ### pieces of syntax -/
def XE (X : Cx) (EE : XQ) (e : Expr) (t : TE) (m : EM) : Prop := PE X e t ∧ SE X.K EE t m
def XB (X : Cx) (EE : XQ) (e : Expr) (t : TE) (m : EM) : Prop := PE X e t ∧ SB X.K EE t m
def XL (X : Cx) (EE : XQ) (e : Expr) (t : TE) (m : LM) : Prop := PE X e t ∧ SL X.K EE t m
def XT (X : Cx) (EE : XQ) (e : Expr) (t : TT) (m : TM) : Prop := PT X e t ∧ ST X.K EE t m
def XW (X : Cx) (EE : XQ) (e : Expr) (t : TT) (m : TM) : Prop := PW X e t ∧ ST X.K EE t m
def XTs (X : Cx) (EE : XQ) (e : List Expr) (t : TT) (m : TM) : Prop := PTs X e t ∧ ST X.K EE t m
def XA (X : Cx) (EE : XQ) (e : List Expr) (t : TA) (m : LM) : Prop := PA X e t ∧ SA X.K EE t m
def XI (X : Cx) (EE : XQ) (st : Bool) (tg e : Expr) (t : TI) (m : IM) : Prop := PI X tg e t ∧ SI X.K EE st t m
def XG (X : Cx) (e : Expr) (t : TG) (m : GM) (is : List Nat) : Prop := PG X e t ∧ SG X.K t m is
def XGs (X : Cx) (e : List Expr) (t : TGs) (m : List GM) (is : List Nat) : Prop := PGs X e t ∧ SGs X.K t m is
def XS (X : Cx) (EE : XQ) (st : Stmt) (t : TS) (m : SM) : Prop := PS X st t ∧ SS X.K EE t m
def XSs (X : Cx) (EE : XQ) (st : List Stmt) (t : TS) (m : SM) : Prop := PSs X st t ∧ SS X.K EE t m
def XO (X : Cx) (EE : XQ) (e : Option Expr) (t : TO) (m : PM) : Prop := PO X e t ∧ SO X.K EE t m
variable {e a b c : Expr} {es : List Expr} {t ta tb tc : TE} {m ma mb mc : EM} {pos p : Pos} {tt tu : TT} {um un : TM} {tas : TA} {ms : LM}
theorem XE.bor (h : XE X EE e t m) : XB X EE e t m := ⟨h.1, h.2.bor⟩
theorem XL.frz (h : XL X EE e t ms) : XE X EE e t (eFrz ms) := ⟨h.1, h.2.frz⟩
theorem XL.new (h : XL X EE e t ms) : XE X EE e t (eNew ms) := ⟨h.1, h.2.new⟩
theorem XL.bor (h : XL X EE e t ms) : XB X EE e t (eFrz ms) := h.frz.bor
theorem x_v (i : Nat) {x : Str} {pos : Pos} (hN : X.N[i]? = some x := by rfl) (hv : Vis X.env.scope x := by first | exact Or.inl rfl | exact Or.inr (Or.inl rfl) | exact Or.inr (Or.inr rfl)) (hd : (x == ("__debug__" : Str)) = false := by decide)
    (hcd : (x == ("__classdict__" : Str)) = false := by decide) : XE X EE (.Name x pos) (tVar i) (eV i) := ⟨pe_var hN hv hd hcd, SE.var i⟩
theorem x_b (i : Nat) {x : Str} {pos : Pos} (hN : X.N[i]? = some x := by rfl) (hv : Vis X.env.scope x := by first | exact Or.inl rfl | exact Or.inr (Or.inl rfl) | exact Or.inr (Or.inr rfl)) (hd : (x == ("__debug__" : Str)) = false := by decide)
    (hcd : (x == ("__classdict__" : Str)) = false := by decide) : XB X EE (.Name x pos) (tVar i) (eB i) := ⟨pe_var hN hv hd hcd, SB.var i⟩
theorem x_int {i : Int} {j : Nat} : XE X EE (.Constant (.int i) j pos) (tC (.int i)) (eC (.int i)) := ⟨pe_int, SE.c fun _ _ => rInt⟩
theorem x_bl {i : Bool} {j : Nat} : XE X EE (.Constant (.bool i) j pos) (tC (.bl i)) (eC (.bl i)) := ⟨pe_bl, SE.c fun _ _ => rBl⟩
theorem x_str {i : Str} {j : Nat} : XE X EE (.Constant (.str i) j pos) (tC (.str i)) (eC (.str i)) := ⟨pe_str, SE.c fun _ _ => rStr⟩
theorem x_non {j : Nat} : XE X EE (.Constant .none j pos) (tC .non) (eC .non) := ⟨pe_non, SE.c fun _ _ => rNon⟩
theorem x_gInt {x : Str} {i : Int} {tk : Tok} (hm : X.mg x = some (.int i tk)) (hg : Gl X x := by rfl) (hd : (x == ("__debug__" : Str)) = false := by decide) : XE X EE (.Name x pos) (tC (.int i)) (eC (.int i)) :=
  ⟨pe_glob hg hm (show RelV (.int i) _ from ⟨_, rfl⟩) hd, SE.c fun _ _ => rInt⟩
theorem x_gStr {x : Str} {i : Str} {tk : Tok} (hm : X.mg x = some (.str i tk)) (hg : Gl X x := by rfl) (hd : (x == ("__debug__" : Str)) = false := by decide) : XE X EE (.Name x pos) (tC (.str i)) (eC (.str i)) :=
  ⟨pe_glob hg hm (show RelV (.str i) _ from ⟨_, rfl⟩) hd, SE.c fun _ _ => rStr⟩
/-- a module's constant, by what it stands for -/
def GVal (K : PySem.W.Frag) (mg : Str → Option Value) (x : Str) (d : BR.D) : Prop := ∃ (a : Addr), mg x = some (.ref a) ∧ ∀ G n, Rel K G n d (.ref a)
theorem x_gVal {x : Str} {a : Addr} {d : BR.D} (h : ∀ G n, Rel X.K G n d (.ref a)) (hm : X.mg x = some (.ref a)) (hg : Gl X x := by rfl) (hd : (x == ("__debug__" : Str)) = false := by decide) : XE X EE (.Name x pos) (tC (.ref a)) (eC d) :=
  ⟨pe_glob hg hm rfl hd, SE.c fun G n => h G n⟩
/-! operators -/
abbrev Rsub : R2 := rI0 fun i j => .int (i - j)
abbrev Rfdiv : R2 := rI CDivW fun i j => .int (i / j)
abbrev Rmod : R2 := rI (fun _ j => 0 < j) fun i j => .int (i % j)
abbrev Rpow : R2 := rI CPow fun i j => .int (i ^ j.toNat)
abbrev Rlt : R2 := rI0 fun i j => .bl (decide (i < j))
abbrev Rle : R2 := rI0 fun i j => .bl (decide (i ≤ j))
abbrev Rgt : R2 := rI0 fun i j => .bl (decide (j < i))
abbrev Rge : R2 := rI0 fun i j => .bl (decide (j ≤ i))
abbrev Uneg : V → Hp → VK → Prop := rU fun i => .int (-i)
theorem op_addA : OpR X (binaryOp .Add) (rAddA X.K) := OpR.or op_add (OpR.or op_add_str (OpR.or op_catA op_cat))
theorem op_mulA : OpR X (binaryOp .Mult) rMulA := OpR.or op_mulW op_rep
theorem x_add (ha : XB X EE a ta ma) (hb : XB X EE b tb mb) : XE X EE (.BinOp a .Add b pos) (tOp (rAddA X.K) ta tb) (e2 dAdd ma mb) := ⟨pe_op op_addA ha.1 hb.1, ha.2.op2 hb.2 o_add⟩
theorem x_sub (ha : XB X EE a ta ma) (hb : XB X EE b tb mb) : XE X EE (.BinOp a .Sub b pos) (tOp Rsub ta tb) (e2 dSub ma mb) := ⟨pe_op op_sub ha.1 hb.1, ha.2.op2 hb.2 o_sub⟩
theorem x_mul (ha : XB X EE a ta ma) (hb : XB X EE b tb mb) : XE X EE (.BinOp a .Mult b pos) (tOp rMulA ta tb) (e2 dMul ma mb) := ⟨pe_op op_mulA ha.1 hb.1, ha.2.op2 hb.2 o_mul⟩
theorem x_fdiv (ha : XB X EE a ta ma) (hb : XB X EE b tb mb) : XE X EE (.BinOp a .FloorDiv b pos) (tOp Rfdiv ta tb) (e2 dFdiv ma mb) := ⟨pe_op op_fdivW ha.1 hb.1, ha.2.op2 hb.2 o_fdiv⟩
theorem x_mod (ha : XB X EE a ta ma) (hb : XB X EE b tb mb) : XE X EE (.BinOp a .Mod b pos) (tOp Rmod ta tb) (e2 dMod ma mb) := ⟨pe_op op_mod ha.1 hb.1, ha.2.op2 hb.2 o_mod⟩
theorem x_pow (ha : XB X EE a ta ma) (hb : XB X EE b tb mb) : XE X EE (.BinOp a .Pow b pos) (tOp Rpow ta tb) (e2 dPow ma mb) := ⟨pe_op op_pow ha.1 hb.1, ha.2.op2 hb.2 o_pow⟩
theorem x_neg (ha : XB X EE a ta ma) : XE X EE (.UnaryOp .USub a pos) (tUn Uneg ta) (e1 dNeg ma) := ⟨pe_un un_neg ha.1, ha.2.op1 o_neg⟩
theorem x_lt (ha : XB X EE a ta ma) (hb : XB X EE b tb mb) : XE X EE (.Compare a [.Lt] [b] pos) (tOp Rlt ta tb) (e2 dLt ma mb) := ⟨pe_cmpR op_lt ha.1 hb.1 (nomark _), ha.2.op2 hb.2 o_lt⟩
theorem x_le (ha : XB X EE a ta ma) (hb : XB X EE b tb mb) : XE X EE (.Compare a [.LtE] [b] pos) (tOp Rle ta tb) (e2 dLe ma mb) := ⟨pe_cmpR op_le ha.1 hb.1 (nomark _), ha.2.op2 hb.2 o_le⟩
theorem x_gt (ha : XB X EE a ta ma) (hb : XB X EE b tb mb) : XE X EE (.Compare a [.Gt] [b] pos) (tOp Rgt ta tb) (e2 dGt ma mb) := ⟨pe_cmpR op_gt ha.1 hb.1 (nomark _), ha.2.op2 hb.2 o_gt⟩
theorem x_ge (ha : XB X EE a ta ma) (hb : XB X EE b tb mb) : XE X EE (.Compare a [.GtE] [b] pos) (tOp Rge ta tb) (e2 dGe ma mb) := ⟨pe_cmpR op_ge ha.1 hb.1 (nomark _), ha.2.op2 hb.2 o_ge⟩
theorem x_eq (hu : X.A.units + 64 < cLine) (ha : XB X EE a ta ma) (hb : XB X EE b tb mb) : XE X EE (.Compare a [.Eq] [b] pos) (tOp (rEqD X.K) ta tb) (e2 dEq ma mb) := ⟨pe_cmpR (op_eqD hu) ha.1 hb.1 (nomark _), ha.2.op2 hb.2 o_eq⟩
theorem x_ne (hu : X.A.units + 64 < cLine) (ha : XB X EE a ta ma) (hb : XB X EE b tb mb) : XE X EE (.Compare a [.NotEq] [b] pos) (tOp (rNeD X.K) ta tb) (e2 dNe ma mb) := ⟨pe_cmpR (op_neD hu) ha.1 hb.1 (nomark _), ha.2.op2 hb.2 o_ne⟩
theorem op_isNA : OpR X (compareOp .Is) rIsN := op_isN
theorem op_notNA : OpR X (compareOp .IsNot) rNotN := op_notN
theorem x_is (ha : XB X EE a ta ma) (hb : XB X EE b tb mb) : XE X EE (.Compare a [.Is] [b] pos) (tOp rIsN ta tb) (e2 dIs ma mb) := ⟨pe_cmpR op_isNA ha.1 hb.1 (nomark _), ha.2.op2 hb.2 o_is⟩
theorem x_isNot (ha : XB X EE a ta ma) (hb : XB X EE b tb mb) : XE X EE (.Compare a [.IsNot] [b] pos) (tOp rNotN ta tb) (e2 dIsNot ma mb) := ⟨pe_cmpR op_notNA ha.1 hb.1 (nomark _), ha.2.op2 hb.2 o_isNot⟩
theorem x_in (hu : X.A.units + 65 < cLine) (ha : XB X EE a ta ma) (hb : XB X EE b tb mb) (hm : behindInMarks .In b = false := by rfl) : XE X EE (.Compare a [.In] [b] pos) (tOp (rInA X.K) ta tb) (e2 dIn ma mb) := ⟨pe_cmpR (OpR.or op_in_seq (op_inD hu)) ha.1 hb.1 hm, ha.2.op2 hb.2 o_in⟩
theorem x_notIn (hu : X.A.units + 65 < cLine) (ha : XB X EE a ta ma) (hb : XB X EE b tb mb) (hm : behindInMarks .NotIn b = false := by rfl) : XE X EE (.Compare a [.NotIn] [b] pos) (tOp (rNotInA X.K) ta tb) (e2 dNotIn ma mb) := ⟨pe_cmpR (OpR.or op_notIn_seq (op_notInD hu)) ha.1 hb.1 hm, ha.2.op2 hb.2 o_notIn⟩
/-! tests -/
theorem x_tCmp {op : CmpOp} {r : R2} (ho : OpR X (compareOp op) r) (ha : XB X EE a ta ma) (hb : XB X EE b tb mb) {f : BR.D → BR.D → Store → Res BR.D} (hs : O2 X.K EE r f) (hm : behindInMarks op b = false) : XT X EE (.Compare a [op] [b] pos) (tTest (tOp r ta tb)) (tE (e2 f ma mb)) :=
  ⟨pt_cmpR ho ha.1 hb.1 hm, ST.of (ha.2.op2 hb.2 hs).bor⟩
theorem t_lt (ha : XB X EE a ta ma) (hb : XB X EE b tb mb) : XT X EE (.Compare a [.Lt] [b] pos) (tTest (tOp Rlt ta tb)) (tE (e2 dLt ma mb)) := x_tCmp op_lt ha hb o_lt (nomark _)
theorem t_le (ha : XB X EE a ta ma) (hb : XB X EE b tb mb) : XT X EE (.Compare a [.LtE] [b] pos) (tTest (tOp Rle ta tb)) (tE (e2 dLe ma mb)) := x_tCmp op_le ha hb o_le (nomark _)
theorem t_gt (ha : XB X EE a ta ma) (hb : XB X EE b tb mb) : XT X EE (.Compare a [.Gt] [b] pos) (tTest (tOp Rgt ta tb)) (tE (e2 dGt ma mb)) := x_tCmp op_gt ha hb o_gt (nomark _)
theorem t_ge (ha : XB X EE a ta ma) (hb : XB X EE b tb mb) : XT X EE (.Compare a [.GtE] [b] pos) (tTest (tOp Rge ta tb)) (tE (e2 dGe ma mb)) := x_tCmp op_ge ha hb o_ge (nomark _)
theorem t_eq (hu : X.A.units + 64 < cLine) (ha : XB X EE a ta ma) (hb : XB X EE b tb mb) : XT X EE (.Compare a [.Eq] [b] pos) (tTest (tOp (rEqD X.K) ta tb)) (tE (e2 dEq ma mb)) := x_tCmp (op_eqD hu) ha hb o_eq (nomark _)
theorem t_ne (hu : X.A.units + 64 < cLine) (ha : XB X EE a ta ma) (hb : XB X EE b tb mb) : XT X EE (.Compare a [.NotEq] [b] pos) (tTest (tOp (rNeD X.K) ta tb)) (tE (e2 dNe ma mb)) := x_tCmp (op_neD hu) ha hb o_ne (nomark _)
theorem t_is (ha : XB X EE a ta ma) (hb : XB X EE b tb mb) : XT X EE (.Compare a [.Is] [b] pos) (tTest (tOp rIsN ta tb)) (tE (e2 dIs ma mb)) := x_tCmp op_isNA ha hb o_is (nomark _)
theorem t_isNot (ha : XB X EE a ta ma) (hb : XB X EE b tb mb) : XT X EE (.Compare a [.IsNot] [b] pos) (tTest (tOp rNotN ta tb)) (tE (e2 dIsNot ma mb)) := x_tCmp op_notNA ha hb o_isNot (nomark _)
theorem t_in (hu : X.A.units + 65 < cLine) (ha : XB X EE a ta ma) (hb : XB X EE b tb mb) (hm : behindInMarks .In b = false := by rfl) : XT X EE (.Compare a [.In] [b] pos) (tTest (tOp (rInA X.K) ta tb)) (tE (e2 dIn ma mb)) := x_tCmp (OpR.or op_in_seq (op_inD hu)) ha hb o_in hm
theorem t_notIn (hu : X.A.units + 65 < cLine) (ha : XB X EE a ta ma) (hb : XB X EE b tb mb) (hm : behindInMarks .NotIn b = false := by rfl) : XT X EE (.Compare a [.NotIn] [b] pos) (tTest (tOp (rNotInA X.K) ta tb)) (tE (e2 dNotIn ma mb)) := x_tCmp (OpR.or op_notIn_seq (op_notInD hu)) ha hb o_notIn hm
/-- an expression that gives True or False -/
theorem t_val (h : XB X EE e t m) (he : ∀ whole, isTrue e X.env whole = (do let v ← whole; standAt e.pos; holding [v] (truthy v)) := by intro _; rfl) : XT X EE e (tTest t) (tE m) := ⟨pt_val h.1 he, ST.of h.2⟩
theorem t_not (h : XT X EE e tt um) : XT X EE (.UnaryOp .Not e pos) (L2.tNot tt) (tNot um) := ⟨pt_not h.1, h.2.not⟩
theorem w_and1 (h : XT X EE e tt um) : XW X EE (.BoolOp .And [e] pos) tt um := ⟨pw_and1 h.1, h.2⟩
theorem w_or1 (h : XT X EE e tt um) : XW X EE (.BoolOp .Or [e] pos) tt um := ⟨pw_or1 h.1, h.2⟩
theorem w_and (h : XT X EE a tt um) (h2 : XW X EE (.BoolOp .And (b :: es) pos) tu un) : XW X EE (.BoolOp .And (a :: b :: es) pos) (L2.tAnd tt tu) (tAnd um un) := ⟨pw_and h.1 h2.1, h.2.and h2.2⟩
theorem w_or (h : XT X EE a tt um) (h2 : XW X EE (.BoolOp .Or (b :: es) pos) tu un) : XW X EE (.BoolOp .Or (a :: b :: es) pos) (L2.tOr tt tu) (tOr um un) := ⟨pw_or h.1 h2.1, h.2.or h2.2⟩
theorem XW.tst (h : XW X EE e tt um) : XT X EE e tt um := ⟨h.1.pt, h.2⟩
/-- 0 <= a < n, as a test, as a value -/
def chainM (f g : BR.D → BR.D → Store → Res BR.D) (a b c : EM) : EM := fun r S => (a r S).bind fun x S1 => (b r S1).bind fun y S2 => (f x y S2).bind fun z S3 => match z with
  | .bl true => (c r S3).bind fun u S4 => g y u S4
  | .bl false => .ok (.bl false) S3
  | _ => .bad
theorem s_chain {K : PySem.W.Frag} {r r' : R2} {f g : BR.D → BR.D → Store → Res BR.D} (ha : SE K EE ta ma) (hb : SE K EE tb mb) (hc : SB K EE tc mc) (hf : O2 K EE r f) (hg : O2 K EE r' g) : SE K EE (tChain r r' ta tb tc) (chainM f g ma mb mc) := fun G n S H ρ σ Q s e w => by
  refine ha G n S H ρ σ _ s e ?_
  unfold chainM at w
  cases q : ma ρ S with
  | ok x S1 =>
    rw [q] at w
    intro v G1 n1 H1 p rl
    simp only [bind_ok] at w
    refine hb G1 n1 S1 H1 ρ σ _ p.sr (e.post p) ?_
    cases q2 : mb ρ S1 with
    | ok y S2 =>
      rw [q2] at w
      intro u G2 n2 H2 p2 rl2
      simp only [bind_ok] at w
      have k1 := RelT.of (NL.gsub p2.sr) (Rel.mono p2.sub p2.eta _ _ rl)
      have k2 := RelT.of (NL.gsub p2.sr) rl2
      refine hf G2 n2 S2 H2 v u x y _ p2.sr k1 k2 ?_
      cases q3 : f x y S2 with
      | ok z S3 =>
        rw [q3] at w
        intro i G3 n3 H3 p3 rl3
        simp only [bind_ok] at w
        cases z with
        | bl k =>
          obtain rfl : i = .bl k := by simpa only [Rel] using rl3
          refine ⟨k, rfl, ?_⟩
          cases k with
          | false => exact w _ _ _ _ ((p.tr p2).tr p3) rBl
          | true =>
            simp only [] at w
            refine hc G3 n3 S3 H3 ρ σ _ p3.sr (((e.post p).post p2).post p3) ?_
            cases q4 : mc ρ S3 with
            | ok o S4 =>
              rw [q4] at w
              intro j G4 n4 H4 p4 rl4
              exact hg G4 n4 S4 H4 u j y o _ p4.sr ((k2.post p3).post p4) rl4 (WpE.at (((p.tr p2).tr p3).tr p4) w)
            | exc x S' => rw [q4] at w; exact fun c dd G' n' H' p' => w c dd G' n' H' (((p.tr p2).tr p3).tr p')
            | bad => rw [q4] at w; exact w.elim
        | _ => exact w.elim
      | exc x S' => rw [q3] at w; exact fun c dd G' n' H' p' => w c dd G' n' H' ((p.tr p2).tr p')
      | bad => rw [q3] at w; exact w.elim
    | exc x S' => rw [q2] at w; exact fun c dd G' n' H' p' => w c dd G' n' H' (p.tr p')
    | bad => rw [q2] at w; exact w.elim
  | exc x S' => rw [q] at w; exact w
  | bad => rw [q] at w; exact w.elim
theorem x_chain {op op' : CmpOp} {r r' : R2} {f g : BR.D → BR.D → Store → Res BR.D} (ho : OpR X (compareOp op) r) (ho' : OpR X (compareOp op') r') (ha : XE X EE a ta ma) (hb : XE X EE b tb mb) (hc : XB X EE c tc mc) (hf : O2 X.K EE r f) (hg : O2 X.K EE r' g)
    (hm : lastMarks [op, op'] [b, c] = false := by with_unfolding_all rfl) : XE X EE (.Compare a [op, op'] [b, c] pos) (tChain r r' ta tb tc) (chainM f g ma mb mc) := ⟨pe_chain ho ho' ha.1 hb.1 hc.1 hm, s_chain ha.2 hb.2 hc.2 hf hg⟩
theorem t_chain {op op' : CmpOp} {r r' : R2} {f g : BR.D → BR.D → Store → Res BR.D} (ho : OpR X (compareOp op) r) (ho' : OpR X (compareOp op') r') (ha : XE X EE a ta ma) (hb : XE X EE b tb mb) (hc : XB X EE c tc mc) (hf : O2 X.K EE r f) (hg : O2 X.K EE r' g)
    (hm : lastMarks [op, op'] [b, c] = false := by with_unfolding_all rfl) : XT X EE (.Compare a [op, op'] [b, c] pos) (tTest (tChain r r' ta tb tc)) (tE (chainM f g ma mb mc)) := ⟨pt_chain ho ho' ha.1 hb.1 hc.1 hm, ST.of (s_chain ha.2 hb.2 hc.2 hf hg).bor⟩
theorem x_leLt (ha : XE X EE a ta ma) (hb : XE X EE b tb mb) (hc : XB X EE c tc mc) (hm : lastMarks [.LtE, .Lt] [b, c] = false := by with_unfolding_all rfl) : XE X EE (.Compare a [.LtE, .Lt] [b, c] pos) (tChain Rle Rlt ta tb tc) (chainM dLe dLt ma mb mc) := x_chain op_le op_lt ha hb hc o_le o_lt hm
theorem t_leLt (ha : XE X EE a ta ma) (hb : XE X EE b tb mb) (hc : XB X EE c tc mc) (hm : lastMarks [.LtE, .Lt] [b, c] = false := by with_unfolding_all rfl) : XT X EE (.Compare a [.LtE, .Lt] [b, c] pos) (tTest (tChain Rle Rlt ta tb tc)) (tE (chainM dLe dLt ma mb mc)) := t_chain op_le op_lt ha hb hc o_le o_lt hm
theorem x_leLe (ha : XE X EE a ta ma) (hb : XE X EE b tb mb) (hc : XB X EE c tc mc) (hm : lastMarks [.LtE, .LtE] [b, c] = false := by with_unfolding_all rfl) : XE X EE (.Compare a [.LtE, .LtE] [b, c] pos) (tChain Rle Rle ta tb tc) (chainM dLe dLe ma mb mc) := x_chain op_le op_le ha hb hc o_le o_le hm
theorem t_leLe (ha : XE X EE a ta ma) (hb : XE X EE b tb mb) (hc : XB X EE c tc mc) (hm : lastMarks [.LtE, .LtE] [b, c] = false := by with_unfolding_all rfl) : XT X EE (.Compare a [.LtE, .LtE] [b, c] pos) (tTest (tChain Rle Rle ta tb tc)) (tE (chainM dLe dLe ma mb mc)) := t_chain op_le op_le ha hb hc o_le o_le hm
/-! and, or, not as values, if else -/
theorem v_one {op : PySem.BoolOp} (h : XE X EE e t m) : XE X EE (.BoolOp op [e] pos) t m := ⟨pe_one h.1, h.2⟩
theorem v_and (h : XE X EE a ta ma) (h2 : XE X EE (.BoolOp .And (b :: es) pos) tb mb) : XE X EE (.BoolOp .And (a :: b :: es) pos) (tAndV ta tb) (eIf (tE ma) mb (eC (.bl false))) := ⟨pe_and h.1 h2.1, h.2.andV h2.2⟩
theorem v_or (h : XE X EE a ta ma) (h2 : XE X EE (.BoolOp .Or (b :: es) pos) tb mb) : XE X EE (.BoolOp .Or (a :: b :: es) pos) (tOrV ta tb) (eIf (tE ma) (eC (.bl true)) mb) := ⟨pe_or h.1 h2.1, h.2.orV h2.2⟩
theorem v_not (h : XE X EE a ta ma) : XE X EE (.UnaryOp .Not a pos) (tNotV ta) (eT (tNot (tE ma))) := ⟨pe_not h.1, h.2.notV⟩
theorem x_ifE (h : XT X EE c tt um) (ha : XE X EE a ta ma) (hb : XE X EE b tb mb) : XE X EE (.IfExp c a b pos) (tIf tt ta tb) (eIf um ma mb) := ⟨pe_ifExp h.1 ha.1 hb.1, SE.ite h.2 ha.2 hb.2⟩
/-! argument lists, displays -/
theorem a_nil : XA X EE [] tNil aN := ⟨pa_nil, SA.nil⟩
theorem a_cons (h : XE X EE e t m) (hr : XA X EE es tas ms) (hs : starEach (e :: es) X.env = (false, eval e X.env) :: starEach es X.env := by rfl) : XA X EE (e :: es) (tCons t tas) (aC m ms) := ⟨pa_cons h.1 hr.1 hs, SA.cons h.2 hr.2⟩
theorem x_tup {k : Nat} (h : XA X EE es tas ms) : XE X EE (.Tuple es k pos) (tTup tas) (eTup ms) := ⟨pe_tup h.1, SE.tup h.2⟩
theorem x_trn {k : Nat} (h : XA X EE es tas ms) : XE X EE (.Tuple es k pos) (tTrn tas) (eTrn ms) := ⟨pe_trn h.1, SE.trn h.2⟩
theorem l_lst (h : XA X EE es tas ms) : XL X EE (.List es pos) (tLst tas) (lLst ms) := ⟨pe_lst h.1, SL.lst h.2⟩
/-! subscripts -/
theorem x_ix (ha : XB X EE a ta ma) (hb : XB X EE b tb mb) (hs : PlainIx b := by exact fun _ _ => rfl) : XE X EE (.Subscript a b pos) (tOp (rIx X.K) ta tb) (e2 dIdx ma mb) := ⟨pe_ix ix_seq ha.1 hb.1 hs, ha.2.op2 hb.2 o_idx⟩
theorem o_no : XO X EE none tNoPart pNo := ⟨po_none, SO.none⟩
theorem o_so (ha : XB X EE a ta ma) : XO X EE (some a) (tPart ta) (pSo ma) := ⟨po_some ha.1, SO.some ha.2⟩
theorem l_sl {lo hi : Option Expr} {tl th : TO} {ml mh : PM} {p2 : Pos} (ha : XB X EE a ta ma) (hl : XO X EE lo tl ml) (hh : XO X EE hi th mh) : XL X EE (.Subscript a (.Slice lo hi none p2) pos) (tSl (rSlL X.K) ta tl th) (lSl ma ml mh) := ⟨pe_slice sl_list ha.1 hl.1 hh.1, s_lSl ha.2 hl.2 hh.2⟩
theorem x_sl {lo hi : Option Expr} {tl th : TO} {ml mh : PM} {p2 : Pos} (ha : XB X EE a ta ma) (hl : XO X EE lo tl ml) (hh : XO X EE hi th mh) : XE X EE (.Subscript a (.Slice lo hi none p2) pos) (tSl (rSlAll X.K) ta tl th) (eSl ma ml mh) := ⟨pe_slice (SlR.or sl_list (SlR.or sl_tupA sl_str)) ha.1 hl.1 hh.1, s_eSl ha.2 hl.2 hh.2⟩
/-! built-ins by their names; gl: the name is a global one, hm: the module has none of that name -/
abbrev Free (X : Cx) (x : Str) : Prop := X.mg x = none
theorem x_len (hm : Free X "len") (ha : XB X EE a ta ma) (hg : Gl X "len" := by rfl) (he : starEach (a :: []) X.env = (false, eval a X.env) :: starEach [] X.env := by rfl) (hp : (backTo pos (starEach [] X.env)).any (·.1) = false := by rfl) : XE X EE (.Call (.Name "len" p) [a] [] pos) (tCB (rLenA X.K) (tCons ta tNil)) (e1 dLen ma) :=
  ⟨pe_callB (r := rLenA X.K) call_len hg hm PySem.boot_len (pa_cons ha.1 pa_nil he) (by decide) (by decide) he hp, s_len ha.2⟩
theorem x_all (hc : X.calm = true) (hm : Free X "all") (ha : XB X EE a ta ma) (hg : Gl X "all" := by rfl) (he : starEach (a :: []) X.env = (false, eval a X.env) :: starEach [] X.env := by rfl) (hp : (backTo pos (starEach [] X.env)).any (·.1) = false := by rfl) : XE X EE (.Call (.Name "all" p) [a] [] pos) (tCB (rAll X.K) (tCons ta tNil)) (e1 dAll ma) :=
  ⟨pe_callB (cr_all hc) hg hm (by decide +kernel) (pa_cons ha.1 pa_nil he) (by decide) (by decide) he hp, s_all ha.2⟩
theorem x_any (hc : X.calm = true) (hm : Free X "any") (ha : XB X EE a ta ma) (hg : Gl X "any" := by rfl) (he : starEach (a :: []) X.env = (false, eval a X.env) :: starEach [] X.env := by rfl) (hp : (backTo pos (starEach [] X.env)).any (·.1) = false := by rfl) : XE X EE (.Call (.Name "any" p) [a] [] pos) (tCB (rAny X.K) (tCons ta tNil)) (e1 dAny ma) :=
  ⟨pe_callB (cr_any hc) hg hm (by decide +kernel) (pa_cons ha.1 pa_nil he) (by decide) (by decide) he hp, s_any ha.2⟩
theorem x_sum (hc : X.calm = true) (hm : Free X "sum") (ha : XB X EE a ta ma) (hg : Gl X "sum" := by rfl) (he : starEach (a :: []) X.env = (false, eval a X.env) :: starEach [] X.env := by rfl) (hp : (backTo pos (starEach [] X.env)).any (·.1) = false := by rfl) : XE X EE (.Call (.Name "sum" p) [a] [] pos) (tCB (rSum X.K) (tCons ta tNil)) (e1 dSum ma) :=
  ⟨pe_callB (cr_sum hc) hg hm (by decide +kernel) (pa_cons ha.1 pa_nil he) (by decide) (by decide) he hp, s_sum ha.2⟩
theorem x_abs (hm : Free X "abs") (ha : XB X EE a ta ma) (hg : Gl X "abs" := by rfl) (he : starEach (a :: []) X.env = (false, eval a X.env) :: starEach [] X.env := by rfl) (hp : (backTo pos (starEach [] X.env)).any (·.1) = false := by rfl) : XE X EE (.Call (.Name "abs" p) [a] [] pos) (tCB rAbs (tCons ta tNil)) (e1 dAbs ma) :=
  ⟨pe_callB (r := rAbs) call_abs hg hm (by decide +kernel) (pa_cons ha.1 pa_nil he) (by decide) (by decide) he hp, s_abs ha.2⟩
theorem x_intc (hm : Free X "int") (ha : XB X EE a ta ma) (hg : Gl X "int" := by rfl) (he : starEach (a :: []) X.env = (false, eval a X.env) :: starEach [] X.env := by rfl) (hp : (backTo pos (starEach [] X.env)).any (·.1) = false := by rfl) : XE X EE (.Call (.Name "int" p) [a] [] pos) (tCB rInt1 (tCons ta tNil)) (e1 dInt ma) :=
  ⟨pe_callTy (r := rInt1) call_int1 hg hm (by decide +kernel) (pa_cons ha.1 pa_nil he) (by decide) (by decide) he hp, s_int ha.2⟩
theorem x_max2 (hc : X.calm = true) (hm : Free X "max") (ha : XB X EE a ta ma) (hb : XB X EE b tb mb) (hg : Gl X "max" := by rfl) (he : starEach (a :: [b]) X.env = (false, eval a X.env) :: starEach [b] X.env := by rfl) (he2 : starEach (b :: []) X.env = (false, eval b X.env) :: starEach [] X.env := by rfl) (hp : (backTo pos (starEach [b] X.env)).any (·.1) = false := by rfl) :
    XE X EE (.Call (.Name "max" p) [a, b] [] pos) (tCB rMax2 (tCons ta (tCons tb tNil))) (e2 dMax2 ma mb) := ⟨pe_callB (r := rMax2) (call_max2 hc) hg hm (by decide +kernel) (pa_cons ha.1 (pa_cons hb.1 pa_nil he2) he) (by decide) (by decide) he hp, s_max2 ha.2 hb.2⟩
theorem x_min2 (hc : X.calm = true) (hm : Free X "min") (ha : XB X EE a ta ma) (hb : XB X EE b tb mb) (hg : Gl X "min" := by rfl) (he : starEach (a :: [b]) X.env = (false, eval a X.env) :: starEach [b] X.env := by rfl) (he2 : starEach (b :: []) X.env = (false, eval b X.env) :: starEach [] X.env := by rfl) (hp : (backTo pos (starEach [b] X.env)).any (·.1) = false := by rfl) :
    XE X EE (.Call (.Name "min" p) [a, b] [] pos) (tCB rMin2 (tCons ta (tCons tb tNil))) (e2 dMin2 ma mb) := ⟨pe_callB (r := rMin2) (call_min2 hc) hg hm (by decide +kernel) (pa_cons ha.1 (pa_cons hb.1 pa_nil he2) he) (by decide) (by decide) he hp, s_min2 ha.2 hb.2⟩
theorem x_repr {k : Nat} (hr : Rm k X.A) (hm : Free X "repr") (ha : XB X EE a ta ma) (hg : Gl X "repr" := by rfl) (he : starEach (a :: []) X.env = (false, eval a X.env) :: starEach [] X.env := by rfl) (hp : (backTo pos (starEach [] X.env)).any (·.1) = false := by rfl) : XE X EE (.Call (.Name "repr" p) [a] [] pos) (tCB (rRepr X.K) (tCons ta tNil)) (e1 dRepr ma) :=
  ⟨pe_callB (call_reprA hr.gd (by have := hr.room.un; omega)) hg hm (by decide +kernel) (pa_cons ha.1 pa_nil he) (by decide) (by decide) he hp, s_repr ha.2⟩
theorem l_list (hm : Free X "list") (ha : XB X EE a ta ma) (hg : Gl X "list" := by rfl) (he : starEach (a :: []) X.env = (false, eval a X.env) :: starEach [] X.env := by rfl) (hp : (backTo pos (starEach [] X.env)).any (·.1) = false := by rfl) : XL X EE (.Call (.Name "list" p) [a] [] pos) (tCB (rListA X.K) (tCons ta tNil)) (l1 lList ma) :=
  ⟨pe_callTy (r := rListA X.K) call_list_of hg hm (by decide +kernel) (pa_cons ha.1 pa_nil he) (by decide) (by decide) he hp, s_list ha.2⟩
theorem x_tuple (hm : Free X "tuple") (ha : XB X EE a ta ma) (hg : Gl X "tuple" := by rfl) (he : starEach (a :: []) X.env = (false, eval a X.env) :: starEach [] X.env := by rfl) (hp : (backTo pos (starEach [] X.env)).any (·.1) = false := by rfl) : XE X EE (.Call (.Name "tuple" p) [a] [] pos) (tCB (rTupleA X.K) (tCons ta tNil)) (e1 dTuple ma) :=
  ⟨pe_callTy (r := rTupleA X.K) call_tuple_of hg hm (by decide +kernel) (pa_cons ha.1 pa_nil he) (by decide) (by decide) he hp, s_tuple ha.2⟩
theorem x_tupleN (hm : Free X "tuple") (ha : XB X EE a ta ma) (hg : Gl X "tuple" := by rfl) (he : starEach (a :: []) X.env = (false, eval a X.env) :: starEach [] X.env := by rfl) (hp : (backTo pos (starEach [] X.env)).any (·.1) = false := by rfl) : XE X EE (.Call (.Name "tuple" p) [a] [] pos) (tCB (rTrnA X.K) (tCons ta tNil)) (e1 dTrn ma) :=
  ⟨pe_callTy (r := rTrnA X.K) call_trn hg hm (by decide +kernel) (pa_cons ha.1 pa_nil he) (by decide) (by decide) he hp, s_trn ha.2⟩
theorem ty_int : bootBuiltins "int" = some (.type "int") := by decide +kernel
theorem ty_bool : bootBuiltins "bool" = some (.type "bool") := by decide +kernel
theorem ty_str : bootBuiltins "str" = some (.type "str") := by decide +kernel
theorem ty_tuple : bootBuiltins "tuple" = some (.type "tuple") := by decide +kernel
theorem ty_list : bootBuiltins "list" = some (.type "list") := by decide +kernel
theorem ty_dict : bootBuiltins "dict" = some (.type "dict") := by decide +kernel
theorem x_isi {c : String} {x : Str} {q : Pos} (hc : c ∈ clsNames) (hb : bootBuiltins x = some (.type c)) (hm : Free X "isinstance") (hm2 : X.mg x = none) (ha : XB X EE a ta ma) (hg : Gl X "isinstance" := by rfl) (hg2 : Gl X x := by rfl)
    (he : starEach (a :: [.Name x q]) X.env = (false, eval a X.env) :: starEach [.Name x q] X.env := by rfl) (he2 : starEach [Expr.Name x q] X.env = (false, eval (.Name x q) X.env) :: starEach [] X.env := by rfl) (hp : (backTo pos (starEach [Expr.Name x q] X.env)).any (·.1) = false := by rfl)
    (hn : x ≠ "__name__" := by decide) (hd : (x == ("__debug__" : Str)) = false := by decide) : XE X EE (.Call (.Name "isinstance" p) [a, .Name x q] [] pos) (tCB (rIsi X.K) (tCons ta (tCons (tC (.ty c)) tNil))) (e1 (dIsi [c]) ma) :=
  ⟨pe_callB call_isi hg hm (by decide +kernel) (pa_cons ha.1 (pa_cons (pe_bltn hg2 hm2 hb rfl hn hd) pa_nil he2) he) (by decide) (by decide) he hp, s_isi hc ha.2⟩
theorem x_isi2 {c c' : String} {x y : Str} {k : Nat} {q q2 q3 : Pos} (hc : c ∈ clsNames) (hc' : c' ∈ clsNames) (hb : bootBuiltins x = some (.type c)) (hb' : bootBuiltins y = some (.type c')) (hm : Free X "isinstance") (hm2 : X.mg x = none) (hm3 : X.mg y = none) (ha : XB X EE a ta ma)
    (hg : Gl X "isinstance" := by rfl) (hg2 : Gl X x := by rfl) (hg3 : Gl X y := by rfl)
    (he : starEach (a :: [.Tuple [.Name x q, .Name y q2] k q3]) X.env = (false, eval a X.env) :: starEach [.Tuple [.Name x q, .Name y q2] k q3] X.env := by rfl) (he2 : starEach [Expr.Tuple [.Name x q, .Name y q2] k q3] X.env = (false, eval (.Tuple [.Name x q, .Name y q2] k q3) X.env) :: starEach [] X.env := by rfl)
    (he3 : starEach [Expr.Name x q, .Name y q2] X.env = (false, eval (.Name x q) X.env) :: starEach [.Name y q2] X.env := by rfl) (he4 : starEach [Expr.Name y q2] X.env = (false, eval (.Name y q2) X.env) :: starEach [] X.env := by rfl)
    (hp : (backTo pos (starEach [Expr.Tuple [.Name x q, .Name y q2] k q3] X.env)).any (·.1) = false := by rfl) (hn : x ≠ "__name__" := by decide) (hd : (x == ("__debug__" : Str)) = false := by decide) (hn' : y ≠ "__name__" := by decide) (hd' : (y == ("__debug__" : Str)) = false := by decide) :
    XE X EE (.Call (.Name "isinstance" p) [a, .Tuple [.Name x q, .Name y q2] k q3] [] pos) (tCB (rIsiT X.K) (tCons ta (tCons (tTup (tCons (tC (.ty c)) (tCons (tC (.ty c')) tNil))) tNil))) (e1 (dIsi [c, c']) ma) :=
  ⟨pe_callB call_isiT hg hm (by decide +kernel) (pa_cons ha.1 (pa_cons (pe_tup (pa_cons (pe_bltn hg2 hm2 hb rfl hn hd) (pa_cons (pe_bltn hg3 hm3 hb' rfl hn' hd') pa_nil he4) he3)) pa_nil he2) he) (by decide) (by decide) he hp, s_isi2 hc hc' ha.2⟩
/-! methods -/
theorem x_indexT {q : Pos} (ho : XE X EE a ta ma) (hi : XB X EE b tb mb)
    (h1 : attributeBase a "index" X.env (eval a X.env) = eval a X.env := by rfl)
    (h2 : ((backTo pos (starEach [b] X.env)).all (fun x => !x.1) && (backToKw pos (keywordEach [] X.env)).all (fun x => x.1.isSome) && decide ([b].length + ([] : List Keyword).length + (if ([] : List Keyword).isEmpty then 0 else 1) < 30)) = true := by rfl)
    (h3 : (q.endLine == pos.line) = true := by rfl) (hs : starEach [b] X.env = (false, eval b X.env) :: starEach [] X.env := by rfl) (hp : (backTo pos (starEach [] X.env)).any (·.1) = false := by rfl) :
    XE X EE (.Call (.Attribute a "index" q) [b] [] pos) (tBMT X.K (rIndexT X.K) ta (tCons tb tNil)) (eIndexT ma mb) := ⟨pe_bmT PySem.F.slot_tuple_index PySem.F.type_tuple_index mt_indexT ho.1 (pa_cons hi.1 pa_nil hs) h1 h2 h3 hs hp, s_indexT ho.2 hi.2⟩
theorem x_indexL {q : Pos} (ho : XB X EE a ta ma) (hi : XB X EE b tb mb)
    (h1 : attributeBase a "index" X.env (eval a X.env) = eval a X.env := by rfl)
    (h2 : ((backTo pos (starEach [b] X.env)).all (fun x => !x.1) && (backToKw pos (keywordEach [] X.env)).all (fun x => x.1.isSome) && decide ([b].length + ([] : List Keyword).length + (if ([] : List Keyword).isEmpty then 0 else 1) < 30)) = true := by rfl)
    (h3 : (q.endLine == pos.line) = true := by rfl) (hs : starEach [b] X.env = (false, eval b X.env) :: starEach [] X.env := by rfl) (hp : (backTo pos (starEach [] X.env)).any (·.1) = false := by rfl) :
    XE X EE (.Call (.Attribute a "index" q) [b] [] pos) (tBM X.K "list" (rIndex X.K) ta (tCons tb tNil)) (eIndexL ma mb) := ⟨pe_bm PySem.F.plainAttrs_list PySem.F.slot_list_index PySem.F.type_list_index mt_index ho.1 (pa_cons hi.1 pa_nil hs) h1 h2 h3 hs hp, s_indexL ho.2 hi.2⟩
theorem x_popAt {q : Pos} (ho : XE X EE a ta ma) (hi : XB X EE b tb mb)
    (h1 : attributeBase a "pop" X.env (eval a X.env) = eval a X.env := by rfl)
    (h2 : ((backTo pos (starEach [b] X.env)).all (fun x => !x.1) && (backToKw pos (keywordEach [] X.env)).all (fun x => x.1.isSome) && decide ([b].length + ([] : List Keyword).length + (if ([] : List Keyword).isEmpty then 0 else 1) < 30)) = true := by rfl)
    (h3 : (q.endLine == pos.line) = true := by rfl) (hs : starEach [b] X.env = (false, eval b X.env) :: starEach [] X.env := by rfl) (hp : (backTo pos (starEach [] X.env)).any (·.1) = false := by rfl) :
    XE X EE (.Call (.Attribute a "pop" q) [b] [] pos) (tBM X.K "list" rPopAt ta (tCons tb tNil)) (ePopAt ma mb) := ⟨pe_bm PySem.F.plainAttrs_list PySem.F.slot_list_pop PySem.F.type_list_pop mt_popAt ho.1 (pa_cons hi.1 pa_nil hs) h1 h2 h3 hs hp, s_popAt ho.2 hi.2⟩
theorem x_pop {q : Pos} (ho : XE X EE a ta ma) (h1 : attributeBase a "pop" X.env (eval a X.env) = eval a X.env := by rfl) (h3 : (q.endLine == pos.line) = true := by rfl) :
    XE X EE (.Call (.Attribute a "pop" q) [] [] pos) (tBM0 X.K "list" rPop ta) (ePop ma) := ⟨pe_bm0 PySem.F.plainAttrs_list PySem.F.slot_list_pop PySem.F.type_list_pop mt_pop ho.1 h1 h3, s_pop ho.2⟩
/-! calls of defs -/
theorem bad_ar {k : Nat} {m : FM} (h : ∀ ds S, ds.length ≠ k → m ds S = .bad) {K : PySem.W.Frag} {G : Hp} {n : List Addr} {S : Store} {H : Hp} {Q : VK} {ds : List BR.D} (w : WpE K EE (m ds S) G n S H Q) : ds.length = k := by
  by_cases e : ds.length = k
  · exact e
  · rw [h ds S e] at w; exact w.elim
theorem run_fnG {k : Nat} {f : Addr} {fd : FuncData} {ps : List Str} {sp : Sp} {ds : List Value} {dvs : List V} {pins : List (Addr × Obj)} {σ : L2.St} {H : Hp} {s : Shared} {Q : VK} {us : List Value} {vs : List V} (F : FnG X.prog X.w X.K X.mg X.base CX k f fd ps sp) (hr : Rm k X.A) (hb : Binds X.K fd ps ds) (hd : Vals dvs ds) (hx : Passes CX X E)
    (I : Inv X pins σ H s) (r : Vals vs us) (h : sp (vs ++ dvs) H Q E) : wpAny (model X.prog X.w) X.A (call (.ref f) us) (EP X pins σ Q) X.xe s := by
  have rr : Vals (vs ++ dvs) (us ++ ds) := r.append hd
  have len : (us ++ ds).length = ps.length := by rw [← rr.length]; exact F.len _ _ _ _ h
  refine wpAny_call (codeAny_mono (F.run X.A X.stack s H ⟨us, []⟩ _ _ Q E hr I.env0 (hb s us I.kIn len) rr h) fun r s' z => ?_)
  match r, z with
  | .error e, z => exact hx pins σ H s e s' I z
  | .ok (.ret u), z => exact I.after z
theorem x_call {x : Str} {k j ar : Nat} {m : FM} {e0 : Expr} (D : DefOk X.prog X.w X.K X.mg X.base CX0 x k (sp0 X.K ar m)) (har : ∀ ds S, ds.length ≠ ar → m ds S = .bad) (hr : Rm j X.A) (hjk : k ≤ j) (ha : XA X Z0 (e0 :: es) tas ms) (hg : Gl X x := by rfl) (hdb : (x == ("__debug__" : Str)) = false := by decide)
    (he : starEach (e0 :: es) X.env = (false, eval e0 X.env) :: starEach es X.env := by rfl) (hpl : (backTo pos (starEach es X.env)).any (·.1) = false := by rfl) :
    XE X Z0 (.Call (.Name x p) (e0 :: es) [] pos) (tCall (sp0 X.K ar m) [] E0 tas) (eA m ms) := by
  obtain ⟨f, fd, ps, F, hm, hk, hb⟩ := D.ex
  refine ⟨⟨fun pins s σ H Q I h => wpAny_Call_Name_kw (ld_glob I hg hm ?_ hdb)⟩, SE.call ha.2 fun G n S H vs ds Q s rl w => sp_call (bad_ar har w) s rl w⟩
  refine PySem.W.callWith_K (h₀ := X.base) I.ok.mod.kin hk (thn (ha.1.run pos pins s σ H _ I h) fun us s1 z => ?_) he hpl
  obtain ⟨vs, H1, I1, r, q⟩ := z
  exact ⟨I1.kIn, run_fnG F (hr.mono hjk) hb .nil pass0 I1 r q⟩
theorem x_call0 {x : Str} {k j : Nat} {m : FM} (D : DefOk X.prog X.w X.K X.mg X.base CX0 x k (sp0 X.K 0 m)) (har : ∀ ds S, ds.length ≠ 0 → m ds S = .bad) (hr : Rm j X.A) (hjk : k ≤ j) (hg : Gl X x := by rfl) (hdb : (x == ("__debug__" : Str)) = false := by decide) :
    XE X Z0 (.Call (.Name x p) [] [] pos) (tCall (sp0 X.K 0 m) [] E0 tNil) (eA m aN) := by
  obtain ⟨f, fd, ps, F, hm, hk, hb⟩ := D.ex
  refine ⟨⟨fun pins s σ H Q I h => wpAny_Call_Name_kw (ld_glob I hg hm ?_ hdb)⟩, SE.call SA.nil fun G n S H vs ds Q s rl w => sp_call (bad_ar har w) s rl w⟩
  exact PySem.W.callWith_K0 I.kIn hk (run_fnG (us := []) F (hr.mono hjk) hb .nil pass0 I .nil h)
/-! targets, walks, comprehensions -/
theorem g_n (i : Nat) {x : Str} (hN : X.N.Nodup) (hi : X.N[i]? = some x := by rfl) (hx : Loc X.env.scope x := by first | exact Or.inl rfl | exact Or.inr rfl) (hf : X.fn x = true ∨ X.env.scope.names.lookup x = some .local := by first | exact .inl rfl | exact .inr rfl) : XG X (.Name x pos) (gName i) (gN i) [i] := ⟨pg_name hN hi hx hf, SG.name i⟩
theorem gs_nil : XGs X [] gNil [] [] := ⟨pgs_nil, SGs.nil⟩
theorem gs_cons {g : TG} {gs : TGs} {gm : GM} {gms : List GM} {is js : List Nat} (h : XG X e g gm is) (hs : XGs X es gs gms js) (ha : (assignEach (e :: es) X.env).map (·.2) = assign e X.env :: (assignEach es X.env).map (·.2) := by rfl) : XGs X (e :: es) (gCons g gs) (gm :: gms) (is ++ js) := ⟨pgs_cons h.1 hs.1 ha, SGs.cons h.2 hs.2⟩
theorem g_t {k n : Nat} {gs : TGs} {gms : List GM} {is : List Nat} (hc : X.calm = true) (h : XGs X es gs gms is) (hl : gms.length = n := by rfl) (hn : (assignEach es X.env).length = n := by rfl) (hst : (assignEach es X.env).findIdx? (·.1) = none := by rfl) : XG X (.Tuple es k pos) (gTup X.K n gs) (gT gms) is := ⟨pg_tup hc h.1 hn hst, SG.tup h.2 hl⟩
variable {tg : Expr} {g : TG} {gm : GM} {is : List Nat} {wi : TI} {im : IM} {st : Bool}
theorem i_range1 (hm : Free X "range") (ha : XB X EE a ta ma) (hg : Gl X "range" := by rfl) (hs : starEach [a] X.env = [(false, eval a X.env)] := by rfl) : XI X EE true tg (.Call (.Name "range" p) [a] [] pos) (iRng1 (tCons ta tNil)) (iRange1 ma) := ⟨pi_range1 hg hm (pa_cons ha.1 pa_nil hs) hs, SI.range1 ha.2⟩
theorem i_range2 (hm : Free X "range") (ha : XB X EE a ta ma) (hb : XB X EE b tb mb) (hg : Gl X "range" := by rfl) (hs : starEach [a, b] X.env = [(false, eval a X.env), (false, eval b X.env)] := by rfl) (hs2 : starEach [b] X.env = [(false, eval b X.env)] := by rfl) : XI X EE true tg (.Call (.Name "range" p) [a, b] [] pos) (iRng2 (tCons ta (tCons tb tNil))) (iRange2 ma mb) :=
  ⟨pi_range2 hg hm (pa_cons ha.1 (pa_cons hb.1 pa_nil hs2) (hs.trans (by rw [hs2]))) hs hs2, SI.range2 ha.2 hb.2⟩
theorem i_seq (ha : XE X EE a ta ma) : XI X EE true tg a (iSeqV X.K ta) (iSeq ma) := ⟨pi_seqV ha.1, SI.seq ha.2⟩
theorem i_seqB (ha : XB X EE a ta ma) : XI X EE false tg a (iSeqV X.K ta) (iSeq ma) := ⟨pi_seqV ha.1, SI.seqB ha.2⟩
theorem ts_nil : XTs X EE [] L2.tYes tYes := ⟨pts_nil, ST.yes⟩
theorem ts_one (h : XT X EE c tt um) : XTs X EE [c] tt um := ⟨pts_one h.1, h.2⟩
/-! the strongest reading of a mirror -/
def tOfE (K : PySem.W.Frag) (EE : XQ) (m : EM) : TE := fun σ H Q => ∃ G n S r, SR K G n S H ∧ ER K G n S H r σ ∧ WpE K EE (m r S) G n S H Q
def tOfT (K : PySem.W.Frag) (EE : XQ) (m : TM) : TT := fun σ H Q => ∃ G n S r, SR K G n S H ∧ ER K G n S H r σ ∧ WpT K EE (m r S) G n S H Q
def tOfG (K : PySem.W.Frag) (m : GM) (is : List Nat) : TG := fun v σ H Q => ∃ G n S r d r', SR K G n S H ∧ ER K G n S H r σ ∧ Rel K G n d v ∧ m d r = some r' ∧ ∀ σ', ER K G n S H r' σ' → OwnSub r σ H r' σ' → (∀ vs, (∀ i ∈ is, i ∈ vs) → wipe σ' vs = wipe σ vs) → Q σ' H
theorem XE.canon {X : Cx} {EE : XQ} {e : Expr} {m : EM} (h : ∃ t, XE X EE e t m) : PE X e (tOfE X.K EE m) := by
  obtain ⟨t, h⟩ := h
  exact ⟨fun pins s σ H Q I ⟨G, n, S, r, a, b, c⟩ => h.1.run pins s σ H Q I (h.2 G n S H r σ Q a b c)⟩
theorem XTs.canon {X : Cx} {EE : XQ} {e : List Expr} {m : TM} (h : ∃ t, XTs X EE e t m) : PTs X e (tOfT X.K EE m) := by
  obtain ⟨t, h⟩ := h
  exact ⟨fun pins s σ H Q I ⟨G, n, S, r, a, b, c⟩ => h.1.run pins s σ H Q I (h.2 G n S H r σ Q a b c)⟩
theorem XG.canon {X : Cx} {e : Expr} {m : GM} {is : List Nat} (h : ∃ t, XG X e t m is) : PG X e (tOfG X.K m is) := by
  obtain ⟨t, h⟩ := h
  exact ⟨fun pins s σ H v u Q I rv ⟨G, n, S, r, d, r', a, b, c, e, f⟩ => h.1.run pins s σ H v u Q I rv (h.2 G n S H r σ d v r' Q a b c e f)⟩
theorem SE.canon {K : PySem.W.Frag} {EE : XQ} {m : EM} : SE K EE (tOfE K EE m) m := fun G n S H r σ Q a b c => ⟨G, n, S, r, a, b, c⟩
theorem ST.canon {K : PySem.W.Frag} {EE : XQ} {m : TM} : ST K EE (tOfT K EE m) m := fun G n S H r σ Q a b c => ⟨G, n, S, r, a, b, c⟩
theorem SG.canon {K : PySem.W.Frag} {m : GM} {is : List Nat} : SG K (tOfG K m is) m is := fun G n S H r σ d v r' Q a b c e f => ⟨G, n, S, r, d, r', a, b, c, e, f⟩
abbrev BlkX (X : Cx) (s : Shared) (H : Hp) (scope : Scope) (C : Addr) (cl : List (Str × Addr)) (fp : List Addr) : Cx := X.blk s H scope (compEnvC scope cl C X.env) fp
theorem l_lc {elt : Expr} {ifs : List Expr} {scope : Scope} {own : List (Str × Nat)} (hc : X.calm = true) (hN : X.N.Nodup) (hi : XI X Z0 st tg b wi im) (ok : blkC X.N X.env.scope scope own = true)
    (hg : ∀ s H C cl fp, ∃ g, XG (BlkX X s H scope C cl fp) tg g gm is) (ht : ∀ s H C cl fp, ∃ t, XTs (BlkX X s H scope C cl fp) Z0 ifs t um) (he : ∀ s H C cl fp, ∃ t, XE (BlkX X s H scope C cl fp) Z0 elt t m) (hv : (is.all fun i => decide (i ∈ own.map (·.2))) = true := by rfl)
    (hs : ∀ x, foldedSetIterable b X.env x = pure x := by intro _; rfl) : XL X Z0 (.ListComp elt [⟨tg, b, ifs, 0⟩] scope pos) (tLc wi (tOfG X.K gm is) (tOfT X.K Z0 um) (tOfE X.K Z0 m) (own.map (·.2))) (lLc im gm um m (own.map (·.2))) :=
  ⟨pe_lc hc hN hi.1 (blkOk_by ok) (fun s H C cl fp => XG.canon (hg s H C cl fp)) (fun s H C cl fp => XTs.canon (ht s H C cl fp)) (fun s H C cl fp => XE.canon (he s H C cl fp)) hs, SL.lc hi.2 SG.canon ST.canon SE.canon fun i hi => of_decide_eq_true (List.all_eq_true.mp hv i hi)⟩
/-! statements -/
variable {s1 : Stmt} {rest : List Stmt} {ts tr : TS} {m1 m2 : SM}
theorem s_nil : XSs X EE [] tNext mNil := ⟨pss_nil, SS.nil⟩
theorem s_cons (h : XS X EE s1 ts m1) (hr : XSs X EE rest tr m2) : XSs X EE (s1 :: rest) (tSeq ts tr) (mSeq m1 m2) := ⟨pss_cons h.1 hr.1, h.2.seq hr.2⟩
theorem s_one (h : XS X EE s1 ts m1) : XSs X EE [s1] ts m1 := ⟨pss_one h.1, h.2⟩
theorem s_frz (i : Nat) (h : XSs X EE rest tr m2) : XSs X EE rest tr (mFrz i m2) := ⟨h.1, SS.frz h.2⟩
theorem s_never : XSs X EE rest tNever mBad := ⟨pss_never, SS.bad⟩
theorem s_set (i : Nat) {x : Str} {p2 : Pos} (hN : X.N.Nodup) (he : XE X EE e t m) (hi : X.N[i]? = some x := by rfl) (hx : Loc X.env.scope x := by first | exact Or.inl rfl | exact Or.inr rfl) (hs : swapsWith e (some (.Name x p2)) pos.line X.env = pure false := by rfl) (hf : X.fn x = true ∨ X.env.scope.names.lookup x = some .local := by first | exact .inl rfl | exact .inr rfl) :
    XS X EE (.Assign [.Name x p2] e pos) (tAsg t (gName i)) (mSet (gN i) m) := ⟨ps_set hN hi hx he.1 hs hf, SS.set he.2 (SG.name i)⟩
theorem s_own (i : Nat) {x : Str} {p2 : Pos} (hN : X.N.Nodup) (he : XL X EE e t ms) (hi : X.N[i]? = some x := by rfl) (hx : Loc X.env.scope x := by first | exact Or.inl rfl | exact Or.inr rfl) (hs : swapsWith e (some (.Name x p2)) pos.line X.env = pure false := by rfl) (hf : X.fn x = true ∨ X.env.scope.names.lookup x = some .local := by first | exact .inl rfl | exact .inr rfl) :
    XS X EE (.Assign [.Name x p2] e pos) (tAsg t (gName i)) (mOwn i ms) := ⟨ps_set hN hi hx he.1 hs hf, SS.own he.2⟩
theorem s_asg (he : XE X EE e t m) (hg : XG X tg g gm is) (hs : swapsWithSole [tg] e pos.line X.env = pure false := by rfl) (hw : swappedStores [tg] e X.env = pure none := by rfl) (h1 : (assignEach [tg] X.env).map (·.2) = [assign tg X.env] := by rfl) : XS X EE (.Assign [tg] e pos) (tAsg t g) (mSet gm m) := ⟨ps_asg he.1 hg.1 hs hw h1, SS.set he.2 hg.2⟩
def mPar (i j : Nat) (l : LM) : SM := fun r S => (l r S).bind fun xs S1 => match xs with
  | [x, y] => .ok (.nx ((r.set i (.val x)).set j (.val y))) S1
  | _ => .bad
theorem SS.par {K : PySem.W.Frag} {i j : Nat} (h : SA K EE tas ms) : SS K EE (tPar i j tas) (mPar i j ms) := fun G n S H r σ D s e w => by
  refine h G n S H r σ _ s e ?_
  unfold mPar at w
  cases q : ms r S with
  | ok ds S1 =>
    rw [q] at w
    intro vs G1 n1 H1 p rl
    simp only [bind_ok] at w
    match ds, rl, w with
    | [], _, w => exact w.elim
    | [_], _, w => exact w.elim
    | _ :: _ :: _ :: _, _, w => exact w.elim
    | [x, y], rl, w =>
      simp only [RelL] at rl
      obtain ⟨v, r1, rfl, h1, u, r2, rfl, h2, rfl⟩ := rl
      refine ⟨v, u, rfl, w G1 n1 H1 _ p.own (((e.post p).setVal i h1).setVal j h2) ?_⟩
      exact (OwnSub.setVal (H := H) i).trans (OwnSub.setVal j) fun _ z => z
  | exc x S' => rw [q] at w; exact fun c dd G' n' H' p => w c dd G' n' H' p.own
  | bad => rw [q] at w; exact w.elim
theorem s_par (i j : Nat) {x y : Str} {px py pt : Pos} {kt k2 : Nat} {pt2 : Pos} (hc : X.calm = true) (hN : X.N.Nodup) (ha : XA X EE [a, b] tas ms) (hij : i ≠ j := by decide) (hi : X.N[i]? = some x := by rfl) (hj : X.N[j]? = some y := by rfl) (hx : X.env.scope.names.lookup x = some .local := by rfl) (hy : X.env.scope.names.lookup y = some .local := by rfl)
    (hw : swappedStores [.Tuple [.Name x px, .Name y py] kt pt] (.Tuple [a, b] k2 pt2) X.env = pure (some [x, y]) := by rfl) (hs : swapsWithSole [.Tuple [.Name x px, .Name y py] kt pt] (.Tuple [a, b] k2 pt2) pos.line X.env = pure false := by rfl) :
    XS X EE (.Assign [.Tuple [.Name x px, .Name y py] kt pt] (.Tuple [a, b] k2 pt2) pos) (tPar i j tas) (mPar i j ms) := ⟨ps_par hc hN hi hj hij hx hy ha.1 hw hs, SS.par ha.2⟩
/-- name = [.. for ..] on one row -/
theorem s_lcF (i : Nat) {y : Str} {py spos : Pos} {elt : Expr} {ifs : List Expr} {scope : Scope} {own : List (Str × Nat)} (hc : X.calm = true) (hN : X.N.Nodup) (hi : XI X Z0 st tg b wi im) (ok : blkC X.N X.env.scope scope own = true)
    (hg : ∀ s H C cl fp, ∃ g, XG (BlkX X s H scope C cl fp) tg g gm is) (ht : ∀ s H C cl fp, ∃ t, XTs (BlkX X s H scope C cl fp) Z0 ifs t um) (he : ∀ s H C cl fp, ∃ t, XE (BlkX X s H scope C cl fp) Z0 elt t m) (hv : (is.all fun i => decide (i ∈ own.map (·.2))) = true := by rfl) (hy : X.N[i]? = some y := by rfl) (hyl : X.env.scope.names.lookup y = some .local := by rfl)
    (hsw : swapsWith (.ListComp elt [⟨tg, b, ifs, 0⟩] scope pos) (some (.Name y py)) spos.line X.env = pure true := by exact sw_true rfl rfl rfl (by decide +kernel)) (hs : ∀ x, foldedSetIterable b X.env x = pure x := by intro _; rfl) :
    XS X Z0 (.Assign [.Name y py] (.ListComp elt [⟨tg, b, ifs, 0⟩] scope pos) spos) (tAsg (tLc wi (tOfG X.K gm is) (tOfT X.K Z0 um) (tOfE X.K Z0 m) (own.map (·.2))) (gName i)) (mSet (gN i) (eFrz (lLc im gm um m (own.map (·.2))))) :=
  ⟨ps_setLc hc hN hy hyl hsw hi.1 (blkOk_by ok) (fun s H C cl fp => XG.canon (hg s H C cl fp)) (fun s H C cl fp => XTs.canon (ht s H C cl fp)) (fun s H C cl fp => XE.canon (he s H C cl fp)) hs,
    SS.set (SL.frz (SL.lc hi.2 SG.canon ST.canon SE.canon fun i hi => of_decide_eq_true (List.all_eq_true.mp hv i hi))) (SG.name i)⟩
theorem s_lcN (i : Nat) {y : Str} {py spos : Pos} {elt : Expr} {ifs : List Expr} {scope : Scope} {own : List (Str × Nat)} (hc : X.calm = true) (hN : X.N.Nodup) (hi : XI X Z0 st tg b wi im) (ok : blkC X.N X.env.scope scope own = true)
    (hg : ∀ s H C cl fp, ∃ g, XG (BlkX X s H scope C cl fp) tg g gm is) (ht : ∀ s H C cl fp, ∃ t, XTs (BlkX X s H scope C cl fp) Z0 ifs t um) (he : ∀ s H C cl fp, ∃ t, XE (BlkX X s H scope C cl fp) Z0 elt t m) (hv : (is.all fun i => decide (i ∈ own.map (·.2))) = true := by rfl) (hy : X.N[i]? = some y := by rfl) (hyl : X.env.scope.names.lookup y = some .local := by rfl)
    (hsw : swapsWith (.ListComp elt [⟨tg, b, ifs, 0⟩] scope pos) (some (.Name y py)) spos.line X.env = pure true := by exact sw_true rfl rfl rfl (by decide +kernel)) (hs : ∀ x, foldedSetIterable b X.env x = pure x := by intro _; rfl) :
    XS X Z0 (.Assign [.Name y py] (.ListComp elt [⟨tg, b, ifs, 0⟩] scope pos) spos) (tAsg (tLc wi (tOfG X.K gm is) (tOfT X.K Z0 um) (tOfE X.K Z0 m) (own.map (·.2))) (gName i)) (mSet (gN i) (eNew (lLc im gm um m (own.map (·.2))))) :=
  ⟨ps_setLc hc hN hy hyl hsw hi.1 (blkOk_by ok) (fun s H C cl fp => XG.canon (hg s H C cl fp)) (fun s H C cl fp => XTs.canon (ht s H C cl fp)) (fun s H C cl fp => XE.canon (he s H C cl fp)) hs,
    SS.set (SL.new (SL.lc hi.2 SG.canon ST.canon SE.canon fun i hi => of_decide_eq_true (List.all_eq_true.mp hv i hi))) (SG.name i)⟩
theorem s_lcO (i : Nat) {y : Str} {py spos : Pos} {elt : Expr} {ifs : List Expr} {scope : Scope} {own : List (Str × Nat)} (hc : X.calm = true) (hN : X.N.Nodup) (hi : XI X Z0 st tg b wi im) (ok : blkC X.N X.env.scope scope own = true)
    (hg : ∀ s H C cl fp, ∃ g, XG (BlkX X s H scope C cl fp) tg g gm is) (ht : ∀ s H C cl fp, ∃ t, XTs (BlkX X s H scope C cl fp) Z0 ifs t um) (he : ∀ s H C cl fp, ∃ t, XE (BlkX X s H scope C cl fp) Z0 elt t m) (hv : (is.all fun i => decide (i ∈ own.map (·.2))) = true := by rfl) (hy : X.N[i]? = some y := by rfl) (hyl : X.env.scope.names.lookup y = some .local := by rfl)
    (hsw : swapsWith (.ListComp elt [⟨tg, b, ifs, 0⟩] scope pos) (some (.Name y py)) spos.line X.env = pure true := by exact sw_true rfl rfl rfl (by decide +kernel)) (hs : ∀ x, foldedSetIterable b X.env x = pure x := by intro _; rfl) :
    XS X Z0 (.Assign [.Name y py] (.ListComp elt [⟨tg, b, ifs, 0⟩] scope pos) spos) (tAsg (tLc wi (tOfG X.K gm is) (tOfT X.K Z0 um) (tOfE X.K Z0 m) (own.map (·.2))) (gName i)) (mOwn i (lLc im gm um m (own.map (·.2)))) :=
  ⟨ps_setLc hc hN hy hyl hsw hi.1 (blkOk_by ok) (fun s H C cl fp => XG.canon (hg s H C cl fp)) (fun s H C cl fp => XTs.canon (ht s H C cl fp)) (fun s H C cl fp => XE.canon (he s H C cl fp)) hs,
    SS.own (SL.lc hi.2 SG.canon ST.canon SE.canon fun i hi => of_decide_eq_true (List.all_eq_true.mp hv i hi))⟩
theorem s_if {x y : List Stmt} {tx ty : TS} {mx my : SM} (hc : XT X EE c tt um) (hx : XSs X EE x tx mx) (hy : XSs X EE y ty my) : XS X EE (.If c x y pos) (tIfS tt tx ty) (mIf um mx my) := ⟨ps_if hc.1 hx.1 hy.1, SS.ite hc.2 hx.2 hy.2⟩
theorem s_ret (he : XE X EE e t m) : XS X EE (.Return (some e) pos) (tRet t) (mRet m) := ⟨ps_ret he.1, SS.ret he.2⟩
theorem s_retN : XS X EE (.Return none pos) tRetN mRetN := ⟨ps_retN, SS.retN⟩
theorem s_brk : XS X EE (.Break pos) tBreak mBreak := ⟨ps_break, SS.brk⟩
theorem s_cont : XS X EE (.Continue pos) tCont mCont := ⟨ps_continue, SS.cont⟩
theorem s_bad : XS X EE s1 tNever mBad := ⟨ps_never, SS.bad⟩
theorem s_expr (he : XB X EE e t m) (hs : swapsWith e none pos.line X.env = pure false := by rfl) : XS X EE (.Expr e pos) (tDrop t) (mDrop m) := ⟨ps_expr he.1 hs, SS.drop he.2⟩
theorem s_for {body : List Stmt} {tb : TS} {mb : SM} (hp : PassesOwn (model X.prog X.w) X.A X.env X.xe) (hc : X.calm = true) (hi : XI X EE true tg b wi im) (hg : XG X tg g gm is) (hb : XSs X EE body tb mb) (hs : ∀ x, foldedSetIterable b X.env x = pure x := by intro _; rfl) : XS X EE (.For tg b body [] pos) (tFor wi g tb) (mFor im gm mb) :=
  ⟨ps_for hp hc hi.1 hg.1 hb.1 hs, SS.for hi.2 hg.2 hb.2⟩
theorem s_while {body : List Stmt} {tb : TS} {mb : SM} (hp : PassesOwn (model X.prog X.w) X.A X.env X.xe) (hc : XT X EE c tt um) (hb : XSs X EE body tb mb) : XS X EE (.While c body [] pos) (tWhile tt tb) (mWhile um mb) := ⟨ps_while hp hc.1 hb.1, SS.while hc.2 hb.2⟩
theorem s_appV (i : Nat) {x : Str} {q q2 : Pos} (he : XE X EE e t m) (hN : X.N[i]? = some x := by rfl) (hv : Vis X.env.scope x := by first | exact Or.inl rfl | exact Or.inr (Or.inl rfl) | exact Or.inr (Or.inr rfl)) (hd : (x == ("__debug__" : Str)) = false := by decide) (hcd : (x == ("__classdict__" : Str)) = false := by decide)
    (h1 : attributeBase (.Name x q2) "append" X.env (eval (.Name x q2) X.env) = eval (.Name x q2) X.env := by rfl)
    (h2 : ((backTo p (starEach [e] X.env)).all (fun x => !x.1) && (backToKw p (keywordEach [] X.env)).all (fun x => x.1.isSome) && decide ([e].length + ([] : List Keyword).length + (if ([] : List Keyword).isEmpty then 0 else 1) < 30)) = true := by rfl)
    (h3 : (q.endLine == p.line) = true := by rfl) (hs : starEach [e] X.env = (false, eval e X.env) :: starEach [] X.env := by rfl) (hp : (backTo p (starEach [] X.env)).any (·.1) = false := by rfl) (hw : swapsWith (.Call (.Attribute (.Name x q2) "append" q) [e] [] p) none pos.line X.env = pure false := by rfl) :
    XS X EE (.Expr (.Call (.Attribute (.Name x q2) "append" q) [e] [] p) pos) (tDrop (tBM X.K "list" rAppend (tVar i) (tCons t tNil))) (mApp i m) :=
  ⟨ps_expr (pe_bm PySem.F.plainAttrs_list PySem.F.slot_list_append PySem.F.type_list_append mt_append (pe_var hN hv hd hcd) (pa_cons he.1 pa_nil hs) h1 h2 h3 hs hp) hw, s_app he.2⟩
theorem s_appX {o : Expr} {to : TE} {mo : EM} {q : Pos} (ho : XE X EE o to mo) (he : XE X EE e t m)
    (h1 : attributeBase o "append" X.env (eval o X.env) = eval o X.env := by rfl)
    (h2 : ((backTo p (starEach [e] X.env)).all (fun x => !x.1) && (backToKw p (keywordEach [] X.env)).all (fun x => x.1.isSome) && decide ([e].length + ([] : List Keyword).length + (if ([] : List Keyword).isEmpty then 0 else 1) < 30)) = true := by rfl)
    (h3 : (q.endLine == p.line) = true := by rfl) (hs : starEach [e] X.env = (false, eval e X.env) :: starEach [] X.env := by rfl) (hp : (backTo p (starEach [] X.env)).any (·.1) = false := by rfl) (hw : swapsWith (.Call (.Attribute o "append" q) [e] [] p) none pos.line X.env = pure false := by rfl) :
    XS X EE (.Expr (.Call (.Attribute o "append" q) [e] [] p) pos) (tDrop (tBM X.K "list" rAppend to (tCons t tNil))) (mAppE mo m) :=
  ⟨ps_expr (pe_bm PySem.F.plainAttrs_list PySem.F.slot_list_append PySem.F.type_list_append mt_append ho.1 (pa_cons he.1 pa_nil hs) h1 h2 h3 hs hp) hw, s_appE ho.2 he.2⟩
theorem s_extV (i : Nat) {x : Str} {q q2 : Pos} (he : XB X EE e t m) (hN : X.N[i]? = some x := by rfl) (hv : Vis X.env.scope x := by first | exact Or.inl rfl | exact Or.inr (Or.inl rfl) | exact Or.inr (Or.inr rfl)) (hd : (x == ("__debug__" : Str)) = false := by decide) (hcd : (x == ("__classdict__" : Str)) = false := by decide)
    (h1 : attributeBase (.Name x q2) "extend" X.env (eval (.Name x q2) X.env) = eval (.Name x q2) X.env := by rfl)
    (h2 : ((backTo p (starEach [e] X.env)).all (fun x => !x.1) && (backToKw p (keywordEach [] X.env)).all (fun x => x.1.isSome) && decide ([e].length + ([] : List Keyword).length + (if ([] : List Keyword).isEmpty then 0 else 1) < 30)) = true := by rfl)
    (h3 : (q.endLine == p.line) = true := by rfl) (hs : starEach [e] X.env = (false, eval e X.env) :: starEach [] X.env := by rfl) (hp : (backTo p (starEach [] X.env)).any (·.1) = false := by rfl) (hw : swapsWith (.Call (.Attribute (.Name x q2) "extend" q) [e] [] p) none pos.line X.env = pure false := by rfl) :
    XS X EE (.Expr (.Call (.Attribute (.Name x q2) "extend" q) [e] [] p) pos) (tDrop (tBM X.K "list" rExtend (tVar i) (tCons t tNil))) (mExt i m) :=
  ⟨ps_expr (pe_bm PySem.F.plainAttrs_list PySem.F.slot_list_extend PySem.F.type_list_extend mt_extend (pe_var hN hv hd hcd) (pa_cons he.1 pa_nil hs) h1 h2 h3 hs hp) hw, s_ext he.2⟩
/-- name2 = name.pop() of the name's own list -/
theorem s_popN (i j : Nat) {x y : Str} {q q2 p2 : Pos} (hN0 : X.N.Nodup) (hN : X.N[i]? = some x := by rfl) (hv : Vis X.env.scope x := by first | exact Or.inl rfl | exact Or.inr (Or.inl rfl) | exact Or.inr (Or.inr rfl)) (hd : (x == ("__debug__" : Str)) = false := by decide) (hcd : (x == ("__classdict__" : Str)) = false := by decide)
    (hj : X.N[j]? = some y := by rfl) (hx : Loc X.env.scope y := by first | exact Or.inl rfl | exact Or.inr rfl) (hf : X.fn y = true ∨ X.env.scope.names.lookup y = some .local := by first | exact .inl rfl | exact .inr rfl)
    (h1 : attributeBase (.Name x q2) "pop" X.env (eval (.Name x q2) X.env) = eval (.Name x q2) X.env := by rfl) (h3 : (q.endLine == p.line) = true := by rfl) (hs : swapsWith (.Call (.Attribute (.Name x q2) "pop" q) [] [] p) (some (.Name y p2)) pos.line X.env = pure false := by rfl) :
    XS X EE (.Assign [.Name y p2] (.Call (.Attribute (.Name x q2) "pop" q) [] [] p) pos) (tAsg (tBM0 X.K "list" rPop (tVar i)) (gName j)) (mPop (gN j) i) :=
  ⟨ps_set hN0 hj hx (pe_bm0 PySem.F.plainAttrs_list PySem.F.slot_list_pop PySem.F.type_list_pop mt_pop (pe_var hN hv hd hcd) h1 h3) hs hf, s_popV (SG.name j)⟩
theorem s_setVx (x : Nat) {n : Str} {q q2 : Pos} (he : XE X EE e t m) (hi : XB X EE b tb mb) (hN : X.N[x]? = some n := by rfl) (hv : Vis X.env.scope n := by first | exact Or.inl rfl | exact Or.inr (Or.inl rfl) | exact Or.inr (Or.inr rfl)) (hd : (n == ("__debug__" : Str)) = false := by decide) (hcd : (n == ("__classdict__" : Str)) = false := by decide)
    (ha : ∀ v, assign (.Subscript (.Name n q) b q2) X.env v = (do
      let ov ← holding [v] (eval (.Name n q) X.env)
      let iv ← holding [v, ov] (eval b X.env)
      standAt q2
      holding [v, ov, iv] (setItem ov iv v)
      release [v, ov, iv] []) := by intro _; rfl)
    (hs : swapsWithSole [.Subscript (.Name n q) b q2] e pos.line X.env = pure false := by rfl) (hw : swappedStores [.Subscript (.Name n q) b q2] e X.env = pure none := by rfl) (h1 : (assignEach [.Subscript (.Name n q) b q2] X.env).map (·.2) = [assign (.Subscript (.Name n q) b q2) X.env] := by rfl) :
    XS X EE (.Assign [.Subscript (.Name n q) b q2] e pos) (tAsg t (gSub (tVar x) tb rSetL)) (mSetV x mb m) := ⟨ps_asg he.1 (pg_sub (pe_var hN hv hd hcd) hi.1 set_list ha) hs hw h1, s_setV he.2 hi.2⟩
theorem s_setX {o : Expr} {to : TE} {mo : EM} {q2 : Pos} (he : XE X EE e t m) (ho : XE X EE o to mo) (hi : XB X EE b tb mb)
    (ha : ∀ v, assign (.Subscript o b q2) X.env v = (do
      let ov ← holding [v] (eval o X.env)
      let iv ← holding [v, ov] (eval b X.env)
      standAt q2
      holding [v, ov, iv] (setItem ov iv v)
      release [v, ov, iv] []) := by intro _; rfl)
    (hs : swapsWithSole [.Subscript o b q2] e pos.line X.env = pure false := by rfl) (hw : swappedStores [.Subscript o b q2] e X.env = pure none := by rfl) (h1 : (assignEach [.Subscript o b q2] X.env).map (·.2) = [assign (.Subscript o b q2) X.env] := by rfl) :
    XS X EE (.Assign [.Subscript o b q2] e pos) (tAsg t (gSub to tb rSetL)) (mSetE mo mb m) := ⟨ps_asg he.1 (pg_sub ho.1 hi.1 set_list ha) hs hw h1, s_setE he.2 ho.2 hi.2⟩
end

/-! ### a def -/
/-- the text of a def behind the top: its arguments, body and scope, no defaults -/
def runA (ar n : Nat) (m : SM) : FM := fun ds S => if ds.length = ar then runF n m ds S else .bad
theorem runA_bad {ar n : Nat} {m : SM} : ∀ ds S, ds.length ≠ ar → runA ar n m ds S = .bad := fun ds S h => if_neg h
section
variable {P : Program} {w : World} {K : PySem.W.Frag} {mg : Str → Option Value} {base : Heap}
theorem fn_ofG {CX : CXT} {k : Nat} {f : Addr} {name qual : Str} {params : Arguments} {body : List Stmt} {scope : Scope} {dV kV doc pm cdv ct oc : Value} {an od : Option Addr} {osl : Array (Option Value)} {N ps : List Str} {sp : Sp}
    (lk : K.lookup f = some ⟨oc, od, .func (PySem.W.fnOf name qual params body scope dV kV doc pm an cdv ct), osl⟩) (hcd : PySem.W.codeIn K cdv qual = true) (S : FnScope N ps scope) (len : ∀ vs H Q E, sp vs H Q E → vs.length = ps.length)
    (hbody : ∀ (A : Around) (outer : List PySem.Env) (s : Shared) (H : Hp) (vs : List V) (Q : VK) (E : XK), Rm k (A.deeper (envOfC qual scope s.heap.objs.size f cdv)) → sp vs H Q E →
      ∃ t, PSs (cxOf CX P w K mg base N qual scope f cdv A outer s H E) body t ∧ t { nx := fun _ H' => Q .non H', rt := Q } (L2.start N vs) H) :
    FnG P w K mg base CX (k + 1) f (PySem.W.fnOf name qual params body scope dV kV doc pm an cdv ct) ps sp := by
  refine ⟨len, ?_⟩
  intro A outer s H args us vs Q E hr e0 hb r hsp
  have hl := len _ _ _ _ hsp
  have KX : K.In s.heap := e0.mod.kin.keeps fun b o z => (e0.bs b o z).1
  have lim : s.heap.NoLimit := e0.mod.nolimit.keeps fun b o z => (e0.bs b o z).1
  refine codeAny_call_function hr.room.depth (KX _ _ lk) rfl S.co S.gen rfl (PySem.W.codeRec_of KX hcd) (hb _ _ _ _ ?_)
  refine wpAny_newFunctionEnv_cells S.kind (fun y hy => ?_) fun env he s1 x => ?_
  · rcases S.par y.1 (List.of_mem_zip (show (y.1, y.2) ∈ ps.zip us from hy)).1 with q | q
    · exact .inl q
    · exact .inr ⟨q, PySem.W.cellsFrom_some _ _ _ (.inl q)⟩
  · subst he
    refine ⟨lim.keeps x.toInCall.keep, codeAny_func ?_⟩
    obtain ⟨t, ht, hq⟩ := hbody A outer s H vs Q E (hr.deeper _) hsp
    have I := inv_start (CX := CX) (P := P) (w := w) (mg := mg) (base := base) (E := E) (cd := cdv) S hr.room.hd e0 hl r x
    refine wpAny_mono (ht.run [] s1 _ H _ I hq) (fun fl s' hs => ?_) fun e s' hs => hs
    match fl, hs with
    | .ret u, hs =>
      obtain ⟨v, σ', H', J, rv, q⟩ := hs
      exact ⟨v, H', J.os, J.bare, J.base, J.hok, rv, q⟩
    | .next, hs =>
      obtain ⟨σ', H', J, q⟩ := hs
      exact ⟨V.non, H', J.os, J.bare, J.base, J.hok, rfl, q⟩
    | .brk, hs =>
      obtain ⟨_, _, _, q⟩ := hs
      exact False.elim q
    | .cont, hs =>
      obtain ⟨_, _, _, q⟩ := hs
      exact False.elim q
theorem body_okA {N : List Str} {k ar : Nat} {ts : TS} {m : SM} {vs : List V} {Q : VK} {E : XQ} {H : Hp} (h : SS K E ts m) (hk : k = N.length) (hs : spOf K ar (runA ar k m) vs H Q E) :
    ts { nx := fun _ H' => Q .non H', rt := Q } (L2.start N vs) H := by
  obtain ⟨h1, G, n, S, ds, s, rl, w⟩ := hs
  refine body_ok (ar := ar) h hk ⟨h1, G, n, S, ds, s, rl, ?_⟩
  unfold runA at w
  split at w
  · exact w
  · exact w.elim
/-- the context of a def's body in which nothing is raised -/
abbrev CtxN (P : Program) (w : World) (K : PySem.W.Frag) (mg : Str → Option Value) (base : Heap) (N : List Str) (qual : Str) (st : Stmt) (f : Addr) (cdv : Value) (A : Around) (outer : List PySem.Env) (s : Shared) (H : Hp) (E : XK) : Cx :=
  (cxOf CX0 P w K mg base N qual (defScope st) f cdv A outer s H E).nox
theorem def_ok {x : Str} {st : Stmt} {f : Addr} {fd : FuncData} {N ps : List Str} {k ar n : Nat} {sm : SM} (F : Fun K x x st f fd) (hmg : mg x = some (.ref f)) (S : FnScope N ps (defScope st)) (hb : Binds K fd ps []) (har : ar = ps.length) (hn : n = N.length)
    (h : ∀ (cdv : Value) (A : Around) (outer : List PySem.Env) (s : Shared) (H : Hp) (E : XK), Rm k (A.deeper (envOfC x (defScope st) s.heap.objs.size f cdv)) → ∃ t, XSs (CtxN P w K mg base N x st f cdv A outer s H E) Z0 (defBody st) t sm) :
    DefOk P w K mg base CX0 x (k + 1) (sp0 K ar (runA ar n sm)) := by
  obtain ⟨oc, od, kV, doc, pm, an, cdv, ct, osl, rfl, lk, hcd⟩ := F.ex
  refine ⟨f, _, ps, fn_ofG lk hcd S (fun vs H Q E q => by rw [q.1, har]) (fun A outer s H vs Q E hr hsp => ?_), hmg, F.kp, hb⟩
  obtain ⟨t, ht⟩ := h cdv A outer s H E hr
  exact ⟨t, ht.1.nox, body_okA ht.2 hn hsp⟩
/-! ### a law's end -/
theorem law_callG {mb : Str → Option Value} {CX : CXT} {k : Nat} {fa a : Addr} {fd : FuncData} {x : Str} {sp : Sp} {s₁ : Shared} {vs : List Value} {ns : List Int}
    (KX : K.In s₁.heap) (hns : s₁.heap.Ns mainGlobals mg) (hb : s₁.heap.Ns builtinsNs mb) (hbb : ∀ x : Str, x ≠ "__name__" → mb x = bootBuiltins x) (hlim : s₁.heap.NoLimit) (hg : s₁.gens = #[])
    (ha : s₁.heap.get? a = some { cls := .type "list", data := .seq vs.toArray }) (hi : IntsAre vs ns) (hl : ns.length ≤ sizeLine) (hr : Rm k callerA)
    (F : ∀ base : Heap, K.In base → base.Ns mainGlobals mg → FnG P w K mg base CX k fa fd [x] sp) (hbind : ∀ (s : Shared) (u : Value), BindsTo s fd ⟨[u], []⟩ [(x, u)])
    (hsp : ∀ H : Hp, SqL K H a (ns.map V.int) → sp [.ref a] H (fun v _ => v = .bl true) fun _ _ _ => False) (hCX : ∀ H e s', CX [] H s₁ (fun _ _ _ => False) e s' → False) :
    codeAny (model P w) callerA (.call (.ref fa) ⟨[.ref a], []⟩) (fun r s' => r = .ok (.ret (.bool true)) ∧ OldK s₁.heap s'.heap ∧ s'.os = s₁.os ∧ AllBare s'.gens) s₁ := by
  have rv := vals_ints hi
  have core : ∀ H : Hp, SqL K H a (ns.map V.int) → HOk P w H s₁.heap → (∀ b o, H b = some o → b = a ∧ ∃ ob, o = .frz ob (.lst (ns.map V.int))) → (∀ o, H a = some o → K.lookup a = none) →
      codeAny (model P w) callerA (.call (.ref fa) ⟨[.ref a], []⟩) (fun r s' => r = .ok (.ret (.bool true)) ∧ OldK s₁.heap s'.heap ∧ s'.os = s₁.os ∧ AllBare s'.gens) s₁ := by
    intro H hS hok hA hK
    have free : ∀ b, b ≠ a → H b = none := fun b hb => by
      cases q : H b with
      | none => rfl
      | some o => exact absurd (hA b o q).1 hb
    have ns' : ∀ {b : Addr} {m : Str → Option Value}, s₁.heap.Ns b m → (hidT s₁.heap H).Ns b m := fun {b m} z => by
      obtain ⟨o, es, ep, e, d, r⟩ := z
      refine ⟨o, es, ep, hidT_get e (free b fun q => ?_), d, r⟩
      subst q
      rw [ha] at e
      cases e
      have d' : Data.seq vs.toArray _ = Data.dict es ep := d
      cases d'
    have kb : K.In (hidT s₁.heap H) := fun b o e => by
      refine hidT_get (KX b o e) ?_
      cases q : H b with
      | none => rfl
      | some u =>
        have eb := (hA b u q).1
        subst eb
        rw [hK u q] at e
        cases e
    have md : Mod K mg (hidT s₁.heap H) := by
      refine ⟨kb, ns' hns, ⟨mb, ns' hb, hbb⟩, ?_⟩
      obtain ⟨mc, h1, h2⟩ := hlim
      exact ⟨mc, ns' h1, h2⟩
    have e0 : Env0 P w K mg (hidT s₁.heap H) callerA [] s₁ H := ⟨rfl, md, fun b o e => of_hidT e, Nat.le_of_eq (hidT_size _ _), trivial, fun b z => absurd (show b ∈ ([] : List Addr) from z) (by simp), hok, .of_eq hg⟩
    refine codeAny_mono ((F _ kb (ns' hns)).run callerA [] s₁ H ⟨[.ref a], []⟩ [.ref a] [.ref a] _ _ hr e0 (hbind s₁ (.ref a)) (.cons rfl .nil) (hsp H hS)) fun r s' z => ?_
    match r, z with
    | .error e, z => exact (hCX H e s' z).elim
    | .ok (.ret u), z =>
      obtain ⟨v, H', os, bare, un, hok', r', q⟩ := z
      obtain rfl : v = .bl true := q
      obtain rfl : u = Value.bool true := r'
      refine ⟨rfl, OldK.of_keep fun b o e => ?_, os, bare⟩
      cases q : H b with
      | none => exact un.keep b o e q (fun z => absurd (show b ∈ ([] : List Addr) from z) (by simp)) (by simp)
      | some u =>
        obtain ⟨_, ob, rfl⟩ := hA b u q
        obtain ⟨e1, _⟩ := hok b _ q
        obtain ⟨e2, _⟩ := hok' b _ (un.frzs b ob _ q)
        rw [e] at e1
        cases e1
        exact e2
  cases hk : K.lookup a with
  | some o =>
    have e := KX a o hk
    rw [ha] at e
    cases e
    exact core (fun _ => none) (.inr ⟨_, vs.toArray, _, hk, rfl, rfl, rfl, by rw [List.size_toArray, hi.length]; exact hl, by simpa using rv⟩) (fun b u z => nomatch (show (none : Option HO) = some u from z)) (fun b u z => nomatch (show (none : Option HO) = some u from z)) fun o z => nomatch (show (none : Option HO) = some o from z)
  | none =>
    refine core (fun b => if b = a then some (.frz { cls := .type "list", data := .seq vs.toArray } (.lst (ns.map V.int))) else none) (.inl (.inr ⟨_, if_pos rfl⟩)) (fun b u z => ?_) (fun b u z => ?_) fun _ _ => hk
    · by_cases q : b = a
      · subst q
        have z' := (if_pos rfl).symm.trans z
        cases z'
        exact ⟨ha, by rw [List.length_map]; exact hl, vs, _, rv, ha⟩
      · exact nomatch (if_neg q).symm.trans z
    · by_cases q : b = a
      · subst q
        have z' := (if_pos rfl).symm.trans z
        cases z'
        exact ⟨rfl, _, rfl⟩
      · exact nomatch (if_neg q).symm.trans z
end
theorem scr_rel {K : PySem.W.Frag} {H : Hp} {a : Addr} {ns : List Int} {n : List Addr} (h : SqL K H a (ns.map V.int)) : Rel K H n (.scr (ns.map D.int)) (.ref a) := by
  simp only [Rel]
  refine ⟨a, _, rfl, h, ?_⟩
  induction ns with
  | nil => exact .nil
  | cons x r ih =>
    have all : ∀ r : List Int, RelL K H n (r.map D.int) (r.map V.int) := fun r => by
      induction r with
      | nil => exact .nil
      | cons x r ih => exact .cons rInt ih
    exact all (x :: r)
theorem sp_law {K : PySem.W.Frag} {m : FM} {H : Hp} {a : Addr} {ns : List Int} (h : SqL K H a (ns.map V.int)) (hm : ∃ S, m [.scr (ns.map D.int)] [] = .ok (.bl true) S) : sp0 K 1 m [.ref a] H (fun v _ => v = .bl true) fun _ _ _ => False := by
  obtain ⟨S, e⟩ := hm
  refine ⟨rfl, H, [], [], [.scr (ns.map D.int)], ⟨Sub.refl _, rfl, fun k a d e => by simp at e, fun j k a d e h => by simp at h⟩, .cons (scr_rel h) .nil, ?_⟩
  rw [e]
  exact fun v G' n' H' _ r => by simpa only [Rel] using r
/-- the goal that a head leaves, from the law's own def -/
theorem walk_ofG {l : PySem.W.OpenLaw} {k : Nat} {q : Program} {loose : List Str} {XP : (Str → Option Value) → Heap → Prop} {YP : World → Heap → Prop} {d : DefRec} {m : FM}
    (hn : l.most = some 63) (hdf : d.params.defaults = []) (hr : Rm k callerA) (hm : ∀ ns : List Int, ns.length ≤ 63 → ∃ S, m [.scr (ns.map D.int)] [] = .ok (.bl true) S)
    (F : ∀ (w : World) (mg : Str → Option Value) (fa : Addr) (h : Heap), YP w h → h.Ns mainGlobals mg → mg d.name = some (.ref fa) →
      ∃ (K : PySem.W.Frag) (fd : FuncData), K.In h ∧ (∀ (s : Shared) (u : Value), BindsTo s fd ⟨[u], []⟩ [("script", u)]) ∧ ∀ base : Heap, K.In base → base.Ns mainGlobals mg → FnG l.prog w K mg base CX0 k fa fd ["script"] (sp0 K 1 m)) :
    PySem.W.WalkO q loose XP YP l.row.toRowW d [] (fun f vs => PySem.call f vs) := by
  refine Att.attach_call hn hdf fun w s₀ s₁ mg mb fa o pm cd doc a vs ns G Y ho hd hcd hmg hobj hints hlen hg => ?_
  obtain ⟨K, fd, KX, hb, hF⟩ := F w mg fa _ Y G.T.g hmg
  exact law_callG KX G.T.g G.T.b G.T.builtins G.T.nolimit hg hobj hints (Nat.le_trans hlen (by rw [sizeLine_eq]; decide)) hr hF hb (fun H hS => sp_law hS (hm ns hlen)) fun H e s' z => z.elim
end BR

/-! Calls with keyword-only arguments; defs by their facts; a module's constants. -/
namespace BR
open PySem PySem.Spec PyProof.Rows L2
/-- f(e, .., k = v, ..): n positional values, k by keywords, in the parameters' order -/
def eA2 (n k : Nat) (f : FM) (a b : LM) : EM := fun r S => (a r S).bind fun xs S1 => (b r S1).bind fun ys S2 => if xs.length = n ∧ ys.length = k then f (xs ++ ys) S2 else .bad
section
variable {K : PySem.W.Frag} {EE : XQ}
theorem SE.callN {E : XK} {t tk : TA} {l lk : LM} {sp : Sp} {f : FM} {nn k : Nat} (h : SA K EE t l) (h2 : SA K EE tk lk)
    (hs : ∀ G n S H vs ds Q, SR K G n S H → RelL K G n ds vs → WpE K EE (f ds S) G n S H Q → sp vs H Q E) : SE K EE (tCallN nn k sp (fun vs zs => vs ++ zs) E t tk) (eA2 nn k f l lk) := fun G n S H r σ Q s e w => by
  refine h G n S H r σ _ s e ?_
  unfold eA2 at w
  cases q : l r S with
  | ok ds S1 =>
    rw [q] at w
    intro vs G1 n1 H1 p rl
    refine h2 G1 n1 S1 H1 r σ _ p.sr (e.post p) ?_
    have w1 : WpE K EE ((lk r S1).bind fun ys S2 => if ds.length = nn ∧ ys.length = k then f (ds ++ ys) S2 else .bad) G1 n1 S1 H1 Q := WpE.at p w
    cases q2 : lk r S1 with
    | ok es S2 =>
      rw [q2] at w1
      intro zs G2 n2 H2 p2 rl2
      have w2 : WpE K EE (if ds.length = nn ∧ es.length = k then f (ds ++ es) S2 else .bad) G2 n2 S2 H2 Q := WpE.at p2 w1
      by_cases c : ds.length = nn ∧ es.length = k
      · rw [if_pos c] at w2
        refine ⟨by rw [← rl.len]; exact c.1, by rw [← rl2.len]; exact c.2, hs G2 n2 S2 H2 _ _ Q p2.sr (RelL.append (RelL.mono p2.sub p2.eta _ _ rl) rl2) w2⟩
      · rw [if_neg c] at w2
        exact w2.elim
    | exc x S' => rw [q2] at w1; exact w1
    | bad => rw [q2] at w1; exact w1.elim
  | exc x S' => rw [q] at w; exact w
  | bad => rw [q] at w; exact w
end
/-- what is known of a def that is called by keywords -/
structure DefOkK (P : Program) (w : World) (K : PySem.W.Frag) (mg : Str → Option Value) (base : Heap) (CX : CXT) (x : Str) (k : Nat) (n : Nat) (ks : List Str) (sp : Sp) : Prop where
  ex : ∃ (f : Addr) (fd : FuncData) (ps : List Str), FnG P w K mg base CX k f fd ps sp ∧ mg x = some (.ref f) ∧ PySem.W.keepIn K (.ref f) = true ∧ KBn K fd ps n ks (fun us ws => us ++ ws) (fun vs zs => vs ++ zs)
section
variable {X : Cx} {CX : CXT} {E : XK} {EE : XQ} {e0 e : Expr} {es : List Expr} {t : TE} {m : EM} {tas tks : TA} {ms mks : LM} {p pos kpos : Pos} {kws : List Keyword} {nm : Option Str}
def XKw (X : Cx) (EE : XQ) (e : List Keyword) (t : TA) (m : LM) : Prop := PK X e t ∧ SA X.K EE t m
theorem k_nil : XKw X EE [] tNil aN := ⟨pk_nil, SA.nil⟩
theorem k_cons (h : XE X EE e t m) (hr : XKw X EE kws tas ms) : XKw X EE (⟨nm, e, kpos⟩ :: kws) (tCons t tas) (aC m ms) := ⟨pk_cons h.1 hr.1, SA.cons h.2 hr.2⟩
theorem run_fnGN {k n : Nat} {f : Addr} {fd : FuncData} {ps ks : List Str} {sp : Sp} {pins : List (Addr × Obj)} {σ : L2.St} {H : Hp} {s : Shared} {Q : VK} {us ws : List Value} {vs zs : List V} {g : List Value → List Value → List Value} {gV : List V → List V → List V} (F : FnG X.prog X.w X.K X.mg X.base CX k f fd ps sp) (hr : Rm k X.A) (hb : KBn X.K fd ps n ks g gV) (hx : Passes CX X E)
    (I : Inv X pins σ H s) (r : Vals vs us) (rz : Vals zs ws) (l1 : vs.length = n) (l2 : zs.length = ks.length) (h : sp (gV vs zs) H Q E) : wpAny (model X.prog X.w) X.A (call (.ref f) us (ks.zip ws)) (EP X pins σ Q) X.xe s := by
  have r2 := hb.rel r rz
  refine wpAny_call (codeAny_mono (F.run X.A X.stack s H ⟨us, ks.zip ws⟩ (g us ws) (gV vs zs) Q E hr I.env0 (hb.to s us ws I.kIn (r.length.symm.trans l1) (rz.length.symm.trans l2)) r2 h) fun r s' hq => ?_)
  match r, hq with
  | .error e, z => exact hx pins σ H s e s' I z
  | .ok (.ret u), z => exact I.after z
theorem x_callK {x : Str} {k j ar n kn : Nat} {ks : List Str} {f : FM} (D : DefOkK X.prog X.w X.K X.mg X.base CX0 x k n ks (sp0 X.K ar f)) (har : ∀ ds S, ds.length ≠ ar → f ds S = .bad) (hr : Rm j X.A) (hjk : k ≤ j) (ha : XA X Z0 (e0 :: es) tas ms) (hkw : XKw X Z0 kws tks mks) (hkn : ks.length = kn := by rfl) (hg : Gl X x := by rfl) (hdb : (x == ("__debug__" : Str)) = false := by decide)
    (hall : (backToKw pos (keywordEach kws X.env)).all (·.1.isSome) = true := by rfl) (hks : (backToKw pos (keywordEach kws X.env)).filterMap (·.1) = ks := by rfl)
    (he : starEach (e0 :: es) X.env = (false, eval e0 X.env) :: starEach es X.env := by rfl) (hpl : ((backTo pos (starEach (e0 :: es) X.env)).any (·.1) || (backToKw pos (keywordEach kws X.env)).any (·.1.isNone)) = false := by rfl) :
    XE X Z0 (.Call (.Name x p) (e0 :: es) kws pos) (tCallN n kn (sp0 X.K ar f) (fun vs zs => vs ++ zs) E0 tas tks) (eA2 n kn f ms mks) := by
  subst hkn
  obtain ⟨fa, fd, ps, F, hm, hk, hb⟩ := D.ex
  refine ⟨⟨fun pins s σ H Q I h => wpAny_Call_Name_kw (ld_glob I hg hm ?_ hdb)⟩, SE.callN ha.2 hkw.2 fun G n S H vs ds Q s rl w => sp_call (bad_ar har w) s rl w⟩
  refine PySem.W.callWith_KW (h₀ := X.base) I.ok.mod.kin hk hall (thn (ha.1.run pos pins s σ H _ I h) fun us s1 ⟨vs, H1, I1, r, q⟩ => ?_) hpl he
  refine thn (hkw.1.run pos pins s1 σ H1 _ I1 q) fun ws s2 ⟨zs, H2, I2, rz, l1, l2, q2⟩ => ⟨I2.kIn, ?_⟩
  rw [hks]
  exact run_fnGN F (hr.mono hjk) hb pass0 I2 r rz l1 l2 q2
end
/-! ### a def by its facts -/
abbrev FnP (K : PySem.W.Frag) (x : Str) (st : Stmt) (f : Addr) (fd : FuncData) : Prop := FunD K x x (defArgs st) (defBody st) (defScope st) [] [] f fd
section
variable {P : Program} {w : World} {K : PySem.W.Frag} {mg : Str → Option Value} {base : Heap} {x : Str} {st : Stmt} {f : Addr} {fd : FuncData}
/-- the derivation of a def's body -/
def Body (P : Program) (w : World) (K : PySem.W.Frag) (mg : Str → Option Value) (base : Heap) (N : List Str) (x : Str) (st : Stmt) (k : Nat) (sm : SM) : Prop :=
  ∀ (f : Addr) (cdv : Value) (A : Around) (outer : List PySem.Env) (s : Shared) (H : Hp) (E : XK), Rm k (A.deeper (envOfC x (defScope st) s.heap.objs.size f cdv)) → ∃ t, XSs (CtxN P w K mg base N x st f cdv A outer s H E) Z0 (defBody st) t sm
theorem fnG_body {N ps : List Str} {k ar n : Nat} {sm : SM} (F : FnP K x st f fd) (S : FnScope N ps (defScope st)) (har : ar = ps.length) (hn : n = N.length) (h : Body P w K mg base N x st k sm) : FnG P w K mg base CX0 (k + 1) f fd ps (sp0 K ar (runA ar n sm)) := by
  obtain ⟨oc, od, dV, kV, doc, pm, an, cdv, ct, osl, rfl, lk, hcd, _, _⟩ := F.ex
  refine fn_ofG lk hcd S (fun vs H Q E q => by rw [q.1, har]) (fun A outer s H vs Q E hr hsp => ?_)
  obtain ⟨t, ht⟩ := h f cdv A outer s H E hr
  exact ⟨t, ht.1.nox, body_okA ht.2 hn hsp⟩
theorem defD_ok {N ps : List Str} {k ar n : Nat} {sm : SM} (F : ∃ fd, FnP K x st f fd) (hmg : mg x = some (.ref f)) (S : FnScope N ps (defScope st)) (har : ar = ps.length) (hn : n = N.length)
    (hb : ∀ (kV doc pm : Value) (an : Option Addr) (cdv ct : Value) (us : List Value), us.length = ps.length → bindArgs (PySem.W.fnOf x x (defArgs st) (defBody st) (defScope st) .none kV doc pm an cdv ct) ⟨us, []⟩ = pure (ps.zip us))
    (h : Body P w K mg base N x st k sm) : DefOk P w K mg base CX0 x (k + 1) (sp0 K ar (runA ar n sm)) := by
  obtain ⟨fd, F⟩ := F
  exact ⟨f, fd, ps, fnG_body F S har hn h, hmg, F.kp, F.bindsN hb⟩
theorem defD_okK {N ps ks : List Str} {k ar n np : Nat} {sm : SM} (F : ∃ fd, FnP K x st f fd) (hmg : mg x = some (.ref f)) (S : FnScope N ps (defScope st)) (har : ar = ps.length) (hn : n = N.length)
    (hb : ∀ (kV doc pm : Value) (an : Option Addr) (cdv ct : Value) (us ws : List Value), us.length = np → ws.length = ks.length → bindArgs (PySem.W.fnOf x x (defArgs st) (defBody st) (defScope st) .none kV doc pm an cdv ct) ⟨us, ks.zip ws⟩ = pure (ps.zip (us ++ ws)))
    (h : Body P w K mg base N x st k sm) : DefOkK P w K mg base CX0 x (k + 1) np ks (sp0 K ar (runA ar n sm)) := by
  obtain ⟨fd, F⟩ := F
  refine ⟨f, fd, ps, fnG_body F S har hn h, hmg, F.kp, ?_⟩
  obtain ⟨oc, od, dV, kV, doc, pm, an, cdv, ct, osl, rfl, lk, hcd, hD, hK⟩ := F.ex
  rcases hD with ⟨_, rfl⟩ | ⟨e, _⟩
  · exact ⟨fun s us ws _ l1 l2 => .of_eq (hb kV doc pm an cdv ct us ws l1 l2), fun r rz => r.append rz⟩
  · exact absurd rfl e
end
/-! ### a module's constants -/
def relCs (f : BR.D → Value → Bool) : List BR.D → List Value → Bool
  | [], [] => true
  | d :: ds, u :: us => f d u && relCs f ds us
  | _, _ => false
/-- the value is this, to a depth of k -/
def relC (K : PySem.W.Frag) : Nat → BR.D → Value → Bool
  | 0, _, _ => false
  | k + 1, d, u => match d, u with
    | .non, .none => true
    | .bl b, .bool c => b == c
    | .int i, .int j _ => decide (i = j)
    | .str x, .str y _ => decide (x = y)
    | .trn ds, .ref a => (match K.lookup a with
      | some ⟨.type c, none, .seq its _, _⟩ => decide (c = "tuple") && (decide (its.size ≤ sizeLine) && relCs (relC K k) ds its.toList)
      | _ => false)
    | _, _ => false
theorem relCs_ok {K : PySem.W.Frag} {f : BR.D → Value → Bool} (hf : ∀ d u, f d u = true → ∃ v, RelV v u ∧ ∀ G n, Rel K G n d v) : ∀ (ds : List BR.D) (us : List Value), relCs f ds us = true → ∃ vs, Vals vs us ∧ ∀ G n, RelL K G n ds vs
  | [], [], _ => ⟨[], .nil, fun _ _ => .nil⟩
  | d :: ds, u :: us, h => by
    obtain ⟨h1, h2⟩ := He.ba (show (f d u && relCs f ds us) = true from h)
    obtain ⟨v, r, g⟩ := hf d u h1
    obtain ⟨vs, rs, gs⟩ := relCs_ok hf ds us h2
    exact ⟨v :: vs, .cons r rs, fun G n => .cons (g G n) (gs G n)⟩
  | [], _ :: _, h => by cases h
  | _ :: _, [], h => by cases h
theorem relC_ok {K : PySem.W.Frag} : ∀ (k : Nat) (d : BR.D) (u : Value), relC K k d u = true → ∃ v, RelV v u ∧ ∀ G n, Rel K G n d v
  | 0, _, _, h => by cases h
  | k + 1, d, u, h => by
    unfold relC at h
    split at h
    · exact ⟨.non, rfl, fun _ _ => by simp only [Rel]⟩
    · rename_i b c
      exact ⟨.bl b, by rw [eq_of_beq h]; rfl, fun _ _ => rBl⟩
    · rename_i i j t
      exact ⟨.int i, ⟨t, by rw [of_decide_eq_true h]⟩, fun _ _ => rInt⟩
    · rename_i x y t
      exact ⟨.str x, ⟨t, by rw [of_decide_eq_true h]⟩, fun _ _ => rStr⟩
    · rename_i ds a
      split at h
      · rename_i c its m osl e
        obtain ⟨h1, h2⟩ := He.ba h
        obtain ⟨h3, h4⟩ := He.ba h2
        obtain ⟨vs, rs, gs⟩ := relCs_ok (relC_ok k) ds its.toList h4
        refine ⟨.ref a, rfl, fun G n => ?_⟩
        simp only [Rel]
        exact ⟨a, vs, rfl, .inr ⟨_, its, m, e, congrArg Value.type (of_decide_eq_true h1), rfl, rfl, of_decide_eq_true h3, rs⟩, gs G n⟩
      · cases h
    · cases h
def cstB (K : PySem.W.Frag) (q : Str × BR.D) : Bool := match PySem.W.nsIn K mainGlobals q.1 with
  | some (some (.ref a)) => decide (a = He.ga K q.1) && relC K 8 q.2 (.ref a)
  | _ => false
theorem cst_ok {K : PySem.W.Frag} {q : Str × BR.D} (c : cstB K q = true) : PySem.W.nsIn K mainGlobals q.1 = some (some (.ref (He.ga K q.1))) ∧ ∀ G n, Rel K G n q.2 (.ref (He.ga K q.1)) := by
  unfold cstB at c
  split at c
  · rename_i a e
    obtain ⟨h1, h2⟩ := He.ba c
    have h1 := of_decide_eq_true h1
    subst h1
    obtain ⟨v, r, g⟩ := relC_ok 8 _ _ h2
    have r' : v = .ref (He.ga K q.1) := by
      cases v with
      | ref b => cases r; rfl
      | non => cases r
      | bl b => cases r
      | ty b => cases r
      | _ => obtain ⟨_, r⟩ := r; cases r
    subst r'
    exact ⟨e, g⟩
  · cases c
/-- a class of errors (of ValueError's making, without an own __init__) -/
def excB (K : PySem.W.Frag) (n : Str) : Bool := He.eqO (PySem.W.nsIn K mainGlobals n) (some (some (.ref (He.ga K n)))) && (PySem.W.excIn K (He.ga K n) He.veBase "ValueError.__new__" && (PySem.W.keepIn K (.ref (He.ga K n)) && (decide (PySem.W.subIn K (.ref (He.ga K n)) (.type "BaseException") = some true) &&
  (decide (PySem.W.typeIn K (.ref (He.ga K n)) = some (.type "type")) && (He.eqO (PySem.W.findIn K (.ref (He.ga K n)) "__getattribute__") (some (some (.builtin "BaseException.__getattribute__"))) && (He.eqO (PySem.W.findIn K (.ref (He.ga K n)) "__getattr__") (some none) && (PySem.W.hasDictIn K (He.ga K n) &&
  (He.eqO (PySem.W.findIn K (.ref (He.ga K n)) "__class__") (some (some (.builtin "object.__class__"))) && (He.eqO (PySem.W.specialIn K (.builtin "object.__class__") "__get__") (some (some (.builtin "getset_descriptor.__get__"))) && (decide (PySem.W.takesIn K (.builtin "object.__class__") = some true) &&
  (decide (PySem.W.mroIn K (He.ga K n) (.type "object") = some true) && decide (PySem.W.kitOne K (.ref (He.ga K n)) (.type "ValueError") = some true))))))))))))
/-- whether the class n is caught by, and an instance of, the class m -/
def pairB (K : PySem.W.Frag) (n m : Str) (b : Bool) : Bool := decide (PySem.W.exmOne K (.ref (He.ga K n)) (.ref (He.ga K m)) = some b) && decide (PySem.W.kitOne K (.ref (He.ga K n)) (.ref (He.ga K m)) = some b)
/-- a constant; or, by a word of its own, a class of errors, or two of them -/
def cstB2 (K : PySem.W.Frag) (q : Str × BR.D) : Bool := match q.2 with
  | .xc _ => excB K q.1
  | .tup [.xc m, .bl b] => pairB K q.1 (PySem.Str.ofString m) b
  | _ => cstB K q
/-! ### the head's hook, with constants -/
open He in
def obsB (fa : List Fa) (fn : List DefD) (cs : List (Str × BR.D)) (K : PySem.W.Frag) : AlD := ((fa.all fun f => f.ok K) && ((fn.all fun d => d.ok K) && cs.all fun q => cstB2 K q), fn.map fun d => fnW K d.at_)
open He in
def SaysB (fa : List Fa) (fn : List DefD) (cs : List (Str × BR.D)) (K : PySem.W.Frag) : Prop := obsB fa fn cs K = valD fn
open He in
def obsBG (n : Nat) (fa : List Fa) (fn : List DefD) (cs : List (Str × BR.D)) (g : Addr → Option Obj) : AlD := obsB fa fn cs (frG g (asD g n))
open He in
def hookB (n : Nat) (fa : List Fa) (fn : List DefD) (cs : List (Str × BR.D)) : PySem.W.Hook where
  α := AlD
  obs := fun s => obsBG n fa fn cs s.heap.get?
  val := fun _ => valD fn
  says := fun _ h => ∃ K : PySem.W.Frag, K.In h ∧ SaysB fa fn cs K
  of := fun _ _ e => ⟨_, frG_in, e⟩
  keeps := fun _ _ _ ⟨K, hK, c⟩ k => ⟨K, PySem.W.Frag.In.keeps hK k, c⟩
open He in
theorem obsBG_eq {n : Nat} {fa : List Fa} {fn : List DefD} {cs : List (Str × BR.D)} {g : Addr → Option Obj} {s : Shared} (h : ∀ a, g a = s.heap.get? a) : obsBG n fa fn cs g = (hookB n fa fn cs).obs s := by
  have e : g = s.heap.get? := funext h
  rw [e] <;> rfl
section
open He
variable {fa : List Fa} {fn : List DefD} {cs : List (Str × BR.D)} {K : PySem.W.Frag}
theorem SaysB.d (c : SaysB fa fn cs K) : SaysD fa fn K := by
  have c1 : ((fa.all fun f => f.ok K) && ((fn.all fun d => d.ok K) && cs.all fun q => cstB2 K q)) = true := congrArg (fun z : AlD => z.1) c
  have c2 : fn.map (fun d => fnW K d.at_) = fn.map DefD.val := congrArg (fun z : AlD => z.2) c
  obtain ⟨h1, h2⟩ := ba c1
  obtain ⟨h3, _⟩ := ba h2
  have e : ((fa.all fun f => f.ok K) && (fn.all fun d => d.ok K)) = true := by rw [h1, h3]; rfl
  exact Prod.ext e c2
theorem SaysB.cst (c : SaysB fa fn cs K) (i : Nat) {q : Str × BR.D} (h : cs[i]? = some q := by rfl) : cstB2 K q = true := by
  have c1 : ((fa.all fun f => f.ok K) && ((fn.all fun d => d.ok K) && cs.all fun q => cstB2 K q)) = true := congrArg (fun z : AlD => z.1) c
  exact List.all_eq_true.mp (ba (ba c1).2).2 q (List.mem_of_getElem? h)
end
/-- what a def's derivation asks of the module's names -/
theorem mg_cst {K : PySem.W.Frag} {h : Heap} {mg : Str → Option Value} (X : K.In h) (G : h.Ns mainGlobals mg) {q : Str × BR.D} (c : cstB K q = true) : mg q.1 = some (.ref (He.ga K q.1)) := PySem.W.mg_of X G (cst_ok c).1
end BR

/-! sorted of numbers, zip, comprehensions of two fors, defs that call themselves. -/
namespace BR
open PySem PySem.Spec PyProof.Rows L2 RZ
/-! ### sorted -/
def lSorted (d : BR.D) (S : Store) : Res (List BR.D) := match (seqS S d).bind intsD with
  | some is => .ok ((is.mergeSort fun i j => decide (i ≤ j)).map BR.D.int) S
  | none => .bad
section
open SrtO PySem.Calls
variable {prog : Program} {w : World} {A : Around} {E : Value → Shared → Prop} {s : Shared}
theorem sorted_seq {it : Addr} {T : String} {o : Obj} {items : Array Value} {n : Nat} {ns : List Int} {Q : Value → Shared → Prop} (hT : T = "list" ∨ T = "tuple") (ho : s.heap.get? it = some o) (hc : o.cls = .type T) (hd : o.data = .seq items n) (hz : items.size ≤ sizeLine) (hI : IntsAre items.toList ns)
    (h : ∀ (h' : Heap) (p : Addr) (out : List Value) (ns' : List Int) (e : Nat), (∀ b u, s.heap.get? b = some u → h'.get? b = some u) → s.heap.get? p = none → h'.get? p = some (seqObj "list" out.toArray e) → IntsAre out ns' → ns'.Perm ns → ns'.Pairwise (· ≤ ·) → Q (.ref p) { s with heap := h' }) :
    wpAny (model prog w) A (call (.builtin "sorted") [.ref it]) Q E s := by
  refine Calls.call_function_entry kind_sorted plain_sorted entry_sorted (args_sorted1 _) ?_
  unfold Builtin.«sorted»
  refine wpAny_bind (m := checkCount "sorted" 1 1 _) (wpAny_pure (wpAny_bind (wpAny_collect_seq it hT ho hc hd (fun h1 k1 => ?_) hz)))
  have hz' : items.toList.length ≤ sizeLine := by simpa using hz
  refine wpAny_bind (wpAny_newList ?_ hz')
  have hob : (h1.push (seqObj "list" items.toList.toArray 0)).get? h1.objs.size = some (seqObj "list" items.toList.toArray 0) := Heap.get?_push_size _ rfl
  refine wpAny_bind (wpAny_holding (wpAny_call_entry slot_list_sort ⟨_, hob, rfl⟩ entry_list_sort (list_sort_ord swo_int hob hz' (fun h2 => ints_sortable hI h2) fun out z1 z2 => ⟨_, rfl, ?_⟩) (args_list_sort _)))
  obtain ⟨q1, q2, q3⟩ := ints_out hI z1 z2
  obtain ⟨e, he⟩ := sortedHeap_at (vs := items.toList) (out := out.toArray) hob
  have sz : s.heap.get? h1.objs.size = none := by
    cases z : s.heap.get? h1.objs.size with
    | none => rfl
    | some u => exact absurd (Heap.lt_size (k1 _ u z)) (Nat.lt_irrefl _)
  refine wpAny_pure ⟨_, rfl, h _ h1.objs.size out _ e (fun b u hb => ?_) sz he q1 q2 q3⟩
  have hb1 := k1 b u hb
  have lt := Heap.lt_size hb1
  rw [sortedHeap_old (Nat.ne_of_lt lt) (by rw [size_push']; exact Nat.lt_succ_of_lt lt)]
  exact Heap.get?_push_of_some _ hb1
end
theorem call_sortedT {X : Cx} : CallR X (.builtin "sorted") (fun vs H Q => ∃ (a : Addr) (ns : List Int), vs = [V.ref a] ∧ (SqL X.K H a (ns.map V.int) ∨ SqT X.K H a (ns.map V.int)) ∧
    ∀ (ns' : List Int) (p : Addr), ns'.Perm ns → ns'.Pairwise (· ≤ ·) → H p = none → Q (.ref p) (upd H p (.lst (ns'.map V.int)))) := by
  intro pins s σ H vs us Q I r h
  obtain ⟨a, ns, rfl, hs, q⟩ := h
  rw [Vals.ref1 r]
  have main : ∀ {T : String} {o : Obj} {its : List Value} {n : Nat}, (T = "list" ∨ T = "tuple") → s.heap.get? a = some o → o.cls = .type T → o.data = .seq its.toArray n → its.toArray.size ≤ sizeLine → Vals (ns.map V.int) its → wpAny (model X.prog X.w) X.A (call (.builtin "sorted") [.ref a]) (EP X pins σ Q) X.xe s := by
    intro T o its n hT ho hc hd hz rv
    have hi : IntsAre its.toArray.toList ns := by simpa using rv.ints
    refine sorted_seq hT ho hc hd hz hi fun h' p out ns' e k hp he k1 k2 k3 => ?_
    have hl : ns'.length = its.length := by rw [k2.length_eq, ← List.length_map (f := V.int), rv.length]
    have hn := HOk.gone I.hok hp
    exact ⟨.ref p, upd H p (.lst (ns'.map V.int)), I.laidN (t' := s.toks) k hp hn ⟨by rw [List.length_map, hl]; simpa using hz, out, e, vals_of_ints k1, he⟩, rfl, q _ _ k2 k3 hn⟩
  rcases hs with hs | hs
  · obtain ⟨its, rv, pl, hz⟩ := I.list hs
    obtain ⟨o, ho, hc, n, hd⟩ := pl.isList
    exact main (.inl rfl) ho hc hd (by rw [List.size_toArray, ← rv.length]; exact hz) rv
  · obtain ⟨its, rv, pl, hz⟩ := I.tuple hs
    obtain ⟨o, ho, hc, n, hd⟩ := (show s.heap.IsTuple a its.toArray from pl)
    exact main (.inr rfl) ho hc hd (by rw [List.size_toArray, ← rv.length]; exact hz) rv
def rSortedA (K : PySem.W.Frag) : List V → Hp → VK → Prop := fun vs H Q => ∃ (a : Addr) (ns : List Int), vs = [V.ref a] ∧ (SqL K H a (ns.map V.int) ∨ SqT K H a (ns.map V.int)) ∧
    ∀ (ns' : List Int) (p : Addr), ns'.Perm ns → ns'.Pairwise (· ≤ ·) → H p = none → Q (.ref p) (upd H p (.lst (ns'.map V.int)))
section
variable {X : Cx} {EE : XQ} {K : PySem.W.Frag} {ta tb : TE} {a b : EM}
theorem isort_eq {is ns' : List Int} (h1 : ns'.Perm is) (h2 : ns'.Pairwise (· ≤ ·)) : ns' = is.mergeSort fun i j => decide (i ≤ j) := by
  refine List.Perm.eq_of_pairwise (le := fun i j : Int => i ≤ j) (fun a b _ _ x y => Int.le_antisymm x y) h2 ?_ (h1.trans (List.mergeSort_perm _ _).symm)
  have := List.pairwise_mergeSort (le := fun i j : Int => decide (i ≤ j)) (fun a b c x y => by simp at *; omega) (fun a b => by simp; omega) is
  exact this.imp fun h => of_decide_eq_true h
theorem ints_relL {G : Hp} {n : List Addr} : ∀ (is : List Int), RelL K G n (is.map BR.D.int) (is.map V.int)
  | [] => .nil
  | _ :: is => .cons rInt (ints_relL is)
theorem s_sorted (ha : SB K EE ta a) : SL K EE (tCB (rSortedA K) (tCons ta tNil)) (BR.l1 lSorted a) := ha.l1 fun G n S H x d Q s hx w => by
  unfold lSorted at w
  cases q : seqS S d with
  | none => simp only [q, Option.bind_none] at w; exact w.elim
  | some ds =>
    simp only [q, Option.bind_some] at w
    cases q2 : intsD ds with
    | none => simp only [q2] at w; exact w.elim
    | some is =>
      simp only [q2] at w
      obtain ⟨p, vs, rfl, h1, h2⟩ := seqS_rel s hx q
      have e := ints_rel q2 h2
      refine ⟨p, is, rfl, by rw [← e]; exact h1, fun ns' l k1 k2 hl => ?_⟩
      rw [isort_eq k1 k2]
      exact WpL.new s w (ints_relL _) l hl
theorem l_sorted {p pos : Pos} {a : Expr} {ma : EM} (hm : Free X "sorted") (ha : XB X EE a ta ma) (hg : Gl X "sorted" := by rfl) (he : starEach (a :: []) X.env = (false, eval a X.env) :: starEach [] X.env := by rfl) (hp : (backTo pos (starEach [] X.env)).any (·.1) = false := by rfl) : XL X EE (.Call (.Name "sorted" p) [a] [] pos) (tCB (rSortedA X.K) (tCons ta tNil)) (BR.l1 lSorted ma) :=
  ⟨pe_callB (r := rSortedA X.K) call_sortedT hg hm (by decide +kernel) (pa_cons ha.1 pa_nil he) (by decide) (by decide) he hp, s_sorted ha.2⟩
end
/-! ### zip of two lists, of two tuples -/
def tupD : BR.D → Option (List BR.D)
  | .tup xs => some xs
  | .trn xs => some xs
  | _ => none
def pairsD (xs ys : List BR.D) : List BR.D := List.zipWith (fun x y => BR.D.tup [x, y]) xs ys
def iZip (a b : EM) : IM := fun r S => (a r S).bind fun x S1 => (b r S1).bind fun y S2 => match lstD x, lstD y with
  | some xs, some ys => .ok (.fix (pairsD xs ys)) S2
  | _, _ => (match tupD x, tupD y with
    | some xs, some ys => .ok (.fix (pairsD xs ys)) S2
    | _, _ => .bad)
section
variable {K : PySem.W.Frag} {EE : XQ} {ta tb : TE} {a b : EM} {B G : Hp} {n : List Addr} {p q : Addr} {us ws : List V} {xs ys : List BR.D}
theorem pairsD_at {i : Nat} {d : BR.D} (h : (pairsD xs ys)[i]? = some d) : ∃ x y, xs[i]? = some x ∧ ys[i]? = some y ∧ d = .tup [x, y] := by
  unfold pairsD at h
  rw [List.getElem?_zipWith] at h
  cases e1 : xs[i]? with
  | none => rw [e1] at h; simp at h
  | some x =>
    cases e2 : ys[i]? with
    | none => rw [e1, e2] at h; simp at h
    | some y => rw [e1, e2] at h; cases h; exact ⟨x, y, rfl, rfl, rfl⟩
theorem pairsD_end {i : Nat} (h : (pairsD xs ys).length ≤ i) : xs.length ≤ i ∨ ys.length ≤ i := by
  unfold pairsD at h
  rw [List.length_zipWith] at h
  omega
theorem itz_ok (h1 : SqL K B p us) (r1 : RelL K G n xs us) (h2 : SqL K B q ws) (r2 : RelL K G n ys ws) : ItOk K B G n (pairsD xs ys) (Itz K p q) := fun H2 sb => by
  have q1 := sb.sl h1
  have q2 := sb.sl h2
  refine ⟨fun i hi => ⟨us, ws, q1, q2, by rw [← r1.len, ← r2.len]; exact pairsD_end hi⟩, fun i d hd => ?_⟩
  obtain ⟨x, y, e1, e2, rfl⟩ := pairsD_at hd
  obtain ⟨u, a1, a2⟩ := r1.get e1
  obtain ⟨v, b1, b2⟩ := r2.get e2
  refine ⟨⟨us, ws, u, v, q1, q2, a1, b1⟩, fun z H3 yy => .inr ?_⟩
  obtain ⟨T, x', y', rfl, hT, rfl, c1, c2⟩ := yy
  have d1 := c1 us q1
  rw [a1] at d1
  have d2 := c2 ws q2
  rw [b1] at d2
  cases d1
  cases d2
  exact ⟨T, _, _, hT, rfl, rfl, rfl, .cons a2 (.cons b2 .nil)⟩
theorem itzT_ok (h1 : SqT K B p us) (r1 : RelL K G n xs us) (h2 : SqT K B q ws) (r2 : RelL K G n ys ws) : ItOk K B G n (pairsD xs ys) (ItzT K p q) := fun H2 sb => by
  have q1 := sb.st h1
  have q2 := sb.st h2
  refine ⟨fun i hi => ⟨us, ws, q1, q2, by rw [← r1.len, ← r2.len]; exact pairsD_end hi⟩, fun i d hd => ?_⟩
  obtain ⟨x, y, e1, e2, rfl⟩ := pairsD_at hd
  obtain ⟨u, a1, a2⟩ := r1.get e1
  obtain ⟨v, b1, b2⟩ := r2.get e2
  refine ⟨⟨us, ws, u, v, q1, q2, a1, b1⟩, fun z H3 yy => .inr ?_⟩
  obtain ⟨T, x', y', rfl, hT, rfl, c1, c2⟩ := yy
  have d1 := c1 us q1
  rw [a1] at d1
  have d2 := c2 ws q2
  rw [b1] at d2
  cases d1
  cases d2
  exact ⟨T, _, _, hT, rfl, rfl, rfl, .cons a2 (.cons b2 .nil)⟩
theorem lstD_rel {d : BR.D} {v : V} {ds : List BR.D} (h : Rel K G n d v) (e : lstD d = some ds) : ∃ a vs, v = .ref a ∧ SqL K G a vs ∧ RelL K G n ds vs := by
  cases d with
  | lst xs => cases e; simp only [Rel] at h; obtain ⟨a, vs, rfl, h1, h2⟩ := h; exact ⟨a, vs, rfl, SqL.of h1, h2⟩
  | scr xs => cases e; simp only [Rel] at h; exact h
  | _ => cases e
theorem tupD_rel {d : BR.D} {v : V} {ds : List BR.D} (h : Rel K G n d v) (e : tupD d = some ds) : ∃ a vs, v = .ref a ∧ SqT K G a vs ∧ RelL K G n ds vs := by
  cases d with
  | tup xs => cases e; simp only [Rel] at h; obtain ⟨a, vs, rfl, h1, h2⟩ := h; exact ⟨a, vs, rfl, .inl (.inl h1), h2⟩
  | trn xs => cases e; simp only [Rel] at h; obtain ⟨a, vs, rfl, h1, h2⟩ := h; exact ⟨a, vs, rfl, h1.sq, h2⟩
  | _ => cases e
theorem SI.zip (ha : SE K EE ta a) (hb : SE K EE tb b) : SI K EE true (iZipA K (tCons ta (tCons tb tNil))) (iZip a b) := fun G n S H r σ R s e w => by
  refine ha G n S H r σ _ s e ?_
  unfold iZip at w
  cases q1 : a r S with
  | ok x S1 =>
    rw [q1] at w
    intro v G1 n1 H1 p1 rl1
    refine hb G1 n1 S1 H1 r σ _ p1.sr (e.post p1) ?_
    simp only [bind_ok] at w
    cases q2 : b r S1 with
    | ok y S2 =>
      rw [q2] at w
      intro u G2 n2 H2 p2 rl2
      simp only [bind_ok] at w
      have rl1' := Rel.mono p2.sub p2.eta _ _ rl1
      cases m1 : lstD x with
      | some xs =>
        cases m2 : lstD y with
        | some ys =>
          simp only [m1, m2] at w
          obtain ⟨a1, us, rfl, h1, h2⟩ := lstD_rel rl1' m1
          obtain ⟨a2, ws, rfl, h3, h4⟩ := lstD_rel rl2 m2
          exact ⟨a1, a2, us, ws, rfl, .inl ⟨p2.sr.sub.sl h1, p2.sr.sub.sl h3, w _ G2 n2 H2 (p1.tr p2) (itz_ok h1 h2 h3 h4)⟩⟩
        | none =>
          simp only [m1, m2] at w
          cases m3 : tupD x with
          | some xs => cases x <;> first | (cases m1; done) | (cases m3; done)
          | none => simp only [m3] at w; exact w.elim
      | none =>
        simp only [m1] at w
        cases m3 : tupD x with
        | none => simp only [m3] at w; exact w.elim
        | some xs =>
          cases m4 : tupD y with
          | none => simp only [m3, m4] at w; exact w.elim
          | some ys =>
            simp only [m3, m4] at w
            obtain ⟨a1, us, rfl, h1, h2⟩ := tupD_rel rl1' m3
            obtain ⟨a2, ws, rfl, h3, h4⟩ := tupD_rel rl2 m4
            exact ⟨a1, a2, us, ws, rfl, .inr ⟨p2.sr.sub.st h1, p2.sr.sub.st h3, w _ G2 n2 H2 (p1.tr p2) (itzT_ok h1 h2 h3 h4)⟩⟩
    | exc x S' => rw [q2] at w; exact fun c dd G' n' H' p' => w c dd G' n' H' (p1.tr p')
    | bad => rw [q2] at w; exact w.elim
  | exc x S' => rw [q1] at w; exact w
  | bad => rw [q1] at w; exact w.elim
theorem i_zip {X : Cx} {e e2 : Expr} {p pos tpos : Pos} {elts : List Expr} {kk : Nat} {ma mb : EM} (hm : Free X "zip") (ha : XE X EE e ta ma) (hb : XE X EE e2 tb mb) (hg : Gl X "zip" := by rfl) (hs : starEach [e, e2] X.env = (false, eval e X.env) :: starEach [e2] X.env := by rfl) (hs2 : starEach [e2] X.env = (false, eval e2 X.env) :: starEach [] X.env := by rfl) (hpl : (backTo pos (starEach [e2] X.env)).any (·.1) = false := by rfl) :
    XI X EE true (.Tuple elts kk tpos) (.Call (.Name "zip" p) [e, e2] [] pos) (iZipA X.K (tCons ta (tCons tb tNil))) (iZip ma mb) := ⟨pi_zipA hg hm (pa_cons ha.1 (pa_cons hb.1 pa_nil hs2) hs) hs hpl, SI.zip ha.2 hb.2⟩
end
/-! ### a comprehension of two fors -/
def lc2Go (g : GM) (t : TM) (im1 : IM) (g1 : GM) (t1 : TM) (e : EM) (vs1 : List Nat) (r : BR.Env) : List BR.D → List BR.D → Store → Res (List BR.D)
  | [], acc, S => .ok acc S
  | d :: ds, acc, S => match g d r with
    | none => .bad
    | some r1 => (t r1 S).bind fun c S1 => if c = true then (im1 r1 S1).bind fun src S2 => (match src with
      | .fix ds1 => lcGo g1 t1 e (wipeE r1 vs1) ds1 acc S2
      | .cell _ => .bad).bind fun acc' S3 => lc2Go g t im1 g1 t1 e vs1 r ds acc' S3 else lc2Go g t im1 g1 t1 e vs1 r ds acc S1
def lLc2 (it : IM) (g : GM) (t : TM) (im1 : IM) (g1 : GM) (t1 : TM) (e : EM) (vs vs1 : List Nat) : LM := fun r S => (it r S).bind fun src S1 => match src with
  | .fix ds => lc2Go g t im1 g1 t1 e vs1 (wipeE r vs) ds [] S1
  | .cell _ => .bad
section
variable {K : PySem.W.Frag} {EE : XQ} {G G0 G1 G' Gc : Hp} {n n0 n1 n' nc : List Addr} {S S0 S1 S' Sc : Store} {H H0 H1 H' Hc : Hp} {r : BR.Env} {σ : L2.St} {g g1 : TG} {gm gm1 : GM} {is is1 : List Nat} {tt tt1 : TT} {t t1 : TM} {te : TE} {em : EM} {vs vs1 : List Nat} {O : Addr → Prop}
theorem ER.postO (e : ER K G n S H r σ) (p : Post K O G n S H G' n' S' H') (ho : ∀ a, Own r σ a → ¬ O a) : ER K G' n' S' H' r σ := by
  refine ⟨e.len, fun i d h => ?_, fun i d h => ?_, e.inj⟩
  · obtain ⟨v, h1, h2⟩ := e.val i d h
    exact ⟨v, h1, Rel.mono p.sub p.eta _ _ h2⟩
  · obtain ⟨a, o, h1, h2, h3, h4, h5⟩ := e.own i d h
    have na : ¬ O a := ho a ⟨i, d, h, h1⟩
    refine ⟨a, o, h1, ?_, fun l => ?_, p.frame a o h4 h3 na, HoR.mono p.sub p.eta _ _ h5⟩
    · cases q : G' a with
      | none => rfl
      | some u => rcases p.gnew a u q with x | x | x | x <;> first | (rw [h2] at x; cases x; done) | (rw [h4] at x; cases x; done) | exact absurd x h3 | exact absurd x na
    · rcases p.live l with l | l
      · exact h3 l
      · rw [h4] at l; cases l
def WpC (K : PySem.W.Frag) (EE : XQ) (Dd : Addr) (x : Res (List BR.D)) (G : Hp) (n : List Addr) (S : Store) (H : Hp) (P : Hp → Prop) : Prop := match x with
  | .ok acc S' => ∀ G' n' H' ws, Post K NoO G n S H G' n' S' H' → G' Dd = none → ¬ Live n' S' Dd → H' Dd = some (.lst ws) → RelL K G' n' acc ws → P H'
  | .exc x S' => ∀ c dd G' n' H', Post K NoO G n S H G' n' S' H' → ExcR x c dd H' → EE x c dd H'
  | .bad => False
def InGoal (J : It) (g : TG) (tt : TT) (te : TE) (vs : List Nat) (σ : L2.St) (D : Addr) (H : Hp) (P : Hp → Prop) : Prop := ∃ W : Nat → Nat → Hp → Prop, (∃ m, W 0 m H) ∧ ∀ i m H, W i m H →
  (J.stop i H ∧ P H) ∨ (J.go i H ∧ ∃ Nx : Hp → Prop, (∀ H', Nx H' → ∃ m', m' < m ∧ W (i + 1) m' H') ∧ ∀ x H', J.yld i H x H' → g x (wipe σ vs) H' fun σ2 H2 => wipe σ2 vs = wipe σ vs ∧ tt σ2 H2 fun b H3 =>
    if b = true then te σ2 H3 fun y H4 => ∃ acc, H4 D = some (.lst acc) ∧ acc.length < sizeLine ∧ Nx (upd H4 D (.lst (acc ++ [y]))) else Nx H3)
theorem own_wipe {vs : List Nat} {a : Addr} (h : Own (wipeE r vs) (wipe σ vs) a) : Own r σ a := by
  obtain ⟨i, d, h1, h2⟩ := h
  obtain ⟨k1, k2⟩ := wipeE_some (by simp) h1
  exact ⟨i, d, k1, by rw [wipe_get k2] at h2; exact h2⟩
theorem lcm_in {J : It} {ds acc : List BR.D} {ws : List V} {Dd : Addr} {P : Hp → Prop} (hg : SG K g gm is) (ht : ST K EE tt t) (he : SE K EE te em) (hv : ∀ i ∈ is, i ∈ vs) (hD : H0 Dd = none) (p0 : Post K NoO G0 n0 S0 H0 Gc nc Sc Hc)
    (d1 : Gc Dd = none) (d2 : ¬ Live nc Sc Dd) (d3 : Hc Dd = some (.lst ws)) (d4 : RelL K Gc nc acc ws) (ec : ER K Gc nc Sc Hc r σ) (hown : ∀ a, Own r σ a → a ≠ Dd) (it : ItOk K Gc Gc nc ds J) (w1 : WpC K EE Dd (lcGo gm t em (wipeE r vs) ds acc Sc) G0 n0 S0 H0 P) :
    InGoal J g tt te vs σ Dd Hc P := by
  let I : Nat → Hp → Prop := fun i H2 => i ≤ ds.length ∧ ∃ G2 n2 S2 acc ws, Post K NoO G0 n0 S0 H0 G2 n2 S2 H2 ∧ Post K (fun a => a = Dd) Gc nc Sc Hc G2 n2 S2 H2 ∧ G2 Dd = none ∧ ¬ Live n2 S2 Dd ∧ H2 Dd = some (.lst ws) ∧ RelL K G2 n2 acc ws ∧ WpC K EE Dd (lcGo gm t em (wipeE r vs) (ds.drop i) acc S2) G0 n0 S0 H0 P
  refine ⟨fun i m H2 => m = ds.length - i ∧ I i H2, ⟨ds.length, by simp, Nat.zero_le _, Gc, nc, Sc, acc, ws, p0, Post.refl p0.sr, d1, d2, d3, d4, w1⟩, ?_⟩
  rintro i m H2 ⟨rfl, hi2, G2, n2, S2, acc, ws, p2, pc, d1, d2, d3, d4, w2⟩
  obtain ⟨stop, go⟩ := it H2 (pc.sub.trans p2.sr.sub)
  by_cases hlt : i < ds.length
  · refine .inr ?_
    have hd : ds[i]? = some ds[i] := List.getElem?_eq_getElem hlt
    obtain ⟨g1, g2⟩ := go i _ hd
    rw [drop_cons hd] at w2
    refine ⟨g1, I (i + 1), fun H' z => ⟨ds.length - (i + 1), by omega, rfl, z⟩, fun x H3 y => ?_⟩
    have e1 : ER K G2 n2 S2 H2 (wipeE r vs) (wipe σ vs) := (ec.postO pc fun a x z => hown a x z).wipe vs
    have main : ∀ G3, Post K NoO G2 n2 S2 H2 G3 n2 S2 H3 → Rel K G3 n2 ds[i] x → g x (wipe σ vs) H3 fun σ2 H4 => wipe σ2 vs = wipe σ vs ∧ tt σ2 H4 fun b H5 => if b = true then te σ2 H5 fun y H6 => ∃ ac, H6 Dd = some (.lst ac) ∧ ac.length < sizeLine ∧ I (i + 1) (upd H6 Dd (.lst (ac ++ [y]))) else I (i + 1) H5 := by
      intro G3 p3 rl
      obtain ⟨c1, c2, c3⟩ := hidden p3 d3 d1 d2
      have p13 := p2.tr p3
      have pc3 := pc.tr p3
      unfold lcGo at w2
      cases q2 : gm ds[i] (wipeE r vs) with
      | none => simp only [q2] at w2; exact w2.elim
      | some r3 =>
        simp only [q2] at w2
        refine hg G3 n2 S2 H3 _ _ ds[i] x r3 _ p3.sr (e1.post p3) rl q2 fun σ3 e3 o3 wp => ?_
        refine ⟨(wp vs hv).trans (wipe_idem σ vs), ?_⟩
        refine ht G3 n2 S2 H3 r3 σ3 _ p3.sr e3 ?_
        cases q3 : t r3 S2 with
        | ok c S4 =>
          rw [q3] at w2
          intro G4 n4 H4 p4
          obtain ⟨b1, b2, b3⟩ := hidden p4 c3 c1 c2
          cases c with
          | false =>
            simp only [bind_ok, Bool.false_eq_true, if_false] at w2
            exact ⟨hlt, G4, n4, S4, acc, ws, p13.tr p4, pc3.tr p4, b1, b2, b3, RelL.mono (p3.sub.trans p4.sub) (p3.eta.trans p4.eta) _ _ d4, w2⟩
          | true =>
            simp only [bind_ok, if_true] at w2
            refine he G4 n4 S4 H4 r3 σ3 _ p4.sr (e3.post p4) ?_
            cases q4 : em r3 S4 with
            | ok y S5 =>
              rw [q4] at w2
              intro v G5 n5 H5 p5 rl5
              obtain ⟨a1, a2, a3⟩ := hidden p5 b3 b1 b2
              simp only [bind_ok] at w2
              by_cases hl : acc.length < lim
              · rw [if_pos hl] at w2
                have rl6 : RelL K G5 n5 acc ws := RelL.mono ((p3.sub.trans p4.sub).trans p5.sub) ((p3.eta.trans p4.eta).trans p5.eta) _ _ d4
                have p6 : Post K (fun a => a = Dd) G5 n5 S5 H5 G5 n5 S5 (upd H5 Dd (.lst (ws ++ [v]))) := Post.hidW p5.sr a3 a1 a2 rfl
                exact ⟨ws, a3, by rw [← rl6.len, ← lim_eq]; exact hl, hlt, G5, n5, S5, acc ++ [y], ws ++ [v], ((p13.tr p4).tr p5).trans p6 fun a z => .inr (z ▸ hD), ((pc3.tr p4).tr p5).trans p6 fun a z => .inl z, a1, a2, upd_same, rl6.append (.cons rl5 .nil), w2⟩
              · rw [if_neg hl] at w2; exact w2.elim
            | exc x S' => rw [q4] at w2; exact fun c dd G' n' H' p' => w2 c dd G' n' H' ((p13.tr p4).tr p')
            | bad => rw [q4] at w2; exact w2.elim
        | exc x S' => rw [q3] at w2; exact fun c dd G' n' H' p' => w2 c dd G' n' H' (p13.tr p')
        | bad => rw [q3] at w2; exact w2.elim
    rcases g2 x H3 y with ⟨rfl, rl⟩ | ⟨T, us, es, hT, rfl, rfl, ed, rl⟩
    · exact main G2 (Post.refl p2.sr) (Rel.mono pc.sub pc.eta _ _ rl)
    · have p3 : Post K NoO G2 n2 S2 H2 (upd G2 T (.tup us)) n2 S2 (upd H2 T (.tup us)) := Post.frz p2.sr hT
      refine main _ p3 ?_
      rw [ed]
      simp only [Rel]
      exact ⟨T, us, rfl, upd_same, RelL.mono (pc.sub.trans p3.sub) (pc.eta.trans p3.eta) _ _ rl⟩
  · refine .inl ⟨stop i (by omega), ?_⟩
    rw [List.drop_eq_nil_of_le (by omega)] at w2
    exact w2 G2 n2 H2 ws p2 d1 d2 d3 d4
theorem SL.lc2 {st : Bool} {wi wi1 : TI} {im im1 : IM} (hi : SI K EE st wi im) (hg : SG K g gm is) (ht : ST K EE tt t) (hi1 : SI K EE true wi1 im1) (hg1 : SG K g1 gm1 is1) (ht1 : ST K EE tt1 t1) (he : SE K EE te em) (hv : ∀ i ∈ is, i ∈ vs) (hv1 : ∀ i ∈ is1, i ∈ vs1) :
    SL K EE (tLc2 wi g tt wi1 g1 tt1 te vs vs1) (lLc2 im gm t im1 gm1 t1 em vs vs1) := fun G n S H r σ Q s e w => by
  refine hi G n S H r σ _ s e ?_
  unfold lLc2 at w
  cases q : im r S with
  | ok src S1 =>
    rw [q] at w
    intro J G1 n1 H1 p it
    simp only [bind_ok] at w
    cases src with
    | cell k => exact w.elim
    | fix ds =>
      have w1 : WpL K EE (lc2Go gm t im1 gm1 t1 em vs1 (wipeE r vs) ds [] S1) G1 n1 S1 H1 Q := WpL.at p w
      have it' : ItOk K (NL n1 S1 H1) G1 n1 ds J := by
        intro H2 h2
        refine it H2 ?_
        cases st with
        | true => exact (NL.gsub p.sr).trans h2
        | false => exact h2
      have s1 := p.sr
      have er := e.post p
      intro Dd hD
      have gD : G1 Dd = none := by
        cases q : G1 Dd with
        | none => rfl
        | some u => rw [s1.sub Dd u q] at hD; cases hD
      have lD : ¬ Live n1 S1 Dd := fun l => by
        obtain ⟨_, u, z⟩ := s1.live l
        rw [hD] at z; cases z
      let I : Nat → Hp → Prop := fun i H2 => i ≤ ds.length ∧ ∃ G2 n2 S2 acc ws, Post K NoO G1 n1 S1 H1 G2 n2 S2 H2 ∧ G2 Dd = none ∧ ¬ Live n2 S2 Dd ∧ H2 Dd = some (.lst ws) ∧ RelL K G2 n2 acc ws ∧ WpL K EE (lc2Go gm t im1 gm1 t1 em vs1 (wipeE r vs) (ds.drop i) acc S2) G1 n1 S1 H1 Q
      refine ⟨fun i m H2 => m = ds.length - i ∧ I i H2, ⟨ds.length, by simp, Nat.zero_le _, G1, n1, S1, [], [], Post.hid s1 hD, gD, lD, upd_same, .nil, w1⟩, ?_⟩
      rintro i m H2 ⟨rfl, hi2, G2, n2, S2, acc, ws, p2, d1, d2, d3, d4, w2⟩
      obtain ⟨stop, go⟩ := it' H2 ((NL.post p2).trans NL.sub)
      by_cases hlt : i < ds.length
      · refine .inr ?_
        have hd : ds[i]? = some ds[i] := List.getElem?_eq_getElem hlt
        obtain ⟨k1, k2⟩ := go i _ hd
        rw [drop_cons hd] at w2
        refine ⟨k1, I (i + 1), fun H' z => ⟨ds.length - (i + 1), by omega, rfl, z⟩, fun x H3 y => ?_⟩
        have e1 : ER K G1 n1 S1 H1 (wipeE r vs) (wipe σ vs) := er.wipe vs
        have main : ∀ G3, Post K NoO G2 n2 S2 H2 G3 n2 S2 H3 → Rel K G3 n2 ds[i] x → g x (wipe σ vs) H3 fun σ2 H4 => wipe σ2 vs = wipe σ vs ∧ tt σ2 H4 fun b H5 => if b = true then wi1 σ2 H5 fun J1 H6 => InGoal J1 g1 tt1 te vs1 σ2 Dd H6 (I (i + 1)) else I (i + 1) H5 := by
          intro G3 p3 rl
          obtain ⟨c1, c2, c3⟩ := hidden p3 d3 d1 d2
          have p13 := p2.tr p3
          unfold lc2Go at w2
          cases q2 : gm ds[i] (wipeE r vs) with
          | none => simp only [q2] at w2; exact w2.elim
          | some r3 =>
            simp only [q2] at w2
            refine hg G3 n2 S2 H3 _ _ ds[i] x r3 _ p3.sr (e1.post p13) rl q2 fun σ3 e3 o3 wp => ?_
            refine ⟨(wp vs hv).trans (wipe_idem σ vs), ?_⟩
            have ho : ∀ a, Own r3 σ3 a → a ≠ Dd := fun a z => by
              rcases o3 a z with z | z
              · obtain ⟨j, d, z1, z2⟩ := z
                obtain ⟨a', o, y1, _, _, y4, _⟩ := e1.own j d z1
                rw [z2] at y1
                cases y1
                exact fun q => by rw [q, hD] at y4; cases y4
              · exact fun q => by rw [q, c3] at z; cases z
            refine ht G3 n2 S2 H3 r3 σ3 _ p3.sr e3 ?_
            cases q3 : t r3 S2 with
            | ok c S4 =>
              rw [q3] at w2
              intro G4 n4 H4 p4
              obtain ⟨b1, b2, b3⟩ := hidden p4 c3 c1 c2
              cases c with
              | false =>
                simp only [bind_ok, Bool.false_eq_true, if_false] at w2
                exact ⟨hlt, G4, n4, S4, acc, ws, p13.tr p4, b1, b2, b3, RelL.mono (p3.sub.trans p4.sub) (p3.eta.trans p4.eta) _ _ d4, w2⟩
              | true =>
                simp only [bind_ok, if_true] at w2
                refine hi1 G4 n4 S4 H4 r3 σ3 _ p4.sr (e3.post p4) ?_
                cases q4 : im1 r3 S4 with
                | ok src S5 =>
                  rw [q4] at w2
                  simp only [bind_ok] at w2
                  cases src with
                  | cell k => exact w2.elim
                  | fix ds1 =>
                    intro J1 G5 n5 H5 p5 it1
                    rw [if_pos rfl] at it1
                    obtain ⟨a1, a2, a3⟩ := hidden p5 b3 b1 b2
                    simp only [] at w2
                    refine lcm_in hg1 ht1 he hv1 hD ((p13.tr p4).tr p5) a1 a2 a3 (RelL.mono ((p3.sub.trans p4.sub).trans p5.sub) ((p3.eta.trans p4.eta).trans p5.eta) _ _ d4) ((e3.post p4).post p5) ho it1 ?_
                    cases q5 : lcGo gm1 t1 em (wipeE r3 vs1) ds1 acc S5 with
                    | ok acc' S6 =>
                      rw [q5] at w2
                      simp only [bind_ok] at w2
                      exact fun G' n' H' ws' pp x1 x2 x3 x4 => ⟨hlt, G', n', S6, acc', ws', pp, x1, x2, x3, x4, w2⟩
                    | exc x S' => rw [q5] at w2; exact w2
                    | bad => rw [q5] at w2; exact w2
                | exc x S' => rw [q4] at w2; exact fun c dd G' n' H' p' => w2 c dd G' n' H' ((p13.tr p4).tr p')
                | bad => rw [q4] at w2; exact w2.elim
            | exc x S' => rw [q3] at w2; exact fun c dd G' n' H' p' => w2 c dd G' n' H' (p13.tr p')
            | bad => rw [q3] at w2; exact w2.elim
        rcases k2 x H3 y with ⟨rfl, rl⟩ | ⟨T, us, es, hT, rfl, rfl, ed, rl⟩
        · exact main G2 (Post.refl p2.sr) (Rel.mono p2.sub p2.eta _ _ rl)
        · have p3 : Post K NoO G2 n2 S2 H2 (upd G2 T (.tup us)) n2 S2 (upd H2 T (.tup us)) := Post.frz p2.sr hT
          refine main _ p3 ?_
          rw [ed]
          simp only [Rel]
          exact ⟨T, us, rfl, upd_same, RelL.mono (p2.sub.trans p3.sub) (p2.eta.trans p3.eta) _ _ rl⟩
      · refine .inl ⟨stop i (by omega), ?_⟩
        rw [List.drop_eq_nil_of_le (by omega)] at w2
        exact w2 Dd ws G2 n2 H2 p2 hD d1 d2 d3 d4
  | exc x S' => rw [q] at w; exact w
  | bad => rw [q] at w; exact w
end
/-! ### rules for the generator -/
def tOfI (K : PySem.W.Frag) (EE : XQ) (st : Bool) (m : IM) : TI := fun σ H R => ∃ G n S r, SR K G n S H ∧ ER K G n S H r σ ∧ WpI K EE st (m r S) G n S H R
theorem XI.canon {X : Cx} {EE : XQ} {st : Bool} {tg e : Expr} {m : IM} (h : ∃ t, XI X EE st tg e t m) : PI X tg e (tOfI X.K EE st m) := by
  obtain ⟨t, h⟩ := h
  exact ⟨fun pins s σ H R I ⟨G, n, S, r, a, b, c⟩ => h.1.run pins s σ H R I (h.2 G n S H r σ R a b c)⟩
theorem SI.canon {K : PySem.W.Frag} {EE : XQ} {st : Bool} {m : IM} : SI K EE st (tOfI K EE st m) m := fun G n S H r σ R a b c => ⟨G, n, S, r, a, b, c⟩
section
variable {X : Cx} {tg tg1 b b1 : Expr} {wi : TI} {im im1 : IM} {st : Bool} {gm gm1 : GM} {is is1 : List Nat} {um um1 : TM} {m : EM} {pos : Pos}
theorem l_lc2 {elt : Expr} {ifs ifs1 : List Expr} {scope : Scope} {own : List (Str × Nat)} {vs1 : List Nat} (hc : X.calm = true) (hN : X.N.Nodup) (hi : XI X Z0 st tg b wi im) (ok : blkC X.N X.env.scope scope own = true)
    (hg : ∀ s H C cl fp, ∃ g, XG (BlkX X s H scope C cl fp) tg g gm is) (ht : ∀ s H C cl fp, ∃ t, XTs (BlkX X s H scope C cl fp) Z0 ifs t um) (hi1 : ∀ s H C cl fp, ∃ wi, XI (BlkX X s H scope C cl fp) Z0 true tg1 b1 wi im1)
    (hg1 : ∀ s H C cl fp, ∃ g, XG (BlkX X s H scope C cl fp) tg1 g gm1 is1) (ht1 : ∀ s H C cl fp, ∃ t, XTs (BlkX X s H scope C cl fp) Z0 ifs1 t um1) (he : ∀ s H C cl fp, ∃ t, XE (BlkX X s H scope C cl fp) Z0 elt t m)
    (hv : (is.all fun i => decide (i ∈ own.map (·.2))) = true := by rfl) (hv1 : (is1.all fun i => decide (i ∈ vs1)) = true := by rfl) (hv2 : (vs1.all fun i => decide (i ∈ own.map (·.2))) = true := by rfl)
    (hs : ∀ x, foldedSetIterable b X.env x = pure x := by intro _; rfl) (hs1 : ∀ env x, foldedSetIterable b1 env x = pure x := by intro _ _; rfl) :
    XL X Z0 (.ListComp elt [⟨tg, b, ifs, 0⟩, ⟨tg1, b1, ifs1, 0⟩] scope pos) (tLc2 wi (tOfG X.K gm is) (tOfT X.K Z0 um) (tOfI X.K Z0 true im1) (tOfG X.K gm1 is1) (tOfT X.K Z0 um1) (tOfE X.K Z0 m) (own.map (·.2)) vs1) (lLc2 im gm um im1 gm1 um1 m (own.map (·.2)) vs1) :=
  ⟨pe_lc2 hc hN hi.1 (blkOk_by ok) (fun i hi => of_decide_eq_true (List.all_eq_true.mp hv2 i hi)) (fun s H C cl fp => XG.canon (hg s H C cl fp)) (fun s H C cl fp => XTs.canon (ht s H C cl fp)) (fun s H C cl fp => XI.canon (hi1 s H C cl fp)) (fun s H C cl fp => XG.canon (hg1 s H C cl fp)) (fun s H C cl fp => XTs.canon (ht1 s H C cl fp)) (fun s H C cl fp => XE.canon (he s H C cl fp)) hs hs1,
    SL.lc2 hi.2 SG.canon ST.canon SI.canon SG.canon ST.canon SE.canon (fun i hi => of_decide_eq_true (List.all_eq_true.mp hv i hi)) fun i hi => of_decide_eq_true (List.all_eq_true.mp hv1 i hi)⟩
end
/-- a def at no depth: nothing is asked of it -/
theorem defD_bad {P : Program} {w : World} {K : PySem.W.Frag} {mg : Str → Option Value} {base : Heap} {x : Str} {st : Stmt} {f : Addr} {ps : List Str} {k ar : Nat} {m : FM} (F : ∃ fd, FnP K x st f fd) (hmg : mg x = some (.ref f)) (har : ar = ps.length) (hm : ∀ ds S, m ds S = .bad)
    (hb : ∀ (kV doc pm : Value) (an : Option Addr) (cdv ct : Value) (us : List Value), us.length = ps.length → bindArgs (PySem.W.fnOf x x (defArgs st) (defBody st) (defScope st) .none kV doc pm an cdv ct) ⟨us, []⟩ = pure (ps.zip us)) :
    DefOk P w K mg base CX0 x k (sp0 K ar m) := by
  obtain ⟨fd, F⟩ := F
  refine ⟨f, fd, ps, ⟨fun vs H Q E q => by rw [q.1, har], fun A outer s H args us vs Q E _ _ _ _ q => ?_⟩, hmg, F.kp, F.bindsN hb⟩
  obtain ⟨_, G, n, S, ds, _, _, w⟩ := q
  rw [hm] at w
  exact w.elim
/-! ### targets out of a tuple or a list; [x] * n anew -/
def gU (gs : List GM) : GM := fun d r => match d with
  | .tup ds => gAll gs ds r
  | .trn ds => gAll gs ds r
  | .lst ds => gAll gs ds r
  | .scr ds => gAll gs ds r
  | _ => none
def gSeq (K : PySem.W.Frag) (n : Nat) (t : TGs) : TG := fun v σ H Q => gTup K n t v σ H Q ∨ gUnl K n t v σ H Q
theorem gAll_len : ∀ (ms : List GM) (ds : List BR.D) (r r' : BR.Env), gAll ms ds r = some r' → ms.length = ds.length
  | [], [], _, _, _ => rfl
  | [], _ :: _, _, _, h => by cases h
  | _ :: _, [], _, _, h => by cases h
  | m :: ms, d :: ds, r, r', h => by
    have h' : (m d r).bind (gAll ms ds) = some r' := h
    cases q : m d r with
    | none => rw [q] at h'; cases h'
    | some ra =>
      rw [q] at h'
      simp [gAll_len ms ds ra r' h']
theorem SG.seq {K : PySem.W.Frag} {gs : TGs} {ms : List GM} {is : List Nat} {k : Nat} (hs : SGs K gs ms is) (hk : ms.length = k) : SG K (gSeq K k gs) (gU ms) is := fun G n S H r σ d v r' Q s e rl hm c => by
  cases d with
  | tup ds =>
    simp only [Rel] at rl
    obtain ⟨a, vs, rfl, q, rl⟩ := rl
    have q : SqT K G a vs := .inl (.inl q)
    exact .inl ⟨a, vs, rfl, s.sub.st q, by rw [← rl.len, ← gAll_len ms ds r r' hm]; exact hk, hs G n S H r σ ds vs r' Q s e rl hm c⟩
  | trn ds =>
    simp only [Rel] at rl
    obtain ⟨a, vs, rfl, q, rl⟩ := rl
    exact .inl ⟨a, vs, rfl, s.sub.st q.sq, by rw [← rl.len, ← gAll_len ms ds r r' hm]; exact hk, hs G n S H r σ ds vs r' Q s e rl hm c⟩
  | lst ds =>
    simp only [Rel] at rl
    obtain ⟨a, vs, rfl, q, rl⟩ := rl
    exact .inr ⟨a, vs, rfl, s.sub.sl (SqL.of q), by rw [← rl.len, ← gAll_len ms ds r r' hm]; exact hk, hs G n S H r σ ds vs r' Q s e rl hm c⟩
  | scr ds =>
    simp only [Rel] at rl
    obtain ⟨a, vs, rfl, q, rl⟩ := rl
    exact .inr ⟨a, vs, rfl, s.sub.sl q, by rw [← rl.len, ← gAll_len ms ds r r' hm]; exact hk, hs G n S H r σ ds vs r' Q s e rl hm c⟩
  | _ => cases hm
theorem pg_seq {X : Cx} {pos : Pos} {es : List Expr} {k : Nat} {t : TGs} {n : Nat} (hc : X.calm = true) (h : PGs X es t)
    (hn : (assignEach es X.env).length = n) (hst : (assignEach es X.env).findIdx? (·.1) = none) : PG X (.Tuple es k pos) (gSeq X.K n t) :=
  ⟨fun pins s σ H v u Q I r hw => hw.elim (fun x => (pg_tup hc h hn hst).run pins s σ H v u Q I r x) fun x => (pg_unl hc h hn hst).run pins s σ H v u Q I r x⟩
theorem g_u {X : Cx} {pos : Pos} {es : List Expr} {k n : Nat} {gs : TGs} {gms : List GM} {is : List Nat} (hc : X.calm = true) (h : XGs X es gs gms is) (hl : gms.length = n := by rfl) (hn : (assignEach es X.env).length = n := by rfl) (hst : (assignEach es X.env).findIdx? (·.1) = none := by rfl) : XG X (.Tuple es k pos) (gSeq X.K n gs) (gU gms) is := ⟨pg_seq hc h.1 hn hst, SG.seq h.2 hl⟩
def lRep (x y : BR.D) (S : Store) : Res (List BR.D) := match x, y with
  | .lst xs, .int k => if okRep xs.length k = true then .ok (List.replicate k.toNat xs).flatten S else .bad
  | _, _ => .bad
section
variable {X : Cx} {EE : XQ} {K : PySem.W.Frag} {ta tb : TE} {a b : EM}
theorem s_rep (ha : SB K EE ta a) (hb : SB K EE tb b) : SL K EE (tOp rMulA ta tb) (l2 lRep a b) := fun G n S H r σ Q s e w => by
  refine ha G n S H r σ _ s e ?_
  unfold l2 at w
  cases q : a r S with
  | ok d S1 =>
    rw [q] at w
    refine fun v G1 n1 H1 p rl => hb G1 n1 S1 H1 r σ _ p.sr (e.post p) ?_
    simp only [bind_ok] at w
    cases q2 : b r S1 with
    | ok d2 S2 =>
      rw [q2] at w
      intro u G2 n2 H2 p2 rl2
      simp only [bind_ok] at w
      have w2 : WpL K EE (lRep d d2 S2) G2 n2 S2 H2 Q := WpL.at (p.tr p2) w
      cases d <;> cases d2 <;> first | exact (w2 : False).elim | skip
      rename_i xs k
      unfold lRep at w2
      by_cases c : okRep xs.length k = true
      · simp only [if_pos c] at w2
        have c := of_decide_eq_true c
        have hx' := rl.post p2
        have hx2 := RelT.mono (Sub.refl _) NL.sub (Pre.refl _) hx'
        obtain ⟨p, vs, rfl, h1, h2⟩ := hx2
        obtain rfl : u = .int k := by simpa only [RelT, Rel] using rl2
        exact .inr ⟨p, k, vs, rfl, rfl, h1, by have := c.1; omega, by have := c.2.1; omega, by rw [← h2.len, ← lim_eq]; exact c.2.2, WpL.new p2.sr w2 (h2.rep _)⟩
      · simp only [if_neg c] at w2
        exact w2.elim
    | exc x S' => rw [q2] at w; exact fun c dd G' n' H' p' => w c dd G' n' H' (p.tr p')
    | bad => rw [q2] at w; exact w.elim
  | exc x S' => rw [q] at w; exact w
  | bad => rw [q] at w; exact w.elim
theorem l_rep {e1 e2 : Expr} {pos : Pos} (ha : XB X EE e1 ta a) (hb : XB X EE e2 tb b) : XL X EE (.BinOp e1 .Mult e2 pos) (tOp rMulA ta tb) (l2 lRep a b) := ⟨pe_op op_mulA ha.1 hb.1, s_rep ha.2 hb.2⟩
end
end BR

/-! enumerate of lists and tuples. -/
namespace BR
open PySem PySem.Spec PyProof.Rows L2
/-- the tuple at a, each item in a new pair with its place -/
def IteT (K : PySem.W.Frag) (a : Addr) : It :=
  ⟨fun i H => ∃ (xs : List V) (x : V), SqT K H a xs ∧ xs[i]? = some x, fun i H v H' => ∃ T x, v = .ref T ∧ H T = none ∧ H' = upd H T (.tup [.int (i : Nat), x]) ∧ ∀ xs, SqT K H a xs → xs[i]? = some x, fun i H => ∃ xs : List V, SqT K H a xs ∧ xs.length ≤ i⟩
theorem meets_enumB {v : Value} {o : Obj} {H : Heap → Prop} (B : Begins v o H) :
    Meets (Builtin.«enumerate.__new__» ⟨[.type "enumerate", v], []⟩) (fun _ R s => H s.heap ∧
      R (.ok (.ret (.ref (s.heap.push o).objs.size))) { s with heap := (s.heap.push o).push { cls := .type "enumerate", data := .fields #[.none, .bool false, .ref s.heap.objs.size, rawInt 0, .none, .none] } }) :=
  .of_wp fun prog w A R s h => by
    obtain ⟨hp, g, d, tk, os⟩ := s; obtain ⟨h1, h⟩ := h
    have hsub := sub_enumerate
    have q1 : ∀ {A' : Around} {E : Value → Shared → Prop} {Q : Value → Shared → Prop}, Q (.ref hp.objs.size) ⟨hp.push o, g, d, tk, os⟩ → wpAny (model prog w) A' (pyIter v) Q E ⟨hp, g, d, tk, os⟩ :=
      fun q => B.iter prog w _ _ ⟨hp, g, d, tk, os⟩ _ h1 q
    wp_walk using q1
    refine wpAny_stack_any fun st => wpAny_pure ?_
    split
    · rename_i c _ _ _ _ _
      cases (c == Value.type "enumerate")
      · wp_walk using q1
        exact ⟨_, rfl, h⟩
      · wp_walk using q1
        exact ⟨_, rfl, h⟩
    · wp_walk using q1
      exact ⟨_, rfl, h⟩
theorem enumB {prog : Program} {w : World} {A : Around} {E : Value → Shared → Prop} {s : Shared} {v : Value} {o : Obj} {H : Heap → Prop} {Q : Value → Shared → Prop} (B : Begins v o H) (h1 : H s.heap)
    (h : ∀ h', IsEnum h' (s.heap.objs.size + 1) s.heap.objs.size 0 .none → h'.get? s.heap.objs.size = some o → h'.objs.size = s.heap.objs.size + 2 →
      (∀ b o, s.heap.get? b = some o → h'.get? b = some o) → Q (.ref (s.heap.objs.size + 1)) { s with heap := h' }) :
    wpAny (model prog w) A (call (.type "enumerate") [v]) Q E s := by
  refine callType_new F.called_enumerate (by decide) (F.typeCall_enumerate_1 _) (F.newCall_enumerate_1 _) (fun obj => F.args_object_init_2 obj _) F.entry_enumerate_new (meets_enumB B) ⟨h1, ?_⟩
  have hz : (s.heap.push o).objs.size = s.heap.objs.size + 1 := Heap.size_push ..
  show _ ∧ _
  rw [hz]
  have he : IsEnum ((s.heap.push o).push { cls := .type "enumerate", data := .fields #[.none, .bool false, .ref s.heap.objs.size, rawInt 0, .none, .none] }) (s.heap.objs.size + 1) s.heap.objs.size 0 .none := by
    have := Heap.get?_push_size (s.heap.push o) (o := { cls := .type "enumerate", data := .fields #[.none, .bool false, .ref s.heap.objs.size, rawInt 0, .none, .none] }) rfl
    rw [hz] at this; exact this
  refine ⟨⟨_, he, rfl⟩, h _ he (Heap.get?_push_of_some _ (Heap.get?_push_size _ B.free)) (by rw [Heap.size_push, hz]) fun b o x => Heap.get?_push_of_some _ (Heap.get?_push_of_some _ x)⟩
theorem turn_enumT {P : Program} {w : World} {K : PySem.W.Frag} {elts : List Expr} {kk : Nat} {tpos : Pos} (a e it : Addr) :
    Turn P w K (.Tuple elts kk tpos) (IteT K a) [e, it] e (fun i h => (∃ old, IsEnum h e it ((i : Nat) : Int) old) ∧ h.IsTupleIter it a i ∧ (e ≠ it ∧ a ≠ it ∧ e ≠ a)) where
  mem := by simp
  obj := fun i h st b hb => by
    obtain ⟨⟨old, he⟩, ⟨o, ho, hc, hd⟩, _⟩ := st
    have e' : b = e ∨ b = it := by simpa using hb
    rcases e' with z | z
    · rw [z]; exact ⟨_, he, fun v q => nomatch q⟩
    · rw [z]; exact ⟨o, ho, fun v q => by rw [hd] at q; cases q⟩
  keep := fun i h h' st k => let ⟨⟨old, he⟩, hi, hne⟩ := st; ⟨⟨old, k e (by simp) _ he⟩, hi.at fun o q => k it (by simp) o q, hne⟩
  item := by
    intro X hP hw hK hc i pins s σ H E I hf st hg
    subst hP hw hK
    obtain ⟨⟨old, he⟩, hit, hne, hat, hea⟩ := st
    obtain ⟨xs, x, hq, hx⟩ := hg
    obtain ⟨its, rv, p, hz⟩ := I.tuple hq
    obtain ⟨u, hu, ru⟩ := rv.get hx
    have hel : e < s.heap.objs.size := Heap.lt_size he
    have hil : it < s.heap.objs.size := by obtain ⟨_, q, _⟩ := hit; exact Heap.lt_size q
    have hD := Draws.tuple (prog := X.prog) (w := X.w) (A := X.A.in1) (I.ok.hd hc) it a hat its.toArray
    have hi : i < its.toArray.size := by
      have := (List.getElem?_eq_some_iff.mp hu).1
      simpa using this
    refine wpAny_pyNext_enum_itemD hD he ⟨hit, (show s.heap.IsTuple a its.toArray from p)⟩ hi hne (by simp [hne, hea]) fun u' h' tk hu' ho hit' hT hsz hk => ?_
    have eu : u' = u := by
      have h1 : its.toArray[i]? = some u' := hu'
      have h2 : its.toArray[i]? = some u := by simpa using hu
      rw [h2] at h1
      exact (Option.some.inj h1).symm
    subst eu
    refine ⟨_, rfl, wpAny_letOwnedTupleGo_enum (s := { s with heap := h', toks := tk + 1 }) ho fun h'' he' sb => ?_⟩
    have hT2 : h''.get? s.heap.objs.size = some { cls := .type "tuple", data := .seq #[.int i tk, u'] } := (sb.2 _ (Nat.ne_of_gt hel)).trans hT
    have new : ObjOk X.prog X.w (upd H s.heap.objs.size (.tup [.int (i : Nat), x])) h'' s.heap.objs.size (.tup [.int (i : Nat), x]) :=
      ⟨by show 2 ≤ sizeLine; decide, [.int i tk, u'], .cons ⟨_, rfl⟩ (.cons ru .nil), ⟨_, hT2, rfl, _, rfl⟩⟩
    have I1 : Inv X pins σ (upd H s.heap.objs.size (.tup [.int (i : Nat), x])) { s with heap := h'', toks := tk + 1 } :=
      I.turnedNew (ch := [e, it]) (fun b ob hb q => (sb.2 b (fun z => hb (by simp [z]))).trans (hk b ob (fun z => hb (by simp [z])) (fun z => hb (by simp [z])) q)) hf (Nat.le_refl _) new
    refine ⟨.ref s.heap.objs.size, _, I1, rfl, ⟨_, x, rfl, I.hok.fresh (Nat.le_refl _), rfl, fun ys hy => by rw [I.tuple_inj hy hq]; exact hx⟩, ⟨⟨u', ?_⟩, hit'.1.at fun o q => (sb.2 it (Ne.symm hne)).trans q, hne, hat, hea⟩, fun b hb => ?_⟩
    · have e1 : ((i + 1 : Nat) : Int) = (i : Int) + 1 := by omega
      rw [e1]; exact he'
    · have hb' : b < s.heap.objs.size := by
        have e' : b = e ∨ b = it := by simpa using hb
        rcases e' with z | z
        · rw [z]; exact hel
        · rw [z]; exact hil
      rw [upd_ne (Nat.ne_of_lt hb')]
      exact (hf b hb).1
  done := by
    intro X hP hw hK hc i pins s σ H E I hf st hg
    subst hP hw hK
    obtain ⟨⟨old, he⟩, hit, hne, hat, hea⟩ := st
    obtain ⟨xs, hq, hx⟩ := hg
    obtain ⟨its, rv, p, hz⟩ := I.tuple hq
    obtain ⟨f0, f1, f2, f3, f4, f5⟩ := hf it (by simp)
    have hl := rv.length
    have hT : s.TypeIs (.ref e) "enumerate" := ⟨_, he, rfl⟩
    have nd : wpAny (model X.prog X.w) X.A (pyNext (.ref e)) (fun r s' => r = none ∧ ∃ h', Heap.ExtBut it s.heap h' ∧ s' = { s with heap := h' }) E s := by
      unfold pyNext
      refine wpAny_bind (wpAny_attempt (wpAny_callSpecial?_slot (name := Str.ofString "__next__") hT F.slot_enumerate_next (wpAny_call_entry F.slot_enumerate_next hT F.entry_enumerate_next ?_ (F.args_enumerate_next_1 _))))
      show wpAny _ _ (field (.ref e) 2 >>= _) _ _ _
      refine wpAny_bind (wpAny_field he rfl (x := .ref it) rfl ?_)
      refine wpAny_bind (wpAny_nextOf_tuple_end (I.ok.hd hc) hit (show s.heap.IsTuple a its.toArray from p) (by simp; omega) fun h' x he' hx' => ?_)
      obtain ⟨o, ho, hc⟩ := hx'
      refine wpAny_bind (wpAny_isInstance (T := "StopIteration") (b := true) ⟨o, ho, hc⟩ isSubtype_stop ?_)
      exact wpAny_pure ⟨rfl, h', he', rfl⟩
    refine thn nd fun r s' z => ?_
    obtain ⟨rfl, h', eb, rfl⟩ := z
    exact ⟨rfl, I.turned (t' := s.toks) (fun b o hb q => eb b o hb q) f0 f1 f3 f4 f5⟩
  self := fun A i s Q E st h => let ⟨⟨_, he⟩, _⟩ := st; wpAny_pyIter_enum he h
/-! ### what is walked -/
def enumD (xs : List BR.D) : List BR.D := xs.zipIdx.map fun p => BR.D.tup [.int (p.2 : Int), p.1]
def iEnum (a : EM) : IM := fun r S => (a r S).bind fun x S1 => match lstD x with
  | some xs => .ok (.fix (enumD xs)) S1
  | none => (match tupD x with
    | some xs => .ok (.fix (enumD xs)) S1
    | none => .bad)
def iEnumA (K : PySem.W.Frag) (ta : TA) : TI := fun σ H R => ta σ H fun vs H1 => ∃ a, vs = [.ref a] ∧ ((∃ xs, SqL K H1 a xs ∧ R (Ite K a) H1) ∨ (∃ xs, SqT K H1 a xs ∧ R (IteT K a) H1))
theorem pi_enumA {X : Cx} {e : Expr} {ta : TA} {p pos tpos : Pos} {elts : List Expr} {kk : Nat} (hg : Gl X "enumerate") (hm : X.mg "enumerate" = none) (ha : PA X [e] ta) (hs : starEach [e] X.env = [(false, eval e X.env)] := by rfl) :
    PI X (.Tuple elts kk tpos) (.Call (.Name "enumerate" p) [e] [] pos) (iEnumA X.K ta) := by
  refine ⟨fun pins s σ H R I h => ?_⟩
  refine Call_ (ld_blt I hg hm boot_enumerate (PyProof.Rows.callWith_type1 (thn (ha.run pos pins s σ H _ I h) fun us s1 ⟨vs, H1, I1, r1, q1⟩ => ?_) hs rfl))
  obtain ⟨a, ex, q⟩ := q1
  subst ex
  cases r1 with
  | cons r rr =>
    cases rr
    cases r
    have fp : ∀ b ∈ [s1.heap.objs.size + 1, s1.heap.objs.size], FpOk X pins H1 b := fun b hb => by
      have e' : b = s1.heap.objs.size + 1 ∨ b = s1.heap.objs.size := by simpa using hb
      have hle : s1.heap.objs.size ≤ b := by
        rcases e' with z | z
        · rw [z]; exact Nat.le_add_right _ _
        · rw [z]; exact Nat.le_refl _
      exact I1.fpOk hle (I1.hok.fresh hle)
    rcases q with ⟨xs, hq, q⟩ | ⟨xs, hq, q⟩
    · obtain ⟨its, rv, p', hz⟩ := I1.list hq
      refine call_enumerate_list p'.isList fun h' he hit hsz hk => wpAny_pyIter_enum he ?_
      have I2 : Inv X pins σ H1 { s1 with heap := h' } := I1.kept (t' := s1.toks) hk
      exact ⟨s1.heap.objs.size + 1, [s1.heap.objs.size + 1, s1.heap.objs.size], _, _, H1, rfl, I2, turn_enum a (s1.heap.objs.size + 1) s1.heap.objs.size, ⟨⟨.none, he⟩, hit, Nat.succ_ne_self _⟩, fp, q⟩
    · obtain ⟨its, rv, p', hz⟩ := I1.tuple hq
      have ht : s1.heap.IsTuple a its.toArray := p'
      have hal : a < s1.heap.objs.size := by obtain ⟨_, e, _⟩ := ht; exact Heap.lt_size e
      refine enumB (begins_tuple a its.toArray) ht fun h' he hit hsz hk => wpAny_pyIter_enum he ?_
      have I2 : Inv X pins σ H1 { s1 with heap := h' } := I1.kept (t' := s1.toks) hk
      exact ⟨s1.heap.objs.size + 1, [s1.heap.objs.size + 1, s1.heap.objs.size], _, _, H1, rfl, I2, turn_enumT a (s1.heap.objs.size + 1) s1.heap.objs.size, ⟨⟨.none, he⟩, ⟨_, hit, rfl, rfl⟩, Nat.succ_ne_self _, Nat.ne_of_lt hal, Nat.ne_of_gt (Nat.lt_succ_of_lt hal)⟩, fp, q⟩
section
variable {K : PySem.W.Frag} {EE : XQ} {ta : TE} {a : EM} {B G : Hp} {n : List Addr} {p : Addr} {us : List V} {xs : List BR.D}
theorem enumD_at {i : Nat} {d : BR.D} (h : (enumD xs)[i]? = some d) : ∃ x, xs[i]? = some x ∧ d = .tup [.int (i : Int), x] := by
  unfold enumD at h
  rw [List.getElem?_map, List.getElem?_zipIdx] at h
  cases e1 : xs[i]? with
  | none => rw [e1] at h; simp at h
  | some x => rw [e1] at h; simp at h; exact ⟨x, rfl, h.symm⟩
theorem enumD_len : (enumD xs).length = xs.length := by simp [enumD]
theorem ite_ok (h1 : SqL K B p us) (r1 : RelL K G n xs us) : ItOk K B G n (enumD xs) (Ite K p) := fun H2 sb => by
  have q1 := sb.sl h1
  refine ⟨fun i hi => ⟨us, q1, by rw [← r1.len, ← enumD_len]; exact hi⟩, fun i d hd => ?_⟩
  obtain ⟨x, e1, rfl⟩ := enumD_at hd
  obtain ⟨u, a1, a2⟩ := r1.get e1
  refine ⟨⟨us, u, q1, a1⟩, fun z H3 yy => .inr ?_⟩
  obtain ⟨T, x', rfl, hT, rfl, c1⟩ := yy
  have d1 := c1 us q1
  rw [a1] at d1
  cases d1
  exact ⟨T, _, _, hT, rfl, rfl, rfl, .cons rInt (.cons a2 .nil)⟩
theorem iteT_ok (h1 : SqT K B p us) (r1 : RelL K G n xs us) : ItOk K B G n (enumD xs) (IteT K p) := fun H2 sb => by
  have q1 := sb.st h1
  refine ⟨fun i hi => ⟨us, q1, by rw [← r1.len, ← enumD_len]; exact hi⟩, fun i d hd => ?_⟩
  obtain ⟨x, e1, rfl⟩ := enumD_at hd
  obtain ⟨u, a1, a2⟩ := r1.get e1
  refine ⟨⟨us, u, q1, a1⟩, fun z H3 yy => .inr ?_⟩
  obtain ⟨T, x', rfl, hT, rfl, c1⟩ := yy
  have d1 := c1 us q1
  rw [a1] at d1
  cases d1
  exact ⟨T, _, _, hT, rfl, rfl, rfl, .cons rInt (.cons a2 .nil)⟩
theorem SI.enum (ha : SE K EE ta a) : SI K EE true (iEnumA K (tCons ta tNil)) (iEnum a) := fun G n S H r σ R s e w => by
  refine ha G n S H r σ _ s e ?_
  unfold iEnum at w
  cases q1 : a r S with
  | ok x S1 =>
    rw [q1] at w
    intro v G1 n1 H1 p1 rl1
    simp only [bind_ok] at w
    cases m1 : lstD x with
    | some xs =>
      simp only [m1] at w
      obtain ⟨a1, us, rfl, h1, h2⟩ := lstD_rel rl1 m1
      exact ⟨a1, rfl, .inl ⟨us, p1.sr.sub.sl h1, w _ G1 n1 H1 p1 (ite_ok h1 h2)⟩⟩
    | none =>
      simp only [m1] at w
      cases m3 : tupD x with
      | none => simp only [m3] at w; exact w.elim
      | some xs =>
        simp only [m3] at w
        obtain ⟨a1, us, rfl, h1, h2⟩ := tupD_rel rl1 m3
        exact ⟨a1, rfl, .inr ⟨us, p1.sr.sub.st h1, w _ G1 n1 H1 p1 (iteT_ok h1 h2)⟩⟩
  | exc x S' => rw [q1] at w; exact w
  | bad => rw [q1] at w; exact w.elim
theorem i_enum {X : Cx} {e : Expr} {p pos tpos : Pos} {elts : List Expr} {kk : Nat} {ma : EM} (hm : Free X "enumerate") (ha : XE X EE e ta ma) (hg : Gl X "enumerate" := by rfl) (hs : starEach [e] X.env = (false, eval e X.env) :: starEach [] X.env := by rfl) :
    XI X EE true (.Tuple elts kk tpos) (.Call (.Name "enumerate" p) [e] [] pos) (iEnumA X.K (tCons ta tNil)) (iEnum ma) := ⟨pi_enumA hg hm (pa_cons ha.1 pa_nil hs) hs, SI.enum ha.2⟩
end
end BR

/-! Dicts: keys numbers and texts, or tuples of these. -/
namespace BR
open PySem PySem.Spec PyProof.Rows L2
/-! ### tables -/
def keyD : BR.D → Option L2.Key
  | .int i => some (.inl i)
  | .str s => some (.inr s)
  | _ => none
def keysD : List BR.D → Option (List L2.Key)
  | [] => some []
  | d :: ds => match keyD d, keysD ds with
    | some k, some ks => some (k :: ks)
    | _, _ => none
def zPut {κ : Type} [DecidableEq κ] (k : κ) (v : BR.D) (ks : List κ) (vs : List BR.D) : List BR.D := List.zipWith (fun k' x => if k' = k then v else x) ks vs
def putL {κ : Type} [DecidableEq κ] (ks : List κ) (vs : List BR.D) (k : κ) (v : BR.D) : List κ × List BR.D := if (ks.any fun k' => decide (k' = k)) = true then (ks, zPut k v ks vs) else (ks ++ [k], vs ++ [v])
def getL {κ : Type} [DecidableEq κ] : List κ → List BR.D → κ → Option BR.D
  | k' :: ks, v :: vs, k => if k' = k then some v else getL ks vs k
  | _, _, _ => none
def dPutO (d key v : BR.D) : Option BR.D := match d with
  | .dK ks vs => (match keyD key with
    | some k => if ks.length < lim then some (.dK (putL ks vs k v).1 (putL ks vs k v).2) else none
    | none => none)
  | .dT ks vs => (match key with
    | .tup ds => (match keysD ds with
      | some k => if ks.length < lim then some (.dT (putL ks vs k v).1 (putL ks vs k v).2) else none
      | none => none)
    | _ => none)
  | _ => none
def dGetO (d key : BR.D) : Option (Option BR.D) := match d with
  | .dK ks vs => (keyD key).map fun k => getL ks vs k
  | .dT ks vs => (match key with
    | .tup ds => (keysD ds).map fun k => getL ks vs k
    | _ => none)
  | _ => none
section
variable {K : PySem.W.Frag} {EE : XQ} {G G1 : Hp} {n n1 : List Addr} {S S1 : Store} {H H1 : Hp}
theorem keyD_rel {d : BR.D} {k : L2.Key} {v : V} (h : Rel K G n d v) (e : keyD d = some k) : v = kV k := by
  cases d with
  | int i => cases e; simp only [Rel] at h; exact h
  | str i => cases e; simp only [Rel] at h; exact h
  | _ => cases e
theorem keysD_rel : ∀ {ds : List BR.D} {ks : List L2.Key} {vs : List V}, RelL K G n ds vs → keysD ds = some ks → vs = ks.map kV
  | [], ks, vs, h, e => by cases e; simp only [RelL] at h; exact h
  | d :: ds, ks, vs, h, e => by
    simp only [RelL] at h
    obtain ⟨v, r, rfl, h1, h2⟩ := h
    cases q1 : keyD d with
    | none => simp [keysD, q1] at e
    | some k =>
      cases q2 : keysD ds with
      | none => simp [keysD, q1, q2] at e
      | some ks' =>
        simp only [keysD, q1, q2] at e
        cases e
        rw [keyD_rel h1 q1, keysD_rel h2 q2]
        rfl
/-- what a lookup finds -/
def OptR (K : PySem.W.Frag) (G : Hp) (n : List Addr) : Option BR.D → Option V → Prop
  | none, r => r = none
  | some d, r => ∃ v, r = some v ∧ Rel K G n d v
theorem getL_rel {κ : Type} [DecidableEq κ] {k : κ} : ∀ {kvs : List (κ × V)} {ds : List BR.D}, RelL K G n ds (kvs.map (·.2)) → OptR K G n (getL (kvs.map (·.1)) ds k) (valV kvs k)
  | [], ds, h => by cases ds <;> exact rfl
  | p :: kvs, [], h => by simp only [RelL] at h; cases h
  | p :: kvs, d :: ds, h => by
    simp only [RelL, List.map_cons] at h
    obtain ⟨v, r, e, h1, h2⟩ := h
    cases e
    simp only [List.map_cons, getL]
    by_cases q : p.1 = k
    · rw [if_pos q]
      exact ⟨_, valV_pos q, h1⟩
    · rw [if_neg q, valV_neg q]
      exact getL_rel h2
theorem RelL.zput {κ : Type} [DecidableEq κ] {k : κ} {d : BR.D} {v : V} (hv : Rel K G n d v) : ∀ {kvs : List (κ × V)} {ds : List BR.D}, RelL K G n ds (kvs.map (·.2)) → RelL K G n (zPut k d (kvs.map (·.1)) ds) ((kvs.map fun kv => if kv.1 = k then (kv.1, v) else kv).map (·.2))
  | [], ds, h => by
    simp only [List.map_nil] at h
    cases ds with
    | nil => exact .nil
    | cons => simp only [RelL] at h; obtain ⟨_, _, e, _⟩ := h; cases e
  | p :: kvs, [], h => by simp only [RelL] at h; cases h
  | p :: kvs, c :: ds, h => by
    simp only [RelL, List.map_cons] at h
    obtain ⟨u, r, e, h1, h2⟩ := h
    cases e
    simp only [List.map_cons, zPut, List.zipWith_cons_cons]
    by_cases q : p.1 = k
    · rw [if_pos q, if_pos q]
      exact .cons hv (RelL.zput hv h2)
    · rw [if_neg q, if_neg q]
      exact .cons h1 (RelL.zput hv h2)
theorem putL_rel {κ : Type} [DecidableEq κ] {k : κ} {d : BR.D} {v : V} {kvs : List (κ × V)} {ds : List BR.D} (h : RelL K G n ds (kvs.map (·.2))) (hv : Rel K G n d v) :
    (putL (kvs.map (·.1)) ds k d).1 = (putK kvs k v).map (·.1) ∧ RelL K G n (putL (kvs.map (·.1)) ds k d).2 ((putK kvs k v).map (·.2)) := by
  unfold putL putK
  rw [List.any_map]
  by_cases q : (kvs.any fun kv => decide (kv.1 = k)) = true
  · rw [if_pos (show (kvs.any ((fun k' => decide (k' = k)) ∘ fun x => x.fst)) = true from q), if_pos q]
    refine ⟨?_, RelL.zput hv h⟩
    rw [List.map_map]
    refine List.map_congr_left fun p _ => ?_
    simp only [Function.comp]
    split <;> rfl
  · rw [if_neg (show ¬ (kvs.any ((fun k' => decide (k' = k)) ∘ fun x => x.fst)) = true from q), if_neg q]
    refine ⟨by simp, ?_⟩
    rw [List.map_append]
    exact h.append (.cons hv .nil)
/-- a lookup -/
theorem dGet_rel {c key : BR.D} {q : Option BR.D} {a : Addr} {y : V} (h : RelT K G H n c (.ref a)) (hk : Rel K G n key y) (hs : Sub G H) (e : dGetO c key = some q) :
    ∃ r, DGet H a y r ∧ OptR K G n q r := by
  cases c with
  | dK ks ds =>
    obtain ⟨a', kvs, ea, h1, rfl, h2⟩ := h
    cases ea
    cases q1 : keyD key with
    | none => simp [dGetO, q1] at e
    | some k =>
      simp only [dGetO, q1, Option.map_some] at e
      cases e
      obtain rfl := keyD_rel hk q1
      exact ⟨valV kvs k, .k h1, getL_rel h2⟩
  | dT ks ds =>
    obtain ⟨a', kvs, ea, h1, rfl, h2⟩ := h
    cases ea
    cases key with
    | tup es =>
      simp only [Rel] at hk
      obtain ⟨b, us, rfl, hb, hk⟩ := hk
      cases q1 : keysD es with
      | none => simp [dGetO, q1] at e
      | some k =>
        simp only [dGetO, q1, Option.map_some] at e
        cases e
        obtain rfl := keysD_rel hk q1
        exact ⟨valV kvs k, .t h1 (hs _ _ hb), getL_rel h2⟩
    | _ => cases e
  | _ => cases e
/-- a change -/
theorem dPut_rel {c c' key d : BR.D} {o : HO} {a : Addr} {y v : V} (ha : H a = some o) (h : HoR K G n c o) (hk : Rel K G n key y) (hv : Rel K G n d v) (hs : Sub G H) (e : dPutO c key d = some c') :
    ∃ o', DPut H a y v (upd H a o') ∧ HoR K G n c' o' := by
  cases c with
  | dK ks ds =>
    obtain ⟨kvs, rfl, rfl, h2⟩ := h
    cases q1 : keyD key with
    | none => simp [dPutO, q1] at e
    | some k =>
      simp only [dPutO, q1] at e
      by_cases hl : (kvs.map (·.1)).length < lim
      · rw [if_pos hl] at e
        cases e
        obtain rfl := keyD_rel hk q1
        obtain ⟨z1, z2⟩ := putL_rel (k := k) h2 hv
        exact ⟨.dK (putK kvs k v), .k ha (by rw [← lim_eq]; simpa using hl), _, rfl, z1, z2⟩
      · rw [if_neg hl] at e; cases e
  | dT ks ds =>
    obtain ⟨kvs, rfl, rfl, h2⟩ := h
    cases key with
    | tup es =>
      simp only [Rel] at hk
      obtain ⟨b, us, rfl, hb, hk⟩ := hk
      cases q1 : keysD es with
      | none => simp [dPutO, q1] at e
      | some k =>
        simp only [dPutO, q1] at e
        by_cases hl : (kvs.map (·.1)).length < lim
        · rw [if_pos hl] at e
          cases e
          obtain rfl := keysD_rel hk q1
          obtain ⟨z1, z2⟩ := putL_rel (k := k) h2 hv
          exact ⟨.dT (putK kvs k v), .t ha (hs _ _ hb) (by rw [← lim_eq]; simpa using hl), _, rfl, z1, z2⟩
        · rw [if_neg hl] at e; cases e
    | _ => cases e
  | _ => cases e
/-! ### lookups -/
/-- d[k], d.get(k), d.get(k, x) -/
def dAtD (d k : BR.D) (S : Store) : Res BR.D := match (vw S d).bind fun c => dGetO c k with
  | some (some v) => .ok v S
  | _ => .bad
def dGet1 (d k : BR.D) (S : Store) : Res BR.D := match (vw S d).bind fun c => dGetO c k with
  | some (some v) => .ok v S
  | some none => .ok .non S
  | none => .bad
def dGet2 (d k x : BR.D) (S : Store) : Res BR.D := match (vw S d).bind fun c => dGetO c k with
  | some (some v) => .ok v S
  | some none => .ok x S
  | none => .bad
def dInD (k d : BR.D) (S : Store) : Res BR.D := match (vw S d).bind fun c => dGetO c k with
  | some q => .ok (.bl q.isSome) S
  | none => .bad
def dNotInD (k d : BR.D) (S : Store) : Res BR.D := match (vw S d).bind fun c => dGetO c k with
  | some q => .ok (.bl (!q.isSome)) S
  | none => .bad
theorem dLook {d k : BR.D} {q : Option BR.D} {x y : V} (s : SR K G n S H) (h : RelT K G (NL n S H) n d x) (hk : Rel K G n k y) (e : (vw S d).bind (fun c => dGetO c k) = some q) :
    ∃ a r, x = .ref a ∧ DGet H a y r ∧ OptR K G n q r := by
  cases e1 : vw S d with
  | none => rw [e1] at e; cases e
  | some c =>
    rw [e1] at e
    have e : dGetO c k = some q := e
    have hc := vw_rel s h e1
    have : ∃ a, x = .ref a := by
      cases c with
      | dK ks ds => obtain ⟨a, _, rfl, _⟩ := hc; exact ⟨a, rfl⟩
      | dT ks ds => obtain ⟨a, _, rfl, _⟩ := hc; exact ⟨a, rfl⟩
      | _ => cases e
    obtain ⟨a, rfl⟩ := this
    obtain ⟨r, h1, h2⟩ := dGet_rel hc hk s.sub e
    exact ⟨a, r, rfl, h1, h2⟩
variable {te ta tb tc : TE} {m a b c : EM}
theorem SE.dAt (ha : SB K EE ta a) (hb : SE K EE tb b) : SE K EE (tDGet ta tb) (e2 dAtD a b) := fun G n S H r σ Q s e w => by
  refine ha G n S H r σ _ s e ?_
  unfold e2 at w
  cases q1 : a r S with
  | ok d S1 =>
    rw [q1] at w
    intro x G1 n1 H1 p1 rl1
    refine hb G1 n1 S1 H1 r σ _ p1.sr (e.post p1) ?_
    simp only [bind_ok] at w
    cases q2 : b r S1 with
    | ok k S2 =>
      rw [q2] at w
      intro y G2 n2 H2 p2 rl2
      simp only [bind_ok, dAtD] at w
      cases q3 : (vw S2 d).bind (fun c => dGetO c k) with
      | none => simp only [q3] at w; exact w.elim
      | some q => cases q with
        | none => simp only [q3] at w; exact w.elim
        | some v =>
          simp only [q3] at w
          obtain ⟨a1, r1, rfl, h1, v1, rfl, h2⟩ := dLook p2.sr (rl1.post p2) rl2 q3
          exact ⟨a1, v1, rfl, h1, w _ _ _ _ (p1.tr p2) h2⟩
    | exc x S' => rw [q2] at w; exact fun c dd G' n' H' p' => w c dd G' n' H' (p1.tr p')
    | bad => rw [q2] at w; exact w.elim
  | exc x S' => rw [q1] at w; exact w
  | bad => rw [q1] at w; exact w.elim
theorem SE.dIn (hb : SE K EE tb b) (ha : SB K EE ta a) : SE K EE (tDIn tb ta) (e2 dInD b a) := fun G n S H r σ Q s e w => by
  refine hb G n S H r σ _ s e ?_
  unfold e2 at w
  cases q1 : b r S with
  | ok k S1 =>
    rw [q1] at w
    intro y G1 n1 H1 p1 rl1
    refine ha G1 n1 S1 H1 r σ _ p1.sr (e.post p1) ?_
    simp only [bind_ok] at w
    cases q2 : a r S1 with
    | ok d S2 =>
      rw [q2] at w
      intro x G2 n2 H2 p2 rl2
      simp only [bind_ok, dInD] at w
      cases q3 : (vw S2 d).bind (fun c => dGetO c k) with
      | none => simp only [q3] at w; exact w.elim
      | some q =>
        simp only [q3] at w
        obtain ⟨a1, r1, rfl, h1, h2⟩ := dLook p2.sr rl2 (Rel.mono p2.sub p2.eta _ _ rl1) q3
        refine ⟨a1, r1, rfl, h1, ?_⟩
        have : r1.isSome = q.isSome := by
          cases q with
          | none => have h2 : r1 = none := h2; rw [h2]; rfl
          | some _ => obtain ⟨v, h2, _⟩ := h2; rw [h2]; rfl
        rw [this]
        exact w _ _ _ _ (p1.tr p2) rBl
    | exc x S' => rw [q2] at w; exact fun c dd G' n' H' p' => w c dd G' n' H' (p1.tr p')
    | bad => rw [q2] at w; exact w.elim
  | exc x S' => rw [q1] at w; exact w
  | bad => rw [q1] at w; exact w.elim
theorem SE.dNotIn (hb : SE K EE tb b) (ha : SB K EE ta a) : SE K EE (tDNotIn tb ta) (e2 dNotInD b a) := fun G n S H r σ Q s e w => by
  refine hb G n S H r σ _ s e ?_
  unfold e2 at w
  cases q1 : b r S with
  | ok k S1 =>
    rw [q1] at w
    intro y G1 n1 H1 p1 rl1
    refine ha G1 n1 S1 H1 r σ _ p1.sr (e.post p1) ?_
    simp only [bind_ok] at w
    cases q2 : a r S1 with
    | ok d S2 =>
      rw [q2] at w
      intro x G2 n2 H2 p2 rl2
      simp only [bind_ok, dNotInD] at w
      cases q3 : (vw S2 d).bind (fun c => dGetO c k) with
      | none => simp only [q3] at w; exact w.elim
      | some q =>
        simp only [q3] at w
        obtain ⟨a1, r1, rfl, h1, h2⟩ := dLook p2.sr rl2 (Rel.mono p2.sub p2.eta _ _ rl1) q3
        refine ⟨a1, r1, rfl, h1, ?_⟩
        have : r1.isSome = q.isSome := by
          cases q with
          | none => have h2 : r1 = none := h2; rw [h2]; rfl
          | some _ => obtain ⟨v, h2, _⟩ := h2; rw [h2]; rfl
        rw [this]
        exact w _ _ _ _ (p1.tr p2) rBl
    | exc x S' => rw [q2] at w; exact fun c dd G' n' H' p' => w c dd G' n' H' (p1.tr p')
    | bad => rw [q2] at w; exact w.elim
  | exc x S' => rw [q1] at w; exact w
  | bad => rw [q1] at w; exact w.elim
def isDct : BR.D → Bool
  | .dK _ _ => true
  | .dT _ _ => true
  | _ => false
def eGet2 (a b c : EM) : EM := fun r S => (a r S).bind fun d S1 => if ((vw S1 d).map isDct) = some true then (b r S1).bind fun k S2 => (c r S2).bind fun x S3 => dGet2 d k x S3 else .bad
def eGet1 (a b : EM) : EM := fun r S => (a r S).bind fun d S1 => if ((vw S1 d).map isDct) = some true then (b r S1).bind fun k S2 => dGet1 d k S2 else .bad
theorem isD_of {d : BR.D} {x : V} (s : SR K G n S H) (h : RelT K G (NL n S H) n d x) (e : (vw S d).map isDct = some true) : ∃ a, x = .ref a ∧ IsD H a := by
  cases q : vw S d with
  | none => rw [q] at e; cases e
  | some c =>
    rw [q] at e
    have h' := vw_rel s h q
    cases c with
    | dK ks ds => obtain ⟨a, kvs, rfl, h1, _⟩ := h'; exact ⟨a, rfl, .inl ⟨kvs, .inl h1⟩⟩
    | dT ks ds => obtain ⟨a, kvs, rfl, h1, _⟩ := h'; exact ⟨a, rfl, .inr ⟨kvs, .inl h1⟩⟩
    | _ => simp [isDct] at e
theorem SE.dGet2 (ha : SB K EE ta a) (hb : SE K EE tb b) (hc : SE K EE tc c) : SE K EE (tDGet2 ta tb tc) (eGet2 a b c) := fun G n S H r σ Q s e w => by
  refine ha G n S H r σ _ s e ?_
  unfold eGet2 at w
  cases q1 : a r S with
  | ok d S1 =>
    rw [q1] at w
    intro x G1 n1 H1 p1 rl1
    simp only [bind_ok] at w
    by_cases qd : (vw S1 d).map isDct = some true
    · rw [if_pos qd] at w
      obtain ⟨a1, rfl, hd⟩ := isD_of p1.sr rl1 qd
      refine ⟨a1, rfl, hd, ?_⟩
      refine hb G1 n1 S1 H1 r σ _ p1.sr (e.post p1) ?_
      cases q2 : b r S1 with
      | ok k S2 =>
        rw [q2] at w
        intro y G2 n2 H2 p2 rl2
        simp only [bind_ok] at w
        refine hc G2 n2 S2 H2 r σ _ p2.sr ((e.post p1).post p2) ?_
        cases q4 : c r S2 with
        | ok z S3 =>
          rw [q4] at w
          intro u G3 n3 H3 p3 rl3
          simp only [bind_ok, BR.dGet2] at w
          cases q3 : (vw S3 d).bind (fun c => dGetO c k) with
          | none => simp only [q3] at w; exact w.elim
          | some q =>
            obtain ⟨a2, r1, ea, h1, h2⟩ := dLook p3.sr ((rl1.post p2).post p3) (Rel.mono p3.sub p3.eta _ _ rl2) q3
            cases ea
            refine ⟨r1, h1, ?_⟩
            cases q with
            | none =>
              simp only [q3] at w
              have h2 : r1 = none := h2
              rw [h2]
              exact w _ _ _ _ ((p1.tr p2).tr p3) rl3
            | some v =>
              simp only [q3] at w
              obtain ⟨v1, rfl, h2⟩ := h2
              exact w _ _ _ _ ((p1.tr p2).tr p3) h2
        | exc x S' => rw [q4] at w; exact fun c dd G' n' H' p' => w c dd G' n' H' ((p1.tr p2).tr p')
        | bad => rw [q4] at w; exact w.elim
      | exc x S' => rw [q2] at w; exact fun c dd G' n' H' p' => w c dd G' n' H' (p1.tr p')
      | bad => rw [q2] at w; exact w.elim
    · rw [if_neg qd] at w; exact w.elim
  | exc x S' => rw [q1] at w; exact w
  | bad => rw [q1] at w; exact w.elim
end
end BR

/-! Dict displays, also of tuples as keys. -/
namespace BR
open PySem PySem.Spec PyProof.Rows L2
section
variable {prog : Program} {w : World} {A : Around} {E : Value → Shared → Prop} {s : Shared}
theorem subDict0 {pairs : List (Sem Value × Sem Value)} {Q : Addr → Shared → Prop} (hlen : pairs.length ≤ 15)
    (h : wpAny (model prog w) A (evalPairs pairs) (fun vs s₁ => wpAny (model prog w) A (forIn vs PUnit.unit fun (x : Value × Value) (_ : PUnit) => (do dictSet s.heap.objs.size x.1 x.2; pure (ForInStep.yield PUnit.unit) : Sem (ForInStep PUnit))) (fun _ s' => Q s.heap.objs.size s') E s₁) E
      { s with heap := s.heap.push { cls := .type "dict", data := .dict #[] } }) :
    wpAny (model prog w) A (subDict pairs) Q E s := by
  unfold subDict
  refine wpAny_bind (wpAny_alloc ?_)
  refine wpAny_bind (wpAny_holding ?_)
  rw [if_pos hlen]
  refine wpAny_bind (wpAny_mono h (fun vs s₁ h₁ => ?_) fun _ _ e => e)
  refine wpAny_holding ?_
  exact wpAny_bind (wpAny_mono h₁ (fun _ _ z => wpAny_pure (wpAny_pure z)) fun _ _ e => e)
theorem dict0 {env : PySem.Env} {keys : List (Option Expr)} {values : List Expr} {pos : Pos} {Q : Value → Shared → Prop}
    (hall : keys.all (·.isSome) = true) (hl : keys.length = values.length) (h0 : keys ≠ []) (hlen : keys.length ≤ 15)
    (h : wpAny (model prog w) A (evalPairs (pairTrees keys values env pos)) (fun vs s₁ => wpAny (model prog w) A (forIn vs PUnit.unit fun (x : Value × Value) (_ : PUnit) => (do dictSet s.heap.objs.size x.1 x.2; pure (ForInStep.yield PUnit.unit) : Sem (ForInStep PUnit))) (fun _ s' => Q (.ref s.heap.objs.size) s') E s₁) E
      { s with heap := s.heap.push { cls := .type "dict", data := .dict #[] } }) :
    wpAny (model prog w) A (eval (.Dict keys values pos) env) Q E s := by
  have hn := pairTrees_length keys values env pos hall hl
  have hne : pairTrees keys values env pos ≠ [] := fun he => by
    rw [he] at hn
    exact h0 (List.length_eq_zero_iff.mp hn.symm)
  rw [arm_eval_Dict, zip_pairTrees keys values env pos hall hl, dictDisplay_pairs _ hne (by rw [hn]; omega)]
  exact wpAny_bind (wpAny_standAt (wpAny_bind (subDict0 (Q := fun d s' => wpAny (model prog w) A (pure (Value.ref d)) Q E s') (by rw [hn]; exact hlen)
    (wpAny_mono h (fun vs s₁ h₁ => wpAny_mono h₁ (fun _ _ z => wpAny_pure z) fun _ _ e => e) fun _ _ e => e))))
end
section
variable {X : Cx} {pins : List (Addr × Obj)} {σ : L2.St} {E : Value → Shared → Prop}
theorem d_dictSetT {H : Hp} {s : Shared} {D b : Addr} {kvs : List (List L2.Key × V)} {k : List L2.Key} {v : V} {r : Value} {Q : Unit → Shared → Prop} (hu : X.A.units + 1 < cLine) (I : Inv X pins σ H s) (e : H D = some (.dT kvs)) (hb : H b = some (.tup (k.map kV))) (l : kvs.length < sizeLine)
    (rv : RelV v r) (h : ∀ s', Inv X pins σ (upd H D (.dT (putK kvs k v))) s' → Q () s') : wpAny (model X.prog X.w) X.A (dictSet D (.ref b) r) Q E s := by
  obtain ⟨z, hd, xs, rel, dd⟩ := dt_of I.hok e
  have hz : xs.length ≤ sizeLine := by rw [← Paired.length rel]; exact z
  have hl : (putK kvs k v).length ≤ sizeLine := by have := length_putK kvs k v; omega
  refine wpAny_dictSet_heap (hsz := hz) (show X.A.units < cLine by omega) (key_of I.hok hb) dd fun h' dd' hs => h _ ?_
  obtain ⟨q, es, ep, hq, h2, h3, h4, _, h5⟩ := dd'
  refine d_write I (by rw [e]; exact True.intro) hs ⟨q, hq⟩ ⟨hl, hd, _, (rel.put k hb rv).keeps fun c ys ec => ?_, q, es, ep, hq, h2, h3, h4, h5⟩
  rw [upd_ne (ne_of ec e (fun z => nomatch z))]
  exact ec
def mergeT (kvs : List (List L2.Key × V)) (more : List (List L2.Key × Addr × V)) : List (List L2.Key × V) := more.foldl (fun acc z => putK acc z.1 z.2.2) kvs
theorem storeT {D : Addr} (hu : X.A.units + 1 < cLine) : ∀ (kbs : List (List L2.Key × Addr × V)) (vs : List (Value × Value)) (acc : List (List L2.Key × V)) (s : Shared) (H : Hp) (Q : PUnit → Shared → Prop),
    VV (kbs.map fun z => (V.ref z.2.1, z.2.2)) vs → Inv X pins σ H s → H D = some (.dT acc) → (∀ z ∈ kbs, H z.2.1 = some (.tup (z.1.map kV))) → acc.length + kbs.length ≤ sizeLine → (∀ s', Inv X pins σ (upd H D (.dT (mergeT acc kbs))) s' → Q PUnit.unit s') →
    wpAny (model X.prog X.w) X.A (forIn vs PUnit.unit fun (x : Value × Value) (_ : PUnit) => (do dictSet D x.1 x.2; pure (ForInStep.yield PUnit.unit) : Sem (ForInStep PUnit))) Q E s
  | [], _, acc, s, H, Q, r, I, e, _, _, q => by
    rw [List.map_nil] at r
    cases r
    rw [List.forIn_nil]
    refine wpAny_pure (q s ?_)
    have : upd H D (.dT (mergeT acc [])) = H := by
      funext b
      by_cases z : b = D
      · subst z; rw [upd_same]; exact e.symm
      · rw [upd_ne z]
    rw [this]
    exact I
  | z :: kbs, _, acc, s, H, Q, r, I, e, hk, l, q => by
    rw [List.map_cons] at r
    cases r with
    | @cons a b as bs h t =>
      obtain ⟨b1, b2⟩ := b
      obtain ⟨h1, h2⟩ := h
      cases (show b1 = Value.ref z.2.1 from h1)
      rw [List.length_cons] at l
      rw [List.forIn_cons]
      refine wpAny_bind (wpAny_bind (d_dictSetT hu I e (hk z List.mem_cons_self) (by omega) h2 fun s1 I1 => wpAny_pure ?_))
      refine storeT hu kbs _ (putK acc z.1 z.2.2) s1 _ Q t I1 upd_same (fun z' hz => ?_) (by have := length_putK acc z.1 z.2.2; omega) fun s' I' => q s' ?_
      · have := hk z' (List.mem_cons_of_mem _ hz)
        rw [upd_ne (ne_of this e (fun z => nomatch z))]
        exact this
      · rw [upd_upd] at I'
        exact I'
/-- {(..): v, ..}: the new dict stands empty while the pairs are made -/
def tDispT (trs : List (TE × TE)) : TE := fun σ H Q => ∀ p, H p = none → tPairs trs σ (upd H p (.dT [])) fun ps H2 => H2 p = some (.dT []) ∧ ∃ kbs : List (List L2.Key × Addr × V), ps = kbs.map (fun z => (V.ref z.2.1, z.2.2)) ∧ (∀ z ∈ kbs, H2 z.2.1 = some (.tup (z.1.map kV))) ∧ kbs.length ≤ 15 ∧ Q (.ref p) (upd H2 p (.dT (mergeT [] kbs)))
theorem pe_dispT {pos : Pos} {keys : List (Option Expr)} {values : List Expr} {trs : List (TE × TE)} (hu : X.A.units + 1 < cLine) (h : PPs X pos keys values trs) (hall : keys.all (·.isSome) = true) (hl : keys.length = values.length) (h0 : keys ≠ [])
    (h15 : keys.length ≤ 15) : PE X (.Dict keys values pos) (tDispT trs) := by
  refine ⟨fun pins s σ H Q I q => ?_⟩
  have hn := I.hok.fresh (Nat.le_refl s.heap.objs.size)
  have I1 := I.laid (a := s.heap.objs.size) (o := .dT []) (h' := s.heap.push { cls := .type "dict", data := .dict #[] }) (t' := s.toks) (fun _ _ q => Heap.get?_push_of_some _ q) (Nat.le_refl _) (dt_empty s.heap I.big)
  refine dict0 hall hl h0 h15 (thn (h.run pins _ σ _ _ I1 (q _ hn)) fun ws s2 ⟨ps, H2, I2, rel, e, kbs, ep, hk, lk, q2⟩ => ?_)
  subst ep
  exact storeT hu kbs ws [] s2 H2 _ rel I2 e hk (by rw [sizeLine_eq, List.length_nil]; omega) fun s' I' => ⟨.ref s.heap.objs.size, _, I', rfl, q2⟩
end
/-! ### mirrors -/
def pairsM : List (EM × EM) → BR.Env → Store → Res (List (BR.D × BR.D))
  | [], _, S => .ok [] S
  | (a, b) :: ms, r, S => (a r S).bind fun x S1 => (b r S1).bind fun y S2 => (pairsM ms r S2).bind fun ps S3 => .ok ((x, y) :: ps) S3
def foldPut : BR.D → List (BR.D × BR.D) → Option BR.D
  | c, [] => some c
  | c, (k, v) :: ps => (dPutO c k v).bind fun c' => foldPut c' ps
/-- {k: v, ..}: new; of numbers and texts, of tuples -/
def eDisp (e : BR.D) (ms : List (EM × EM)) : EM := fun r S => (pairsM ms r S).bind fun ps S1 => if ps.length ≤ 15 then (match foldPut e ps with
  | some c => .ok c S1
  | none => .bad) else .bad
abbrev eDispK : List (EM × EM) → EM := eDisp (.dK [] [])
abbrev eDispT : List (EM × EM) → EM := eDisp (.dT [] [])
section
variable (K : PySem.W.Frag) (EE : XQ)
def RelP (G : Hp) (n : List Addr) (ps : List (BR.D × BR.D)) (vs : List (V × V)) : Prop := RelL K G n (ps.map (·.1)) (vs.map (·.1)) ∧ RelL K G n (ps.map (·.2)) (vs.map (·.2))
def WpP (x : Res (List (BR.D × BR.D))) (G : Hp) (n : List Addr) (S : Store) (H : Hp) (Q : List (V × V) → Hp → Prop) : Prop := match x with
  | .ok ps S' => ∀ vs G' n' H', Post K NoO G n S H G' n' S' H' → RelP K G' n' ps vs → Q vs H'
  | .exc x S' => ∀ c dd G' n' H', Post K NoO G n S H G' n' S' H' → ExcR x c dd H' → EE x c dd H'
  | .bad => False
def SP (trs : List (TE × TE)) (ms : List (EM × EM)) : Prop := ∀ G n S H r σ Q, SR K G n S H → ER K G n S H r σ → WpP K EE (pairsM ms r S) G n S H Q → tPairs trs σ H Q
/-- a new object that nothing else knows -/
def WpN (x : Res BR.D) (G : Hp) (n : List Addr) (S : Store) (H : Hp) (Q : VK) : Prop := match x with
  | .ok d S' => ∀ p o G' n' H', Post K NoO G n S H G' n' S' H' → H p = none → G' p = none → ¬ Live n' S' p → H' p = some o → HoR K G' n' d o → Q (.ref p) H'
  | .exc x S' => ∀ c dd G' n' H', Post K NoO G n S H G' n' S' H' → ExcR x c dd H' → EE x c dd H'
  | .bad => False
def SN (te : TE) (m : EM) : Prop := ∀ G n S H r σ Q, SR K G n S H → ER K G n S H r σ → WpN K EE (m r S) G n S H Q → te σ H Q
end
section
variable {K : PySem.W.Frag} {EE : XQ} {G G1 : Hp} {n n1 : List Addr} {S S1 : Store} {H H1 : Hp} {te ta tb : TE} {m a b : EM} {trs : List (TE × TE)} {ms : List (EM × EM)}
theorem SP.nil : SP K EE [] [] := fun G n S H r σ Q s e w => w [] G n H (Post.refl s) ⟨.nil, .nil⟩
theorem SP.cons (ha : SE K EE ta a) (hb : SE K EE tb b) (h : SP K EE trs ms) : SP K EE ((ta, tb) :: trs) ((a, b) :: ms) := fun G n S H r σ Q s e w => by
  refine ha G n S H r σ _ s e ?_
  simp only [pairsM] at w
  cases q1 : a r S with
  | ok x S1 =>
    rw [q1] at w
    intro v G1 n1 H1 p1 rl1
    refine hb G1 n1 S1 H1 r σ _ p1.sr (e.post p1) ?_
    simp only [bind_ok] at w
    cases q2 : b r S1 with
    | ok y S2 =>
      rw [q2] at w
      intro u G2 n2 H2 p2 rl2
      refine h G2 n2 S2 H2 r σ _ p2.sr ((e.post p1).post p2) ?_
      simp only [bind_ok] at w
      cases q3 : pairsM ms r S2 with
      | ok ps S3 =>
        rw [q3] at w
        intro vs G3 n3 H3 p3 rl3
        exact w _ G3 n3 H3 ((p1.tr p2).tr p3) ⟨.cons (Rel.mono (p2.sub.trans p3.sub) (p2.eta.trans p3.eta) _ _ rl1) rl3.1, .cons (Rel.mono p3.sub p3.eta _ _ rl2) rl3.2⟩
      | exc x S' => rw [q3] at w; exact fun c dd G' n' H' p' => w c dd G' n' H' ((p1.tr p2).tr p')
      | bad => rw [q3] at w; exact w.elim
    | exc x S' => rw [q2] at w; exact fun c dd G' n' H' p' => w c dd G' n' H' (p1.tr p')
    | bad => rw [q2] at w; exact w.elim
  | exc x S' => rw [q1] at w; exact w
  | bad => rw [q1] at w; exact w.elim
/-- tables that are put together -/
theorem foldK_rel : ∀ {ps : List (BR.D × BR.D)} {vs : List (V × V)} {ks : List L2.Key} {ds : List BR.D} {kvs : List (L2.Key × V)} {c : BR.D}, RelP K G n ps vs → ks = kvs.map (·.1) → RelL K G n ds (kvs.map (·.2)) → foldPut (.dK ks ds) ps = some c →
    ∃ more : List (L2.Key × V), vs = more.map (fun kv => (kV kv.1, kv.2)) ∧ more.length = ps.length ∧ HoR K G n c (.dK (more.foldl (fun acc kv => putK acc kv.1 kv.2) kvs))
  | [], vs, ks, ds, kvs, c, h, hk, hd, e => by
    cases e
    have h1 := h.1
    simp only [List.map_nil, RelL] at h1
    obtain rfl := List.map_eq_nil_iff.mp h1
    exact ⟨[], rfl, rfl, _, rfl, hk, hd⟩
  | p :: ps, vs, ks, ds, kvs, c, h, hk, hd, e => by
    obtain ⟨h1, h2⟩ := h
    cases vs with
    | nil => simp only [List.map_cons, List.map_nil, RelL] at h1; obtain ⟨_, _, e', _⟩ := h1; cases e'
    | cons v vs =>
      simp only [List.map_cons, RelL] at h1 h2
      obtain ⟨_, _, e1, r1, h1⟩ := h1
      cases e1
      obtain ⟨_, _, e2, r2, h2⟩ := h2
      cases e2
      simp only [foldPut] at e
      cases q1 : keyD p.1 with
      | none => simp [dPutO, q1] at e
      | some k =>
        simp only [dPutO, q1] at e
        by_cases hl : ks.length < lim
        · rw [if_pos hl] at e
          simp only [Option.bind_some] at e
          subst hk
          obtain ⟨z1, z2⟩ := putL_rel (k := k) hd r2
          obtain ⟨more, m1, m2, m3⟩ := foldK_rel (ps := ps) (vs := vs) ⟨h1, h2⟩ z1 z2 e
          have kv := keyD_rel r1 q1
          exact ⟨(k, v.2) :: more, by rw [m1, List.map_cons, ← kv], by simp [m2], m3⟩
        · rw [if_neg hl] at e; cases e
theorem foldT_rel (hs : Sub G H) : ∀ {ps : List (BR.D × BR.D)} {vs : List (V × V)} {ks : List (List L2.Key)} {ds : List BR.D} {kvs : List (List L2.Key × V)} {c : BR.D}, RelP K G n ps vs → ks = kvs.map (·.1) → RelL K G n ds (kvs.map (·.2)) → foldPut (.dT ks ds) ps = some c →
    ∃ more : List (List L2.Key × Addr × V), vs = more.map (fun z => (V.ref z.2.1, z.2.2)) ∧ more.length = ps.length ∧ (∀ z ∈ more, H z.2.1 = some (.tup (z.1.map kV))) ∧ HoR K G n c (.dT (mergeT kvs more))
  | [], vs, ks, ds, kvs, c, h, hk, hd, e => by
    cases e
    have h1 := h.1
    simp only [List.map_nil, RelL] at h1
    obtain rfl := List.map_eq_nil_iff.mp h1
    exact ⟨[], rfl, rfl, by simp, _, rfl, hk, hd⟩
  | p :: ps, vs, ks, ds, kvs, c, h, hk, hd, e => by
    obtain ⟨h1, h2⟩ := h
    cases vs with
    | nil => simp only [List.map_cons, List.map_nil, RelL] at h1; obtain ⟨_, _, e', _⟩ := h1; cases e'
    | cons v vs =>
      simp only [List.map_cons, RelL] at h1 h2
      obtain ⟨_, _, e1, r1, h1⟩ := h1
      cases e1
      obtain ⟨_, _, e2, r2, h2⟩ := h2
      cases e2
      simp only [foldPut] at e
      obtain ⟨p1, p2⟩ := p
      cases p1 with
      | tup es =>
        simp only [Rel] at r1
        obtain ⟨b, us, eb, hb, hk1⟩ := r1
        cases q1 : keysD es with
        | none => simp [dPutO, q1] at e
        | some k =>
          simp only [dPutO, q1] at e
          by_cases hl : ks.length < lim
          · rw [if_pos hl] at e
            simp only [Option.bind_some] at e
            subst hk
            obtain ⟨z1, z2⟩ := putL_rel (k := k) hd r2
            obtain ⟨more, m1, m2, m3, m4⟩ := foldT_rel hs (ps := ps) (vs := vs) ⟨h1, h2⟩ z1 z2 e
            obtain rfl := keysD_rel hk1 q1
            refine ⟨(k, b, v.2) :: more, by rw [m1, List.map_cons, ← eb], by simp [m2], fun z hz => ?_, m4⟩
            rcases List.mem_cons.mp hz with rfl | hz
            · exact hs _ _ hb
            · exact m3 z hz
          · rw [if_neg hl] at e; cases e
      | _ => cases e
theorem SN.dispK (h : SP K EE trs ms) : SN K EE (tDisp trs) (eDispK ms) := fun G n S H r σ Q s e w => fun p hp => by
  have gp : G p = none := by
    cases q : G p with
    | none => rfl
    | some u => rw [s.sub p u q] at hp; cases hp
  have nl : ¬ Live n S p := fun l => by obtain ⟨_, u, q⟩ := s.live l; rw [hp] at q; cases q
  have p0 := Post.hid (o := .dK []) s hp
  have e0 := e.post p0
  refine h G n S (upd H p (.dK [])) r σ _ p0.sr e0 ?_
  unfold eDispK eDisp at w
  cases q1 : pairsM ms r S with
  | ok ps S1 =>
    rw [q1] at w
    intro vs G1 n1 H1 p1 rl
    simp only [bind_ok] at w
    by_cases hl : ps.length ≤ 15
    · rw [if_pos hl] at w
      cases q2 : foldPut (.dK [] []) ps with
      | none => simp only [q2] at w; exact w.elim
      | some c =>
        simp only [q2] at w
        obtain ⟨g1, g2, g3⟩ := hidden p1 (upd_same (o := .dK [])) gp nl
        obtain ⟨more, m1, m2, m3⟩ := foldK_rel (kvs := []) rl rfl .nil q2
        refine ⟨g3, more, m1, by rw [m2]; exact hl, ?_⟩
        have pw : Post K (fun a => a = p) G1 n1 S1 H1 G1 n1 S1 (upd H1 p (.dK (mergeK [] more))) := Post.hidW p1.sr g3 g1 g2 rfl
        exact w p _ G1 n1 _ ((p0.tr p1).trans pw fun a z => .inr (z ▸ hp)) hp g1 g2 upd_same m3
    · rw [if_neg hl] at w; exact w.elim
  | exc x S' => rw [q1] at w; exact fun c dd G' n' H' p' => w c dd G' n' H' (p0.tr p')
  | bad => rw [q1] at w; exact w.elim
theorem SN.dispT (h : SP K EE trs ms) : SN K EE (tDispT trs) (eDispT ms) := fun G n S H r σ Q s e w => fun p hp => by
  have gp : G p = none := by
    cases q : G p with
    | none => rfl
    | some u => rw [s.sub p u q] at hp; cases hp
  have nl : ¬ Live n S p := fun l => by obtain ⟨_, u, q⟩ := s.live l; rw [hp] at q; cases q
  have p0 := Post.hid (o := .dT []) s hp
  have e0 := e.post p0
  refine h G n S (upd H p (.dT [])) r σ _ p0.sr e0 ?_
  unfold eDispT eDisp at w
  cases q1 : pairsM ms r S with
  | ok ps S1 =>
    rw [q1] at w
    intro vs G1 n1 H1 p1 rl
    simp only [bind_ok] at w
    by_cases hl : ps.length ≤ 15
    · rw [if_pos hl] at w
      cases q2 : foldPut (.dT [] []) ps with
      | none => simp only [q2] at w; exact w.elim
      | some c =>
        simp only [q2] at w
        obtain ⟨g1, g2, g3⟩ := hidden p1 (upd_same (o := .dT [])) gp nl
        obtain ⟨more, m1, m2, m3, m4⟩ := foldT_rel p1.sr.sub (kvs := []) rl rfl .nil q2
        refine ⟨g3, more, m1, m3, by rw [m2]; exact hl, ?_⟩
        have pw : Post K (fun a => a = p) G1 n1 S1 H1 G1 n1 S1 (upd H1 p (.dT (mergeT [] more))) := Post.hidW p1.sr g3 g1 g2 rfl
        exact w p _ G1 n1 _ ((p0.tr p1).trans pw fun a z => .inr (z ▸ hp)) hp g1 g2 upd_same m4
    · rw [if_neg hl] at w; exact w.elim
  | exc x S' => rw [q1] at w; exact fun c dd G' n' H' p' => w c dd G' n' H' (p0.tr p')
  | bad => rw [q1] at w; exact w.elim
/-- {} -/
theorem SN.newK : SN K EE tDNewK (eC (.dK [] [])) := fun G n S H r σ Q s e w => fun p hp => by
  have gp : G p = none := by
    cases q : G p with
    | none => rfl
    | some u => rw [s.sub p u q] at hp; cases hp
  exact w p _ G n _ (Post.hid s hp) hp gp (fun l => by obtain ⟨_, u, q⟩ := s.live l; rw [hp] at q; cases q) upd_same ⟨_, rfl, rfl, .nil⟩
theorem SN.newT : SN K EE tDNewT (eC (.dT [] [])) := fun G n S H r σ Q s e w => fun p hp => by
  have gp : G p = none := by
    cases q : G p with
    | none => rfl
    | some u => rw [s.sub p u q] at hp; cases hp
  exact w p _ G n _ (Post.hid s hp) hp gp (fun l => by obtain ⟨_, u, q⟩ := s.live l; rw [hp] at q; cases q) upd_same ⟨_, rfl, rfl, .nil⟩
/-- kept from now on, changed no more -/
theorem HoR.rel {d : BR.D} {o : HO} {p : Addr} (h : HoR K G n d o) (hp : G p = some o) : Rel K G n d (.ref p) := by
  cases d with
  | lst ds => obtain ⟨vs, rfl, q⟩ := h; simp only [Rel]; exact ⟨p, vs, rfl, hp, q⟩
  | dK ks ds => obtain ⟨vs, rfl, q1, q⟩ := h; simp only [Rel]; exact ⟨p, vs, rfl, hp, q1, q⟩
  | dT ks ds => obtain ⟨vs, rfl, q1, q⟩ := h; simp only [Rel]; exact ⟨p, vs, rfl, hp, q1, q⟩
  | _ => exact h.elim
theorem SN.frz (h : SN K EE te m) : SE K EE te m := fun G n S H r σ Q s e w => by
  refine h G n S H r σ _ s e ?_
  cases q : m r S with
  | ok d S1 =>
    rw [q] at w
    intro p o G1 n1 H1 p1 hn hg hl hp hr
    have pk : Post K (fun a => a = p) G1 n1 S1 H1 (upd G1 p o) n1 S1 H1 := Post.keep p1.sr hp hg hl rfl
    have s1 : Sub G1 (upd G1 p o) := pk.sub
    exact w _ _ n1 H1 (p1.trans pk fun a z => .inr (z ▸ hn)) (HoR.rel (HoR.mono s1 (Pre.refl _) _ _ hr) upd_same)
  | exc x S' => rw [q] at w; exact w
  | bad => rw [q] at w; exact w
/-- shared from now on -/
def eNewD (m : EM) : EM := fun r S => (m r S).bind fun d S1 => .ok (.ref S1.length) (S1 ++ [some d])
theorem SN.new (h : SN K EE te m) : SE K EE te (eNewD m) := fun G n S H r σ Q s e w => by
  refine h G n S H r σ _ s e ?_
  unfold eNewD at w
  cases q : m r S with
  | ok d S1 =>
    rw [q] at w
    intro p o G1 n1 H1 p1 hn hg hl hp hr
    simp only [bind_ok] at w
    have p2 := Post.addCell (d := d) p1 hn hp hg hl hr
    exact w _ _ _ _ p2 (by
      simp only [Rel]
      exact ⟨p, rfl, by rw [← p1.sr.len, List.getElem?_append_right (Nat.le_refl _)]; simp⟩)
  | exc x S' => rw [q] at w; exact w
  | bad => rw [q] at w; exact w
/-- name = a new dict of one's own -/
def mOwnN (i : Nat) (m : EM) : SM := fun r S => (m r S).bind fun d S1 => .ok (.nx (r.set i (.own d))) S1
theorem SS.ownN {i : Nat} (hl : SN K EE te m) : SS K EE (tAsg te (gName i)) (mOwnN i m) := fun G n S H r σ D s e w => by
  refine hl G n S H r σ _ s e ?_
  unfold mOwnN at w
  cases q : m r S with
  | ok d S1 =>
    rw [q] at w
    intro b o G1 n1 H1 p hn hg hl hb rl
    have nx : ¬ Own r σ b := fun ⟨j, c, z1, z2⟩ => by
      obtain ⟨a, o, g1, _, _, g4, _⟩ := e.own j c z1
      rw [z2] at g1; cases g1
      rw [hn] at g4; cases g4
    exact w G1 n1 H1 _ p.own ((e.post p).setOwn i hg hl hb rl nx) (OwnSub.setOwn i hn)
  | exc x S' => rw [q] at w; exact fun c dd G' n' H' p => w c dd G' n' H' p.own
  | bad => rw [q] at w; exact w
/-- name[k] = e of one's own dict -/
def mPutV (x : Nat) (k e : EM) : SM := fun r S => (e r S).bind fun v S1 => match r[x]? with
  | some (.own d) => (k r S1).bind fun y S2 => (match dPutO d y v with
    | some d' => .ok (.nx (r.set x (.own d'))) S2
    | none => .bad)
  | _ => .bad
theorem SS.putV {x : Nat} {ti : TE} {i : EM} (he : SE K EE te m) (hi : SE K EE ti i) : SS K EE (sDPut (tVar x) ti te) (mPutV x i m) := fun G n S H r σ D s e w => by
  refine he G n S H r σ _ s e ?_
  unfold mPutV at w
  cases q : m r S with
  | ok d S1 =>
    rw [q] at w
    intro v G1 n1 H1 p rl
    simp only [bind_ok] at w
    cases q1 : r[x]? with
    | none => rw [q1] at w; exact w.elim
    | some sl => cases sl with
      | no => rw [q1] at w; exact w.elim
      | val d => rw [q1] at w; exact w.elim
      | own d' =>
        rw [q1] at w
        have e1 := e.post p
        obtain ⟨a, o, h1, h2, h3, h4, h5⟩ := e1.own x _ q1
        refine ⟨.ref a, h1, hi G1 n1 S1 H1 r σ _ p.sr e1 ?_⟩
        simp only [] at w
        cases q2 : i r S1 with
        | ok j S2 =>
          rw [q2] at w
          intro u G2 n2 H2 p2 rl2
          simp only [bind_ok] at w
          cases q3 : dPutO d' j d with
          | none => rw [q3] at w; exact w.elim
          | some c =>
            rw [q3] at w
            obtain ⟨g1, g2, g3⟩ := hidden p2 h4 h2 h3
            obtain ⟨o', z1, z2⟩ := dPut_rel g3 (HoR.mono p2.sub p2.eta _ _ h5) rl2 (Rel.mono p2.sub p2.eta _ _ rl) p2.sr.sub q3
            refine ⟨a, _, rfl, z1, ?_⟩
            have ow : Own r σ a := ⟨x, _, q1, h1⟩
            have p3 : Post K (Own r σ) G2 n2 S2 H2 G2 n2 S2 (upd H2 a o') := Post.hidW p2.sr g3 g1 g2 ow
            exact w G2 n2 _ σ ((p.tr p2).own.trans p3 fun b z => .inl z) ((e1.post p2).reOwn q1 h1 z2) (OwnSub.reOwn q1)
        | exc x S' => rw [q2] at w; exact fun c dd G' n' H' p' => w c dd G' n' H' (p.tr p').own
        | bad => rw [q2] at w; exact w.elim
  | exc x S' => rw [q] at w; exact fun c dd G' n' H' p' => w c dd G' n' H' p'.own
  | bad => rw [q] at w; exact w.elim
end
/-! ### pieces of syntax -/
section
variable {X : Cx} {EE : XQ} {a b c e f : Expr} {ta tb tc te : TE} {ma mb mc m : EM} {pos p : Pos}
def XN (X : Cx) (EE : XQ) (e : Expr) (t : TE) (m : EM) : Prop := PE X e t ∧ SN X.K EE t m
theorem XN.frz (h : XN X EE e te m) : XE X EE e te m := ⟨h.1, h.2.frz⟩
theorem XN.new (h : XN X EE e te m) : XE X EE e te (eNewD m) := ⟨h.1, h.2.new⟩
def XP (X : Cx) (EE : XQ) (pos : Pos) (ks : List (Option Expr)) (vs : List Expr) (trs : List (TE × TE)) (ms : List (EM × EM)) : Prop := PPs X pos ks vs trs ∧ SP X.K EE trs ms
theorem p_nilx : XP X EE pos [] [] [] [] := ⟨pps_nil, SP.nil⟩
theorem p_consx {ks : List (Option Expr)} {vs : List Expr} {trs : List (TE × TE)} {ms : List (EM × EM)} (ha : XE X EE a ta ma) (hb : XE X EE b tb mb) (h : XP X EE pos ks vs trs ms) : XP X EE pos (some a :: ks) (b :: vs) ((ta, tb) :: trs) ((ma, mb) :: ms) := ⟨pps_cons ha.1 hb.1 h.1, SP.cons ha.2 hb.2 h.2⟩
theorem n_dispK {ks : List (Option Expr)} {vs : List Expr} {trs : List (TE × TE)} {ms : List (EM × EM)} (h : XP X EE pos ks vs trs ms) (hall : ks.all (·.isSome) = true := by rfl) (hl : ks.length = vs.length := by rfl) (h0 : ks ≠ [] := by exact List.cons_ne_nil _ _) (h15 : ks.length ≤ 15 := by exact of_decide_eq_true rfl) :
    XN X EE (.Dict ks vs pos) (tDisp trs) (eDispK ms) := ⟨pe_disp h.1 hall hl h0 h15, SN.dispK h.2⟩
theorem n_dispT {ks : List (Option Expr)} {vs : List Expr} {trs : List (TE × TE)} {ms : List (EM × EM)} (hu : X.A.units + 1 < cLine) (h : XP X EE pos ks vs trs ms) (hall : ks.all (·.isSome) = true := by rfl) (hl : ks.length = vs.length := by rfl) (h0 : ks ≠ [] := by exact List.cons_ne_nil _ _) (h15 : ks.length ≤ 15 := by exact of_decide_eq_true rfl) :
    XN X EE (.Dict ks vs pos) (tDispT trs) (eDispT ms) := ⟨pe_dispT hu h.1 hall hl h0 h15, SN.dispT h.2⟩
theorem n_newK : XN X EE (.Dict [] [] pos) tDNewK (eC (.dK [] [])) := ⟨pe_dnewK, SN.newK⟩
theorem n_newT : XN X EE (.Dict [] [] pos) tDNewT (eC (.dT [] [])) := ⟨pe_dnewT, SN.newT⟩
theorem x_dAt (hu : X.A.units + 1 < cLine) (ha : XB X EE a ta ma) (hb : XE X EE b tb mb) (hs : NoSl b := by exact fun _ _ => rfl) : XE X EE (.Subscript a b pos) (tDGet ta tb) (e2 dAtD ma mb) := ⟨pe_dget hu ha.1 hb.1 hs, SE.dAt ha.2 hb.2⟩
theorem x_dIn (hu : X.A.units + 1 < cLine) (hb : XE X EE b tb mb) (ha : XB X EE a ta ma) (hm : behindInMarks .In a = false := by rfl) : XE X EE (.Compare b [.In] [a] pos) (tDIn tb ta) (e2 dInD mb ma) := ⟨pe_cmp (pc_din hu hb.1 ha.1) hm, SE.dIn hb.2 ha.2⟩
theorem x_dNotIn (hu : X.A.units + 1 < cLine) (hb : XE X EE b tb mb) (ha : XB X EE a ta ma) (hm : behindInMarks .NotIn a = false := by rfl) : XE X EE (.Compare b [.NotIn] [a] pos) (tDNotIn tb ta) (e2 dNotInD mb ma) := ⟨pe_cmp (pc_dnotin hu hb.1 ha.1) hm, SE.dNotIn hb.2 ha.2⟩
theorem t_dIn (hu : X.A.units + 1 < cLine) (hb : XE X EE b tb mb) (ha : XB X EE a ta ma) (hm : behindInMarks .In a = false := by rfl) : XT X EE (.Compare b [.In] [a] pos) (tB (tDIn tb ta)) (tE (e2 dInD mb ma)) := ⟨pt_cmp (pc_din hu hb.1 ha.1) hm, ST.of (SE.dIn hb.2 ha.2).bor⟩
theorem t_dNotIn (hu : X.A.units + 1 < cLine) (hb : XE X EE b tb mb) (ha : XB X EE a ta ma) (hm : behindInMarks .NotIn a = false := by rfl) : XT X EE (.Compare b [.NotIn] [a] pos) (tB (tDNotIn tb ta)) (tE (e2 dNotInD mb ma)) := ⟨pt_cmp (pc_dnotin hu hb.1 ha.1) hm, ST.of (SE.dNotIn hb.2 ha.2).bor⟩
theorem x_dGet2 {q : Pos} (hu : X.A.units + 1 < cLine) (ha : XB X EE a ta ma) (hb : XE X EE b tb mb) (hc : XE X EE c tc mc) (m1 : attributeBase a "get" X.env (eval a X.env) = eval a X.env := by rfl)
    (m2 : ((backTo pos (starEach [b, c] X.env)).all (fun x => !x.1) && (backToKw pos (keywordEach [] X.env)).all (fun x => x.1.isSome) && decide (([b, c] : List Expr).length + ([] : List Keyword).length + (if ([] : List Keyword).isEmpty then 0 else 1) < 30)) = true := by rfl)
    (m3 : (q.endLine == pos.line) = true := by rfl) (m4 : backTo pos (starEach [b, c] X.env) = [(false, eval b X.env), (false, eval c X.env)] := by rfl) :
    XE X EE (.Call (.Attribute a "get" q) [b, c] [] pos) (tDGet2 ta tb tc) (eGet2 ma mb mc) := ⟨pe_dget2 hu ha.1 hb.1 hc.1 ⟨m1, m2, m3, m4⟩, SE.dGet2 ha.2 hb.2 hc.2⟩
theorem s_ownN (i : Nat) {x : Str} {p2 : Pos} (hN : X.N.Nodup) (he : XN X EE e te m) (hi : X.N[i]? = some x := by rfl) (hx : Loc X.env.scope x := by first | exact Or.inl rfl | exact Or.inr rfl) (hs : swapsWith e (some (.Name x p2)) pos.line X.env = pure false := by rfl) (hf : X.fn x = true ∨ X.env.scope.names.lookup x = some .local := by first | exact .inl rfl | exact .inr rfl) :
    XS X EE (.Assign [.Name x p2] e pos) (tAsg te (gName i)) (mOwnN i m) := ⟨ps_set hN hi hx he.1 hs hf, SS.ownN he.2⟩
theorem s_putV (x : Nat) {n : Str} {q q2 : Pos} (hu : X.A.units + 1 < cLine) (he : XE X EE e te m) (hi : XE X EE b tb mb) (hN : X.N[x]? = some n := by rfl) (hv : Vis X.env.scope n := by first | exact Or.inl rfl | exact Or.inr (Or.inl rfl) | exact Or.inr (Or.inr rfl)) (hd : (n == ("__debug__" : Str)) = false := by decide) (hcd : (n == ("__classdict__" : Str)) = false := by decide)
    (hs : swapsWith e (some (.Subscript (.Name n q) b q2)) pos.line X.env = pure false := by rfl) :
    XS X EE (.Assign [.Subscript (.Name n q) b q2] e pos) (sDPut (tVar x) tb te) (mPutV x mb m) := ⟨ps_dput hu (pe_var hN hv hd hcd) hi.1 he.1 hs, SS.putV he.2 hi.2⟩
end
end BR

/-! Tuples times a number; list.remove. -/
namespace BR
open PySem PySem.Spec PyProof.Rows L2
theorem tuple_mul1 (l : Addr) (items : Array Value) (n : Nat) (sl : Array (Option Value)) (u : Tok) (dd : Option Addr) :
    Meets (Builtin.«tuple.__mul__» ⟨[.ref l, .int 1 u], []⟩) (fun _ R s => s.heap.get? l = some { cls := .type "tuple", dict := dd, data := .seq items n, slots := sl } ∧
      R (.ok (.ret (Value.ref l))) s) :=
  .of_wp fun prog w A R s h => by
    obtain ⟨hp, g, d, tk, os⟩ := s
    obtain ⟨hl, h⟩ := h
    have f1 := AutoSeq1.idx_int
    have c1 : (items.isEmpty || (1 : Int) == 1) = true := by simp
    wp_walk using AutoSeq1.wpAny_loadPart' hl
    all_goals first
      | exact ⟨_, rfl, h⟩
      | skip
def rRep1 (K : PySem.W.Frag) : R2 := fun x y H Q => ∃ l xs, x = .ref l ∧ y = .int 1 ∧ SqT K H l xs ∧ Q (.ref l) H
def rRepA (K : PySem.W.Frag) : R2 := fun x y H Q => rRep1 K x y H Q ∨ rRepT K x y H Q
theorem op_rep1 {X : Cx} : OpR X (binaryOp .Mult) (rRep1 X.K) := by
  intro pins s σ H x y v u Q I rx ry h
  obtain ⟨l, xs, rfl, rfl, hT, q⟩ := h
  cases rx
  obtain ⟨t, rfl⟩ := ry
  obtain ⟨its, r, ⟨⟨cls, dd, data, sl⟩, ho, hc, n, hd⟩, hs⟩ := I.tuple hT
  simp only at hc hd
  subst hc hd
  exact wpAny_binaryOp_repeat_ref (T := "tuple") (U := "int") (by decide) ⟨_, ho, rfl⟩ (fun s' => typeIs_int s' 1 t) noFill_tuple_mul F.fills_int_mul F.slot_int_rmul repeat_tuple F.slot_int_index.lookup
    (call_meets F.slot_int_rmul (typeIs_int s 1 t) F.entry_int_rmul (F.args_int_rmul_2 _ _) (int_rmul_tuple 1 t l its.toArray n dd sl)
      ⟨ho, rfl, ⟨_, ho, rfl⟩, call_meets F.slot_tuple_mul ⟨_, ho, rfl⟩ F.entry_tuple_mul (F.args_tuple_mul_2 _ _) (tuple_mul1 l its.toArray n sl t dd) ⟨ho, ⟨.ref l, H, I, rfl, q⟩⟩⟩)
def dMulT : BR.D → BR.D → Store → Res BR.D
  | .tup xs, .int k, S => if k = 1 then .ok (.tup xs) S else okI (decide (xs ≠ [] ∧ 2 ≤ k ∧ k ≤ 1000 ∧ xs.length ≤ 1000)) (.tup (List.replicate k.toNat xs).flatten) S
  | .trn xs, .int k, S => if k = 1 then .ok (.trn xs) S else okI (decide (xs ≠ [] ∧ 2 ≤ k ∧ k ≤ 1000 ∧ xs.length ≤ 1000)) (.tup (List.replicate k.toNat xs).flatten) S
  | _, _, _ => .bad
section
variable {K : PySem.W.Frag} {EE : XQ} {G G1 : Hp} {n n1 : List Addr} {S S1 : Store} {H H1 : Hp} {te ta tb : TE} {m a b : EM}
theorem o_mulT : O2 K EE (rRepA K) dMulT := fun G n S H x y d e Q s hx hy w => by
  cases d <;> cases e <;> first | exact (w : False).elim | skip
  case tup.int xs k =>
    obtain ⟨p, vs, rfl, h1, h2⟩ := hx.tupx
    obtain rfl := hy.int
    by_cases hk : k = 1
    · subst hk
      exact .inl ⟨p, vs, rfl, rfl, .inl (.inl (s.sub _ _ h1)), WpE.now s w (by simp only [Rel]; exact ⟨p, vs, rfl, h1, h2⟩)⟩
    · simp only [dMulT, if_neg hk] at w
      obtain ⟨c, w⟩ := okI_wp w
      obtain ⟨c1, c2, c3, c4⟩ := of_decide_eq_true c
      exact .inr ⟨p, k, vs, rfl, rfl, .inl (.inl (s.sub _ _ h1)), fun z => c1 (List.length_eq_zero_iff.mp (by rw [h2.len, z]; rfl)), c2, c3, by rw [← h2.len]; exact c4, WpE.newT s w (h2.rep _)⟩
  case trn.int xs k =>
    obtain ⟨p, vs, rfl, h1, h2⟩ := hx.trn
    obtain rfl := hy.int
    by_cases hk : k = 1
    · subst hk
      exact .inl ⟨p, vs, rfl, rfl, s.sub.st h1.sq, WpE.now s w (by simp only [Rel]; exact ⟨p, vs, rfl, h1, h2⟩)⟩
    · simp only [dMulT, if_neg hk] at w
      obtain ⟨c, w⟩ := okI_wp w
      obtain ⟨c1, c2, c3, c4⟩ := of_decide_eq_true c
      exact .inr ⟨p, k, vs, rfl, rfl, s.sub.st h1.sq, fun z => c1 (List.length_eq_zero_iff.mp (by rw [h2.len, z]; rfl)), c2, c3, by rw [← h2.len]; exact c4, WpE.newT s w (h2.rep _)⟩
end
theorem x_mulT {X : Cx} {EE : XQ} {a b : Expr} {ta tb : TE} {ma mb : EM} {pos : Pos} (ha : XB X EE a ta ma) (hb : XB X EE b tb mb) : XE X EE (.BinOp a .Mult b pos) (tOp (rRepA X.K) ta tb) (e2 dMulT ma mb) := ⟨pe_op (OpR.or op_rep1 op_repT) ha.1 hb.1, ha.2.op2 hb.2 o_mulT⟩
/-! ### name.remove(e) of one's own list of numbers -/
def placeI (k : Int) : List Int → Nat → Option Nat
  | [], _ => none
  | x :: xs, i => if x = k then some i else placeI k xs (i + 1)
def mRem (x : Nat) (e : EM) : SM := fun r S => match r[x]? with
  | some (.own (.lst xs)) => (e r S).bind fun d S1 => (match d, intsD xs with
    | .int k, some is => (match placeI k is 0 with
      | some j => .ok (.nx (r.set x (.own (.lst (xs.eraseIdx j))))) S1
      | none => .bad)
    | _, _ => .bad)
  | _ => .bad
theorem placeI_ok {k : Int} : ∀ {xs : List Int} {i j : Nat}, placeI k xs i = some j → i ≤ j ∧ xs[j - i]? = some k ∧ ∀ m : Nat, m < j - i → xs[m]? ≠ some k
  | [], i, j, h => by cases h
  | x :: xs, i, j, h => by
    unfold placeI at h
    by_cases q : x = k
    · rw [if_pos q] at h
      cases h
      subst q
      exact ⟨Nat.le_refl _, by simp, fun m hm => by omega⟩
    · rw [if_neg q] at h
      obtain ⟨h1, h2, h3⟩ := placeI_ok h
      have e : j - i = (j - (i + 1)) + 1 := by omega
      refine ⟨by omega, by rw [e]; simpa using h2, fun m hm => ?_⟩
      cases m with
      | zero => simpa using q
      | succ m => simpa using h3 m (by omega)
section
variable {K : PySem.W.Frag} {EE : XQ} {te : TE} {m : EM}
theorem intsV_rel {G : Hp} {n : List Addr} : ∀ {ds : List BR.D} {is : List Int} {vs : List V}, intsD ds = some is → RelL K G n ds vs → vs = is.map V.int
  | [], is, vs, e, h => by cases e; simp only [RelL] at h; exact h
  | d :: ds, is, vs, e, h => by
    simp only [RelL] at h
    obtain ⟨v, r, rfl, h1, h2⟩ := h
    cases d with
    | int i =>
      cases q : intsD ds with
      | none => simp [intsD, q] at e
      | some js =>
        simp only [intsD, q, Option.map_some] at e
        cases e
        simp only [Rel] at h1
        rw [h1, intsV_rel q h2]
        rfl
    | _ => cases e
theorem SS.rem {i : Nat} (he : SE K EE te m) : SS K EE (tDrop (tBM K "list" rRemI (tVar i) (tCons te tNil))) (mRem i m) := fun G n S H r σ D s e w => by
  unfold mRem at w
  cases q : r[i]? with
  | none => rw [q] at w; exact w.elim
  | some sl => cases sl with
    | no => rw [q] at w; exact w.elim
    | val d => rw [q] at w; exact w.elim
    | own d => cases d with
      | lst xs =>
        rw [q] at w
        obtain ⟨a, o, h1, h2, h3, h4, vs, rfl, h5⟩ := e.own i _ q
        refine ⟨.ref a, h1, .inl ⟨rfl, _, .inl (.inl h4)⟩, he G n S H r σ _ s e ?_⟩
        simp only [] at w
        cases q2 : m r S with
        | ok d S1 =>
          rw [q2] at w
          intro v G1 n1 H1 p rl
          simp only [bind_ok] at w
          obtain ⟨g1, g2, g3⟩ := hidden p h4 h2 h3
          have rl5 := RelL.mono p.sub p.eta _ _ h5
          cases d with
          | int k =>
            cases q3 : intsD xs with
            | none => simp only [q3] at w; exact w.elim
            | some is =>
              simp only [q3] at w
              cases q4 : placeI k is 0 with
              | none => simp only [q4] at w; exact w.elim
              | some j =>
                simp only [q4] at w
                obtain ⟨_, j2, j3⟩ := placeI_ok q4
                have ev := intsV_rel q3 rl5
                subst ev
                simp only [Rel] at rl
                refine ⟨a, is, k, j, rfl, by rw [rl], g3, by simpa using j2, fun m hm => j3 m (by omega), ?_⟩
                have e1 := e.post p
                have ow : Own r σ a := ⟨i, _, q, h1⟩
                have p2 : Post K (Own r σ) G1 n1 S1 H1 G1 n1 S1 (upd H1 a (.lst ((is.eraseIdx j).map V.int))) := Post.hidW p.sr g3 g1 g2 ow
                exact w G1 n1 _ σ (p.own.trans p2 fun b z => .inl z) (e1.reOwn q h1 ⟨_, rfl, by rw [← erase_mapI]; exact rl5.erase j⟩) (OwnSub.reOwn q)
          | _ => exact w.elim
        | exc x S' => rw [q2] at w; exact fun c dd G' n' H' p => w c dd G' n' H' p.own
        | bad => rw [q2] at w; exact w.elim
      | _ => rw [q] at w; exact w.elim
end
theorem s_remV {X : Cx} {EE : XQ} {e : Expr} {t : TE} {m : EM} {p pos : Pos} (i : Nat) {x : Str} {q q2 : Pos} (he : XE X EE e t m) (hN : X.N[i]? = some x := by rfl) (hv : Vis X.env.scope x := by first | exact Or.inl rfl | exact Or.inr (Or.inl rfl) | exact Or.inr (Or.inr rfl)) (hd : (x == ("__debug__" : Str)) = false := by decide) (hcd : (x == ("__classdict__" : Str)) = false := by decide)
    (h1 : attributeBase (.Name x q2) "remove" X.env (eval (.Name x q2) X.env) = eval (.Name x q2) X.env := by rfl)
    (h2 : ((backTo p (starEach [e] X.env)).all (fun x => !x.1) && (backToKw p (keywordEach [] X.env)).all (fun x => x.1.isSome) && decide ([e].length + ([] : List Keyword).length + (if ([] : List Keyword).isEmpty then 0 else 1) < 30)) = true := by rfl)
    (h3 : (q.endLine == p.line) = true := by rfl) (hs : starEach [e] X.env = (false, eval e X.env) :: starEach [] X.env := by rfl) (hp : (backTo p (starEach [] X.env)).any (·.1) = false := by rfl) (hw : swapsWith (.Call (.Attribute (.Name x q2) "remove" q) [e] [] p) none pos.line X.env = pure false := by rfl) :
    XS X EE (.Expr (.Call (.Attribute (.Name x q2) "remove" q) [e] [] p) pos) (tDrop (tBM X.K "list" rRemI (tVar i) (tCons t tNil))) (mRem i m) :=
  ⟨ps_expr (pe_bm PySem.F.plainAttrs_list PySem.F.slot_list_remove PySem.F.type_list_remove mt_remove (pe_var hN hv hd hcd) (pa_cons he.1 pa_nil hs) h1 h2 h3 hs hp) hw, SS.rem he.2⟩
/-- o.remove(e) of a shared list of numbers -/
def mRemE (o e : EM) : SM := fun r S => (o r S).bind fun x S1 => match x with
  | .ref k => (match lstAt S1 k with
    | some _ => (e r S1).bind fun v S2 => (match lstAt S2 k with
      | some xs => (match v, intsD xs with
        | .int z, some is => (match placeI z is 0 with
          | some j => .ok (.nx r) (S2.set k (some (.lst (xs.eraseIdx j))))
          | none => .bad)
        | _, _ => .bad)
      | none => .bad)
    | none => .bad)
  | _ => .bad
section
variable {K : PySem.W.Frag} {EE : XQ} {te to : TE} {m o : EM}
theorem SS.remE (ho : SE K EE to o) (he : SE K EE te m) : SS K EE (tDrop (tBM K "list" rRemI to (tCons te tNil))) (mRemE o m) := fun G n S H r σ D s e w => by
  refine ho G n S H r σ _ s e ?_
  unfold mRemE at w
  cases q : o r S with
  | ok x S1 =>
    rw [q] at w
    intro v0 G1 n1 H1 p rl
    simp only [bind_ok] at w
    cases x with
    | ref k =>
      obtain ⟨a, rfl, hk⟩ := ref_rel rl
      simp only [] at w
      cases q0 : lstAt S1 k with
      | none => rw [q0] at w; exact w.elim
      | some xs0 =>
        rw [q0] at w
        obtain ⟨vs0, h3, _⟩ := cell_lst p.sr hk q0
        refine ⟨.inl ⟨rfl, _, .inl (.inl h3)⟩, he G1 n1 S1 H1 r σ _ p.sr (e.post p) ?_⟩
        simp only [] at w
        cases q2 : m r S1 with
        | ok d S2 =>
          rw [q2] at w
          intro v G2 n2 H2 p2 rl2
          simp only [bind_ok] at w
          cases q3 : lstAt S2 k with
          | none => simp only [q3] at w; exact w.elim
          | some xs =>
            simp only [q3] at w
            obtain ⟨vs, g1, g2⟩ := cell_lst p2.sr (p2.eta.get hk) q3
            cases d with
            | int z =>
              cases q4 : intsD xs with
              | none => simp only [q4] at w; exact w.elim
              | some is =>
                simp only [q4] at w
                cases q5 : placeI z is 0 with
                | none => simp only [q5] at w; exact w.elim
                | some j =>
                  simp only [q5] at w
                  obtain ⟨_, j2, j3⟩ := placeI_ok q5
                  have ev := intsV_rel q4 g2
                  subst ev
                  simp only [Rel] at rl2
                  refine ⟨a, is, z, j, rfl, by rw [rl2], g1, by simpa using j2, fun m hm => j3 m (by omega), ?_⟩
                  have p3 : Post K NoO G2 n2 S2 H2 G2 n2 (S2.set k (some (.lst (xs.eraseIdx j)))) (upd H2 a (.lst ((is.eraseIdx j).map V.int))) := Post.setCell p2.sr (p2.eta.get hk) (lstAt_some q3) ⟨_, rfl, by rw [← erase_mapI]; exact g2.erase j⟩
                  have p13 := (p.tr p2).tr p3
                  exact w G2 n2 _ σ p13.own (e.post p13) OwnSub.refl
            | _ => exact w.elim
        | exc x S' => rw [q2] at w; exact fun c dd G' n' H' p' => w c dd G' n' H' (p.tr p').own
        | bad => rw [q2] at w; exact w.elim
    | _ => exact w.elim
  | exc x S' => rw [q] at w; exact fun c dd G' n' H' p' => w c dd G' n' H' p'.own
  | bad => rw [q] at w; exact w.elim
end
theorem s_remX {X : Cx} {EE : XQ} {e o : Expr} {t to : TE} {m mo : EM} {p pos q : Pos} (ho : XE X EE o to mo) (he : XE X EE e t m)
    (h1 : attributeBase o "remove" X.env (eval o X.env) = eval o X.env := by rfl)
    (h2 : ((backTo p (starEach [e] X.env)).all (fun x => !x.1) && (backToKw p (keywordEach [] X.env)).all (fun x => x.1.isSome) && decide ([e].length + ([] : List Keyword).length + (if ([] : List Keyword).isEmpty then 0 else 1) < 30)) = true := by rfl)
    (h3 : (q.endLine == p.line) = true := by rfl) (hs : starEach [e] X.env = (false, eval e X.env) :: starEach [] X.env := by rfl) (hp : (backTo p (starEach [] X.env)).any (·.1) = false := by rfl) (hw : swapsWith (.Call (.Attribute o "remove" q) [e] [] p) none pos.line X.env = pure false := by rfl) :
    XS X EE (.Expr (.Call (.Attribute o "remove" q) [e] [] p) pos) (tDrop (tBM X.K "list" rRemI to (tCons t tNil))) (mRemE mo m) :=
  ⟨ps_expr (pe_bm PySem.F.plainAttrs_list PySem.F.slot_list_remove PySem.F.type_list_remove mt_remove ho.1 (pa_cons he.1 pa_nil hs) h1 h2 h3 hs hp) hw, SS.remE ho.2 he.2⟩
end BR

/-! Texts; list(range(..)); lists put together; keywords the other way about; reverse. -/
namespace BR
open PySem PySem.Spec PyProof.Rows L2
/-! ### keywords in the contrary order -/
def eA2r (n k : Nat) (f : FM) (a b : LM) : EM := fun r S => (a r S).bind fun xs S1 => (b r S1).bind fun ys S2 => if xs.length = n ∧ ys.length = k then f (xs ++ ys.reverse) S2 else .bad
theorem RelL.rev {K : PySem.W.Frag} {G : Hp} {n : List Addr} : ∀ {ds : List BR.D} {vs : List V}, RelL K G n ds vs → RelL K G n ds.reverse vs.reverse
  | [], vs, h => by simp only [RelL] at h; subst h; exact .nil
  | d :: ds, vs, h => by
    simp only [RelL] at h
    obtain ⟨v, r, rfl, h1, h2⟩ := h
    rw [List.reverse_cons, List.reverse_cons]
    exact (RelL.rev h2).append (.cons h1 .nil)
structure DefOkR (P : Program) (w : World) (K : PySem.W.Frag) (mg : Str → Option Value) (base : Heap) (CX : CXT) (x : Str) (k : Nat) (n : Nat) (ks : List Str) (sp : Sp) : Prop where
  ex : ∃ (f : Addr) (fd : FuncData) (ps : List Str), FnG P w K mg base CX k f fd ps sp ∧ mg x = some (.ref f) ∧ PySem.W.keepIn K (.ref f) = true ∧ KBn K fd ps n ks (fun us ws => us ++ ws.reverse) (fun vs zs => vs ++ zs.reverse)
theorem vals_rev : ∀ {vs : List V} {us : List Value}, Vals vs us → Vals vs.reverse us.reverse
  | _, _, .nil => .nil
  | _, _, .cons h t => by
    rw [List.reverse_cons, List.reverse_cons]
    exact (vals_rev t).append (.cons h .nil)
section
variable {X : Cx} {CX : CXT} {E : XK} {EE : XQ} {e0 e : Expr} {es : List Expr} {t : TE} {m : EM} {tas tks : TA} {ms mks : LM} {p pos kpos : Pos} {kws : List Keyword} {nm : Option Str}
theorem SE.callR {K : PySem.W.Frag} {EE : XQ} {f : FM} {sp : Sp} {E : XK} {nn k : Nat} (h1 : SA K EE tas ms) (h2 : SA K EE tks mks) (hs : ∀ G n S H vs ds Q, SR K G n S H → RelL K G n ds vs → WpE K EE (f ds S) G n S H Q → sp vs H Q E) : SE K EE (tCallN nn k sp (fun vs zs => vs ++ zs.reverse) E tas tks) (eA2r nn k f ms mks) := fun G n S H r σ Q s e w => by
  refine h1 G n S H r σ _ s e ?_
  unfold eA2r at w
  cases q : ms r S with
  | ok ds S1 =>
    rw [q] at w
    intro vs G1 n1 H1 p rl
    refine h2 G1 n1 S1 H1 r σ _ p.sr (e.post p) ?_
    have w1 : WpE K EE ((mks r S1).bind fun ys S2 => if ds.length = nn ∧ ys.length = k then f (ds ++ ys.reverse) S2 else .bad) G1 n1 S1 H1 Q := WpE.at p w
    cases q2 : mks r S1 with
    | ok es S2 =>
      rw [q2] at w1
      intro zs G2 n2 H2 p2 rl2
      have w2 : WpE K EE (if ds.length = nn ∧ es.length = k then f (ds ++ es.reverse) S2 else .bad) G2 n2 S2 H2 Q := WpE.at p2 w1
      by_cases c : ds.length = nn ∧ es.length = k
      · rw [if_pos c] at w2
        refine ⟨by rw [← rl.len]; exact c.1, by rw [← rl2.len]; exact c.2, hs G2 n2 S2 H2 _ _ Q p2.sr (RelL.append (RelL.mono p2.sub p2.eta _ _ rl) rl2.rev) w2⟩
      · rw [if_neg c] at w2
        exact w2.elim
    | exc x S' => rw [q2] at w1; exact w1
    | bad => rw [q2] at w1; exact w1.elim
  | exc x S' => rw [q] at w; exact w
  | bad => rw [q] at w; exact w
theorem x_callR {x : Str} {k j ar n kn : Nat} {ks : List Str} {f : FM} (D : DefOkR X.prog X.w X.K X.mg X.base CX0 x k n ks (sp0 X.K ar f)) (har : ∀ ds S, ds.length ≠ ar → f ds S = .bad) (hr : Rm j X.A) (hjk : k ≤ j) (ha : XA X Z0 (e0 :: es) tas ms) (hkw : XKw X Z0 kws tks mks) (hkn : ks.length = kn := by rfl) (hg : Gl X x := by rfl) (hdb : (x == ("__debug__" : Str)) = false := by decide)
    (hall : (backToKw pos (keywordEach kws X.env)).all (·.1.isSome) = true := by rfl) (hks : (backToKw pos (keywordEach kws X.env)).filterMap (·.1) = ks := by rfl)
    (he : starEach (e0 :: es) X.env = (false, eval e0 X.env) :: starEach es X.env := by rfl) (hpl : ((backTo pos (starEach (e0 :: es) X.env)).any (·.1) || (backToKw pos (keywordEach kws X.env)).any (·.1.isNone)) = false := by rfl) :
    XE X Z0 (.Call (.Name x p) (e0 :: es) kws pos) (tCallN n kn (sp0 X.K ar f) (fun vs zs => vs ++ zs.reverse) E0 tas tks) (eA2r n kn f ms mks) := by
  subst hkn
  obtain ⟨fa, fd, ps, F, hm, hk, hb⟩ := D.ex
  refine ⟨⟨fun pins s σ H Q I h => wpAny_Call_Name_kw (ld_glob I hg hm ?_ hdb)⟩, SE.callR ha.2 hkw.2 fun G n S H vs ds Q s rl w => sp_call (bad_ar har w) s rl w⟩
  refine PySem.W.callWith_KW (h₀ := X.base) I.ok.mod.kin hk hall (thn (ha.1.run pos pins s σ H _ I h) fun us s1 ⟨vs, H1, I1, r, q⟩ => ?_) hpl he
  refine thn (hkw.1.run pos pins s1 σ H1 _ I1 q) fun ws s2 ⟨zs, H2, I2, rz, l1, l2, q2⟩ => ⟨I2.kIn, ?_⟩
  rw [hks]
  exact run_fnGN F (hr.mono hjk) hb pass0 I2 r rz l1 l2 q2
end
section
variable {P : Program} {w : World} {K : PySem.W.Frag} {mg : Str → Option Value} {base : Heap} {x : Str} {st : Stmt} {f : Addr} {fd : FuncData}
theorem defD_okR {N ps ks : List Str} {k ar n np : Nat} {sm : SM} (F : ∃ fd, FnP K x st f fd) (hmg : mg x = some (.ref f)) (S : FnScope N ps (defScope st)) (har : ar = ps.length) (hn : n = N.length)
    (hb : ∀ (kV doc pm : Value) (an : Option Addr) (cdv ct : Value) (us ws : List Value), us.length = np → ws.length = ks.length → bindArgs (PySem.W.fnOf x x (defArgs st) (defBody st) (defScope st) .none kV doc pm an cdv ct) ⟨us, ks.zip ws⟩ = pure (ps.zip (us ++ ws.reverse)))
    (h : Body P w K mg base N x st k sm) : DefOkR P w K mg base CX0 x (k + 1) np ks (sp0 K ar (runA ar n sm)) := by
  obtain ⟨fd, F⟩ := F
  refine ⟨f, fd, ps, fnG_body F S har hn h, hmg, F.kp, ?_⟩
  obtain ⟨oc, od, dV, kV, doc, pm, an, cdv, ct, osl, rfl, lk, hcd, hD, hK⟩ := F.ex
  rcases hD with ⟨_, rfl⟩ | ⟨e, _⟩
  · exact ⟨fun s us ws _ l1 l2 => .of_eq (hb kV doc pm an cdv ct us ws l1 l2), fun r rz => r.append (vals_rev rz)⟩
  · exact absurd rfl e
end
/-! ### lists put together; list(range(..)) -/
def lCat (x y : BR.D) (S : Store) : Res (List BR.D) := match (vw S x).bind lstD, (vw S y).bind lstD with
  | some xs, some ys => if xs.length + ys.length ≤ lim then .ok (xs ++ ys) S else .bad
  | _, _ => .bad
def rgOk (a b : Int) : Bool := decide (-4611686018427387904 ≤ a ∧ a < 4611686018427387904 ∧ -4611686018427387904 ≤ b ∧ b < 4611686018427387904 ∧ (b - a).toNat ≤ 16777216)
def lRg1 (x : BR.D) (S : Store) : Res (List BR.D) := match x with
  | .int j => if rgOk 0 j = true then .ok (rangeD 0 j) S else .bad
  | _ => .bad
def lRg2 (x y : BR.D) (S : Store) : Res (List BR.D) := match x, y with
  | .int i, .int j => if rgOk i j = true then .ok (rangeD i j) S else .bad
  | _, _ => .bad
section
variable {K : PySem.W.Frag} {EE : XQ} {G G1 : Hp} {n n1 : List Addr} {S S1 : Store} {H H1 : Hp} {te ta tb to : TE} {m a b o : EM}
theorem range_rel (i j : Int) : RelL K G n (rangeD i j) (rgV i j) := by
  unfold rangeD rgV
  generalize (j - i).toNat = c
  induction c with
  | zero => exact .nil
  | succ c ih =>
    rw [List.range_succ, List.map_append, List.map_append]
    exact ih.append (.cons rInt .nil)
theorem rgOk_of {i j : Int} (h : rgOk i j = true) : RgOk i j := by
  have := of_decide_eq_true h
  unfold RgOk
  omega
theorem SL.rg1 (ha : SE K EE ta a) : SL K EE (tLstRg (tRg1 ta)) (BR.l1 lRg1 a) := fun G n S H r σ Q s e w => by
  refine ha G n S H r σ _ s e ?_
  unfold BR.l1 at w
  cases q : a r S with
  | ok x S1 =>
    rw [q] at w
    intro v G1 n1 H1 p rl
    simp only [bind_ok] at w
    cases x with
    | int j =>
      simp only [lRg1] at w
      by_cases c : rgOk 0 j = true
      · rw [if_pos c] at w
        simp only [Rel] at rl
        exact ⟨j, rl, rgOk_of c, WpL.new p.sr (WpL.at p w) (range_rel 0 j)⟩
      · rw [if_neg c] at w; exact w.elim
    | _ => exact w.elim
  | exc x S' => rw [q] at w; exact w
  | bad => rw [q] at w; exact w.elim
theorem SL.rg2 (ha : SE K EE ta a) (hb : SE K EE tb b) : SL K EE (tLstRg (tRg2 ta tb)) (BR.l2 lRg2 a b) := fun G n S H r σ Q s e w => by
  refine ha G n S H r σ _ s e ?_
  unfold BR.l2 at w
  cases q : a r S with
  | ok x S1 =>
    rw [q] at w
    intro v G1 n1 H1 p rl
    refine hb G1 n1 S1 H1 r σ _ p.sr (e.post p) ?_
    simp only [bind_ok] at w
    cases q2 : b r S1 with
    | ok y S2 =>
      rw [q2] at w
      intro u G2 n2 H2 p2 rl2
      simp only [bind_ok] at w
      cases x with
      | int i =>
        cases y with
        | int j =>
          simp only [lRg2] at w
          by_cases c : rgOk i j = true
          · rw [if_pos c] at w
            simp only [Rel] at rl rl2
            exact ⟨i, j, rl, rl2, rgOk_of c, WpL.new p2.sr (WpL.at (p.tr p2) w) (range_rel i j)⟩
          · rw [if_neg c] at w; exact w.elim
        | _ => exact w.elim
      | _ => exact w.elim
    | exc x S' => rw [q2] at w; exact fun c dd G' n' H' p' => w c dd G' n' H' (p.tr p')
    | bad => rw [q2] at w; exact w.elim
  | exc x S' => rw [q] at w; exact w
  | bad => rw [q] at w; exact w.elim
theorem lstV_rel {d : BR.D} {x : V} {ds : List BR.D} (s : SR K G n S H) (h : RelT K G (NL n S H) n d x) (e : (vw S d).bind lstD = some ds) (hs : ∀ xs, vw S d ≠ some (.scr xs)) : ∃ p vs, x = .ref p ∧ H p = some (.lst vs) ∧ RelL K G n ds vs := by
  cases q : vw S d with
  | none => rw [q] at e; cases e
  | some c =>
    rw [q] at e
    have h' := vw_rel s h q
    cases c with
    | lst xs => cases e; obtain ⟨p, vs, rfl, h1, h2⟩ := h'; exact ⟨p, vs, rfl, h1, h2⟩
    | scr xs => exact absurd q (hs xs)
    | _ => cases e
end
/-- a list that is no script -/
def lstN : BR.D → Option (List BR.D)
  | .lst xs => some xs
  | _ => none
def lCatN (x y : BR.D) (S : Store) : Res (List BR.D) := match (vw S x).bind lstN, (vw S y).bind lstN with
  | some xs, some ys => if xs.length + ys.length ≤ lim then .ok (xs ++ ys) S else .bad
  | _, _ => .bad
section
variable {K : PySem.W.Frag} {EE : XQ} {G G1 : Hp} {n n1 : List Addr} {S S1 : Store} {H H1 : Hp} {te ta tb to : TE} {m a b o : EM}
theorem lstN_rel {d : BR.D} {x : V} {ds : List BR.D} (s : SR K G n S H) (h : RelT K G (NL n S H) n d x) (e : (vw S d).bind lstN = some ds) : ∃ p vs, x = .ref p ∧ H p = some (.lst vs) ∧ RelL K G n ds vs := by
  cases q : vw S d with
  | none => rw [q] at e; cases e
  | some c =>
    rw [q] at e
    have h' := vw_rel s h q
    cases c with
    | lst xs => cases e; obtain ⟨p, vs, rfl, h1, h2⟩ := h'; exact ⟨p, vs, rfl, h1, h2⟩
    | _ => cases e
theorem SL.cat (ha : SB K EE ta a) (hb : SB K EE tb b) : SL K EE (tOp rCat ta tb) (BR.l2 lCatN a b) := fun G n S H r σ Q s e w => by
  refine ha G n S H r σ _ s e ?_
  unfold BR.l2 at w
  cases q : a r S with
  | ok x S1 =>
    rw [q] at w
    intro v G1 n1 H1 p rl
    refine hb G1 n1 S1 H1 r σ _ p.sr (e.post p) ?_
    simp only [bind_ok] at w
    cases q2 : b r S1 with
    | ok y S2 =>
      rw [q2] at w
      intro u G2 n2 H2 p2 rl2
      simp only [bind_ok, lCatN] at w
      cases q3 : (vw S2 x).bind lstN with
      | none => simp only [q3] at w; exact w.elim
      | some xs =>
        cases q4 : (vw S2 y).bind lstN with
        | none => simp only [q3, q4] at w; exact w.elim
        | some ys =>
          simp only [q3, q4] at w
          by_cases c : xs.length + ys.length ≤ lim
          · rw [if_pos c] at w
            obtain ⟨p1, vs, rfl, h1, h2⟩ := lstN_rel p2.sr (rl.post p2) q3
            obtain ⟨p2', us, rfl, h3, h4⟩ := lstN_rel p2.sr rl2 q4
            exact ⟨p1, p2', vs, us, rfl, rfl, h1, h3, by rw [← h2.len, ← h4.len, ← lim_eq]; exact c, WpL.new p2.sr (WpL.at (p.tr p2) w) (h2.append h4)⟩
          · rw [if_neg c] at w; exact w.elim
    | exc x S' => rw [q2] at w; exact fun c dd G' n' H' p' => w c dd G' n' H' (p.tr p')
    | bad => rw [q2] at w; exact w.elim
  | exc x S' => rw [q] at w; exact w
  | bad => rw [q] at w; exact w.elim
/-! ### texts -/
def dStr : BR.D → Store → Res BR.D
  | .int i, S => okI (decide (i.natAbs.log2 < 1920)) (.str (toString i)) S
  | .str x, S => .ok (.str x) S
  | _, _ => .bad
def strsD : List BR.D → Option (List PySem.Str)
  | [] => some []
  | .str x :: ds => (strsD ds).map (x :: ·)
  | _ => none
def dJoin (sep d : BR.D) (S : Store) : Res BR.D := match sep, (seqS S d).bind strsD with
  | .str a, some ys => okI (decide ((ys.map (·.length)).sum + ys.length * a.length ≤ 16777216)) (.str (Txt.join a ys)) S
  | _, _ => .bad
def isStr : BR.D → Bool
  | .str _ => true
  | _ => false
def eJoin (o e : EM) : EM := fun r S => (o r S).bind fun x S1 => if isStr x = true then (e r S1).bind fun y S2 => dJoin x y S2 else .bad
def rStrA : List V → Hp → VK → Prop := fun xs H Q => (∃ i, xs = [.int i] ∧ i.natAbs.log2 < 1920 ∧ Q (.str (toString i)) H) ∨ ∃ a, xs = [.str a] ∧ Q (.str a) H
theorem s_str (ha : SB K EE ta a) : SE K EE (tCB rStrA (tCons ta tNil)) (e1 dStr a) := ha.cb1 fun G n S H x d Q s hx w => by
  cases d with
  | int i =>
    obtain ⟨c, w⟩ := okI_wp w
    exact .inl ⟨i, by rw [hx.int], of_decide_eq_true c, WpE.now s w rStr⟩
  | str i => exact .inr ⟨i, by rw [hx.str], WpE.now s w rStr⟩
  | _ => exact (w : False).elim
theorem strs_rel : ∀ {ds : List BR.D} {ys : List PySem.Str} {vs : List V}, strsD ds = some ys → RelL K G n ds vs → vs = ys.map V.str
  | [], ys, vs, e, h => by cases e; simp only [RelL] at h; exact h
  | d :: ds, ys, vs, e, h => by
    simp only [RelL] at h
    obtain ⟨v, r, rfl, h1, h2⟩ := h
    cases d with
    | str i =>
      cases q : strsD ds with
      | none => simp [strsD, q] at e
      | some js =>
        simp only [strsD, q, Option.map_some] at e
        cases e
        simp only [Rel] at h1
        rw [h1, strs_rel q h2]
        rfl
    | _ => cases e
def rJoinA (K : PySem.W.Frag) : V → List V → Hp → VK → Prop := fun x xs H Q => ∃ a p, ∃ ys : List Str, x = .str a ∧ xs = [.ref p] ∧ (SqL K H p (ys.map V.str) ∨ SqT K H p (ys.map V.str)) ∧ (ys.map (·.length)).sum + ys.length * a.length ≤ 16777216 ∧ Q (.str (Txt.join a ys)) H
theorem s_join (ho : SE K EE to o) (he : SB K EE te m) : SE K EE (tM1 (rJoinA K) to te) (eJoin o m) := fun G n S H r σ Q s e w => by
  refine ho G n S H r σ _ s e ?_
  unfold eJoin at w
  cases q : o r S with
  | ok x S1 =>
    rw [q] at w
    intro v G1 n1 H1 p rl
    simp only [bind_ok] at w
    cases x with
    | str z =>
      rw [if_pos (show isStr (.str z) = true from rfl)] at w
      simp only [Rel] at rl
      subst rl
      refine ⟨⟨z, rfl⟩, he G1 n1 S1 H1 r σ _ p.sr (e.post p) ?_⟩
      cases q2 : m r S1 with
      | ok y S2 =>
        rw [q2] at w
        intro u G2 n2 H2 p2 rl2
        simp only [bind_ok, dJoin] at w
        cases q3 : seqS S2 y with
        | none => simp only [q3, Option.bind_none] at w; exact w.elim
        | some ds =>
          cases q4 : strsD ds with
          | none => simp only [q3, Option.bind_some, q4] at w; exact w.elim
          | some ys =>
            simp only [q3, Option.bind_some, q4] at w
            obtain ⟨c, w⟩ := okI_wp (WpE.at (p.tr p2) w)
            obtain ⟨a1, vs, rfl, h1, h2⟩ := seqS_rel p2.sr rl2 q3
            have ev := strs_rel q4 h2
            subst ev
            exact ⟨z, a1, ys, rfl, rfl, h1, of_decide_eq_true c, WpE.now p2.sr w rStr⟩
      | exc x S' => rw [q2] at w; exact fun c dd G' n' H' p' => w c dd G' n' H' (p.tr p')
      | bad => rw [q2] at w; exact w.elim
    | _ => exact w.elim
  | exc x S' => rw [q] at w; exact w
  | bad => rw [q] at w; exact w.elim
/-- {x} of an f-string -/
def dFmt : BR.D → Store → Res BR.D
  | .int i, S => okI (decide (i.natAbs.log2 < 1920)) (.str (toString i)) S
  | .str x, S => okI (decide (x.length ≤ lim)) (.str x) S
  | _, _ => .bad
theorem s_fmt (ha : SE K EE ta a) : SE K EE (tFmt ta) (e1 dFmt a) := fun G n S H r σ Q s e w => by
  refine ha G n S H r σ _ s e ?_
  unfold e1 at w
  cases q : a r S with
  | ok x S1 =>
    rw [q] at w
    intro v G1 n1 H1 p rl
    simp only [bind_ok] at w
    cases x with
    | int i =>
      obtain ⟨c, w⟩ := okI_wp (WpE.at p w)
      simp only [Rel] at rl
      exact .inr ⟨i, rl, of_decide_eq_true c, WpE.now p.sr w rStr⟩
    | str i =>
      obtain ⟨c, w⟩ := okI_wp (WpE.at p w)
      simp only [Rel] at rl
      exact .inl ⟨i, rl, by rw [← lim_eq]; exact of_decide_eq_true c, WpE.now p.sr w rStr⟩
    | _ => exact w.elim
  | exc x S' => rw [q] at w; exact w
  | bad => rw [q] at w; exact w.elim
def jsGo : List EM → PySem.Str → EM
  | [], acc, _, S => .ok (.str acc) S
  | m :: ms, acc, r, S => (m r S).bind fun x S1 => match x with
    | .str y => if (acc ++ y).length ≤ lim then jsGo ms (acc ++ y) r S1 else .bad
    | _ => .bad
def eJs (ms : List EM) : EM := jsGo ms Str.empty
def SJ (K : PySem.W.Frag) (EE : XQ) (ts : List TE) (ms : List EM) : Prop := ∀ acc G n S H r σ (Q : Str → Hp → Prop), SR K G n S H → ER K G n S H r σ → WpE K EE (jsGo ms acc r S) G n S H (fun v H1 => ∃ y, v = .str y ∧ Q y H1) → tJs ts acc σ H Q
theorem SJ.nil : SJ K EE [] [] := fun acc G n S H r σ Q s e w => by
  obtain ⟨y, e1, q⟩ := WpE.now s w rStr
  cases e1
  exact q
theorem SJ.cons {ts : List TE} {ms : List EM} (ha : SE K EE ta a) (h : SJ K EE ts ms) : SJ K EE (ta :: ts) (a :: ms) := fun acc G n S H r σ Q s e w => by
  refine ha G n S H r σ _ s e ?_
  simp only [jsGo] at w
  cases q : a r S with
  | ok x S1 =>
    rw [q] at w
    intro v G1 n1 H1 p rl
    simp only [bind_ok] at w
    cases x with
    | str y =>
      simp only [Rel] at rl
      subst rl
      simp only [] at w
      by_cases c : (acc ++ y).length ≤ lim
      · rw [if_pos c] at w
        exact ⟨y, rfl, by rw [← lim_eq]; exact c, h (acc ++ y) G1 n1 S1 H1 r σ Q p.sr (e.post p) (WpE.at p w)⟩
      · rw [if_neg c] at w; exact w.elim
    | _ => exact w.elim
  | exc x S' => rw [q] at w; exact w
  | bad => rw [q] at w; exact w.elim
theorem SJ.joined {ts : List TE} {ms : List EM} (h : SJ K EE ts ms) : SE K EE (fun σ H Q => tJs ts Str.empty σ H fun out H1 => Q (.str out) H1) (eJs ms) := fun G n S H r σ Q s e w => by
  refine h Str.empty G n S H r σ _ s e ?_
  unfold eJs at w
  cases q : jsGo ms Str.empty r S with
  | ok x S1 =>
    rw [q] at w
    have str : ∀ (ms : List EM) (acc : Str) (S S1 : Store) (x : BR.D), jsGo ms acc r S = .ok x S1 → ∃ y, x = .str y := by
      intro ms
      induction ms with
      | nil => intro acc S S1 x h; cases h; exact ⟨acc, rfl⟩
      | cons m ms ih =>
        intro acc S S1 x h
        simp only [jsGo] at h
        cases q2 : m r S with
        | ok z S2 =>
          rw [q2] at h
          simp only [bind_ok] at h
          cases z with
          | str y =>
            simp only [] at h
            by_cases c : (acc ++ y).length ≤ lim
            · rw [if_pos c] at h; exact ih _ _ _ _ h
            · rw [if_neg c] at h; cases h
          | _ => cases h
        | exc x S' => rw [q2] at h; cases h
        | bad => rw [q2] at h; cases h
    obtain ⟨y, rfl⟩ := str ms Str.empty S S1 x q
    intro v G1 n1 H1 p rl
    simp only [Rel] at rl
    subst rl
    exact ⟨y, rfl, w _ _ _ _ p rStr⟩
  | exc x S' => rw [q] at w; exact w
  | bad => rw [q] at w; exact w.elim
/-! ### o.reverse() of a shared list -/
def mRevE (o : EM) : SM := fun r S => (o r S).bind fun x S1 => match x with
  | .ref k => (match lstAt S1 k with
    | some xs => .ok (.nx r) (S1.set k (some (.lst xs.reverse)))
    | none => .bad)
  | _ => .bad
theorem SS.revE (ho : SE K EE to o) : SS K EE (tDrop (tBM0 K "list" rReverse to)) (mRevE o) := fun G n S H r σ D s e w => by
  refine ho G n S H r σ _ s e ?_
  unfold mRevE at w
  cases q : o r S with
  | ok x S1 =>
    rw [q] at w
    intro v0 G1 n1 H1 p rl
    simp only [bind_ok] at w
    cases x with
    | ref k =>
      obtain ⟨a, rfl, hk⟩ := ref_rel rl
      simp only [] at w
      cases q0 : lstAt S1 k with
      | none => rw [q0] at w; exact w.elim
      | some xs =>
        rw [q0] at w
        obtain ⟨vs, h3, g2⟩ := cell_lst p.sr hk q0
        refine ⟨.inl ⟨rfl, _, .inl (.inl h3)⟩, a, vs, rfl, rfl, h3, ?_⟩
        have p3 : Post K NoO G1 n1 S1 H1 G1 n1 (S1.set k (some (.lst xs.reverse))) (upd H1 a (.lst vs.reverse)) := Post.setCell p.sr hk (lstAt_some q0) ⟨_, rfl, g2.rev⟩
        have p13 := p.tr p3
        exact w G1 n1 _ σ p13.own (e.post p13) OwnSub.refl
    | _ => exact w.elim
  | exc x S' => rw [q] at w; exact fun c dd G' n' H' p' => w c dd G' n' H' p'.own
  | bad => rw [q] at w; exact w.elim
end
/-! ### pieces of syntax -/
section
variable {X : Cx} {EE : XQ} {a b c e f o : Expr} {es : List Expr} {ta tb tc te to : TE} {ma mb mc m mo : EM} {pos p : Pos}
theorem l_cat (ha : XB X EE a ta ma) (hb : XB X EE b tb mb) : XL X EE (.BinOp a .Add b pos) (tOp rCat ta tb) (BR.l2 lCatN ma mb) := ⟨pe_op op_cat ha.1 hb.1, SL.cat ha.2 hb.2⟩
theorem l_rg1 {q q2 : Pos} (hc : X.calm = true) (hm : Free X "list") (hm2 : Free X "range") (ha : XE X EE a ta ma) (hg : Gl X "list" := by rfl) (hg2 : Gl X "range" := by rfl) (na : starEach [a] X.env = (false, eval a X.env) :: starEach [] X.env := by rfl)
    (nb : starEach [(Expr.Call (.Name "range" q) [a] [] q2)] X.env = (false, eval (.Call (.Name "range" q) [a] [] q2) X.env) :: starEach [] X.env := by rfl) :
    XL X EE (.Call (.Name "list" p) [.Call (.Name "range" q) [a] [] q2] [] pos) (tLstRg (tRg1 ta)) (BR.l1 lRg1 ma) := ⟨pe_listRg hc hg hm (prg_1 hg2 hm2 ha.1 na) nb, SL.rg1 ha.2⟩
theorem l_rg2 {q q2 : Pos} (hc : X.calm = true) (hm : Free X "list") (hm2 : Free X "range") (ha : XE X EE a ta ma) (hb : XE X EE b tb mb) (hg : Gl X "list" := by rfl) (hg2 : Gl X "range" := by rfl) (na : starEach [a, b] X.env = (false, eval a X.env) :: starEach [b] X.env := by rfl)
    (nb : starEach [b] X.env = (false, eval b X.env) :: starEach [] X.env := by rfl) (hp : (backTo q2 (starEach [b] X.env)).any (·.1) = false := by rfl)
    (nc : starEach [(Expr.Call (.Name "range" q) [a, b] [] q2)] X.env = (false, eval (.Call (.Name "range" q) [a, b] [] q2) X.env) :: starEach [] X.env := by rfl) :
    XL X EE (.Call (.Name "list" p) [.Call (.Name "range" q) [a, b] [] q2] [] pos) (tLstRg (tRg2 ta tb)) (BR.l2 lRg2 ma mb) := ⟨pe_listRg hc hg hm (prg_2 hg2 hm2 ha.1 hb.1 na nb hp) nc, SL.rg2 ha.2 hb.2⟩
theorem x_strc (hm : Free X "str") (ha : XB X EE a ta ma) (hg : Gl X "str" := by rfl) (he : starEach (a :: []) X.env = (false, eval a X.env) :: starEach [] X.env := by rfl) (hp : (backTo pos (starEach [] X.env)).any (·.1) = false := by rfl) : XE X EE (.Call (.Name "str" p) [a] [] pos) (tCB rStrA (tCons ta tNil)) (e1 dStr ma) :=
  ⟨pe_callTy (r := rStrA) (fun pins s σ H xs us Q I r h => h.elim (call_str_int pins s σ H xs us Q I r) (SkE.call_str_str pins s σ H xs us Q I r)) hg hm (by decide +kernel) (pa_cons ha.1 pa_nil he) (by decide) (by decide) he hp, s_str ha.2⟩
theorem x_join {q : Pos} (ho : XE X EE o to mo) (he : XB X EE e te m) (hs : starEach [e] X.env = [(false, eval e X.env)] := by rfl) (hbase : attributeBase o "join" X.env (eval o X.env) = eval o X.env := by rfl) (hline : (q.endLine == pos.line) = true := by rfl) :
    XE X EE (.Call (.Attribute o "join" q) [e] [] pos) (tM1 (rJoinA X.K) to te) (eJoin mo m) := ⟨pe_join ho.1 he.1 hs hbase hline, s_join ho.2 he.2⟩
theorem x_fmt (ha : XE X EE a ta ma) : XE X EE (.FormattedValue a (-1) none pos) (tFmt ta) (e1 dFmt ma) := ⟨pe_fmt ha.1, s_fmt ha.2⟩
def XJ (X : Cx) (EE : XQ) (es : List Expr) (ts : List TE) (ms : List EM) : Prop := PJ X es ts ∧ SJ X.K EE ts ms
theorem j_nil : XJ X EE [] [] [] := ⟨.nil, SJ.nil⟩
theorem j_cons {ts : List TE} {ms : List EM} (ha : XE X EE a ta ma) (h : XJ X EE es ts ms) : XJ X EE (a :: es) (ta :: ts) (ma :: ms) := ⟨.cons ha.1 h.1, SJ.cons ha.2 h.2⟩
theorem x_joined {ts : List TE} {ms : List EM} (h : XJ X EE (a :: b :: es) ts ms) : XE X EE (.JoinedStr (a :: b :: es) pos) (fun σ H Q => tJs ts Str.empty σ H fun out H1 => Q (.str out) H1) (eJs ms) := ⟨pe_joined h.1, SJ.joined h.2⟩
theorem s_revX {q : Pos} (ho : XE X EE o to mo) (h1 : attributeBase o "reverse" X.env (eval o X.env) = eval o X.env := by rfl) (h3 : (q.endLine == p.line) = true := by rfl) (hw : swapsWith (.Call (.Attribute o "reverse" q) [] [] p) none pos.line X.env = pure false := by rfl) :
    XS X EE (.Expr (.Call (.Attribute o "reverse" q) [] [] p) pos) (tDrop (tBM0 X.K "list" rReverse to)) (mRevE mo) :=
  ⟨ps_expr (pe_bm0 PySem.F.plainAttrs_list PySem.F.slot_list_reverse PySem.F.type_list_reverse mt_reverse ho.1 h1 h3) hw, SS.revE ho.2⟩
end
end BR

/-! Dict comprehensions; assigned comprehensions of two fors. -/
namespace BR
open PySem PySem.Spec PyProof.Rows L2
def dcGo (g : GM) (t : TM) (k e : EM) (r : BR.Env) : List BR.D → BR.D → Store → Res BR.D
  | [], acc, S => .ok acc S
  | d :: ds, acc, S => match g d r with
    | none => .bad
    | some r1 => (t r1 S).bind fun c S1 => if c = true then (k r1 S1).bind fun x S2 => (e r1 S2).bind fun y S3 => (match dPutO acc x y with
      | some acc' => dcGo g t k e r ds acc' S3
      | none => .bad) else dcGo g t k e r ds acc S1
/-- {k: e for g in it if t}, of numbers and texts -/
def eDc (it : IM) (g : GM) (t : TM) (k e : EM) (vs : List Nat) : EM := fun r S => (it r S).bind fun src S1 => match src with
  | .fix ds => dcGo g t k e (wipeE r vs) ds (.dK [] []) S1
  | .cell _ => .bad
def DcGoal (J : It) (g : TG) (tt : TT) (tk tv : TE) (vs : List Nat) (σ : L2.St) (H : Hp) (Q : VK) : Prop := ∀ D, H D = none → ∃ W : Nat → Nat → Hp → Prop, (∃ m, W 0 m (upd H D (.dK []))) ∧ ∀ i m H, W i m H →
  (J.stop i H ∧ Q (.ref D) H) ∨ (J.go i H ∧ ∃ Nx : Hp → Prop, (∀ H', Nx H' → ∃ m', m' < m ∧ W (i + 1) m' H') ∧ ∀ x H', J.yld i H x H' → g x (wipe σ vs) H' fun σ2 H2 => wipe σ2 vs = wipe σ vs ∧ tt σ2 H2 fun b H3 =>
    if b = true then tk σ2 H3 fun y H4 => tv σ2 H4 fun z H5 => ∃ kvs k, y = kV k ∧ H5 D = some (.dK kvs) ∧ kvs.length < sizeLine ∧ Nx (upd H5 D (.dK (putK kvs k z))) else Nx H3)
section
variable {K : PySem.W.Frag} {EE : XQ} {G G1 : Hp} {n n1 : List Addr} {S S1 : Store} {H H1 : Hp} {r : BR.Env} {σ : L2.St} {g : TG} {gm : GM} {is : List Nat} {tt : TT} {t : TM} {wi : TI} {im : IM}
theorem dcm_core {tk tv : TE} {km em : EM} {vs : List Nat} {J : It} {ds : List BR.D} {Q : VK} (hg : SG K g gm is) (ht : ST K EE tt t) (hk : SE K EE tk km) (he : SE K EE tv em) (hv : ∀ i ∈ is, i ∈ vs) (s1 : SR K G1 n1 S1 H1) (e1 : ER K G1 n1 S1 H1 r σ) (it' : ItOk K (NL n1 S1 H1) G1 n1 ds J)
    (w1 : WpN K EE (dcGo gm t km em (wipeE r vs) ds (.dK [] []) S1) G1 n1 S1 H1 Q) : DcGoal J g tt tk tv vs σ H1 Q := by
  intro Dd hD
  have gD : G1 Dd = none := by
    cases q : G1 Dd with
    | none => rfl
    | some u => rw [s1.sub Dd u q] at hD; cases hD
  have lD : ¬ Live n1 S1 Dd := fun l => by
    obtain ⟨_, u, z⟩ := s1.live l
    rw [hD] at z; cases z
  refine ⟨fun i m H2 => m = ds.length - i ∧ i ≤ ds.length ∧ ∃ G2 n2 S2 acc kvs, Post K NoO G1 n1 S1 H1 G2 n2 S2 H2 ∧ G2 Dd = none ∧ ¬ Live n2 S2 Dd ∧ H2 Dd = some (.dK kvs) ∧ RelL K G2 n2 acc (kvs.map (·.2)) ∧ WpN K EE (dcGo gm t km em (wipeE r vs) (ds.drop i) (.dK (kvs.map (·.1)) acc) S2) G1 n1 S1 H1 Q,
    ⟨ds.length, by simp, Nat.zero_le _, G1, n1, S1, [], [], Post.hid s1 hD, gD, lD, upd_same, .nil, w1⟩, ?_⟩
  rintro i m H2 ⟨rfl, hi2, G2, n2, S2, acc, kvs, p2, d1, d2, d3, d4, w2⟩
  obtain ⟨stop, go⟩ := it' H2 ((NL.post p2).trans NL.sub)
  by_cases hlt : i < ds.length
  · refine .inr ?_
    have hd : ds[i]? = some ds[i] := List.getElem?_eq_getElem hlt
    obtain ⟨g1, g2⟩ := go i _ hd
    rw [drop_cons hd] at w2
    refine ⟨g1, fun H' => (ds.length - (i + 1) = ds.length - (i + 1)) ∧ i + 1 ≤ ds.length ∧ ∃ G2 n2 S2 acc kvs, Post K NoO G1 n1 S1 H1 G2 n2 S2 H' ∧ G2 Dd = none ∧ ¬ Live n2 S2 Dd ∧ H' Dd = some (.dK kvs) ∧ RelL K G2 n2 acc (kvs.map (·.2)) ∧ WpN K EE (dcGo gm t km em (wipeE r vs) (ds.drop (i + 1)) (.dK (kvs.map (·.1)) acc) S2) G1 n1 S1 H1 Q,
      fun H' z => ⟨ds.length - (i + 1), by omega, z⟩, fun x H3 y => ?_⟩
    have e1 : ER K G1 n1 S1 H1 (wipeE r vs) (wipe σ vs) := e1.wipe vs
    have main : ∀ G3, Post K NoO G2 n2 S2 H2 G3 n2 S2 H3 → Rel K G3 n2 ds[i] x → g x (wipe σ vs) H3 fun σ2 H4 => wipe σ2 vs = wipe σ vs ∧ tt σ2 H4 fun b H5 => if b = true then tk σ2 H5 fun y H6 => tv σ2 H6 fun z H7 => ∃ kvs k, y = kV k ∧ H7 Dd = some (.dK kvs) ∧ kvs.length < sizeLine ∧
        ((ds.length - (i + 1) = ds.length - (i + 1)) ∧ i + 1 ≤ ds.length ∧ ∃ G2 n2 S2 acc kvs', Post K NoO G1 n1 S1 H1 G2 n2 S2 (upd H7 Dd (.dK (putK kvs k z))) ∧ G2 Dd = none ∧ ¬ Live n2 S2 Dd ∧ (upd H7 Dd (.dK (putK kvs k z))) Dd = some (.dK kvs') ∧ RelL K G2 n2 acc (kvs'.map (·.2)) ∧ WpN K EE (dcGo gm t km em (wipeE r vs) (ds.drop (i + 1)) (.dK (kvs'.map (·.1)) acc) S2) G1 n1 S1 H1 Q)
        else ((ds.length - (i + 1) = ds.length - (i + 1)) ∧ i + 1 ≤ ds.length ∧ ∃ G2 n2 S2 acc kvs', Post K NoO G1 n1 S1 H1 G2 n2 S2 H5 ∧ G2 Dd = none ∧ ¬ Live n2 S2 Dd ∧ H5 Dd = some (.dK kvs') ∧ RelL K G2 n2 acc (kvs'.map (·.2)) ∧ WpN K EE (dcGo gm t km em (wipeE r vs) (ds.drop (i + 1)) (.dK (kvs'.map (·.1)) acc) S2) G1 n1 S1 H1 Q) := by
      intro G3 p3 rl
      obtain ⟨c1, c2, c3⟩ := hidden p3 d3 d1 d2
      have p13 := p2.tr p3
      unfold dcGo at w2
      cases q2 : gm ds[i] (wipeE r vs) with
      | none => simp only [q2] at w2; exact w2.elim
      | some r3 =>
        simp only [q2] at w2
        refine hg G3 n2 S2 H3 _ _ ds[i] x r3 _ p3.sr (e1.post p13) rl q2 fun σ3 e3 o3 wp => ?_
        refine ⟨(wp vs hv).trans (wipe_idem σ vs), ?_⟩
        refine ht G3 n2 S2 H3 r3 σ3 _ p3.sr e3 ?_
        cases q3 : t r3 S2 with
        | ok c S4 =>
          rw [q3] at w2
          intro G4 n4 H4 p4
          obtain ⟨b1, b2, b3⟩ := hidden p4 c3 c1 c2
          have p14 := p13.tr p4
          cases c with
          | false =>
            simp only [bind_ok, Bool.false_eq_true, if_false] at w2
            exact ⟨rfl, hlt, G4, n4, S4, acc, kvs, p14, b1, b2, b3, RelL.mono (p3.sub.trans p4.sub) (p3.eta.trans p4.eta) _ _ d4, w2⟩
          | true =>
            simp only [bind_ok, if_true] at w2
            refine hk G4 n4 S4 H4 r3 σ3 _ p4.sr (e3.post p4) ?_
            cases q4 : km r3 S4 with
            | ok y S5 =>
              rw [q4] at w2
              intro u G5 n5 H5 p5 rl5
              obtain ⟨a1, a2, a3⟩ := hidden p5 b3 b1 b2
              have p15 := p14.tr p5
              simp only [bind_ok] at w2
              refine he G5 n5 S5 H5 r3 σ3 _ p5.sr ((e3.post p4).post p5) ?_
              cases q5 : em r3 S5 with
              | ok z S6 =>
                rw [q5] at w2
                intro v G6 n6 H6 p6 rl6
                obtain ⟨f1, f2, f3⟩ := hidden p6 a3 a1 a2
                have p16 := p15.tr p6
                simp only [bind_ok] at w2
                cases q6 : keyD y with
                | none => simp only [dPutO, q6] at w2; exact w2.elim
                | some kk =>
                  by_cases hl : (kvs.map (·.1)).length < lim
                  · have q7 : dPutO (.dK (kvs.map (·.1)) acc) y z = some (.dK (putL (kvs.map (·.1)) acc kk z).1 (putL (kvs.map (·.1)) acc kk z).2) := by
                      simp only [dPutO, q6, if_pos hl]
                    simp only [q7] at w2
                    have rl7 : RelL K G6 n6 acc (kvs.map (·.2)) := RelL.mono (((p3.sub.trans p4.sub).trans p5.sub).trans p6.sub) (((p3.eta.trans p4.eta).trans p5.eta).trans p6.eta) _ _ d4
                    obtain ⟨z1, z2⟩ := putL_rel (k := kk) rl7 rl6
                    have ky := keyD_rel rl5 q6
                    have p7 : Post K (fun a => a = Dd) G6 n6 S6 H6 G6 n6 S6 (upd H6 Dd (.dK (putK kvs kk v))) := Post.hidW p6.sr f3 f1 f2 rfl
                    rw [z1] at w2
                    exact ⟨kvs, kk, ky, f3, by rw [← lim_eq]; simpa using hl, rfl, hlt, G6, n6, S6, _, putK kvs kk v, p16.trans p7 fun a z => .inr (z ▸ hD), f1, f2, upd_same, z2, w2⟩
                  · have q7 : dPutO (.dK (kvs.map (·.1)) acc) y z = none := by simp only [dPutO, q6, if_neg hl]
                    simp only [q7] at w2
                    exact w2.elim
              | exc x S' => rw [q5] at w2; exact fun c dd G' n' H' p' => w2 c dd G' n' H' (p15.tr p')
              | bad => rw [q5] at w2; exact w2.elim
            | exc x S' => rw [q4] at w2; exact fun c dd G' n' H' p' => w2 c dd G' n' H' (p14.tr p')
            | bad => rw [q4] at w2; exact w2.elim
        | exc x S' => rw [q3] at w2; exact fun c dd G' n' H' p' => w2 c dd G' n' H' (p13.tr p')
        | bad => rw [q3] at w2; exact w2.elim
    rcases g2 x H3 y with ⟨rfl, rl⟩ | ⟨T, us, es, hT, rfl, rfl, ed, rl⟩
    · exact main G2 (Post.refl p2.sr) (Rel.mono p2.sub p2.eta _ _ rl)
    · have p3 : Post K NoO G2 n2 S2 H2 (upd G2 T (.tup us)) n2 S2 (upd H2 T (.tup us)) := Post.frz p2.sr hT
      refine main _ p3 ?_
      rw [ed]
      simp only [Rel]
      exact ⟨T, us, rfl, upd_same, RelL.mono (p2.sub.trans p3.sub) (p2.eta.trans p3.eta) _ _ rl⟩
  · refine .inl ⟨stop i (by omega), ?_⟩
    rw [List.drop_eq_nil_of_le (by omega)] at w2
    exact w2 Dd _ G2 n2 H2 p2 hD d1 d2 d3 ⟨kvs, rfl, rfl, d4⟩
theorem SN.dc {st : Bool} {tk tv : TE} {km em : EM} {vs : List Nat} (hi : SI K EE st wi im) (hg : SG K g gm is) (ht : ST K EE tt t) (hk : SE K EE tk km) (he : SE K EE tv em) (hv : ∀ i ∈ is, i ∈ vs) : SN K EE (tDc wi g tt tk tv vs) (eDc im gm t km em vs) := fun G n S H r σ Q s e w => by
  refine hi G n S H r σ _ s e ?_
  unfold eDc at w
  cases q : im r S with
  | ok src S1 =>
    rw [q] at w
    intro J G1 n1 H1 p it
    simp only [bind_ok] at w
    cases src with
    | fix ds =>
      have it' : ItOk K (NL n1 S1 H1) G1 n1 ds J := by
        intro H2 h2
        refine it H2 ?_
        cases st with
        | true => exact (NL.gsub p.sr).trans h2
        | false => exact h2
      refine dcm_core hg ht hk he hv p.sr (e.post p) it' ?_
      have w : WpN K EE (dcGo gm t km em (wipeE r vs) ds (.dK [] []) S1) G n S H Q := w
      cases q2 : dcGo gm t km em (wipeE r vs) ds (.dK [] []) S1 with
      | ok d S2 => rw [q2] at w; exact fun p0 o G' n' H' pp z => w p0 o G' n' H' (p.tr pp) (p.back z)
      | exc x S' => rw [q2] at w; exact fun c dd G' n' H' pp => w c dd G' n' H' (p.tr pp)
      | bad => rw [q2] at w; exact w
    | cell k => exact w.elim
  | exc x S' => rw [q] at w; exact w
  | bad => rw [q] at w; exact w
end
/-! ### pieces of syntax -/
theorem ps_setDc {X : Cx} {i : Nat} {y : Str} {py : Pos} {kx vx tg iter : Expr} {ifs : List Expr} {scope : Scope} {own : List (Str × Nat)} {pos spos : Pos} {wi : TI} {g : TG} {tt : TT} {tk tv : TE} (hc : X.calm = true) (hN : X.N.Nodup) (hy : X.N[i]? = some y) (hyl : X.env.scope.names.lookup y = some .local)
    (hsw : swapsWith (.DictComp kx vx [⟨tg, iter, ifs, 0⟩] scope pos) (some (.Name y py)) spos.line X.env = pure true) (hi : PI X tg iter wi) (ok : BlkOk X.N X.env.scope scope own)
    (hg : ∀ (s : Shared) (H : Hp) (C : Addr) (cl : List (Str × Addr)) (fp : List Addr), PG (X.blk s H scope (compEnvC scope cl C X.env) fp) tg g) (ht : ∀ (s : Shared) (H : Hp) (C : Addr) (cl : List (Str × Addr)) (fp : List Addr), PTs (X.blk s H scope (compEnvC scope cl C X.env) fp) ifs tt)
    (hk : ∀ (s : Shared) (H : Hp) (C : Addr) (cl : List (Str × Addr)) (fp : List Addr), PE (X.blk s H scope (compEnvC scope cl C X.env) fp) kx tk)
    (he : ∀ (s : Shared) (H : Hp) (C : Addr) (cl : List (Str × Addr)) (fp : List Addr), PE (X.blk s H scope (compEnvC scope cl C X.env) fp) vx tv) (hs : ∀ x, foldedSetIterable iter X.env x = pure x := by intro _; rfl) :
    PS X (.Assign [.Name y py] (.DictComp kx vx [⟨tg, iter, ifs, 0⟩] scope pos) spos) (tAsg (tDc wi g tt tk tv (own.map (·.2))) (gName i)) := by
  refine ⟨fun pins s σ H D I h => ?_⟩
  rw [exec_Assign_Name_used _ _ _ _ hsw]
  refine wpAny_bind (wpAny_standAt (wpAny_bind ?_))
  show wpAny _ X.A (do let _ ← comprehension (.DictComp kx vx [⟨tg, iter, ifs, 0⟩] scope pos) scope X.env (firstIterPos [⟨tg, iter, ifs, 0⟩] pos) newDict false (eval iter X.env) (some (assign (.Name y py) X.env))) _ _ s
  have h : tDc wi g tt tk tv (own.map (·.2)) σ H (fun x H1 => gName i x σ H1 D.nx) := h
  refine wpAny_bind (thn (dc_core (Qf := fun _ s' => L2.SP X pins D .next s') hc hN I hi ok hg ht hk he hs h fun L C s' m H' I' q hn f => ?_) fun _ s' hq => wpAny_pure (wpAny_pure hq))
  show wpAny _ _ (assign (.Name y py) X.env (.ref L)) _ _ _
  refine wpAny_assign_Name (store_ok2 (v := V.ref L) I' hN hy (.inl hyl) rfl (fun s2 I2 ⟨a, sb, ha⟩ => ?_) (.inr hyl))
  obtain ⟨f0, f1, f2, f3, f4, f5⟩ := f
  have haC : C ≠ a := by
    rcases ha with z | z
    · rw [z]; exact f1
    · exact fun e => f4 y a z e.symm
  refine ⟨m, hn.sameBut sb haC, fun h3 sb3 => ?_⟩
  exact ⟨_, H', I2.turned (t' := s2.toks) (fun b o hb e => (sb3.2 b hb).trans e) f0 f1 f3 f4 f5, q⟩
theorem sw_trueD {kx vx : Expr} {gs : List Comprehension} {scope : Scope} {pos py : Pos} {y : Str} {l : Nat} {env : PySem.Env} (hk : env.scope.kind = .function) (hy : env.scope.names.lookup y = some .local) (hl : (py.line == pos.line) = true)
    (ha : (scope.names.any fun (n, k) => n == y && (k == .local || k == .cell)) = false) : swapsWith (.DictComp kx vx gs scope pos) (some (.Name y py)) l env = pure true := by
  have ky : env.kindOf y = some .local := hy
  have hb : env.blockKind = .function := by unfold PySem.Env.blockKind; rw [hk]; rfl
  unfold swapsWith
  simp only [hb, ky, ha, Expr.pos, hl]
  rfl
section
variable {X : Cx} {st : Bool} {tg b kx vx : Expr} {wi : TI} {im : IM} {gm : GM} {is : List Nat} {um : TM} {km m : EM} {pos : Pos}
theorem n_dc {ifs : List Expr} {scope : Scope} {own : List (Str × Nat)} (hc : X.calm = true) (hN : X.N.Nodup) (hi : XI X Z0 st tg b wi im) (ok : blkC X.N X.env.scope scope own = true)
    (hg : ∀ s H C cl fp, ∃ g, XG (BlkX X s H scope C cl fp) tg g gm is) (ht : ∀ s H C cl fp, ∃ t, XTs (BlkX X s H scope C cl fp) Z0 ifs t um) (hk : ∀ s H C cl fp, ∃ t, XE (BlkX X s H scope C cl fp) Z0 kx t km) (he : ∀ s H C cl fp, ∃ t, XE (BlkX X s H scope C cl fp) Z0 vx t m) (hv : (is.all fun i => decide (i ∈ own.map (·.2))) = true := by rfl)
    (hs : ∀ x, foldedSetIterable b X.env x = pure x := by intro _; rfl) : XN X Z0 (.DictComp kx vx [⟨tg, b, ifs, 0⟩] scope pos) (tDc wi (tOfG X.K gm is) (tOfT X.K Z0 um) (tOfE X.K Z0 km) (tOfE X.K Z0 m) (own.map (·.2))) (eDc im gm um km m (own.map (·.2))) :=
  ⟨pe_dc hc hN hi.1 (blkOk_by ok) (fun s H C cl fp => XG.canon (hg s H C cl fp)) (fun s H C cl fp => XTs.canon (ht s H C cl fp)) (fun s H C cl fp => XE.canon (hk s H C cl fp)) (fun s H C cl fp => XE.canon (he s H C cl fp)) hs, SN.dc hi.2 SG.canon ST.canon SE.canon SE.canon fun i hi => of_decide_eq_true (List.all_eq_true.mp hv i hi)⟩
theorem s_dcO (i : Nat) {y : Str} {py spos : Pos} {ifs : List Expr} {scope : Scope} {own : List (Str × Nat)} (hc : X.calm = true) (hN : X.N.Nodup) (hi : XI X Z0 st tg b wi im) (ok : blkC X.N X.env.scope scope own = true)
    (hg : ∀ s H C cl fp, ∃ g, XG (BlkX X s H scope C cl fp) tg g gm is) (ht : ∀ s H C cl fp, ∃ t, XTs (BlkX X s H scope C cl fp) Z0 ifs t um) (hk : ∀ s H C cl fp, ∃ t, XE (BlkX X s H scope C cl fp) Z0 kx t km) (he : ∀ s H C cl fp, ∃ t, XE (BlkX X s H scope C cl fp) Z0 vx t m) (hv : (is.all fun i => decide (i ∈ own.map (·.2))) = true := by rfl) (hy : X.N[i]? = some y := by rfl) (hyl : X.env.scope.names.lookup y = some .local := by rfl)
    (hsw : swapsWith (.DictComp kx vx [⟨tg, b, ifs, 0⟩] scope pos) (some (.Name y py)) spos.line X.env = pure true := by exact sw_trueD rfl rfl rfl (by decide +kernel)) (hs : ∀ x, foldedSetIterable b X.env x = pure x := by intro _; rfl) :
    XS X Z0 (.Assign [.Name y py] (.DictComp kx vx [⟨tg, b, ifs, 0⟩] scope pos) spos) (tAsg (tDc wi (tOfG X.K gm is) (tOfT X.K Z0 um) (tOfE X.K Z0 km) (tOfE X.K Z0 m) (own.map (·.2))) (gName i)) (mOwnN i (eDc im gm um km m (own.map (·.2)))) :=
  ⟨ps_setDc hc hN hy hyl hsw hi.1 (blkOk_by ok) (fun s H C cl fp => XG.canon (hg s H C cl fp)) (fun s H C cl fp => XTs.canon (ht s H C cl fp)) (fun s H C cl fp => XE.canon (hk s H C cl fp)) (fun s H C cl fp => XE.canon (he s H C cl fp)) hs,
    SS.ownN (SN.dc hi.2 SG.canon ST.canon SE.canon SE.canon fun i hi => of_decide_eq_true (List.all_eq_true.mp hv i hi))⟩
theorem s_dcF (i : Nat) {y : Str} {py spos : Pos} {ifs : List Expr} {scope : Scope} {own : List (Str × Nat)} (hc : X.calm = true) (hN : X.N.Nodup) (hi : XI X Z0 st tg b wi im) (ok : blkC X.N X.env.scope scope own = true)
    (hg : ∀ s H C cl fp, ∃ g, XG (BlkX X s H scope C cl fp) tg g gm is) (ht : ∀ s H C cl fp, ∃ t, XTs (BlkX X s H scope C cl fp) Z0 ifs t um) (hk : ∀ s H C cl fp, ∃ t, XE (BlkX X s H scope C cl fp) Z0 kx t km) (he : ∀ s H C cl fp, ∃ t, XE (BlkX X s H scope C cl fp) Z0 vx t m) (hv : (is.all fun i => decide (i ∈ own.map (·.2))) = true := by rfl) (hy : X.N[i]? = some y := by rfl) (hyl : X.env.scope.names.lookup y = some .local := by rfl)
    (hsw : swapsWith (.DictComp kx vx [⟨tg, b, ifs, 0⟩] scope pos) (some (.Name y py)) spos.line X.env = pure true := by exact sw_trueD rfl rfl rfl (by decide +kernel)) (hs : ∀ x, foldedSetIterable b X.env x = pure x := by intro _; rfl) :
    XS X Z0 (.Assign [.Name y py] (.DictComp kx vx [⟨tg, b, ifs, 0⟩] scope pos) spos) (tAsg (tDc wi (tOfG X.K gm is) (tOfT X.K Z0 um) (tOfE X.K Z0 km) (tOfE X.K Z0 m) (own.map (·.2))) (gName i)) (mSet (gN i) (eDc im gm um km m (own.map (·.2)))) :=
  ⟨ps_setDc hc hN hy hyl hsw hi.1 (blkOk_by ok) (fun s H C cl fp => XG.canon (hg s H C cl fp)) (fun s H C cl fp => XTs.canon (ht s H C cl fp)) (fun s H C cl fp => XE.canon (hk s H C cl fp)) (fun s H C cl fp => XE.canon (he s H C cl fp)) hs,
    SS.set (SN.frz (SN.dc hi.2 SG.canon ST.canon SE.canon SE.canon fun i hi => of_decide_eq_true (List.all_eq_true.mp hv i hi))) (SG.name i)⟩
end
section
variable {X : Cx} {st : Bool} {tg b elt tg1 b1 : Expr} {wi wi1 : TI} {im im1 : IM} {gm gm1 : GM} {is is1 : List Nat} {um um1 : TM} {m : EM} {pos : Pos}
/-- an assigned comprehension of two fors -/
theorem s_lc2F (i : Nat) {y : Str} {py spos : Pos} {ifs ifs1 : List Expr} {scope : Scope} {own : List (Str × Nat)} {vs1 : List Nat} (hc : X.calm = true) (hN : X.N.Nodup) (hi : XI X Z0 st tg b wi im) (ok : blkC X.N X.env.scope scope own = true)
    (hg : ∀ s H C cl fp, ∃ g, XG (BlkX X s H scope C cl fp) tg g gm is) (ht : ∀ s H C cl fp, ∃ t, XTs (BlkX X s H scope C cl fp) Z0 ifs t um) (hi1 : ∀ s H C cl fp, ∃ wi, XI (BlkX X s H scope C cl fp) Z0 true tg1 b1 wi im1)
    (hg1 : ∀ s H C cl fp, ∃ g, XG (BlkX X s H scope C cl fp) tg1 g gm1 is1) (ht1 : ∀ s H C cl fp, ∃ t, XTs (BlkX X s H scope C cl fp) Z0 ifs1 t um1) (he : ∀ s H C cl fp, ∃ t, XE (BlkX X s H scope C cl fp) Z0 elt t m)
    (hv : (is.all fun i => decide (i ∈ own.map (·.2))) = true := by rfl) (hv1 : (is1.all fun i => decide (i ∈ vs1)) = true := by rfl) (hv2 : (vs1.all fun i => decide (i ∈ own.map (·.2))) = true := by rfl) (hy : X.N[i]? = some y := by rfl) (hyl : X.env.scope.names.lookup y = some .local := by rfl)
    (hsw : swapsWith (.ListComp elt [⟨tg, b, ifs, 0⟩, ⟨tg1, b1, ifs1, 0⟩] scope pos) (some (.Name y py)) spos.line X.env = pure true := by exact sw_true rfl rfl rfl (by decide +kernel))
    (hs : ∀ x, foldedSetIterable b X.env x = pure x := by intro _; rfl) (hs1 : ∀ env x, foldedSetIterable b1 env x = pure x := by intro _ _; rfl) :
    XS X Z0 (.Assign [.Name y py] (.ListComp elt [⟨tg, b, ifs, 0⟩, ⟨tg1, b1, ifs1, 0⟩] scope pos) spos) (tAsg (tLc2 wi (tOfG X.K gm is) (tOfT X.K Z0 um) (tOfI X.K Z0 true im1) (tOfG X.K gm1 is1) (tOfT X.K Z0 um1) (tOfE X.K Z0 m) (own.map (·.2)) vs1) (gName i)) (mSet (gN i) (eFrz (lLc2 im gm um im1 gm1 um1 m (own.map (·.2)) vs1))) :=
  ⟨ps_setLc2 hc hN hy hyl hsw hi.1 (blkOk_by ok) (fun i hi => of_decide_eq_true (List.all_eq_true.mp hv2 i hi)) (fun s H C cl fp => XG.canon (hg s H C cl fp)) (fun s H C cl fp => XTs.canon (ht s H C cl fp)) (fun s H C cl fp => XI.canon (hi1 s H C cl fp)) (fun s H C cl fp => XG.canon (hg1 s H C cl fp)) (fun s H C cl fp => XTs.canon (ht1 s H C cl fp)) (fun s H C cl fp => XE.canon (he s H C cl fp)) hs hs1,
    SS.set (SL.frz (SL.lc2 hi.2 SG.canon ST.canon SI.canon SG.canon ST.canon SE.canon (fun i hi => of_decide_eq_true (List.all_eq_true.mp hv i hi)) fun i hi => of_decide_eq_true (List.all_eq_true.mp hv1 i hi))) (SG.name i)⟩
end
end BR

/-! An expression that only reads: all cells stand still meanwhile, and are read through. -/
namespace BR
open PySem PySem.Spec PyProof.Rows L2
/-- the value with its cells' lists in place of the cells, so deep -/
def rsv : Nat → Store → BR.D → BR.D
  | 0, _, d => d
  | k + 1, S, .ref j => match S[j]? with
    | some (some (.lst xs)) => .lst (xs.map (rsv k S))
    | _ => .ref j
  | k + 1, S, .tup xs => .tup (xs.map (rsv k S))
  | k + 1, S, .trn xs => .trn (xs.map (rsv k S))
  | k + 1, S, .lst xs => .lst (xs.map (rsv k S))
  | _ + 1, _, d => d
def rsvS (S : Store) : Slot → Slot
  | .no => .no
  | .val d => .val (rsv 6 S d)
  | .own d => .own (rsv 6 S d)
mutual
def imm : BR.D → Bool
  | .non | .bl _ | .int _ | .str _ | .ty _ => true
  | .tup xs | .trn xs => immL xs
  | _ => false
def immL : List BR.D → Bool
  | [] => true
  | d :: ds => imm d && immL ds
end
def offS (S : Store) : Store := S.map fun _ => none
def keepS (S S' : Store) : Store := S ++ List.replicate (S'.length - S.length) none
def eFz (m : EM) : EM := fun r S => match m (r.map (rsvS S)) (offS S) with
  | .ok d S' => if imm d = true then .ok d (keepS S S') else .bad
  | _ => .bad
def tFz (m : TM) : TM := fun r S => match m (r.map (rsvS S)) (offS S) with
  | .ok b S' => .ok b (keepS S S')
  | _ => .bad
section
variable {K : PySem.W.Frag} {EE : XQ} {G G1 : Hp} {n n1 : List Addr} {S S1 : Store} {H H1 : Hp}
open Classical in
noncomputable def frzG (G : Hp) (n : List Addr) (S : Store) (H : Hp) : Hp := fun a => if Live n S a then H a else G a
open Classical in
noncomputable def thawG (G1 : Hp) (n : List Addr) (S : Store) : Hp := fun a => if Live n S a then none else G1 a
theorem frz_sub (s : SR K G n S H) : Sub G (frzG G n S H) := fun a o e => by
  unfold frzG
  split
  · rename_i l
    rw [(s.live l).1] at e; cases e
  · exact e
theorem frz_le (s : SR K G n S H) : Sub (frzG G n S H) H := fun a o e => by
  unfold frzG at e
  split at e
  · exact e
  · exact s.sub a o e
theorem frz_at {a : Addr} (l : Live n S a) : frzG G n S H a = H a := by
  unfold frzG; rw [if_pos l]
theorem frz_off {a : Addr} (l : ¬ Live n S a) : frzG G n S H a = G a := by
  unfold frzG; rw [if_neg l]
theorem off_get {k : Nat} {d : BR.D} : (offS S)[k]? ≠ some (some d) := fun e => by
  unfold offS at e
  rw [List.getElem?_map] at e
  cases q : S[k]? with
  | none => rw [q] at e; cases e
  | some c => rw [q] at e; cases e
theorem off_live {a : Addr} : ¬ Live n (offS S) a := fun ⟨_, _, _, e⟩ => off_get e
theorem off_sr (s : SR K G n S H) : SR K (frzG G n S H) n (offS S) H :=
  ⟨frz_le s, by rw [s.len]; unfold offS; simp, fun k a d _ e => (off_get e).elim, fun j k a d e _ e2 => (off_get e2).elim⟩
theorem relL_map {f : BR.D → BR.D} {G' : Hp} (hf : ∀ d v, Rel K G n d v → Rel K G' n (f d) v) : ∀ {ds : List BR.D} {vs : List V}, RelL K G n ds vs → RelL K G' n (ds.map f) vs
  | [], vs, h => by simp only [RelL] at h; subst h; exact .nil
  | d :: ds, vs, h => by
    simp only [RelL] at h
    obtain ⟨v, r, e, h1, h2⟩ := h
    subst e
    exact .cons (hf d v h1) (relL_map hf h2)
theorem rsv_rel (s : SR K G n S H) : ∀ (k : Nat) (d : BR.D) (v : V), Rel K G n d v → Rel K (frzG G n S H) n (rsv k S d) v
  | 0, d, v, h => Rel.mono (frz_sub s) (Pre.refl _) d v h
  | k + 1, d, v, h => by
    have mono := Rel.mono (frz_sub s) (Pre.refl n) d v h
    cases d with
    | tup xs =>
      simp only [Rel, rsv] at h ⊢
      obtain ⟨a, vs, e, q, r⟩ := h
      exact ⟨a, vs, e, frz_sub s _ _ q, relL_map (rsv_rel s k) r⟩
    | trn xs =>
      simp only [Rel, rsv] at h ⊢
      obtain ⟨a, vs, e, q, r⟩ := h
      exact ⟨a, vs, e, (frz_sub s).tn q, relL_map (rsv_rel s k) r⟩
    | lst xs =>
      simp only [Rel, rsv] at h ⊢
      obtain ⟨a, vs, e, q, r⟩ := h
      exact ⟨a, vs, e, frz_sub s _ _ q, relL_map (rsv_rel s k) r⟩
    | ref j =>
      unfold rsv
      split
      · rename_i xs q
        simp only [Rel] at h
        obtain ⟨a, e, hn⟩ := h
        obtain ⟨_, o, ho, hr⟩ := s.cell j a _ hn q
        obtain ⟨vs, rfl, hr⟩ := hr
        simp only [Rel]
        refine ⟨a, vs, e, ?_, relL_map (rsv_rel s k) hr⟩
        rw [frz_at ⟨j, _, hn, q⟩]
        exact ho
      · exact mono
    | _ => exact mono
theorem rsv_hor (s : SR K G n S H) (k : Nat) (d : BR.D) (o : HO) (h : HoR K G n d o) : HoR K (frzG G n S H) n (rsv k S d) o := by
  have mono := HoR.mono (frz_sub s) (Pre.refl n) d o h
  cases k with
  | zero => exact mono
  | succ k =>
    cases d with
    | lst xs =>
      obtain ⟨vs, e, r⟩ := h
      exact ⟨vs, e, relL_map (rsv_rel s k) r⟩
    | tup _ | trn _ | ref _ => exact h.elim
    | _ => exact mono
theorem off_er {r : Env} {σ : L2.St} (s : SR K G n S H) (h : ER K G n S H r σ) : ER K (frzG G n S H) n (offS S) H (r.map (rsvS S)) σ := by
  have gv : ∀ (i : Nat) (d : BR.D), (r.map (rsvS S))[i]? = some (.val d) → ∃ d0, r[i]? = some (.val d0) ∧ d = rsv 6 S d0 := fun i d e => by
    rw [List.getElem?_map] at e
    cases q : r[i]? with
    | none => rw [q] at e; cases e
    | some c =>
      rw [q] at e
      cases c with
      | no => cases e
      | val d0 => cases e; exact ⟨d0, rfl, rfl⟩
      | own d0 => cases e
  have go : ∀ (i : Nat) (d : BR.D), (r.map (rsvS S))[i]? = some (.own d) → ∃ d0, r[i]? = some (.own d0) ∧ d = rsv 6 S d0 := fun i d e => by
    rw [List.getElem?_map] at e
    cases q : r[i]? with
    | none => rw [q] at e; cases e
    | some c =>
      rw [q] at e
      cases c with
      | no => cases e
      | val d0 => cases e
      | own d0 => cases e; exact ⟨d0, rfl, rfl⟩
  refine ⟨by rw [List.length_map]; exact h.len, fun i d e => ?_, fun i d e => ?_, fun i j a d e e1 e2 e3 e4 => ?_⟩
  · obtain ⟨d0, e0, rfl⟩ := gv i d e
    obtain ⟨v, h1, h2⟩ := h.val i d0 e0
    exact ⟨v, h1, rsv_rel s 6 d0 v h2⟩
  · obtain ⟨d0, e0, rfl⟩ := go i d e
    obtain ⟨a, o, h1, h2, h3, h4, h5⟩ := h.own i d0 e0
    exact ⟨a, o, h1, by rw [frz_off h3]; exact h2, off_live, h4, rsv_hor s 6 d0 o h5⟩
  · obtain ⟨d0, f0, _⟩ := go i d e1
    obtain ⟨d1, f1, _⟩ := go j e e3
    exact h.inj i j a d0 d1 f0 e2 f1 e4
theorem thaw_sub (s : SR K G n S H) (q : Sub (frzG G n S H) G1) : Sub G (thawG G1 n S) := fun a o e => by
  unfold thawG
  split
  · rename_i l
    rw [(s.live l).1] at e; cases e
  · exact q a o (frz_sub s a o e)
theorem thaw_post (s : SR K G n S H) (p : Post K NoO (frzG G n S H) n (offS S) H G1 n1 S1 H1) : Post K NoO G n S H (thawG G1 n S) n1 (keepS S S1) H1 := by
  have hle : Sub (thawG G1 n S) G1 := fun a o e => by
    unfold thawG at e
    split at e
    · cases e
    · exact e
  have hl : n.length = S.length := s.len
  have hl1 : n1.length = S1.length := p.sr.len
  have hp : n.length ≤ n1.length := p.eta.len
  have kp : ∀ (k : Nat) (d : BR.D), (keepS S S1)[k]? = some (some d) → S[k]? = some (some d) := fun k d e => by
    unfold keepS at e
    by_cases hk : k < S.length
    · rw [List.getElem?_append_left hk] at e; exact e
    · rw [List.getElem?_append_right (by omega), List.getElem?_replicate] at e
      split at e <;> cases e
  refine ⟨s, ⟨fun a o e => p.sr.sub a o (hle a o e), ?_, fun k a d e1 e2 => ?_, fun j k a d e e1 e2 e3 e4 => ?_⟩, thaw_sub s p.sub, p.eta, fun a o e _ no => p.frame a o e off_live no, p.there, p.newc, fun k e => ?_, fun a o e => ?_⟩
  · unfold keepS
    rw [List.length_append, List.length_replicate]; omega
  · have q := kp k d e2
    have hk : k < n.length := by rw [hl]; exact (List.getElem?_eq_some_iff.mp q).1
    have e0 := p.eta.back e1 hk
    obtain ⟨g, o, ho, hr⟩ := s.cell k a d e0 q
    refine ⟨?_, o, p.frame a o ho off_live (fun x => x), HoR.mono (thaw_sub s p.sub) p.eta d o hr⟩
    unfold thawG
    rw [if_pos ⟨k, d, e0, q⟩]
  · have q := kp j d e2
    have q2 := kp k e e4
    have hj : j < n.length := by rw [hl]; exact (List.getElem?_eq_some_iff.mp q).1
    have hk : k < n.length := by rw [hl]; exact (List.getElem?_eq_some_iff.mp q2).1
    exact s.inj j k a d e (p.eta.back e1 hj) q (p.eta.back e3 hk) q2
  · unfold keepS
    rw [List.getElem?_append_left (List.getElem?_eq_some_iff.mp e).1]
    exact e
  · unfold thawG at e
    split at e
    · cases e
    · rename_i nl
      rcases p.gnew a o e with x | x | x | x
      · rw [frz_off nl] at x; exact .inl x
      · exact .inr (.inl x)
      · exact (off_live x).elim
      · exact x.elim
mutual
theorem imm_rel (s : SR K G n S H) (p : Post K NoO (frzG G n S H) n (offS S) H G1 n1 S1 H1) : ∀ (d : BR.D) (v : V), imm d = true → Rel K G1 n1 d v → Rel K (thawG G1 n S) n1 d v
  | .non, _, _, h | .bl _, _, _, h | .int _, _, _, h | .str _, _, _, h | .ty _, _, _, h => by
    simpa only [Rel] using h
  | .tup ds, v, e, h => by
    simp only [Rel] at h ⊢
    obtain ⟨a, vs, ev, q, r⟩ := h
    refine ⟨a, vs, ev, ?_, imm_relL s p ds vs (by simpa [imm] using e) r⟩
    unfold thawG
    rw [if_neg fun l => ?_]
    · exact q
    · obtain ⟨k, d, e1, e2⟩ := l
      obtain ⟨_, o, ho, hr⟩ := s.cell k a d e1 e2
      have h1 := p.frame a o ho off_live (fun x => x)
      have h2 := p.sr.sub _ _ q
      rw [h1] at h2
      cases h2
      cases d <;> first | exact hr.elim | (obtain ⟨_, z, _⟩ := hr; cases z)
  | .trn ds, v, e, h => by
    simp only [Rel] at h ⊢
    obtain ⟨a, vs, ev, q, r⟩ := h
    refine ⟨a, vs, ev, ?_, imm_relL s p ds vs (by simpa [imm] using e) r⟩
    rcases q with ⟨o, q, z⟩ | q
    · refine .inl ⟨o, ?_, z⟩
      unfold thawG
      rw [if_neg fun l => ?_]
      · exact q
      · obtain ⟨k, d, e1, e2⟩ := l
        obtain ⟨_, o, ho, hr⟩ := s.cell k a d e1 e2
        have h1 := p.frame a o ho off_live (fun x => x)
        have h2 := p.sr.sub _ _ q
        rw [h1] at h2
        cases h2
        cases d <;> first | exact hr.elim | (obtain ⟨_, z, _⟩ := hr; cases z)
    · exact .inr q
  | .lst _, _, e, _ | .scr _, _, e, _ | .dK _ _, _, e, _ | .dT _ _, _, e, _ | .ref _, _, e, _ => by simp [imm] at e
theorem imm_relL (s : SR K G n S H) (p : Post K NoO (frzG G n S H) n (offS S) H G1 n1 S1 H1) : ∀ (ds : List BR.D) (vs : List V), immL ds = true → RelL K G1 n1 ds vs → RelL K (thawG G1 n S) n1 ds vs
  | [], vs, _, h => by simpa only [RelL] using h
  | d :: ds, vs, e, h => by
    simp only [RelL] at h ⊢
    simp only [immL, Bool.and_eq_true] at e
    obtain ⟨v, r, ev, h1, h2⟩ := h
    exact ⟨v, r, ev, imm_rel s p d v e.1 h1, imm_relL s p ds r e.2 h2⟩
end
theorem SE.fz {t : TE} {m : EM} (h : SE K EE t m) : SE K EE t (eFz m) := fun G n S H r σ Q s e w => by
  refine h _ _ _ _ _ _ Q (off_sr s) (off_er s e) ?_
  unfold eFz at w
  cases q : m (r.map (rsvS S)) (offS S) with
  | bad => rw [q] at w; exact w.elim
  | exc x S' => rw [q] at w; exact w.elim
  | ok d S' =>
    rw [q] at w
    dsimp only at w
    split at w
    · rename_i hi
      exact fun v G' n' H' p rv => w v _ n' H' (thaw_post s p) (imm_rel s p d v hi rv)
    · exact w.elim
theorem ST.fz {t : TT} {m : TM} (h : ST K EE t m) : ST K EE t (tFz m) := fun G n S H r σ Q s e w => by
  refine h _ _ _ _ _ _ Q (off_sr s) (off_er s e) ?_
  unfold tFz at w
  cases q : m (r.map (rsvS S)) (offS S) with
  | bad => rw [q] at w; exact w.elim
  | exc x S' => rw [q] at w; exact w.elim
  | ok d S' =>
    rw [q] at w
    exact fun G' n' H' p => w _ n' H' (thaw_post s p)
end
section
variable {X : Cx} {EE : XQ} {e : Expr} {t : TE} {m : EM} {tt : TT} {tm : TM}
theorem XE.fz (h : XE X EE e t m) : XE X EE e t (eFz m) := ⟨h.1, h.2.fz⟩
theorem XT.fz (h : XT X EE e tt tm) : XT X EE e tt (tFz tm) := ⟨h.1, h.2.fz⟩
theorem XW.fz (h : XW X EE e tt tm) : XW X EE e tt (tFz tm) := ⟨h.1, h.2.fz⟩
end
end BR

/-! What raises: defs that let exceptions out, raise. -/
namespace BR
open PySem PySem.Spec PyProof.Rows L2
/-! ### a piece that lets nothing out, where something may be let out -/
def rNx {α : Type} : Res α → Res α
  | .exc _ _ => .bad
  | x => x
def eNx (m : EM) : EM := fun r S => rNx (m r S)
def tNx (m : TM) : TM := fun r S => rNx (m r S)
def lNx (m : LM) : LM := fun r S => rNx (m r S)
def mNx (m : SM) : SM := fun r S => rNx (m r S)
section
variable {K : PySem.W.Frag} {EE : XQ}
theorem SE.nx {t : TE} {m : EM} (h : SE K Z0 t m) : SE K EE t (eNx m) := fun G n S H r σ Q s e w => h G n S H r σ Q s e (by
  unfold eNx at w
  cases q : m r S with
  | ok d S1 => rw [q] at w; exact w
  | exc x S1 => rw [q] at w; exact w.elim
  | bad => rw [q] at w; exact w.elim)
theorem SB.nx {t : TE} {m : EM} (h : SB K Z0 t m) : SB K EE t (eNx m) := fun G n S H r σ Q s e w => h G n S H r σ Q s e (by
  unfold eNx at w
  cases q : m r S with
  | ok d S1 => rw [q] at w; exact w
  | exc x S1 => rw [q] at w; exact w.elim
  | bad => rw [q] at w; exact w.elim)
theorem ST.nx {t : TT} {m : TM} (h : ST K Z0 t m) : ST K EE t (tNx m) := fun G n S H r σ Q s e w => h G n S H r σ Q s e (by
  unfold tNx at w
  cases q : m r S with
  | ok d S1 => rw [q] at w; exact w
  | exc x S1 => rw [q] at w; exact w.elim
  | bad => rw [q] at w; exact w.elim)
theorem SA.nx {t : TA} {m : LM} (h : SA K Z0 t m) : SA K EE t (lNx m) := fun G n S H r σ Q s e w => h G n S H r σ Q s e (by
  unfold lNx at w
  cases q : m r S with
  | ok d S1 => rw [q] at w; exact w
  | exc x S1 => rw [q] at w; exact w.elim
  | bad => rw [q] at w; exact w.elim)
theorem SL.nx {t : TE} {m : LM} (h : SL K Z0 t m) : SL K EE t (lNx m) := fun G n S H r σ Q s e w => h G n S H r σ Q s e (by
  unfold lNx at w
  cases q : m r S with
  | ok d S1 => rw [q] at w; exact w
  | exc x S1 => rw [q] at w; exact w.elim
  | bad => rw [q] at w; exact w.elim)
theorem SS.nx {t : TS} {m : SM} (h : SS K Z0 t m) : SS K EE t (mNx m) := fun G n S H r σ D s e w => h G n S H r σ D s e (by
  unfold mNx at w
  cases q : m r S with
  | ok d S1 => rw [q] at w; cases d <;> exact w
  | exc x S1 => rw [q] at w; exact w.elim
  | bad => rw [q] at w; exact w.elim)
end
section
variable {X : Cx} {EE : XQ} {e : Expr} {t : TE} {m : EM} {tt : TT} {tm : TM} {ta : TA} {l : LM} {ts : TS} {sm : SM} {es : List Expr} {st : Stmt} {sts : List Stmt}
theorem XE.nx (h : XE X Z0 e t m) : XE X EE e t (eNx m) := ⟨h.1, h.2.nx⟩
theorem XB.nx (h : XB X Z0 e t m) : XB X EE e t (eNx m) := ⟨h.1, h.2.nx⟩
theorem XT.nx (h : XT X Z0 e tt tm) : XT X EE e tt (tNx tm) := ⟨h.1, h.2.nx⟩
theorem XW.nx (h : XW X Z0 e tt tm) : XW X EE e tt (tNx tm) := ⟨h.1, h.2.nx⟩
theorem XA.nx (h : XA X Z0 es ta l) : XA X EE es ta (lNx l) := ⟨h.1, h.2.nx⟩
theorem XL.nx (h : XL X Z0 e t l) : XL X EE e t (lNx l) := ⟨h.1, h.2.nx⟩
theorem XS.nx (h : XS X Z0 st ts sm) : XS X EE st ts (mNx sm) := ⟨h.1, h.2.nx⟩
theorem XSs.nx (h : XSs X Z0 sts ts sm) : XSs X EE sts ts (mNx sm) := ⟨h.1, h.2.nx⟩
end
/-! ### what is wished of an exception, by its class's name in the module -/
def EEof (K : PySem.W.Frag) (E : XK) : XQ := fun x c dd H => c = clsV K x.cls → dd = none → E c dd H
def spE (K : PySem.W.Frag) (k : Nat) (m : FM) : Sp := fun vs H Q E => spOf K k m vs H Q (EEof K E)
section
variable {X : Cx} {E : XK} {es : List Expr} {tas : TA} {ms : LM} {p pos : Pos}
theorem x_callE {x : Str} {k j ar : Nat} {m : FM} {e0 : Expr} (tk : Takes X (fun cls d _ H => E cls d H)) (D : DefOk X.prog X.w X.K X.mg X.base (L2.CX X.prog X.w) x k (spE X.K ar m)) (har : ∀ ds S, ds.length ≠ ar → m ds S = .bad) (hr : Rm j X.A) (hjk : k ≤ j) (ha : XA X (EEof X.K E) (e0 :: es) tas ms) (hg : Gl X x := by rfl) (hdb : (x == ("__debug__" : Str)) = false := by decide)
    (he : starEach (e0 :: es) X.env = (false, eval e0 X.env) :: starEach es X.env := by rfl) (hpl : (backTo pos (starEach es X.env)).any (·.1) = false := by rfl) :
    XE X (EEof X.K E) (.Call (.Name x p) (e0 :: es) [] pos) (tCall (spE X.K ar m) [] E tas) (eA m ms) := by
  obtain ⟨f, fd, ps, F, hm, hk, hb⟩ := D.ex
  refine ⟨⟨fun pins s σ H Q I h => wpAny_Call_Name_kw (ld_glob I hg hm ?_ hdb)⟩, SE.call ha.2 fun G n S H vs ds Q s rl w => sp_call (bad_ar har w) s rl w⟩
  refine PySem.W.callWith_K (h₀ := X.base) I.ok.mod.kin hk (thn (ha.1.run pos pins s σ H _ I h) fun us s1 z => ?_) he hpl
  obtain ⟨vs, H1, I1, r, q⟩ := z
  exact ⟨I1.kIn, run_fnG F (hr.mono hjk) hb .nil (passes_call tk fun _ _ _ _ h => h) I1 r q⟩
/-! ### raise -/
/-- what is known of a class of errors -/
structure ExcF (K : PySem.W.Frag) (mg : Str → Option Value) (n : String) : Prop where
  g : mg (PySem.Str.ofString n) = some (clsV K n)
  x : PySem.W.excIn K (He.ga K (PySem.Str.ofString n)) He.veBase "ValueError.__new__" = true
  k : PySem.W.keepIn K (clsV K n) = true
  s : PySem.W.subIn K (clsV K n) (.type "BaseException") = some true
  t : PySem.W.typeIn K (clsV K n) = some (.type "type")
def mRaise (n : String) : SM := fun _ S => .exc ⟨n, none⟩ S
theorem s_raise (n : String) {x t : Str} {j : Nat} {p2 p3 : Pos} (F : ExcF X.K X.mg n) (hc : X.calm = true) (tk : Takes X (fun cls d _ H => E cls d H)) (hg : Gl X x := by rfl) (hx : x = PySem.Str.ofString n := by rfl) (hdb : (x == ("__debug__" : Str)) = false := by decide) :
    XS X (EEof X.K E) (.Raise (some (.Call (.Name x p) [.Constant (.str t) j p2] [] p3)) none pos) (fun _ σ H => E (clsV X.K n) none H) (mRaise n) := by
  subst hx
  refine ⟨ps_raise hc tk (pmk_own PySem.F.excBase_ValueError F.x F.g F.k (raises_own F.s F.t) hg hdb), fun G n' S H r σ D s e w => ?_⟩
  exact w (clsV X.K n) none G n' H (Post.refl s) True.intro rfl rfl
end
/-! ### a def that may raise -/
section
variable {P : Program} {w : World} {K : PySem.W.Frag} {mg : Str → Option Value} {base : Heap} {x : Str} {st : Stmt} {f : Addr} {fd : FuncData}
abbrev CtxE (P : Program) (w : World) (K : PySem.W.Frag) (mg : Str → Option Value) (base : Heap) (N : List Str) (qual : Str) (st : Stmt) (f : Addr) (cdv : Value) (A : Around) (outer : List PySem.Env) (s : Shared) (H : Hp) (E : XK) : Cx :=
  cxOf (L2.CX P w) P w K mg base N qual (defScope st) f cdv A outer s H E
theorem tkE {N : List Str} {qual : Str} {cdv : Value} {A : Around} {outer : List PySem.Env} {s : Shared} {H : Hp} {E : XK} : Takes (CtxE P w K mg base N qual st f cdv A outer s H E) (fun cls d _ H => E cls d H) := takes_of rfl rfl rfl rfl
def BodyE (P : Program) (w : World) (K : PySem.W.Frag) (mg : Str → Option Value) (base : Heap) (N : List Str) (x : Str) (st : Stmt) (k : Nat) (sm : SM) : Prop :=
  ∀ (f : Addr) (cdv : Value) (A : Around) (outer : List PySem.Env) (s : Shared) (H : Hp) (E : XK), Rm k (A.deeper (envOfC x (defScope st) s.heap.objs.size f cdv)) → ∃ t, XSs (CtxE P w K mg base N x st f cdv A outer s H E) (EEof K E) (defBody st) t sm
theorem fnG_bodyE {N ps : List Str} {k ar n : Nat} {sm : SM} (F : FnP K x st f fd) (S : FnScope N ps (defScope st)) (har : ar = ps.length) (hn : n = N.length) (h : BodyE P w K mg base N x st k sm) : FnG P w K mg base (L2.CX P w) (k + 1) f fd ps (spE K ar (runA ar n sm)) := by
  obtain ⟨oc, od, dV, kV, doc, pm, an, cdv, ct, osl, rfl, lk, hcd, _, _⟩ := F.ex
  refine fn_ofG lk hcd S (fun vs H Q E q => by rw [q.1, har]) (fun A outer s H vs Q E hr hsp => ?_)
  obtain ⟨t, ht⟩ := h f cdv A outer s H E hr
  exact ⟨t, ht.1, body_okA ht.2 hn hsp⟩
theorem defD_okE {N ps : List Str} {k ar n : Nat} {sm : SM} (F : ∃ fd, FnP K x st f fd) (hmg : mg x = some (.ref f)) (S : FnScope N ps (defScope st)) (har : ar = ps.length) (hn : n = N.length)
    (hb : ∀ (kV doc pm : Value) (an : Option Addr) (cdv ct : Value) (us : List Value), us.length = ps.length → bindArgs (PySem.W.fnOf x x (defArgs st) (defBody st) (defScope st) .none kV doc pm an cdv ct) ⟨us, []⟩ = pure (ps.zip us))
    (h : BodyE P w K mg base N x st k sm) : DefOk P w K mg base (L2.CX P w) x (k + 1) (spE K ar (runA ar n sm)) := by
  obtain ⟨fd, F⟩ := F
  exact ⟨f, fd, ps, fnG_bodyE F S har hn h, hmg, F.kp, F.bindsN hb⟩
theorem defD_okKE {N ps ks : List Str} {k ar n np : Nat} {sm : SM} (F : ∃ fd, FnP K x st f fd) (hmg : mg x = some (.ref f)) (S : FnScope N ps (defScope st)) (har : ar = ps.length) (hn : n = N.length)
    (hb : ∀ (kV doc pm : Value) (an : Option Addr) (cdv ct : Value) (us ws : List Value), us.length = np → ws.length = ks.length → bindArgs (PySem.W.fnOf x x (defArgs st) (defBody st) (defScope st) .none kV doc pm an cdv ct) ⟨us, ks.zip ws⟩ = pure (ps.zip (us ++ ws)))
    (h : BodyE P w K mg base N x st k sm) : DefOkK P w K mg base (L2.CX P w) x (k + 1) np ks (spE K ar (runA ar n sm)) := by
  obtain ⟨fd, F⟩ := F
  refine ⟨f, fd, ps, fnG_bodyE F S har hn h, hmg, F.kp, ?_⟩
  obtain ⟨oc, od, dV, kV, doc, pm, an, cdv, ct, osl, rfl, lk, hcd, hD, hK⟩ := F.ex
  rcases hD with ⟨_, rfl⟩ | ⟨e, _⟩
  · exact ⟨fun s us ws _ l1 l2 => .of_eq (hb kV doc pm an cdv ct us ws l1 l2), fun r rz => r.append rz⟩
  · exact absurd rfl e
end
end BR

/-! An exception that is caught and kept. -/
namespace BR
open PySem PySem.Spec PyProof.Rows L2
theorem exV_ok {P : Program} {w : World} {H : Hp} {h : Heap} {a : Addr} {cls : Value} {oe : Obj} {vs : Array Value} (e : h.get? a = some oe) (z : Zc cls none oe) (d : oe.data = .fields vs) : ObjOk P w H h a (ExV cls a) :=
  ⟨⟨oe, vs, e, z, d⟩, ⟨oe, e⟩, fun _ _ ⟨o, v, q, r⟩ k => ⟨o, v, k o q, r⟩⟩
section
variable {X : Cx} {pins : List (Addr × Obj)} {σ : L2.St} {H : Hp} {s : Shared}
/-- what is there, new since the entry, is tracked from now on -/
theorem Inv.track {a : Addr} {o : HO} (I : Inv X pins σ H s) (hn : H a = none) (n0 : X.s_0.heap.get? a = none) (hL : a ≠ X.env.locals) (hc : ∀ x c, X.env.cells.lookup x = some c → c ≠ a) (hp : ∀ p ∈ X.pn ++ pins, p.1 ≠ a)
    (new : ObjOk X.prog X.w (upd H a o) s.heap a o) : Inv X pins σ (upd H a o) s where
  ok := I.ok
  os := I.os
  bare := I.bare
  base := ⟨I.base.keep, I.base.slot, fun b ob e n x => by
      rw [upd_ne (fun z => by rw [z, n0] at e; cases e)]
      exact I.base.free b ob e n x, I.base.there, fun b xs e => by
      have q := I.base.tups b xs e
      rw [upd_ne (ne_of_none q hn)]; exact q, fun b u v e => by
      have q := I.base.frzs b u v e
      rw [upd_ne (ne_of_none q hn)]; exact q, fun b ps e => by
      obtain ⟨m, q⟩ := I.base.tbls b ps e
      exact ⟨m, by rw [upd_ne (ne_of_none q hn)]; exact q⟩⟩
  loc := I.loc
  cell := I.cell
  free := by rw [upd_ne (Ne.symm hL)]; exact I.free
  freeC := fun x c e => by rw [upd_ne (hc x c e)]; exact I.freeC x c e
  pin := fun p h => by
    obtain ⟨e, n, r⟩ := I.pin p h
    exact ⟨e, by rw [upd_ne (hp p h)]; exact n, r⟩
  hok := fun b u e => by
    by_cases hb : b = a
    · subst hb
      rw [upd_same] at e
      cases e
      exact new
    · rw [upd_ne hb] at e
      exact (I.hok b u e).stay (fun c v _ q => q) (fun c q => by rw [upd_ne (ne_of_none q hn)]; exact q) fun c xs q => by rw [upd_ne (ne_of_none q hn)]; exact q
  len := I.len
end
/-- what the clause 'except x as n: suite' wishes of an exception of the body, where it is kept: slot i is n's -/
def wKeep (K : PySem.W.Frag) (c : Value) (i : Nat) (ts : Addr → Value → Option Addr → TS) (Wout : WX) (D : Ends) : WX := fun cls d σ H =>
  ∃ b, PySem.W.exmOne K cls c = some b ∧ (b = true → d = none ∧ ∀ a, H a = none → ts a cls d { nx := fun σ' H' => H' = H ∧ D.nx (σ'.set i none) (upd H a (ExV cls a)), rt := fun _ _ => False, bk := fun _ _ => False, ct := fun _ _ => False } (σ.set i (some (.ref a))) H) ∧
    (b = false → Wout cls d σ H)
section
variable {X : Cx} {x n : Str} {c : Value} {i : Nat} {body suite : List Stmt} {b₀ : Stmt} {np pos pos' : Pos} {tb : WX → TS} {ts : Addr → Value → Option Addr → TS} {Wout : WX}
theorem ps_try_keep (hs : X.stack = X.env :: X.outer) (hf : X.env.frame = some X.env.locals) (hex : X.ex = []) (hN : X.N.Nodup) (hi : X.N[i]? = some n) (hln : X.env.kindOf n = some .local) (hc : Names X x c) (tk : Takes X Wout)
    (hb : ∀ (W : WX) (pn : List (Addr × Obj)) (xe : Value → Shared → Prop), Takes (X.tr pn xe) W → PSs (X.tr pn xe) body (tb W))
    (hsu : ∀ (a : Addr) (oe : Obj) (cls : Value) (d : Option Addr) (pn : List (Addr × Obj)), Zc cls d oe → (∃ vs, oe.data = .fields vs) → PSs (X.suite a ((a, oe) :: pn)) (b₀ :: suite) (ts a cls d)) :
    PS X (.Try body [.ExceptHandler (some (.Name x np)) (some n) (b₀ :: suite) pos'] [] [] pos) (fun D σ H => tb (wKeep X.K c i ts Wout D) D σ H) := by
  refine ⟨fun pins s σ H D I h => ?_⟩
  have ok := I.ok
  have hfr : X.A.frames = some (X.env :: X.outer) := by rw [ok.frames, hs]
  refine wpAny_Try_except (wpAny_mono ((hb (wKeep X.K c i ts Wout D) (X.pn ++ pins) (fun e s₁ => wpAny (model X.prog X.w) X.A (noteFrame e X.env) (fun _ s₂ => wpAny (model X.prog X.w) X.A (setFlight e none) (fun _ s₃ =>
    wpAny (model X.prog X.w) X.A (handleBy e X.env [.ExceptHandler (some (.Name x np)) (some n) (b₀ :: suite) pos']) (L2.SP X pins D) X.xe s₃) X.xe s₂) X.xe s₁) (fun u s' xx => ?caught)).run [] s σ H D (I.toTry _) h) (fun f s1 hsp => ?ended) (fun e s1 he => he))
  case ended =>
    cases f with
    | next => obtain ⟨σ', H', J', q⟩ := hsp; exact wpAny_execs_nil ⟨σ', H', J'.ofTry ok, q⟩
    | brk => obtain ⟨σ', H', J', q⟩ := hsp; exact ⟨σ', H', J'.ofTry ok, q⟩
    | cont => obtain ⟨σ', H', J', q⟩ := hsp; exact ⟨σ', H', J'.ofTry ok, q⟩
    | ret u => obtain ⟨v, σ', H', J', r, q⟩ := hsp; exact ⟨v, σ', H', J'.ofTry ok, r, q⟩
  case caught =>
    obtain ⟨a, B, sI, pins', σ', H', cls, d, rfl, J', nb, up, sky, na, os, ag, b, hb1, hyes, hno⟩ := xx
    have J : Inv X pins σ' H' sI := J'.ofTry ok
    rw [hs] at sky
    show wpAny (model X.prog X.w) X.A (noteFrame (.ref a) X.env) _ _ _
    refine Sky.land Zc.steady hfr hf sky fun h3 fl3 up3 => ?_
    have J3 : Inv X pins σ' H' { s' with heap := h3 } := J.landed nb fl3.1 (up.trans up3) os ag
    obtain ⟨oe3, vs3, he3, hz3, hd3⟩ := fl3.there
    have nfr : a ∉ frs (X.env :: X.outer) := fun hm => by
      obtain ⟨_, o', e', hnf⟩ := fl3.2.2.1.mem hm
      rw [he3] at e'; cases e'
      exact hnf _ hd3
    have nL : a ≠ X.env.locals := fun z => nfr (List.mem_filterMap.mpr ⟨X.env, List.mem_cons_self, by rw [hf, z]⟩)
    have nF : a ∉ X.fs := fun hm => by
      obtain ⟨e, he, q⟩ := List.mem_filterMap.mp hm
      exact nfr (List.mem_filterMap.mpr ⟨e, List.mem_cons_of_mem _ he, q⟩)
    have nI : sI.heap.get? a = none := by
      cases q : sI.heap.get? a with
      | none => rfl
      | some o =>
        have z := nb a o q (by rw [hs]; exact nfr)
        rw [fl3.2.1] at z; cases z
    have S3 := J3.suite he3 hd3 na nL nF
    refine wpAny_handleBy_cons (codeAny_handlers_test ?_) (by intro q; cases q)
    have LM := PySem.W.exm_one (M := model X.prog X.w) (J3.kIn) (cls := cls) (fun A Q E s k q => wpAny_typeOf_ref (k _ _ he3) (by rw [hz3.1]; exact q)) hb1
    have test : ∀ {Q : Value → Shared → Prop} {E : Value → Shared → Prop}, Q c { s' with heap := h3 } → wpAny (model X.prog X.w) (X.A.mark (some (.ref a))) (eval (.Name x np) X.env) Q E { s' with heap := h3 } := fun {Q E} q => by
      obtain ⟨hg, hdbg, hm | ⟨hm, hv, hnn⟩⟩ := hc
      · exact ld_glob (X := X.suite a ((a, oe3) :: (X.pn ++ pins))) S3 hg hm q hdbg
      · exact ld_blt (X := X.suite a ((a, oe3) :: (X.pn ++ pins))) S3 hg hm hv q hnn hdbg
    refine test (LM.here ?_)
    cases b with
    | false =>
      show wpAny _ X.A (handleBy (.ref a) X.env []) _ _ _
      refine wpAny_handleBy_nil ?_
      obtain ⟨_, _, _, oe, vs, T, oT, ts', he, hz, hd, h1, hr⟩ := id fl3
      unfold PySem.passOn
      refine wpAny_bind (wpAny_field he hd h1 ?_)
      rw [if_neg (show ¬ ((Value.ref T == Value.none) = true) from by simp)]
      have fin : wpAny (model X.prog X.w) X.A (setFlight (.ref a) X.env.frame) (fun _ s4 => wpAny (model X.prog X.w) X.A (throw (.ref a) : Sem Flow) (L2.SP X pins D) X.xe s4) X.xe { s' with heap := h3 } := by
        rw [hf]
        refine HandSPX.setFlight_upZ fl3 fun h4 hh4 up4 => wpAny_throw (tk _ _ ?_)
        exact ⟨a, B, sI, pins, σ', H', cls, d, rfl, J, nb, (up.trans up3).trans up4, .inr (.inr (by rw [hs]; exact hh4)), na, os, ag, hno rfl⟩
      first
        | exact wpAny_bind (wpAny_pure (wpAny_bind fin))
        | exact wpAny_bind fin
    | true =>
      obtain ⟨rfl, hyes⟩ := hyes rfl
      refine codeAny_handlers_suite_as (HandSPX.lands_againZ fl3 fun h4 fl4 up4 => ?_)
      have J4 : Inv X pins σ' H' { s' with heap := h4 } := J.landed nb fl4.1 ((up.trans up3).trans up4) os ag
      obtain ⟨oe4, vs4, he4, hz4, hd4⟩ := fl4.there
      have S4 := J4.suite he4 hd4 na nL nF
      refine store_ok (X := X.suite a ((a, oe4) :: (X.pn ++ pins))) (v := .ref a) S4 hN hi (.inl hln) rfl (fun s5 S5 => ?_) (.inr hln)
      refine wpAny_mono ((hsu a oe4 cls none (X.pn ++ pins) hz4 ⟨_, hd4⟩).run [] s5 _ H' _ S5 (hyes a na)) (fun f s6 hsp => ?_) (fun _ _ z => False.elim z)
      cases f with
      | brk => obtain ⟨_, _, _, q6⟩ := hsp; exact q6.elim
      | cont => obtain ⟨_, _, _, q6⟩ := hsp; exact q6.elim
      | ret u => obtain ⟨_, _, _, _, _, q6⟩ := hsp; exact q6.elim
      | next =>
        obtain ⟨σ6, H6, S6, rfl, q6⟩ := hsp
        have p6 := (S6.pin (a, oe4) (List.mem_append_left _ List.mem_cons_self)).1
        have J6 : Inv X pins σ6 H6 s6 := S6.unsuite ok
        have n0 : X.s_0.heap.get? a = none := by
          cases q : X.s_0.heap.get? a with
          | none => rfl
          | some o =>
            obtain ⟨o', z⟩ := J.base.there a o q (by rw [hex]; exact fun z => nomatch z)
            rw [nI] at z; cases z
        have J7 := Inv.track (o := ExV cls a) J6 na n0 nL (fun y c' e z => by
          obtain ⟨v', o, hv, _⟩ := J.cell y c' e
          rw [z, nI] at hv; cases hv) (fun p hp z => by
          have := (J.pin p hp).1
          rw [z, nI] at this; cases this) (exV_ok p6 hz4 hd4)
        exact gone_ok J7 hN hi hln fun s7 J8 => ⟨_, _, J8, q6⟩
end
end BR

/-! A try's body: one call, in an if perhaps; the try with its clause. -/
namespace BR
open PySem PySem.Spec PyProof.Rows L2
/-- what is wished of an exception where the slots are these -/
def EEw (K : PySem.W.Frag) (W : WX) (σ : L2.St) : XQ := fun x c dd H => c = clsV K x.cls → dd = none → W c dd σ H
def SE1 (K : PySem.W.Frag) (W : WX) (te : TE) (m : EM) : Prop := ∀ G n S H r σ Q, SR K G n S H → ER K G n S H r σ → WpE K (EEw K W σ) (m r S) G n S H Q → te σ H Q
def SS1 (K : PySem.W.Frag) (W : WX) (ts : TS) (m : SM) : Prop := ∀ G n S H r σ D, SR K G n S H → ER K G n S H r σ → WpS K (EEw K W σ) (m r S) G n S H r σ D → ts D σ H
def XE1 (X : Cx) (W : WX) (e : Expr) (m : EM) : Prop := ∃ t, PE X e t ∧ SE1 X.K W t m
def XS1 (X : Cx) (W : WX) (st : Stmt) (m : SM) : Prop := ∃ t, PS X st t ∧ SS1 X.K W t m
def XSs1 (X : Cx) (W : WX) (st : List Stmt) (m : SM) : Prop := ∃ t, PSs X st t ∧ SS1 X.K W t m
def tOfS1 (K : PySem.W.Frag) (W : WX) (m : SM) : TS := fun D σ H => ∃ G n S r, SR K G n S H ∧ ER K G n S H r σ ∧ WpS K (EEw K W σ) (m r S) G n S H r σ D
theorem XSs1.canon {X : Cx} {W : WX} {st : List Stmt} {m : SM} (h : XSs1 X W st m) : PSs X st (tOfS1 X.K W m) := by
  obtain ⟨t, h1, h2⟩ := h
  exact ⟨fun pins s σ H D I ⟨G, n, S, r, a, b, c⟩ => h1.run pins s σ H D I (h2 G n S H r σ D a b c)⟩
section
variable {X : Cx} {W : WX} {es : List Expr} {tas tks : TA} {ms mks : LM} {p pos : Pos} {kws : List Keyword}
def tCallW (W : WX) (sp : Sp) (t : TA) : TE := fun σ H Q => t σ H fun vs H1 => sp vs H1 Q (fun c d H' => W c d σ H')
theorem x_callW {x : Str} {k j ar : Nat} {m : FM} {e0 : Expr} (tk : Takes X W) (D : DefOk X.prog X.w X.K X.mg X.base (L2.CX X.prog X.w) x k (spE X.K ar m)) (har : ∀ ds S, ds.length ≠ ar → m ds S = .bad) (hr : Rm j X.A) (hjk : k ≤ j) (ha : XA X Z0 (e0 :: es) tas ms) (hg : Gl X x := by rfl) (hdb : (x == ("__debug__" : Str)) = false := by decide)
    (he : starEach (e0 :: es) X.env = (false, eval e0 X.env) :: starEach es X.env := by rfl) (hpl : (backTo pos (starEach es X.env)).any (·.1) = false := by rfl) :
    XE1 X W (.Call (.Name x p) (e0 :: es) [] pos) (eA m (lNx ms)) := by
  obtain ⟨f, fd, ps, F, hm, hk, hb⟩ := D.ex
  refine ⟨tCallW W (spE X.K ar m) tas, ⟨fun pins s σ H Q I h => wpAny_Call_Name_kw (ld_glob I hg hm ?_ hdb)⟩, fun G n S H r σ Q s e w => ?_⟩
  · refine PySem.W.callWith_K (h₀ := X.base) I.ok.mod.kin hk (thn (ha.1.run pos pins s σ H _ I h) fun us s1 z => ?_) he hpl
    obtain ⟨vs, H1, I1, rr, q⟩ := z
    refine ⟨I1.kIn, ?_⟩
    have rr' : Vals (vs ++ []) (us ++ []) := rr.append .nil
    have q' : spE X.K ar m (vs ++ []) H1 Q (fun c d H' => W c d σ H') := by rw [List.append_nil]; exact q
    have len : (us ++ []).length = ps.length := by rw [← rr'.length]; exact F.len _ _ _ _ q'
    refine wpAny_call (codeAny_mono (F.run X.A X.stack s1 H1 ⟨us, []⟩ _ _ Q _ (hr.mono hjk) I1.env0 (hb s1 us I1.kIn len) rr' q') fun r s' z => ?_)
    match r, z with
    | .error e, z => exact tk e s' (L2.XE.of_call I1 (fun _ _ _ h => h) z)
    | .ok (.ret u), z => exact I1.after z
  · refine (ha.2.nx (EE := EEw X.K W σ)) G n S H r σ _ s e ?_
    unfold eA at w
    cases q : lNx ms r S with
    | ok ds S1 =>
      rw [q] at w
      intro vs G1 n1 H1 p rl
      have w1 : WpE X.K (EEw X.K W σ) (m ds S1) G1 n1 S1 H1 Q := WpE.at p w
      exact sp_call (EE := EEof X.K fun c d H' => W c d σ H') (bad_ar har w1) p.sr rl w1
    | exc x S' => rw [q] at w; exact fun c dd G' n' H' p => w c dd G' n' H' p
    | bad => rw [q] at w; exact w
theorem x_callKW {x : Str} {k j ar nn kn : Nat} {ks : List Str} {m : FM} {e0 : Expr} (tk : Takes X W) (D : DefOkK X.prog X.w X.K X.mg X.base (L2.CX X.prog X.w) x k nn ks (spE X.K ar m)) (har : ∀ ds S, ds.length ≠ ar → m ds S = .bad) (hr : Rm j X.A) (hjk : k ≤ j) (ha : XA X Z0 (e0 :: es) tas ms) (hkw : XKw X Z0 kws tks mks) (hkn : ks.length = kn := by rfl) (hg : Gl X x := by rfl) (hdb : (x == ("__debug__" : Str)) = false := by decide)
    (hall : (backToKw pos (keywordEach kws X.env)).all (·.1.isSome) = true := by rfl) (hks : (backToKw pos (keywordEach kws X.env)).filterMap (·.1) = ks := by rfl)
    (he : starEach (e0 :: es) X.env = (false, eval e0 X.env) :: starEach es X.env := by rfl) (hpl : ((backTo pos (starEach (e0 :: es) X.env)).any (·.1) || (backToKw pos (keywordEach kws X.env)).any (·.1.isNone)) = false := by rfl) :
    XE1 X W (.Call (.Name x p) (e0 :: es) kws pos) (eA2 nn kn m (lNx ms) (lNx mks)) := by
  subst hkn
  obtain ⟨f, fd, ps, F, hm, hk, hb⟩ := D.ex
  refine ⟨fun σ H Q => tCallN nn ks.length (spE X.K ar m) (fun vs zs => vs ++ zs) (fun c d H' => W c d σ H') tas tks σ H Q, ⟨fun pins s σ H Q I h => wpAny_Call_Name_kw (ld_glob I hg hm ?_ hdb)⟩, fun G n S H r σ Q s e w => ?_⟩
  · refine PySem.W.callWith_KW (h₀ := X.base) I.ok.mod.kin hk hall (thn (ha.1.run pos pins s σ H _ I h) fun us s1 ⟨vs, H1, I1, rr, q⟩ => ?_) hpl he
    refine thn (hkw.1.run pos pins s1 σ H1 _ I1 q) fun ws s2 ⟨zs, H2, I2, rz, l1, l2, q2⟩ => ⟨I2.kIn, ?_⟩
    rw [hks]
    have r2 := hb.rel rr rz
    refine wpAny_call (codeAny_mono (F.run X.A X.stack s2 H2 ⟨us, ks.zip ws⟩ _ _ Q _ (hr.mono hjk) I2.env0 (hb.to s2 us ws I2.kIn (rr.length.symm.trans l1) (rz.length.symm.trans l2)) r2 q2) fun r s' z => ?_)
    match r, z with
    | .error e, z => exact tk e s' (L2.XE.of_call I2 (fun _ _ _ h => h) z)
    | .ok (.ret u), z => exact I2.after z
  · exact (SE.callN (EE := EEw X.K W σ) (E := fun c d H' => W c d σ H') ha.2.nx hkw.2.nx fun G n S H vs ds Q s rl w => sp_call (EE := EEof X.K fun c d H' => W c d σ H') (bad_ar har w) s rl w) G n S H r σ Q s e w
theorem s1_expr {e : Expr} {m : EM} (he : XE1 X W e m) (hs : swapsWith e none pos.line X.env = pure false := by rfl) : XS1 X W (.Expr e pos) (mDrop m) := by
  obtain ⟨t, h1, h2⟩ := he
  refine ⟨tDrop t, ps_expr h1 hs, fun G n S H r σ D s e w => h2 G n S H r σ _ s e ?_⟩
  unfold mDrop at w
  cases q : m r S with
  | ok d S1 => rw [q] at w; exact fun v G1 n1 H1 p rl => w G1 n1 H1 σ p.own (e.post p) OwnSub.refl
  | exc x S' => rw [q] at w; exact fun c dd G' n' H' p => w c dd G' n' H' p.own
  | bad => rw [q] at w; exact w
theorem s1_set (i : Nat) {x : Str} {p2 : Pos} {e : Expr} {m : EM} (hN : X.N.Nodup) (he : XE1 X W e m) (hi : X.N[i]? = some x := by rfl) (hx : Loc X.env.scope x := by first | exact Or.inl rfl | exact Or.inr rfl) (hs : swapsWith e (some (.Name x p2)) pos.line X.env = pure false := by rfl) (hf : X.fn x = true ∨ X.env.scope.names.lookup x = some .local := by first | exact .inl rfl | exact .inr rfl) :
    XS1 X W (.Assign [.Name x p2] e pos) (mSet (gN i) m) := by
  obtain ⟨t, h1, h2⟩ := he
  refine ⟨tAsg t (gName i), ps_set hN hi hx h1 hs hf, fun G n S H r σ D s e w => h2 G n S H r σ _ s e ?_⟩
  unfold mSet at w
  cases q : m r S with
  | ok d S1 => rw [q] at w; exact fun v G1 n1 H1 p rl => w G1 n1 H1 _ p.own ((e.post p).setVal i rl) (OwnSub.setVal i)
  | exc x S' => rw [q] at w; exact fun c dd G' n' H' p => w c dd G' n' H' p.own
  | bad => rw [q] at w; exact w
theorem s1_one {st : Stmt} {m : SM} (h : XS1 X W st m) : XSs1 X W [st] m := by
  obtain ⟨t, h1, h2⟩ := h
  exact ⟨t, pss_one h1, h2⟩
theorem s1_if {c : Expr} {x y : List Stmt} {tt : TT} {um : TM} {mx my : SM} (hc : XT X Z0 c tt um) (hx : XSs1 X W x mx) (hy : XSs1 X W y my) : XS1 X W (.If c x y pos) (mIf (tNx um) mx my) := by
  obtain ⟨tx, h1, h2⟩ := hx
  obtain ⟨ty, h3, h4⟩ := hy
  refine ⟨tIfS tt tx ty, ps_if hc.1 h1 h3, fun G n S H r σ D s e w => (hc.2.nx (EE := EEw X.K W σ)) G n S H r σ _ s e ?_⟩
  unfold mIf at w
  cases q : tNx um r S with
  | ok c S1 =>
    rw [q] at w
    intro G1 n1 H1 p
    have w1 : WpS X.K (EEw X.K W σ) (if c = true then mx r S1 else my r S1) G1 n1 S1 H1 r σ D := WpS.at0 p w
    cases c with
    | true => exact h2 G1 n1 S1 H1 r σ D p.sr (e.post p) w1
    | false => exact h4 G1 n1 S1 H1 r σ D p.sr (e.post p) w1
  | exc x S' => rw [q] at w; exact fun c dd G' n' H' p => w c dd G' n' H' p.own
  | bad => rw [q] at w; exact w
end
/-! ### the try -/
def noOwn (r : BR.Env) : Bool := r.all fun s => match s with
  | .own _ => false
  | _ => true
/-- try: body, except C as n: y = n; tbl tells whether the class of this name is caught -/
def mTryK (tbl : String → Option Bool) (i y : Nat) (b : SM) : SM := fun r S => if noOwn r = true ∧ i ≠ y ∧ i < r.length then match b r S with
  | .exc x S' => (match tbl x.cls with
    | some true => .ok (.nx ((r.set y (.val (.xc x.cls))).set i .no)) S'
    | some false => .exc x S'
    | none => .bad)
  | z => z
  else .bad
theorem noOwn_of {r : BR.Env} (h : noOwn r = true) {σ : L2.St} {a : Addr} : ¬ Own r σ a := fun ⟨i, d, h1, _⟩ => by
  have := List.all_eq_true.mp h _ (List.mem_of_getElem? h1)
  cases this
section
variable {K : PySem.W.Frag} {G G1 : Hp} {n n1 : List Addr} {S S1 : Store} {H H1 : Hp} {r : BR.Env} {σ : L2.St}
theorem ER.unset (e : ER K G n S H r σ) (i : Nat) : ER K G n S H (r.set i .no) (σ.set i none) := by
  have get : ∀ {j : Nat}, j ≠ i → (σ.set i none)[j]? = σ[j]? := fun {j} x => List.getElem?_set_ne (Ne.symm x)
  refine ⟨by simp [e.len], fun j c h1 => ?_, fun j c h1 => ?_, fun j k a c f h1 h2 h3 h4 => ?_⟩
  · rcases set_some h1 with ⟨x, y⟩ | ⟨x, y⟩
    · cases y
    · rw [get x]; exact e.val j c y
  · rcases set_some h1 with ⟨x, y⟩ | ⟨x, y⟩
    · cases y
    · rw [get x]; exact e.own j c y
  · rcases set_some h1 with ⟨x, y⟩ | ⟨x, y⟩
    · cases y
    · rcases set_some h3 with ⟨x', y'⟩ | ⟨x', y'⟩
      · cases y'
      · rw [get x] at h2; rw [get x'] at h4
        exact e.inj j k a c f y h2 y' h4
end
section
variable {X : Cx} {E : XK} {x n : Str} {c : Value} {i y : Nat} {body : List Stmt} {np pos pos' p1 p2 p3 : Pos} {b : SM} {yn : Str}
def tTryK (K : PySem.W.Frag) (c : Value) (i y : Nat) (E : XK) (b : SM) : TS := fun D σ H => tOfS1 K (wKeep K c i (fun _ _ _ => tAsg (tVar i) (gName y)) (fun cls d _ H => E cls d H) D) b D σ H
theorem s_tryK (i y : Nat) (tbl : String → Option Bool) (hs : X.stack = X.env :: X.outer) (hf : X.env.frame = some X.env.locals) (hex : X.ex = []) (hN : X.N.Nodup) (hi : X.N[i]? = some n) (hln : X.env.kindOf n = some .local) (hc : Names X x c) (tk : Takes X (fun cls d _ H => E cls d H))
    (ht : ∀ m q, tbl m = some q → PySem.W.exmOne X.K (clsV X.K m) c = some q)
    (hb : ∀ (W : WX) (pn : List (Addr × Obj)) (xe : Value → Shared → Prop), Takes (X.tr pn xe) W → XSs1 (X.tr pn xe) W body b)
    (hsu : ∀ (a : Addr) (oe : Obj) (pn : List (Addr × Obj)), PS (X.suite a ((a, oe) :: pn)) (.Assign [.Name yn p1] (.Name n p2) p3) (tAsg (tVar i) (gName y))) :
    XS X (EEof X.K E) (.Try body [.ExceptHandler (some (.Name x np)) (some n) [.Assign [.Name yn p1] (.Name n p2) p3] pos'] [] [] pos) (tTryK X.K c i y E b) (mTryK tbl i y b) := by
  refine ⟨ps_try_keep (ts := fun _ _ _ => tAsg (tVar i) (gName y)) (tb := fun W => tOfS1 X.K W b) (i := i) hs hf hex hN hi hln hc tk (fun W pn xe t => (hb W pn xe t).canon) (fun a oe cls d pn _ _ => pss_one (hsu a oe pn)), fun G m S H r σ D s e w => ?_⟩
  unfold mTryK at w
  split at w
  · rename_i hno
    obtain ⟨hno, hiy, hir⟩ := hno
    refine ⟨G, m, S, r, s, e, ?_⟩
    cases q : b r S with
    | bad => rw [q] at w; exact w
    | ok o S1 => rw [q] at w; cases o <;> exact w
    | exc xx S1 =>
      rw [q] at w
      dsimp only at w
      intro cl dd G' n' H' p _ ec ed
      subst ec ed
      cases qt : tbl xx.cls with
      | none => rw [qt] at w; exact w.elim
      | some bb =>
        rw [qt] at w
        refine ⟨bb, ht _ _ qt, fun hbb => ⟨rfl, fun a na => ?_⟩, fun hbb => ?_⟩
        · subst hbb
          have hil : i < σ.length := by rw [← e.len]; exact hir
          refine ⟨.ref a, List.getElem?_set_self hil, rfl, ?_⟩
          have p0 : Post X.K NoO G m S H G' n' S1 H' := p.mono fun _ z => (noOwn_of hno z).elim
          have p1 := Post.frz (o := ExV (clsV X.K xx.cls) a) p0.sr na
          have p2 := p0.tr p1
          have rl : Rel X.K (upd G' a (ExV (clsV X.K xx.cls) a)) n' (.xc xx.cls) (.ref a) := by
            simp only [Rel]
            exact ⟨a, rfl, upd_same⟩
          have e1 := (((e.post p2).setVal y rl).unset i)
          have es : ((σ.set i (some (.ref a))).set y (some (.ref a))).set i none = (σ.set y (some (.ref a))).set i none := by
            rw [List.set_comm _ _ hiy, List.set_set]
          rw [es]
          exact w _ _ _ _ p2.own e1 fun b ⟨j, d, z1, z2⟩ => (noOwn_of (r := (r.set y (.val (.xc xx.cls))).set i .no) (σ := (σ.set y (some (.ref a))).set i none) (by
            unfold noOwn at hno ⊢
            rw [List.all_eq_true] at hno ⊢
            intro z hz
            rcases List.mem_or_eq_of_mem_set hz with hz | rfl
            · rcases List.mem_or_eq_of_mem_set hz with hz | rfl
              · exact hno z hz
              · rfl
            · rfl) ⟨j, d, z1, z2⟩).elim
        · subst hbb
          exact w (clsV X.K xx.cls) none G' n' H' p True.intro rfl rfl
  · exact w.elim
/-- where nothing else may be let out -/
theorem SS.z0 {K : PySem.W.Frag} {EE : XQ} {t : TS} {m : SM} (h : SS K EE t m) : SS K Z0 t m := fun G n S H r σ D s e w => h G n S H r σ D s e (by
  cases q : m r S with
  | ok d S1 => rw [q] at w; cases d <;> exact w
  | exc x S1 => rw [q] at w; exact fun c dd G' n' H' p hx => (w c dd G' n' H' p hx).elim
  | bad => rw [q] at w; exact w.elim)
theorem s_tryK0 (i y : Nat) (tbl : String → Option Bool) (hs : X.stack = X.env :: X.outer) (hf : X.env.frame = some X.env.locals) (hex : X.ex = []) (hN : X.N.Nodup) (hi : X.N[i]? = some n) (hln : X.env.kindOf n = some .local) (hc : Names X x c)
    (ht : ∀ m q, tbl m = some q → PySem.W.exmOne X.K (clsV X.K m) c = some q)
    (hb : ∀ (W : WX) (pn : List (Addr × Obj)) (xe : Value → Shared → Prop), Takes (X.tr pn xe) W → XSs1 (X.tr pn xe) W body b)
    (hsu : ∀ (a : Addr) (oe : Obj) (pn : List (Addr × Obj)), PS (X.suite a ((a, oe) :: pn)) (.Assign [.Name yn p1] (.Name n p2) p3) (tAsg (tVar i) (gName y))) :
    XS X Z0 (.Try body [.ExceptHandler (some (.Name x np)) (some n) [.Assign [.Name yn p1] (.Name n p2) p3] pos'] [] [] pos) (tTryK X.K c i y (fun _ _ _ => False) b) (mTryK tbl i y b) :=
  have h := s_tryK (E := fun _ _ _ => False) (np := np) (pos := pos) (pos' := pos') i y tbl hs hf hex hN hi hln hc takes0 ht hb hsu
  ⟨h.1, h.2.z0⟩
end
end BR

/-! isinstance of an exception that is held as a value. -/
namespace BR
open PySem PySem.Spec PyProof.Rows L2
/-- of each class of a name here the answer -/
def dIsX (tbl : String → Option Bool) (d : BR.D) (S : Store) : Res BR.D := match d with
  | .xc n => (match tbl n with
    | some b => .ok (.bl b) S
    | none => .bad)
  | _ => .bad
def rIsX (K : PySem.W.Frag) (cv : Value) : List V → Hp → VK → Prop := fun xs H Q => ∃ (a D : Addr) (c : V) (b : Bool), xs = [.ref a, c] ∧ (∀ u, RelV c u → u = cv) ∧ H a = some (ExV (.ref D) a) ∧ ExcC K D ∧ PySem.W.kitOne K (.ref D) cv = some b ∧ Q (.bl b) H
/-- these values and no others -/
def Only : List V → List Value → Prop
  | [], [] => True
  | c :: cs, u :: us => (∀ w, RelV c w → w = u) ∧ Only cs us
  | _, _ => False
theorem Only.all : ∀ {cs : List V} {us ws : List Value}, Only cs us → Vals cs ws → ws = us
  | [], [], _, _, h => by cases h; rfl
  | c :: cs, u :: us, _, h, r => by
    cases r with
    | cons r rr => rw [h.1 _ r, Only.all h.2 rr]
  | [], _ :: _, _, h, _ => h.elim
  | _ :: _, [], _, h, _ => h.elim
def rIsXT (K : PySem.W.Frag) (us : List Value) : List V → Hp → VK → Prop := fun xs H Q => ∃ (a D tp : Addr) (cs : List V) (b : Bool), xs = [.ref a, .ref tp] ∧ H tp = some (.tup cs) ∧ Only cs us ∧ H a = some (ExV (.ref D) a) ∧ ExcC K D ∧ PySem.W.kitAny K (.ref D) us = some b ∧ Q (.bl b) H
theorem inst_of {X : Cx} {pins : List (Addr × Obj)} {σ : L2.St} {H : Hp} {s : Shared} {a D : Addr} (I : Inv X pins σ H s) (h : H a = some (ExV (.ref D) a)) : ∃ oe, PySem.W.InstAt s.heap a oe D none := by
  obtain ⟨⟨oe, vs, e, ⟨h1, h2⟩, hv⟩, _, _⟩ := I.hok a _ h
  refine ⟨oe, ?_⟩
  obtain ⟨oc, od, oda, osl⟩ := oe
  dsimp only at h1 h2 hv
  subst h1 h2 hv
  exact ⟨e, rfl, rfl, trivial⟩
theorem call_isX {X : Cx} {cv : Value} : CallR X (.builtin "isinstance") (rIsX X.K cv) := by
  intro pins s σ H xs us Q I r h
  obtain ⟨a, D, c, b, rfl, hcv, hx, C, e, q⟩ := h
  obtain ⟨u1, u2, rfl, r1, r2⟩ := vals2 r
  cases (show u1 = Value.ref a from r1)
  have ec := hcv _ r2
  subst ec
  obtain ⟨oe, J⟩ := inst_of I hx
  exact PySem.W.kia_one (PySem.W.handS_kitx_exc C.hg C.hk C.hs C.hd C.ha C.hn C.ht C.hm) I.kIn J e (fun z => nomatch z) fun tk => ⟨.bl b, H, I.tok tk, rfl, q⟩
theorem call_isXT {X : Cx} {ws : List Value} : CallR X (.builtin "isinstance") (rIsXT X.K ws) := by
  intro pins s σ H xs us Q I r h
  obtain ⟨a, D, tp, cs, b, rfl, hT, ho, hx, C, e, q⟩ := h
  obtain ⟨u1, u2, rfl, r1, r2⟩ := vals2 r
  cases (show u1 = Value.ref a from r1)
  cases (show u2 = Value.ref tp from r2)
  obtain ⟨oe, J⟩ := inst_of I hx
  obtain ⟨_, its, rv, o, h1, h2, n, h3⟩ := (show ObjOk X.prog X.w H s.heap tp (.tup cs) from I.hok tp _ hT)
  have e3 := ho.all rv
  subst e3
  obtain ⟨oc, od, dt, sl⟩ := o
  simp only at h2 h3
  subst h2 h3
  exact PySem.W.kia_tup (PySem.W.handS_kitx_exc C.hg C.hk C.hs C.hd C.ha C.hn C.ht C.hm) I.kIn J h1 e (fun z => nomatch z) fun tk => ⟨.bl b, H, I.tok tk, rfl, q⟩
def tCsL : List V → TA
  | [] => tNil
  | c :: cs => tCons (tC c) (tCsL cs)
section
variable {K : PySem.W.Frag} {EE : XQ} {G : Hp} {n : List Addr} {S : Store} {H : Hp} {ta : TE} {a : EM} {tbl : String → Option Bool}
theorem tCsL_ok : ∀ {cs : List V} {σ : L2.St} {H : Hp} {Q : List V → Hp → Prop}, Q cs H → tCsL cs σ H Q
  | [], _, _, _, q => q
  | c :: cs, σ, H, Q, q => tCsL_ok (cs := cs) (Q := fun xs H2 => Q (c :: xs) H2) q
theorem s_isX {c : V} {cv : Value} (hcv : ∀ u, RelV c u → u = cv) (ht : ∀ m b, tbl m = some b → ExcC K (He.ga K (PySem.Str.ofString m)) ∧ PySem.W.kitOne K (clsV K m) cv = some b) (ha : SB K EE ta a) : SE K EE (tCB (rIsX K cv) (tCons ta (tCons (tC c) tNil))) (e1 (dIsX tbl) a) := fun G n S H r σ Q s e w => by
  refine ha G n S H r σ _ s e ?_
  unfold e1 at w
  cases q : a r S with
  | ok d S1 =>
    rw [q] at w
    intro v G1 n1 H1 p rl
    cases d with
    | xc m =>
      have w1 : WpE K EE (match tbl m with | some b => .ok (.bl b) S1 | none => .bad) G n S H Q := w
      cases qt : tbl m with
      | none => rw [qt] at w1; exact w1.elim
      | some b =>
        rw [qt] at w1
        have rl' : Rel K G1 n1 (.xc m) v := rl
        simp only [Rel] at rl'
        obtain ⟨p0, rfl, g⟩ := rl'
        obtain ⟨h1, h2⟩ := ht m b qt
        exact ⟨p0, _, c, b, rfl, hcv, p.sr.sub _ _ g, h1, h2, w1 _ _ _ _ p rBl⟩
    | _ => exact (w : False).elim
  | exc x S' => rw [q] at w; exact w
  | bad => rw [q] at w; exact w
theorem s_isXT {cs : List V} {us : List Value} (ho : Only cs us) (hl : cs.length ≤ 1000) (ht : ∀ m b, tbl m = some b → ExcC K (He.ga K (PySem.Str.ofString m)) ∧ PySem.W.kitAny K (clsV K m) us = some b) (ha : SB K EE ta a) : SE K EE (tCB (rIsXT K us) (tCons ta (tCons (tTup (tCsL cs)) tNil))) (e1 (dIsX tbl) a) := fun G n S H r σ Q s e w => by
  refine ha G n S H r σ _ s e ?_
  unfold e1 at w
  cases q : a r S with
  | ok d S1 =>
    rw [q] at w
    intro v G1 n1 H1 p rl
    cases d with
    | xc m =>
      have w1 : WpE K EE (match tbl m with | some b => .ok (.bl b) S1 | none => .bad) G n S H Q := w
      cases qt : tbl m with
      | none => rw [qt] at w1; exact w1.elim
      | some b =>
        rw [qt] at w1
        have rl' : Rel K G1 n1 (.xc m) v := rl
        simp only [Rel] at rl'
        obtain ⟨p0, rfl, g⟩ := rl'
        obtain ⟨h1, h2⟩ := ht m b qt
        refine tCsL_ok ⟨by rw [sizeLine_eq]; omega, fun t htn => ?_⟩
        have p2 := Post.frz (o := .tup cs) p.sr htn
        exact ⟨p0, _, t, cs, b, rfl, upd_same, ho, p2.sr.sub _ _ (p2.sub _ _ g), h1, h2, w1 _ _ _ _ (p.tr p2) rBl⟩
    | _ => exact (w : False).elim
  | exc x S' => rw [q] at w; exact w
  | bad => rw [q] at w; exact w
end
section
variable {X : Cx} {EE : XQ} {a : Expr} {ta : TE} {ma : EM} {p pos : Pos}
theorem x_isX {x : Str} {q : Pos} {c : V} {cv : Value} (tbl : String → Option Bool) (hcv : ∀ u, RelV c u → u = cv) (hp2 : PE X (.Name x q) (tC c)) (ht : ∀ m b, tbl m = some b → ExcC X.K (He.ga X.K (PySem.Str.ofString m)) ∧ PySem.W.kitOne X.K (clsV X.K m) cv = some b) (hm : Free X "isinstance") (ha : XB X EE a ta ma) (hg : Gl X "isinstance" := by rfl)
    (he : starEach (a :: [.Name x q]) X.env = (false, eval a X.env) :: starEach [.Name x q] X.env := by rfl) (he2 : starEach [Expr.Name x q] X.env = (false, eval (.Name x q) X.env) :: starEach [] X.env := by rfl) (hp : (backTo pos (starEach [Expr.Name x q] X.env)).any (·.1) = false := by rfl) :
    XE X EE (.Call (.Name "isinstance" p) [a, .Name x q] [] pos) (tCB (rIsX X.K cv) (tCons ta (tCons (tC c) tNil))) (e1 (dIsX tbl) ma) :=
  ⟨pe_callB call_isX hg hm (by decide +kernel) (pa_cons ha.1 (pa_cons hp2 pa_nil he2) he) (by decide) (by decide) he hp, s_isX hcv ht ha.2⟩
theorem x_isXT {es : List Expr} {k : Nat} {q : Pos} {cs : List V} {us : List Value} (tbl : String → Option Bool) (ho : Only cs us) (hl : cs.length ≤ 1000) (hpa : PA X es (tCsL cs)) (ht : ∀ m b, tbl m = some b → ExcC X.K (He.ga X.K (PySem.Str.ofString m)) ∧ PySem.W.kitAny X.K (clsV X.K m) us = some b) (hm : Free X "isinstance") (ha : XB X EE a ta ma) (hg : Gl X "isinstance" := by rfl)
    (he : starEach (a :: [.Tuple es k q]) X.env = (false, eval a X.env) :: starEach [.Tuple es k q] X.env := by rfl) (he2 : starEach [Expr.Tuple es k q] X.env = (false, eval (.Tuple es k q) X.env) :: starEach [] X.env := by rfl) (hp : (backTo pos (starEach [Expr.Tuple es k q] X.env)).any (·.1) = false := by rfl) :
    XE X EE (.Call (.Name "isinstance" p) [a, .Tuple es k q] [] pos) (tCB (rIsXT X.K us) (tCons ta (tCons (tTup (tCsL cs)) tNil))) (e1 (dIsX tbl) ma) :=
  ⟨pe_callB call_isXT hg hm (by decide +kernel) (pa_cons ha.1 (pa_cons (pe_tup hpa) pa_nil he2) he) (by decide) (by decide) he hp, s_isXT ho hl ht ha.2⟩
end
end BR

/-! What the head tells of the classes of errors. -/
namespace BR
open PySem PySem.Spec PyProof.Rows L2
structure ExcK (K : PySem.W.Frag) (mg : Str → Option Value) (n : String) : Prop where
  f : ExcF K mg n
  c : ExcC K (He.ga K (PySem.Str.ofString n))
  v : PySem.W.kitOne K (clsV K n) (.type "ValueError") = some true
theorem excB_ok {K : PySem.W.Frag} {h : Heap} {mg : Str → Option Value} (X : K.In h) (G : h.Ns mainGlobals mg) {n s : String} (c : cstB2 K (PySem.Str.ofString n, .xc s) = true) : ExcK K mg n := by
  have c : excB K (PySem.Str.ofString n) = true := c
  unfold excB at c
  obtain ⟨h1, c⟩ := He.ba c
  obtain ⟨h2, c⟩ := He.ba c
  obtain ⟨h3, c⟩ := He.ba c
  obtain ⟨h4, c⟩ := He.ba c
  obtain ⟨h5, c⟩ := He.ba c
  obtain ⟨h6, c⟩ := He.ba c
  obtain ⟨h7, c⟩ := He.ba c
  obtain ⟨h8, c⟩ := He.ba c
  obtain ⟨h9, c⟩ := He.ba c
  obtain ⟨h10, c⟩ := He.ba c
  obtain ⟨h11, c⟩ := He.ba c
  obtain ⟨h12, h13⟩ := He.ba c
  exact ⟨⟨PySem.W.mg_of X G (He.eqO_ok h1), h2, h3, of_decide_eq_true h4, of_decide_eq_true h5⟩, ⟨He.eqO_ok h6, He.eqO_ok h7, of_decide_eq_true h4, h8, He.eqO_ok h9, He.eqO_ok h10, of_decide_eq_true h11, of_decide_eq_true h12⟩, of_decide_eq_true h13⟩
theorem pairB_ok {K : PySem.W.Frag} {n m : String} {b : Bool} (c : cstB2 K (PySem.Str.ofString n, .tup [.xc m, .bl b]) = true) : PySem.W.exmOne K (clsV K n) (clsV K m) = some b ∧ PySem.W.kitOne K (clsV K n) (clsV K m) = some b := by
  have c : pairB K (PySem.Str.ofString n) (PySem.Str.ofString m) b = true := c
  unfold pairB at c
  obtain ⟨h1, h2⟩ := He.ba c
  exact ⟨of_decide_eq_true h1, of_decide_eq_true h2⟩
end BR

/-! len(set(xs)), xs numbers. -/
namespace BR
open PySem PySem.Spec PyProof.Rows L2
def uniqI (ns : List Int) : List Int := ns.foldl PyProof.Rows.step_dedup []
theorem sd_ok : ∀ (xs acc : List Int), acc.Nodup → (xs.foldl PyProof.Rows.step_dedup acc).Nodup ∧ ∀ x, x ∈ xs.foldl PyProof.Rows.step_dedup acc ↔ x ∈ acc ∨ x ∈ xs
  | [], acc, h => ⟨h, fun x => by simp⟩
  | a :: xs, acc, h => by
    have st : (PyProof.Rows.step_dedup acc a).Nodup ∧ ∀ x, x ∈ PyProof.Rows.step_dedup acc a ↔ x ∈ acc ∨ x = a := by
      unfold PyProof.Rows.step_dedup
      split
      · rename_i c
        have c' : a ∈ acc := by simpa using c
        exact ⟨h, fun x => ⟨.inl, fun z => z.elim id fun e => e ▸ c'⟩⟩
      · rename_i c
        have c' : a ∉ acc := by simpa using c
        refine ⟨?_, fun x => by simp⟩
        rw [List.nodup_append]
        exact ⟨h, by simp, fun x hx y hy e => c' (by rw [List.mem_singleton] at hy; rw [← hy, ← e]; exact hx)⟩
    obtain ⟨h1, h2⟩ := sd_ok xs _ st.1
    refine ⟨h1, fun x => ?_⟩
    rw [List.foldl_cons, h2, st.2, List.mem_cons, or_assoc]
theorem uniq_len {ns ks : List Int} (h : ks.Nodup) (hm : ∀ x, x ∈ ks ↔ x ∈ ns) : ks.length = (uniqI ns).length := by
  obtain ⟨h1, h2⟩ := sd_ok ns [] List.nodup_nil
  exact ((List.perm_ext_iff_of_nodup h h1).mpr fun x => by rw [hm, h2]; simp).length_eq
theorem first_uniq (ns : List Int) : PyProof.Rows.firstMet (fun i => ns.getD i 0) ns.length = uniqI ns := by
  unfold PyProof.Rows.firstMet uniqI
  congr 1
  apply List.ext_getElem?
  intro i
  rw [List.getElem?_map]
  by_cases hi : i < ns.length
  · rw [List.getElem?_range hi, List.getElem?_eq_getElem hi]
    simp [hi]
  · rw [List.getElem?_eq_none_iff.mpr (by simpa using hi), List.getElem?_eq_none_iff.mpr (by simpa using hi)]
    rfl
def tLenSet (K : PySem.W.Frag) (ta : TE) : TE := fun σ H Q => ta σ H fun x H1 => ∃ (l : Addr) (ns : List Int), x = V.ref l ∧ (SqL K H1 l (ns.map V.int) ∨ SqT K H1 l (ns.map V.int)) ∧ ns.length ≤ 60 ∧ Q (.int (uniqI ns).length) H1
theorem pe_lenSet {X : Cx} {a : Expr} {ta : TE} {p p2 q pos : Pos} (hc : X.calm = true) (hg : Gl X "len") (hm : X.mg "len" = none) (hg2 : Gl X "set") (hm2 : X.mg "set" = none) (ha : PE X a ta)
    (na : starEach [a] X.env = (false, eval a X.env) :: starEach [] X.env := by rfl) : PE X (.Call (.Name "len" p) [.Call (.Name "set" p2) [a] [] q] [] pos) (tLenSet X.K ta) := by
  refine ⟨fun pins s σ H Q I h => ?_⟩
  refine Call_ (ld_blt I hg hm PySem.boot_len (PyProof.Rows.callWith_builtin1 (PyProof.Rows.args_cons ?_ rfl) rfl rfl))
  refine Call_ (ld_blt I hg2 hm2 PyProof.Rows.boot_set (PyProof.Rows.callWith_type1 (PyProof.Rows.args_cons (thn (ha.run pins s σ H _ I h) fun v s1 ⟨x, H1, I1, r1, q1⟩ => PyProof.Rows.args_nil ?_) na) na rfl))
  obtain ⟨l, ns, rfl, hq, hl, q1⟩ := q1
  cases r1
  rcases hq with hq | hq
  · obtain ⟨its, r, pl, hz⟩ := I1.list hq
    have hlen : its.toArray.size = ns.length := by rw [List.size_toArray, ← r.length, List.length_map]
    refine call_set_list (I1.ok.hd hc) pl.isList (ns := ns) (by simpa using r.ints) (by unfold scanBound; omega) fun h' tk hS hk => ?_
    rw [hlen, first_uniq] at hS
    refine PyProof.Rows.args_nil ?_
    obtain ⟨o, es, ep, t, ho, hex, hd, _, _, hb, hf, hn⟩ := hS
    have I2 : Inv X pins σ H1 { s1 with heap := h', toks := tk } := I1.kept fun b o e => hk b o (Heap.lt_size e) e
    exact call_len_set ho hex hd hf (by unfold scanBound at hb; omega) ⟨.int (uniqI ns).length, H1, I2.tok _, ⟨_, by rw [hn]⟩, q1⟩
  · obtain ⟨its, r, pt, hz⟩ := I1.tuple hq
    refine L2.call_set_tupI ns (I1.ok.hd hc) (show s1.heap.IsTuple l its.toArray from pt) (by simpa using r.ints) (by unfold scanBound; omega) fun h' tk c R1 hcn hk => ?_
    refine PyProof.Rows.args_nil ?_
    obtain ⟨o, es, ep, t, ho, hex, hd, g, nd, hm3, hb, hf, hn, _, _⟩ := R1
    have I2 : Inv X pins σ H1 { s1 with heap := h', toks := tk } := I1.kept hk
    have hl2 : es.size = (uniqI ns).length := by
      have := uniq_len (ns := ns) nd fun x => by rw [← hm3 x, decide_eq_true_iff]
      rw [← this, List.length_map, Array.length_toList]
    exact call_len_set ho hex hd hf (by unfold scanBound at hb; omega) ⟨.int (uniqI ns).length, H1, I2.tok _, ⟨_, by rw [hl2]⟩, q1⟩
def dLenSet (d : BR.D) (S : Store) : Res BR.D := match (seqS S d).bind intsD with
  | some ns => if ns.length ≤ 60 then .ok (.int ((uniqI ns).length : Nat)) S else .bad
  | none => .bad
theorem intsR {K : PySem.W.Frag} {G : Hp} {n : List Addr} : ∀ {ds : List BR.D} {is : List Int} {vs : List V}, RelL K G n ds vs → intsD ds = some is → vs = is.map V.int
  | [], is, vs, h, e => by
    simp only [RelL] at h
    cases e; exact h
  | d :: ds, is, vs, h, e => by
    simp only [RelL] at h
    obtain ⟨v, r, rfl, h1, h2⟩ := h
    cases d with
    | int i =>
      simp only [intsD] at e
      cases q : intsD ds with
      | none => rw [q] at e; cases e
      | some js =>
        rw [q] at e
        cases e
        simp only [Rel] at h1
        rw [h1, intsR h2 q]
        rfl
    | _ => simp [intsD] at e
theorem s_lenSet {K : PySem.W.Frag} {EE : XQ} {ta : TE} {a : EM} (ha : SB K EE ta a) : SE K EE (tLenSet K ta) (e1 dLenSet a) := fun G n S H r σ Q s e w => by
  refine ha G n S H r σ _ s e ?_
  unfold e1 at w
  cases q : a r S with
  | ok d S1 =>
    rw [q] at w
    intro v G1 n1 H1 p rl
    have w1 : WpE K EE (dLenSet d S1) G n S H Q := w
    unfold dLenSet at w1
    cases q1 : (seqS S1 d).bind intsD with
    | none => rw [q1] at w1; exact w1.elim
    | some is =>
      rw [q1] at w1
      dsimp only at w1
      split at w1
      · rename_i hl
        have fin : ∀ l, v = V.ref l → (SqL K H1 l (is.map V.int) ∨ SqT K H1 l (is.map V.int)) → ∃ (l : Addr) (ns : List Int), v = V.ref l ∧ (SqL K H1 l (ns.map V.int) ∨ SqT K H1 l (ns.map V.int)) ∧ ns.length ≤ 60 ∧ Q (.int (uniqI ns).length) H1 := fun l e1 h1 => ⟨l, is, e1, h1, hl, w1 _ _ _ _ p rInt⟩
        cases qv : vw S1 d with
        | none => simp [seqS, qv] at q1
        | some c =>
          have hy := vw_rel p.sr rl qv
          have q2 : (seqD c).bind intsD = some is := by simpa [seqS, qv] using q1
          cases c with
          | lst ds => obtain ⟨l, vs, rfl, h1, h2⟩ := hy; exact fin l rfl (.inl (.inl (.inl (by rw [← intsR h2 (by simpa [seqD] using q2)]; exact h1))))
          | scr ds => obtain ⟨l, vs, rfl, h1, h2⟩ := hy; exact fin l rfl (.inl (by rw [← intsR h2 (by simpa [seqD] using q2)]; exact h1))
          | tup ds => obtain ⟨l, vs, rfl, h1, h2⟩ := hy.tup; exact fin l rfl (.inr (by rw [← intsR h2 (by simpa [seqD] using q2)]; exact p.sr.sub.st h1))
          | trn ds => obtain ⟨l, vs, rfl, h1, h2⟩ := hy.trn; exact fin l rfl (.inr (by rw [← intsR h2 (by simpa [seqD] using q2)]; exact p.sr.sub.st h1.sq))
          | _ => simp [seqD] at q2
      · exact w1.elim
  | exc x S' => rw [q] at w; exact w
  | bad => rw [q] at w; exact w
theorem x_lenSet {X : Cx} {EE : XQ} {a : Expr} {ta : TE} {ma : EM} {p p2 q pos : Pos} (hc : X.calm = true) (hm : Free X "len") (hm2 : Free X "set") (ha : XB X EE a ta ma) (hg : Gl X "len" := by rfl) (hg2 : Gl X "set" := by rfl)
    (na : starEach [a] X.env = (false, eval a X.env) :: starEach [] X.env := by rfl) : XE X EE (.Call (.Name "len" p) [.Call (.Name "set" p2) [a] [] q] [] pos) (tLenSet X.K ta) (e1 dLenSet ma) := ⟨pe_lenSet hc hg hm hg2 hm2 ha.1 na, s_lenSet ha.2⟩
end BR

/-! name.insert(k, e), name.pop(k) of one's own list, as statements. -/
namespace BR
open PySem PySem.Spec PyProof.Rows L2
def rIns : V → List V → Hp → VK → Prop := fun x vs H Q => ∃ (l : Addr) (xs : List V) (i : Int) (y : V), x = .ref l ∧ vs = [.int i, y] ∧ H l = some (.lst xs) ∧ xs.length < sizeLine ∧ 0 ≤ i ∧ i < 2 ^ 63 ∧ Q .non (upd H l (.lst (xs.take i.toNat ++ [y] ++ xs.drop i.toNat)))
def mIns (x : Nat) (ms : LM) : SM := fun r S => match r[x]? with
  | some (.own (.lst xs)) => (ms r S).bind fun ds S1 => (match ds with
    | [.int k, d] => if xs.length < lim ∧ 0 ≤ k ∧ k < 9223372036854775808 then .ok (.nx (r.set x (.own (.lst (xs.take k.toNat ++ [d] ++ xs.drop k.toNat))))) S1 else .bad
    | _ => .bad)
  | _ => .bad
def mPopI (x : Nat) (ms : LM) : SM := fun r S => match r[x]? with
  | some (.own (.lst xs)) => (ms r S).bind fun ds S1 => (match ds with
    | [.int k] => if -9223372036854775808 ≤ k ∧ k < 9223372036854775808 then (match ixN xs.length k with
      | some c => if c < xs.length then .ok (.nx (r.set x (.own (.lst (xs.eraseIdx c))))) S1 else .bad
      | none => .bad) else .bad
    | _ => .bad)
  | _ => .bad
section
variable {K : PySem.W.Frag} {EE : XQ} {ts : TA} {ms : LM}
theorem rel_one {G : Hp} {n : List Addr} {d : BR.D} {vs : List V} (h : RelL K G n [d] vs) : ∃ v, vs = [v] ∧ Rel K G n d v := by
  simp only [RelL] at h
  obtain ⟨v, r, rfl, h1, rfl⟩ := h
  exact ⟨v, rfl, h1⟩
theorem rel_two {G : Hp} {n : List Addr} {d e : BR.D} {vs : List V} (h : RelL K G n [d, e] vs) : ∃ v u, vs = [v, u] ∧ Rel K G n d v ∧ Rel K G n e u := by
  simp only [RelL] at h
  obtain ⟨v, r, rfl, h1, u, r2, rfl, h2, rfl⟩ := h
  exact ⟨v, u, rfl, h1, h2⟩
theorem SS.ins {i : Nat} (he : SA K EE ts ms) : SS K EE (tDrop (tBM K "list" rIns (tVar i) ts)) (mIns i ms) := fun G n S H r σ D s e w => by
  unfold mIns at w
  cases q : r[i]? with
  | none => rw [q] at w; exact w.elim
  | some sl => cases sl with
    | no => rw [q] at w; exact w.elim
    | val d => rw [q] at w; exact w.elim
    | own d => cases d with
      | lst xs =>
        rw [q] at w
        obtain ⟨a, o, h1, h2, h3, h4, vs, rfl, h5⟩ := e.own i _ q
        refine ⟨.ref a, h1, .inl ⟨rfl, _, .inl (.inl h4)⟩, he G n S H r σ _ s e ?_⟩
        simp only [] at w
        cases q2 : ms r S with
        | ok ds S1 =>
          rw [q2] at w
          intro us G1 n1 H1 p rl
          simp only [bind_ok] at w
          obtain ⟨g1, g2, g3⟩ := hidden p h4 h2 h3
          have rl5 := RelL.mono p.sub p.eta _ _ h5
          match ds, rl, w with
          | [.int k, d], rl, w =>
            obtain ⟨v, u, rfl, k1, k2⟩ := rel_two rl
            simp only [Rel] at k1
            subst k1
            simp only [] at w
            by_cases hb : xs.length < lim ∧ 0 ≤ k ∧ k < 9223372036854775808
            · rw [if_pos hb] at w
              refine ⟨a, vs, k, u, rfl, rfl, g3, by rw [← rl5.len, ← lim_eq]; exact hb.1, hb.2.1, by have := hb.2.2; omega, ?_⟩
              have e1 := e.post p
              have ow : Own r σ a := ⟨i, _, q, h1⟩
              have p2 : Post K (Own r σ) G1 n1 S1 H1 G1 n1 S1 (upd H1 a (.lst (vs.take k.toNat ++ [u] ++ vs.drop k.toNat))) := Post.hidW p.sr g3 g1 g2 ow
              exact w G1 n1 _ σ (p.own.trans p2 fun b z => .inl z) (e1.reOwn q h1 ⟨_, rfl, RelL.append (RelL.append (rl5.take _) (.cons k2 .nil)) (rl5.drop _)⟩) (OwnSub.reOwn q)
            · rw [if_neg hb] at w; exact w.elim
          | [], rl, w => exact w.elim
          | [x], rl, w => cases x <;> exact w.elim
          | x :: _ :: _ :: _, rl, w => cases x <;> exact w.elim
          | [.non, _], rl, w | [.bl _, _], rl, w | [.str _, _], rl, w | [.ty _, _], rl, w | [.tup _, _], rl, w | [.trn _, _], rl, w | [.lst _, _], rl, w | [.scr _, _], rl, w | [.dK _ _, _], rl, w | [.dT _ _, _], rl, w | [.ref _, _], rl, w | [.xc _, _], rl, w => exact w.elim
        | exc x S' => rw [q2] at w; exact fun c dd G' n' H' p => w c dd G' n' H' p.own
        | bad => rw [q2] at w; exact w.elim
      | _ => rw [q] at w; exact w.elim
theorem SS.popI {i : Nat} (he : SA K EE ts ms) : SS K EE (tDrop (tBM K "list" rPopAt (tVar i) ts)) (mPopI i ms) := fun G n S H r σ D s e w => by
  unfold mPopI at w
  cases q : r[i]? with
  | none => rw [q] at w; exact w.elim
  | some sl => cases sl with
    | no => rw [q] at w; exact w.elim
    | val d => rw [q] at w; exact w.elim
    | own d => cases d with
      | lst xs =>
        rw [q] at w
        obtain ⟨a, o, h1, h2, h3, h4, vs, rfl, h5⟩ := e.own i _ q
        refine ⟨.ref a, h1, .inl ⟨rfl, _, .inl (.inl h4)⟩, he G n S H r σ _ s e ?_⟩
        simp only [] at w
        cases q2 : ms r S with
        | ok ds S1 =>
          rw [q2] at w
          intro us G1 n1 H1 p rl
          simp only [bind_ok] at w
          obtain ⟨g1, g2, g3⟩ := hidden p h4 h2 h3
          have rl5 := RelL.mono p.sub p.eta _ _ h5
          match ds, rl, w with
          | [.int k], rl, w =>
            obtain ⟨v, rfl, k1⟩ := rel_one rl
            simp only [Rel] at k1
            subst k1
            simp only [] at w
            by_cases hb : -9223372036854775808 ≤ k ∧ k < 9223372036854775808
            · rw [if_pos hb] at w
              cases q4 : ixN xs.length k with
              | none => simp only [q4] at w; exact w.elim
              | some c =>
                simp only [q4] at w
                by_cases hc : c < xs.length
                · rw [if_pos hc] at w
                  obtain ⟨u, y1, y2⟩ := rl5.get (List.getElem?_eq_getElem hc)
                  refine ⟨a, vs, k, c, u, rfl, rfl, g3, by have := hb.1; omega, by have := hb.2; omega, by rw [← rl5.len]; exact (ixN_seq q4).1, y1, ?_⟩
                  have e1 := e.post p
                  have ow : Own r σ a := ⟨i, _, q, h1⟩
                  have p2 : Post K (Own r σ) G1 n1 S1 H1 G1 n1 S1 (upd H1 a (.lst (vs.eraseIdx c))) := Post.hidW p.sr g3 g1 g2 ow
                  exact w G1 n1 _ σ (p.own.trans p2 fun b z => .inl z) (e1.reOwn q h1 ⟨_, rfl, rl5.erase c⟩) (OwnSub.reOwn q)
                · rw [if_neg hc] at w; exact w.elim
            · rw [if_neg hb] at w; exact w.elim
          | [], rl, w => exact w.elim
          | x :: _ :: _, rl, w => cases x <;> exact w.elim
          | [.non], rl, w | [.bl _], rl, w | [.str _], rl, w | [.ty _], rl, w | [.tup _], rl, w | [.trn _], rl, w | [.lst _], rl, w | [.scr _], rl, w | [.dK _ _], rl, w | [.dT _ _], rl, w | [.ref _], rl, w | [.xc _], rl, w => exact w.elim
        | exc x S' => rw [q2] at w; exact fun c dd G' n' H' p => w c dd G' n' H' p.own
        | bad => rw [q2] at w; exact w.elim
      | _ => rw [q] at w; exact w.elim
end
theorem s_insV {X : Cx} {EE : XQ} {e : Expr} {es : List Expr} {t : TA} {ms : LM} {p pos : Pos} (i : Nat) {x : Str} {q q2 : Pos} (he : XA X EE (e :: es) t ms) (hN : X.N[i]? = some x := by rfl) (hv : Vis X.env.scope x := by first | exact Or.inl rfl | exact Or.inr (Or.inl rfl) | exact Or.inr (Or.inr rfl)) (hd : (x == ("__debug__" : Str)) = false := by decide) (hcd : (x == ("__classdict__" : Str)) = false := by decide)
    (h1 : attributeBase (.Name x q2) "insert" X.env (eval (.Name x q2) X.env) = eval (.Name x q2) X.env := by rfl)
    (h2 : ((backTo p (starEach (e :: es) X.env)).all (fun x => !x.1) && (backToKw p (keywordEach [] X.env)).all (fun x => x.1.isSome) && decide ((e :: es).length + ([] : List Keyword).length + (if ([] : List Keyword).isEmpty then 0 else 1) < 30)) = true := by rfl)
    (h3 : (q.endLine == p.line) = true := by rfl) (hs : starEach (e :: es) X.env = (false, eval e X.env) :: starEach es X.env := by rfl) (hp : (backTo p (starEach es X.env)).any (·.1) = false := by rfl) (hw : swapsWith (.Call (.Attribute (.Name x q2) "insert" q) (e :: es) [] p) none pos.line X.env = pure false := by rfl) :
    XS X EE (.Expr (.Call (.Attribute (.Name x q2) "insert" q) (e :: es) [] p) pos) (tDrop (tBM X.K "list" rIns (tVar i) t)) (mIns i ms) :=
  ⟨ps_expr (pe_bm PySem.F.plainAttrs_list PySem.F.slot_list_insert PySem.F.type_list_insert mt_insert (pe_var hN hv hd hcd) he.1 h1 h2 h3 hs hp) hw, SS.ins he.2⟩
theorem s_popI {X : Cx} {EE : XQ} {e : Expr} {es : List Expr} {t : TA} {ms : LM} {p pos : Pos} (i : Nat) {x : Str} {q q2 : Pos} (he : XA X EE (e :: es) t ms) (hN : X.N[i]? = some x := by rfl) (hv : Vis X.env.scope x := by first | exact Or.inl rfl | exact Or.inr (Or.inl rfl) | exact Or.inr (Or.inr rfl)) (hd : (x == ("__debug__" : Str)) = false := by decide) (hcd : (x == ("__classdict__" : Str)) = false := by decide)
    (h1 : attributeBase (.Name x q2) "pop" X.env (eval (.Name x q2) X.env) = eval (.Name x q2) X.env := by rfl)
    (h2 : ((backTo p (starEach (e :: es) X.env)).all (fun x => !x.1) && (backToKw p (keywordEach [] X.env)).all (fun x => x.1.isSome) && decide ((e :: es).length + ([] : List Keyword).length + (if ([] : List Keyword).isEmpty then 0 else 1) < 30)) = true := by rfl)
    (h3 : (q.endLine == p.line) = true := by rfl) (hs : starEach (e :: es) X.env = (false, eval e X.env) :: starEach es X.env := by rfl) (hp : (backTo p (starEach es X.env)).any (·.1) = false := by rfl) (hw : swapsWith (.Call (.Attribute (.Name x q2) "pop" q) (e :: es) [] p) none pos.line X.env = pure false := by rfl) :
    XS X EE (.Expr (.Call (.Attribute (.Name x q2) "pop" q) (e :: es) [] p) pos) (tDrop (tBM X.K "list" rPopAt (tVar i) t)) (mPopI i ms) :=
  ⟨ps_expr (pe_bm PySem.F.plainAttrs_list PySem.F.slot_list_pop PySem.F.type_list_pop mt_popAt (pe_var hN hv hd hcd) he.1 h1 h2 h3 hs hp) hw, SS.popI he.2⟩
end BR

/-! Reckoning with mirrors, no program in sight. -/
namespace BR
open PySem
/-! ### one step at a time -/
section
variable {a b : SM} {r : Env} {S : Store} {g : GM} {e m ma mb : EM} {t u : TM} {l : LM} {i j : Nat}
def sq (x : Res Out) (b : SM) : Res Out := match x with
  | .ok (.nx r1) S1 => b r1 S1
  | x => x
@[simp] theorem sq_nx : sq (.ok (.nx r) S) b = b r S := rfl
@[simp] theorem sq_rt {d : D} : sq (.ok (.rt d) S) b = .ok (.rt d) S := rfl
@[simp] theorem sq_bk : sq (.ok (.bk r) S) b = .ok (.bk r) S := rfl
@[simp] theorem sq_ct : sq (.ok (.ct r) S) b = .ok (.ct r) S := rfl
@[simp] theorem p_seq : mSeq a b r S = sq (a r S) b := rfl
@[simp] theorem p_nil : mNil r S = .ok (.nx r) S := rfl
@[simp] theorem p_set : mSet g e r S = (e r S).bind fun d S1 => match g d r with
  | some r1 => .ok (.nx r1) S1
  | none => .bad := rfl
@[simp] theorem p_gN {d : D} : gN i d r = some (r.set i (.val d)) := rfl
@[simp] theorem p_if : mIf t a b r S = (t r S).bind fun c S1 => if c = true then a r S1 else b r S1 := rfl
@[simp] theorem p_ret : mRet e r S = (e r S).bind fun d S1 => .ok (.rt d) S1 := rfl
@[simp] theorem p_retN : mRetN r S = .ok (.rt .non) S := rfl
@[simp] theorem p_drop : mDrop e r S = (e r S).bind fun _ S1 => .ok (.nx r) S1 := rfl
@[simp] theorem p_own : mOwn i l r S = (l r S).bind fun xs S1 => .ok (.nx (r.set i (.own (.lst xs)))) S1 := rfl
@[simp] theorem p_brk : mBreak r S = .ok (.bk r) S := rfl
@[simp] theorem p_cont : mCont r S = .ok (.ct r) S := rfl
@[simp] theorem p_eC {d : D} : eC d r S = .ok d S := rfl
@[simp] theorem p_eV : eV i r S = match r[i]? with
  | some (.val d) => .ok d S
  | _ => .bad := rfl
@[simp] theorem p_eB : eB i r S = match r[i]? with
  | some (.val d) => .ok d S
  | some (.own d) => .ok d S
  | _ => .bad := rfl
@[simp] theorem p_e1 {f : D → Store → Res D} : e1 f m r S = (m r S).bind f := rfl
@[simp] theorem p_e2 {f : D → D → Store → Res D} : e2 f ma mb r S = (ma r S).bind fun x S1 => (mb r S1).bind fun y S2 => f x y S2 := rfl
@[simp] theorem p_aN : aN r S = .ok [] S := rfl
@[simp] theorem p_aC : aC m l r S = (m r S).bind fun x S1 => (l r S1).bind fun xs S2 => .ok (x :: xs) S2 := rfl
@[simp] theorem p_eTup : eTup l r S = (l r S).bind fun xs S1 => if xs.length ≤ lim then .ok (.tup xs) S1 else .bad := rfl
@[simp] theorem p_eTrn : eTrn l r S = (l r S).bind fun xs S1 => if xs.length ≤ lim then .ok (.trn xs) S1 else .bad := rfl
@[simp] theorem p_eA {f : List D → Store → Res D} : eA f l r S = (l r S).bind f := rfl
@[simp] theorem p_eA2 {f : FM} {n k : Nat} {l2 : LM} : eA2 n k f l l2 r S = (l r S).bind fun xs S1 => (l2 r S1).bind fun ys S2 => if xs.length = n ∧ ys.length = k then f (xs ++ ys) S2 else .bad := rfl
@[simp] theorem p_eFrz : eFrz l r S = (l r S).bind fun xs S1 => .ok (.lst xs) S1 := rfl
@[simp] theorem p_eNew : eNew l r S = (l r S).bind fun xs S1 => .ok (.ref S1.length) (S1 ++ [some (.lst xs)]) := rfl
@[simp] theorem p_eIf : eIf t ma mb r S = (t r S).bind fun c S1 => if c = true then ma r S1 else mb r S1 := rfl
@[simp] theorem p_eT : eT t r S = (t r S).bind fun c S1 => .ok (.bl c) S1 := rfl
@[simp] theorem p_tE : tE m r S = (m r S).bind fun x S1 => match x with
  | .bl b => .ok b S1
  | _ => .bad := rfl
@[simp] theorem p_tNot : tNot t r S = (t r S).bind fun c S1 => .ok (!c) S1 := rfl
@[simp] theorem p_tAnd : tAnd t u r S = (t r S).bind fun c S1 => if c = true then u r S1 else .ok false S1 := rfl
@[simp] theorem p_tOr : tOr t u r S = (t r S).bind fun c S1 => if c = true then .ok true S1 else u r S1 := rfl
@[simp] theorem p_tYes : tYes r S = .ok true S := rfl
@[simp] theorem p_lLst : lLst l r S = (l r S).bind fun xs S1 => if xs.length ≤ lim then .ok xs S1 else .bad := rfl
@[simp] theorem p_l1 {f : D → Store → Res (List D)} : l1 f m r S = (m r S).bind f := rfl
@[simp] theorem p_iRange1 : iRange1 m r S = (m r S).bind fun x S1 => match x with
  | .int j => if -big62 ≤ j ∧ j < big62 then .ok (.fix (rangeD 0 j)) S1 else .bad
  | _ => .bad := rfl
@[simp] theorem p_iRange2 : iRange2 ma mb r S = (ma r S).bind fun x S1 => (mb r S1).bind fun y S2 => match x, y with
  | .int i, .int j => if -big62 ≤ i ∧ i < big62 ∧ -big62 ≤ j ∧ j < big62 then .ok (.fix (rangeD i j)) S2 else .bad
  | _, _ => .bad := rfl
@[simp] theorem p_iSeq : iSeq m r S = (m r S).bind fun x S1 => match x with
  | .ref k => (match lstAt S1 k with
    | some _ => .ok (.cell k) S1
    | none => .bad)
  | x => (match seqD x with
    | some xs => .ok (.fix xs) S1
    | none => .bad) := rfl
@[simp] theorem p_for {it : IM} : mFor it g a r S = (it r S).bind fun src S1 => match src with
  | .fix ds => forGo g a ds r S1
  | .cell k => forGoV k g a fuel 0 r S1 := rfl
@[simp] theorem p_lLc {it : IM} {vs : List Nat} : lLc it g t e vs r S = (it r S).bind fun src S1 => match src with
  | .fix ds => lcGo g t e (wipeE r vs) ds [] S1
  | .cell k => lcGoV k g t e (wipeE r vs) fuel 0 [] S1 := rfl
@[simp] theorem p_wipeN : wipeE r [] = r := rfl
@[simp] theorem p_wipeC {is : List Nat} : wipeE r (i :: is) = (wipeE r is).set i .no := rfl
@[simp] theorem p_setE {o x v : EM} : mSetE o x v r S = (v r S).bind fun w S1 => (o r S1).bind fun y S2 => (x r S2).bind fun z S3 => match y, z with
  | .ref k, .int n => (match lstAt S3 k with
    | some xs => (match L2.ixN xs.length n with
      | some p => .ok (.nx r) (S3.set k (some (.lst (xs.set p w))))
      | none => .bad)
    | none => .bad)
  | _, _ => .bad := rfl
@[simp] theorem p_app : mApp i e r S = match r[i]? with
  | some (.own (.lst xs)) => (e r S).bind fun d S1 => if xs.length < lim then .ok (.nx (r.set i (.own (.lst (xs ++ [d]))))) S1 else .bad
  | some (.val (.ref k)) => (match lstAt S k with
    | some _ => (e r S).bind fun d S1 => (match lstAt S1 k with
      | some xs => if xs.length < lim then .ok (.nx r) (S1.set k (some (.lst (xs ++ [d])))) else .bad
      | none => .bad)
    | none => .bad)
  | _ => .bad := rfl
@[simp] theorem p_frz : mFrz i a r S = match r[i]? with
  | some (.own d) => a (r.set i (.val d)) S
  | _ => a r S := rfl
@[simp] theorem p_sl {lo hi : PM} : eSl m lo hi r S = (m r S).bind fun x S1 => (lo r S1).bind fun i S2 => (hi r S2).bind fun j S3 => match vw S3 x with
  | some (.lst xs) => .ok (.lst (cutD xs i j)) S3
  | some (.scr xs) => .ok (.lst (cutD xs i j)) S3
  | some (.tup xs) => .ok (.tup (cutD xs i j)) S3
  | some (.str x) => okI (decide (x.length ≤ lim)) (.str (cutT x i j)) S3
  | _ => .bad := rfl
@[simp] theorem p_lsl {lo hi : PM} : lSl m lo hi r S = (m r S).bind fun x S1 => (lo r S1).bind fun i S2 => (hi r S2).bind fun j S3 => match (vw S3 x).bind lstD with
  | some xs => .ok (cutD xs i j) S3
  | none => .bad := rfl
@[simp] theorem p_pNo : pNo r S = .ok none S := rfl
@[simp] theorem p_pSo : pSo m r S = (m r S).bind fun x S1 => match x with
  | .int i => .ok (some i) S1
  | _ => .bad := rfl
@[simp] theorem p_runA {ar n : Nat} {ds : List D} : runA ar n a ds S = if ds.length = ar then (match a (start n ds) S with
  | .ok (.rt d) S1 => .ok d S1
  | .ok (.nx _) S1 => .ok .non S1
  | .ok _ _ => .bad
  | .exc e S1 => .exc e S1
  | .bad => .bad) else .bad := rfl
@[simp] theorem p_vwRef {k : Nat} : vw S (.ref k) = (match S[k]? with
  | some (some c) => some c
  | _ => none) := rfl
@[simp] theorem p_vwInt {x : Int} : vw S (.int x) = some (.int x) := rfl
@[simp] theorem p_vwBl {x : Bool} : vw S (.bl x) = some (.bl x) := rfl
@[simp] theorem p_vwStr {x : Str} : vw S (.str x) = some (.str x) := rfl
@[simp] theorem p_vwNon : vw S .non = some .non := rfl
@[simp] theorem p_vwLst {x : List D} : vw S (.lst x) = some (.lst x) := rfl
@[simp] theorem p_vwTup {x : List D} : vw S (.tup x) = some (.tup x) := rfl
@[simp] theorem p_vwTrn {x : List D} : vw S (.trn x) = some (.trn x) := rfl
@[simp] theorem p_vwScr {x : List D} : vw S (.scr x) = some (.scr x) := rfl
@[simp] theorem p_seqD1 {x : List D} : seqD (.lst x) = some x := rfl
@[simp] theorem p_seqD2 {x : List D} : seqD (.tup x) = some x := rfl
@[simp] theorem p_seqD3 {x : List D} : seqD (.trn x) = some x := rfl
@[simp] theorem p_seqD4 {x : List D} : seqD (.scr x) = some x := rfl
@[simp] theorem p_seqD5 {x : Int} : seqD (.int x) = none := rfl
@[simp] theorem p_seqS {d : D} : seqS S d = (vw S d).bind seqD := rfl
@[simp] theorem p_okI {c : Bool} {d : D} : okI c d S = if c = true then .ok d S else .bad := rfl
@[simp] theorem p_add {x y : Int} : dAdd (.int x) (.int y) S = .ok (.int (x + y)) S := rfl
@[simp] theorem p_sub {x y : Int} : dSub (.int x) (.int y) S = .ok (.int (x - y)) S := rfl
@[simp] theorem p_lt {x y : Int} : dLt (.int x) (.int y) S = .ok (.bl (decide (x < y))) S := rfl
@[simp] theorem p_le {x y : Int} : dLe (.int x) (.int y) S = .ok (.bl (decide (x ≤ y))) S := rfl
@[simp] theorem p_gt {x y : Int} : dGt (.int x) (.int y) S = .ok (.bl (decide (y < x))) S := rfl
@[simp] theorem p_ge {x y : Int} : dGe (.int x) (.int y) S = .ok (.bl (decide (y ≤ x))) S := rfl
@[simp] theorem p_eqI {x y : Int} : dEq (.int x) (.int y) S = .ok (.bl (decide (x = y))) S := by
  show okI _ (.bl (x == y)) S = _
  by_cases h : x = y <;> simp [h, okI, okP, deep]
@[simp] theorem p_neI {x y : Int} : dNe (.int x) (.int y) S = .ok (.bl (decide (x ≠ y))) S := by
  show okI _ (.bl (!(x == y))) S = _
  by_cases h : x = y <;> simp [h, okI, okP, deep]
theorem p_mul {x y : Int} (h : x.natAbs.log2 + y.natAbs.log2 < 1000000) : dMul (.int x) (.int y) S = .ok (.int (x * y)) S := by simp [dMul, h]
theorem p_mod {x y : Int} (h : 0 < y) : dMod (.int x) (.int y) S = .ok (.int (x % y)) S := by simp [dMod, h]
theorem p_fdiv {x y : Int} (h : 0 < y) (h2 : y.natAbs.log2 < 9000) : dFdiv (.int x) (.int y) S = .ok (.int (x / y)) S := by simp [dFdiv, h, h2]
@[simp] theorem p_abs {x : Int} : dAbs (.int x) S = .ok (.int (if x < 0 then -x else x)) S := rfl
@[simp] theorem p_max {x y : Int} : dMax2 (.int x) (.int y) S = .ok (.int (if y > x then y else x)) S := rfl
@[simp] theorem p_min {x y : Int} : dMin2 (.int x) (.int y) S = .ok (.int (if y < x then y else x)) S := rfl
end
theorem p_pow {S : Store} {x y : Int} (h : 0 ≤ y ∧ y ≤ 1000000 ∧ x.natAbs < 18446744073709551616) : dPow (.int x) (.int y) S = .ok (.int (x ^ y.toNat)) S := by simp [dPow, h]
theorem cutD_map (ns : List Int) (lo hi : Option Int) : ∃ ms : List Int, cutD (ns.map D.int) lo hi = ms.map D.int ∧ ms.length ≤ ns.length := by
  refine ⟨(ns.drop (HT.sIx (ns.map D.int).length 0 lo)).take (HT.sIx (ns.map D.int).length (ns.map D.int).length hi - HT.sIx (ns.map D.int).length 0 lo), ?_, ?_⟩
  · simp [cutD]
  · simp only [List.length_take, List.length_drop]; omega
/-! ### what the numbers come to -/
theorem log2_lt {x : Int} {k : Nat} (h : x.natAbs < 2 ^ k) (hk : 0 < k) : x.natAbs.log2 < k := by
  by_cases e : x.natAbs = 0
  · rw [e]; simpa using hk
  · exact (Nat.log2_lt e).mpr h
/-! ### reading at a place -/
theorem atI_nat {α : Type} {xs : List α} {k : Nat} (h : k < xs.length) : L2.atI xs (k : Int) = some xs[k] := by
  simp [L2.atI, L2.ixN, h]
theorem atI_int {α : Type} {xs : List α} {i : Int} (h0 : 0 ≤ i) (h : i.toNat < xs.length) : L2.atI xs i = some xs[i.toNat] := by
  obtain ⟨k, rfl⟩ := Int.eq_ofNat_of_zero_le h0
  simpa using atI_nat (by simpa using h)
theorem atI_map {α β : Type} (f : α → β) (xs : List α) (i : Int) : L2.atI (xs.map f) i = (L2.atI xs i).map f := by
  simp only [L2.atI, List.length_map, List.getElem?_map]
  cases L2.ixN xs.length i <;> rfl
/-! ### loops -/
theorem forGo_inv {g : GM} {b : SM} {ds : List D} (I : Nat → Env → Store → Prop) (hs : ∀ i d r S, ds[i]? = some d → I i r S → ∃ r1 r2 S2, g d r = some r1 ∧ (b r1 S = .ok (.nx r2) S2 ∨ b r1 S = .ok (.ct r2) S2) ∧ I (i + 1) r2 S2) {r : Env} {S : Store} (h0 : I 0 r S) :
    ∃ r2 S2, forGo g b ds r S = .ok (.nx r2) S2 ∧ I ds.length r2 S2 := by
  induction ds generalizing I r S with
  | nil => exact ⟨r, S, rfl, h0⟩
  | cons d ds ih =>
    obtain ⟨r1, r2, S2, e1, e2, h1⟩ := hs 0 d r S rfl h0
    obtain ⟨r3, S3, e3, h3⟩ := ih (fun i => I (i + 1)) (fun i d' r S e h => hs (i + 1) d' r S (by simpa using e) h) h1
    refine ⟨r3, S3, ?_, by simpa using h3⟩
    unfold forGo
    rw [e1]
    rcases e2 with e2 | e2 <;> simp only [e2] <;> exact e3
theorem rangeD_len (i j : Int) : (rangeD i j).length = (j - i).toNat := by simp [rangeD]
theorem rangeD_at {i j : Int} {k : Nat} {d : D} (h : (rangeD i j)[k]? = some d) : d = .int (i + k) ∧ i + k < j := by
  unfold rangeD at h
  rw [List.getElem?_map] at h
  by_cases hk : k < (j - i).toNat
  · rw [List.getElem?_range hk] at h
    cases h
    exact ⟨rfl, by omega⟩
  · rw [List.getElem?_eq_none_iff.mpr (by simpa using hk)] at h
    cases h
theorem range_inv {g : GM} {b : SM} {i0 j0 : Int} (hij : i0 ≤ j0) (I : Int → Env → Store → Prop) (hs : ∀ i r S, i0 ≤ i → i < j0 → I i r S → ∃ r1 r2 S2, g (.int i) r = some r1 ∧ (b r1 S = .ok (.nx r2) S2 ∨ b r1 S = .ok (.ct r2) S2) ∧ I (i + 1) r2 S2) {r : Env} {S : Store} (h0 : I i0 r S) :
    ∃ r2 S2, forGo g b (rangeD i0 j0) r S = .ok (.nx r2) S2 ∧ I j0 r2 S2 := by
  obtain ⟨r2, S2, e, h⟩ := forGo_inv (g := g) (b := b) (ds := rangeD i0 j0) (fun k => I (i0 + k)) (fun k d r S e h => by
    obtain ⟨rfl, hk⟩ := rangeD_at e
    obtain ⟨r1, r2, S2, e1, e2, h2⟩ := hs (i0 + k) r S (by omega) hk h
    exact ⟨r1, r2, S2, e1, e2, by rw [show i0 + ((k + 1 : Nat) : Int) = i0 + k + 1 by omega]; exact h2⟩) (r := r) (S := S) (by simpa using h0)
  refine ⟨r2, S2, e, ?_⟩
  rw [rangeD_len] at h
  rw [show i0 + (((j0 - i0).toNat : Nat) : Int) = j0 by omega] at h
  exact h
/-- a comprehension that changes nothing -/
theorem lcGo_map {g : GM} {t : TM} {e : EM} {r : Env} {S : Store} (p : D → Bool) (f : D → D) : ∀ {ds acc : List D}, (∀ d ∈ ds, ∃ r1, g d r = some r1 ∧ t r1 S = .ok (p d) S ∧ (p d = true → e r1 S = .ok (f d) S)) → acc.length + ds.length ≤ lim →
    lcGo g t e r ds acc S = .ok (acc ++ (ds.filter p).map f) S
  | [], acc, _, _ => by simp [lcGo]
  | d :: ds, acc, h, hl => by
    obtain ⟨r1, e1, e2, e3⟩ := h d (by simp)
    simp only [List.length_cons] at hl
    unfold lcGo
    simp only [e1, e2, bind_ok]
    by_cases c : p d = true
    · rw [if_pos c, e3 c]
      simp only [bind_ok]
      rw [if_pos (by omega), lcGo_map p f (fun d' hd => h d' (List.mem_cons_of_mem _ hd)) (by simp; omega)]
      simp [c]
    · rw [if_neg c, lcGo_map p f (fun d' hd => h d' (List.mem_cons_of_mem _ hd)) (by omega)]
      simp [c]
theorem lcGoV_map {k : Nat} {g : GM} {t : TM} {e : EM} {r : Env} {S : Store} {ds : List D} (hk : lstAt S k = some ds) (p : D → Bool) (f : D → D) (h : ∀ d ∈ ds, ∃ r1, g d r = some r1 ∧ t r1 S = .ok (p d) S ∧ (p d = true → e r1 S = .ok (f d) S)) :
    ∀ (m i : Nat) (acc : List D), ds.length - i < m → acc.length + (ds.length - i) ≤ lim → lcGoV k g t e r m i acc S = .ok (acc ++ ((ds.drop i).filter p).map f) S
  | 0, i, acc, hm, _ => absurd hm (Nat.not_lt_zero _)
  | m + 1, i, acc, hm, hl => by
    unfold lcGoV
    simp only [hk]
    by_cases hi : i < ds.length
    · have e0 : ds[i]? = some ds[i] := List.getElem?_eq_getElem hi
      obtain ⟨r1, e1, e2, e3⟩ := h ds[i] (List.getElem_mem hi)
      simp only [e0, e1, e2, bind_ok]
      have hd : (ds.drop i).filter p = if p ds[i] = true then ds[i] :: (ds.drop (i + 1)).filter p else (ds.drop (i + 1)).filter p := by
        rw [List.drop_eq_getElem_cons hi, List.filter_cons]
      rw [hd]
      by_cases c : p ds[i] = true
      · rw [if_pos c, if_pos c, e3 c]
        simp only [bind_ok]
        rw [if_pos (by omega), lcGoV_map hk p f h m (i + 1) _ (by omega) (by simp only [List.length_append, List.length_singleton]; omega), List.append_assoc, List.map_cons]
        rfl
      · rw [if_neg c, if_neg c, lcGoV_map hk p f h m (i + 1) _ (by omega) (by omega)]
    · have e0 : ds[i]? = none := List.getElem?_eq_none_iff.mpr (by omega)
      simp only [e0]
      rw [List.drop_eq_nil_of_le (by omega)]
      simp
@[simp] theorem p_popAt {o i : EM} {r : Env} {S : Store} : ePopAt o i r S = (o r S).bind fun x S1 => match x with
  | .ref k => (match lstAt S1 k with
    | some _ => (i r S1).bind fun j S2 => (match lstAt S2 k, j with
      | some xs, .int n => if -9223372036854775808 ≤ n ∧ n < 9223372036854775808 then (match L2.ixN xs.length n with
        | some p => (match xs[p]? with
          | some y => .ok y (S2.set k (some (.lst (xs.eraseIdx p))))
          | none => .bad)
        | none => .bad) else .bad
      | _, _ => .bad)
    | none => .bad)
  | _ => .bad := rfl
@[simp] theorem p_l2 {f : D → D → Store → Res (List D)} {a b : EM} {r : Env} {S : Store} : l2 f a b r S = (a r S).bind fun x S1 => (b r S1).bind fun y S2 => f x y S2 := rfl
theorem lcGo_inv {g : GM} {t : TM} {e : EM} {r : Env} {ds : List D} (I : Nat → List D → Store → Prop) : ∀ (es : List D) (k : Nat) (acc : List D) (S : Store), ds.drop k = es → acc.length = k → ds.length ≤ lim → (∀ i d acc S, ds[i]? = some d → acc.length = i → I i acc S → ∃ r1 y S2, g d r = some r1 ∧ t r1 S = .ok true S ∧ e r1 S = .ok y S2 ∧ I (i + 1) (acc ++ [y]) S2) → I k acc S → k ≤ ds.length →
    ∃ acc2 S2, lcGo g t e r es acc S = .ok acc2 S2 ∧ I ds.length acc2 S2 ∧ acc2.length = ds.length
  | [], k, acc, S, hd, ha, hl, hs, h, hk => by
    have : ds.length ≤ k := by
      have := congrArg List.length hd
      simp at this
      omega
    have e : k = ds.length := by omega
    exact ⟨acc, S, rfl, by rw [← e]; exact h, by omega⟩
  | d :: es, k, acc, S, hd, ha, hl, hs, h, hk => by
    have hk2 : k < ds.length := by
      have := congrArg List.length hd
      simp at this
      omega
    have e0 : ds[k]? = some d := by
      have := List.drop_eq_getElem_cons hk2
      rw [hd] at this
      have := (List.cons.inj this).1
      rw [List.getElem?_eq_getElem hk2, this]
    obtain ⟨r1, y, S2, e1, e2, e3, h2⟩ := hs k d acc S e0 ha h
    have hd2 : ds.drop (k + 1) = es := by
      have := List.drop_eq_getElem_cons hk2
      rw [hd] at this
      exact (List.cons.inj this).2.symm
    obtain ⟨acc2, S3, e4, h3, h4⟩ := lcGo_inv I es (k + 1) (acc ++ [y]) S2 hd2 (by simp [ha]) hl hs h2 hk2
    refine ⟨acc2, S3, ?_, h3, h4⟩
    unfold lcGo
    simp only [e1, e2, bind_ok, if_true, e3]
    rw [if_pos (by omega)]
    exact e4
theorem lcR_inv {g : GM} {t : TM} {e : EM} {r : Env} {j0 : Int} (hj : 0 ≤ j0) (hj2 : j0 ≤ 16777216) (I : Nat → List D → Store → Prop) {S : Store} (hs : ∀ (i : Nat) acc S, (i : Int) < j0 → acc.length = i → I i acc S → ∃ r1 y S2, g (.int i) r = some r1 ∧ t r1 S = .ok true S ∧ e r1 S = .ok y S2 ∧ I (i + 1) (acc ++ [y]) S2) (h0 : I 0 [] S) :
    ∃ acc2 S2, lcGo g t e r (rangeD 0 j0) [] S = .ok acc2 S2 ∧ I j0.toNat acc2 S2 ∧ acc2.length = j0.toNat := by
  have hl : (rangeD 0 j0).length = j0.toNat := by rw [rangeD_len]; congr 1; omega
  obtain ⟨acc2, S2, e1, h1, h2⟩ := lcGo_inv (g := g) (t := t) (e := e) (r := r) (ds := rangeD 0 j0) I _ 0 [] S rfl rfl (by rw [hl]; unfold lim; omega) (fun i d acc S hd ha h => by
    obtain ⟨rfl, hi⟩ := rangeD_at hd
    obtain ⟨r1, y, S2, e1, e2, e3, h2⟩ := hs i acc S (by omega) ha h
    exact ⟨r1, y, S2, by rw [show (0 : Int) + (i : Int) = i by omega]; exact e1, e2, e3, h2⟩) h0 (Nat.zero_le _)
  exact ⟨acc2, S2, by simpa using e1, by rw [hl] at h1; exact h1, by rw [hl] at h2; exact h2⟩
theorem seq_ok {a b : SM} {r r1 : Env} {S S1 : Store} {x : Res Out} (h : a r S = .ok (.nx r1) S1) (h2 : b r1 S1 = x) : mSeq a b r S = x := by rw [p_seq, h, sq_nx, h2]
theorem runA_ok {ar n : Nat} {m : SM} {ds : List D} {S S1 : Store} {d : D} (hl : ds.length = ar) (h : m (start n ds) S = .ok (.rt d) S1) : runA ar n m ds S = .ok d S1 := by rw [p_runA, if_pos hl, h]
theorem runA_nx {ar n : Nat} {m : SM} {ds : List D} {S S1 : Store} {r : Env} (hl : ds.length = ar) (h : m (start n ds) S = .ok (.nx r) S1) : runA ar n m ds S = .ok .non S1 := by rw [p_runA, if_pos hl, h]
theorem iR1 {a : EM} {r : Env} {S S1 : Store} {n : Int} (ha : a r S = .ok (.int n) S1) (h : -big62 ≤ n ∧ n < big62) : iRange1 a r S = .ok (.fix (rangeD 0 n)) S1 := by
  rw [p_iRange1, ha, bind_ok]
  exact if_pos h
theorem iR2 {a b : EM} {r : Env} {S S1 S2 : Store} {m n : Int} (ha : a r S = .ok (.int m) S1) (hb : b r S1 = .ok (.int n) S2) (h : -big62 ≤ m ∧ m < big62 ∧ -big62 ≤ n ∧ n < big62) : iRange2 a b r S = .ok (.fix (rangeD m n)) S2 := by
  rw [p_iRange2, ha, bind_ok, hb, bind_ok]
  exact if_pos h
theorem lLc_fix {it : IM} {g : GM} {t : TM} {e : EM} {vs : List Nat} {r : Env} {S S1 : Store} {ds : List D} {x : Res (List D)} (hi : it r S = .ok (.fix ds) S1) (h : lcGo g t e (wipeE r vs) ds [] S1 = x) : lLc it g t e vs r S = x := by
  unfold lLc
  rw [hi, bind_ok]
  exact h
theorem lLc_cell {it : IM} {g : GM} {t : TM} {e : EM} {vs : List Nat} {r : Env} {S S1 : Store} {k : Nat} {x : Res (List D)} (hi : it r S = .ok (.cell k) S1) (h : lcGoV k g t e (wipeE r vs) fuel 0 [] S1 = x) : lLc it g t e vs r S = x := by
  unfold lLc
  rw [hi, bind_ok]
  exact h
theorem mFor_fix {it : IM} {g : GM} {b : SM} {r : Env} {S S1 : Store} {ds : List D} {x : Res Out} (hi : it r S = .ok (.fix ds) S1) (h : forGo g b ds r S1 = x) : mFor it g b r S = x := by
  unfold mFor
  rw [hi, bind_ok]
  exact h
theorem mFor_cell {it : IM} {g : GM} {b : SM} {r : Env} {S S1 : Store} {k : Nat} {x : Res Out} (hi : it r S = .ok (.cell k) S1) (h : forGoV k g b fuel 0 r S1 = x) : mFor it g b r S = x := by
  unfold mFor
  rw [hi, bind_ok]
  exact h
theorem set_new {i : Nat} {l : LM} {r : Env} {S S1 : Store} {xs : List D} (h : l r S = .ok xs S1) : mSet (gN i) (eNew l) r S = .ok (.nx (r.set i (.val (.ref S1.length)))) (S1 ++ [some (.lst xs)]) := by
  unfold mSet eNew
  rw [h]
  rfl
theorem set_frz {i : Nat} {l : LM} {r : Env} {S S1 : Store} {xs : List D} (h : l r S = .ok xs S1) : mSet (gN i) (eFrz l) r S = .ok (.nx (r.set i (.val (.lst xs)))) S1 := by
  unfold mSet eFrz
  rw [h]
  rfl
theorem set_val {i : Nat} {e : EM} {r : Env} {S S1 : Store} {d : D} (h : e r S = .ok d S1) : mSet (gN i) e r S = .ok (.nx (r.set i (.val d))) S1 := by
  unfold mSet
  rw [h]
  rfl
theorem lcGoV_inv {kc : Nat} {g : GM} {t : TM} {e : EM} {r : Env} {ds : List D} (I : Nat → List D → Store → Prop) (hk : ∀ i acc S, I i acc S → lstAt S kc = some ds) (hl : ds.length ≤ lim) (hs : ∀ i d acc S, ds[i]? = some d → acc.length = i → I i acc S → ∃ r1 y S2, g d r = some r1 ∧ t r1 S = .ok true S ∧ e r1 S = .ok y S2 ∧ I (i + 1) (acc ++ [y]) S2) :
    ∀ (m k : Nat) (acc : List D) (S : Store), ds.length - k < m → acc.length = k → k ≤ ds.length → I k acc S → ∃ acc2 S2, lcGoV kc g t e r m k acc S = .ok acc2 S2 ∧ I ds.length acc2 S2 ∧ acc2.length = ds.length
  | 0, k, acc, S, hm, _, _, _ => absurd hm (Nat.not_lt_zero _)
  | m + 1, k, acc, S, hm, ha, hk2, h => by
    unfold lcGoV
    simp only [hk k acc S h]
    by_cases hi : k < ds.length
    · have e0 : ds[k]? = some ds[k] := List.getElem?_eq_getElem hi
      obtain ⟨r1, y, S2, e1, e2, e3, h2⟩ := hs k ds[k] acc S e0 ha h
      obtain ⟨acc2, S3, e4, h3, h4⟩ := lcGoV_inv I hk hl hs m (k + 1) (acc ++ [y]) S2 (by omega) (by simp [ha]) hi h2
      refine ⟨acc2, S3, ?_, h3, h4⟩
      simp only [e0, e1, e2, bind_ok, if_true, e3]
      rw [if_pos (by omega)]
      exact e4
    · have e0 : ds[k]? = none := List.getElem?_eq_none_iff.mpr (by omega)
      simp only [e0]
      have : k = ds.length := by omega
      exact ⟨acc, S, rfl, by rw [← this]; exact h, by omega⟩
theorem forGoV_inv {kc : Nat} {g : GM} {b : SM} {ds : List D} (I : Nat → Env → Store → Prop) (hk : ∀ i r S, I i r S → lstAt S kc = some ds) (hs : ∀ i d r S, ds[i]? = some d → I i r S → ∃ r1 r2 S2, g d r = some r1 ∧ (b r1 S = .ok (.nx r2) S2 ∨ b r1 S = .ok (.ct r2) S2) ∧ I (i + 1) r2 S2) :
    ∀ (m k : Nat) (r : Env) (S : Store), ds.length - k < m → k ≤ ds.length → I k r S → ∃ r2 S2, forGoV kc g b m k r S = .ok (.nx r2) S2 ∧ I ds.length r2 S2
  | 0, k, r, S, hm, _, _ => absurd hm (Nat.not_lt_zero _)
  | m + 1, k, r, S, hm, hk2, h => by
    unfold forGoV
    simp only [hk k r S h]
    by_cases hi : k < ds.length
    · have e0 : ds[k]? = some ds[k] := List.getElem?_eq_getElem hi
      obtain ⟨r1, r2, S2, e1, e2, h2⟩ := hs k ds[k] r S e0 h
      obtain ⟨r3, S3, e4, h3⟩ := forGoV_inv I hk hs m (k + 1) r2 S2 (by omega) hi h2
      refine ⟨r3, S3, ?_, h3⟩
      simp only [e0, e1]
      rcases e2 with e2 | e2 <;> simp only [e2] <;> exact e4
    · have e0 : ds[k]? = none := List.getElem?_eq_none_iff.mpr (by omega)
      simp only [e0]
      have : k = ds.length := by omega
      exact ⟨r, S, rfl, by rw [← this]; exact h⟩
theorem iSeq_cell {a : EM} {r : Env} {S S1 : Store} {k : Nat} {xs : List D} (ha : a r S = .ok (.ref k) S1) (h : lstAt S1 k = some xs) : iSeq a r S = .ok (.cell k) S1 := by
  rw [p_iSeq, ha, bind_ok]
  simp only [h]
theorem iSeq_seq {a : EM} {r : Env} {S S1 : Store} {d : D} {xs : List D} (ha : a r S = .ok d S1) (h : seqD d = some xs) : iSeq a r S = .ok (.fix xs) S1 := by
  rw [p_iSeq, ha, bind_ok]
  cases d <;> first | (cases h; done) | simp only [h]
theorem fuel_big {n : Nat} (h : n ≤ 16777216) : n < fuel := by unfold fuel; omega
end BR

section
namespace LW
open PySem PySem.Spec PyProof.Rows L2 BR
theorem hu {k : Nat} {A : Around} (r : Rm k A) : A.units + 64 < cLine := by have := r.room.un; omega
theorem hu1 {k : Nat} {A : Around} (r : Rm k A) : A.units + 1 < cLine := by have := r.room.un; omega
theorem hu65 {k : Nat} {A : Around} (r : Rm k A) : A.units + 65 < cLine := by have := r.room.un; omega
/-! ### the text, and what its names stand for -/
def top (i : Nat) : Stmt := PySem.Challenge.pw_blockrooms_k07_names_refused.main.body.getD i (.Pass ⟨0, 0, 0, 0⟩)
def c_STILL : BR.D := .trn [.int 0, .int 1, .int 2, .int 3]
def tb_NoNumbers_NoSurface_NoMove_NoForm_NoneYet (m : String) : Option Bool := if m = "NoName" then some false else none
def tb_NoCorner (m : String) : Option Bool := if m = "NoName" then some false else none
def tb_NoFace (m : String) : Option Bool := if m = "NoName" then some false else none
def tb_NoLine (m : String) : Option Bool := if m = "NoName" then some false else none
def tb_NoName (m : String) : Option Bool := if m = "NoName" then some true else none
def tb_NoSpace (m : String) : Option Bool := if m = "NoName" then some false else none
def tb_NoTurn (m : String) : Option Bool := if m = "NoName" then some false else none
def tb_ValueError (m : String) : Option Bool := if m = "NoName" then some true else none
def tb_RoomError (m : String) : Option Bool := if m = "NoName" then some true else none
structure Nm (K : PySem.W.Frag) (mg : Str → Option Value) : Prop where
  c_NoCorner : mg "NoCorner" = some (clsV K "NoCorner")
  c_NoFace : mg "NoFace" = some (clsV K "NoFace")
  c_NoForm : mg "NoForm" = some (clsV K "NoForm")
  c_NoLine : mg "NoLine" = some (clsV K "NoLine")
  c_NoMove : mg "NoMove" = some (clsV K "NoMove")
  c_NoName : mg "NoName" = some (clsV K "NoName")
  c_NoNumbers : mg "NoNumbers" = some (clsV K "NoNumbers")
  c_NoSpace : mg "NoSpace" = some (clsV K "NoSpace")
  c_NoSurface : mg "NoSurface" = some (clsV K "NoSurface")
  c_NoTurn : mg "NoTurn" = some (clsV K "NoTurn")
  c_NoneYet : mg "NoneYet" = some (clsV K "NoneYet")
  c_RoomError : mg "RoomError" = some (clsV K "RoomError")
  x_NoName : ExcK K mg "NoName"
  a_NoNumbers_NoSurface_NoMove_NoForm_NoneYet : ∀ m q, tb_NoNumbers_NoSurface_NoMove_NoForm_NoneYet m = some q → ExcC K (He.ga K (PySem.Str.ofString m)) ∧ PySem.W.kitAny K (clsV K m) [clsV K "NoNumbers", clsV K "NoSurface", clsV K "NoMove", clsV K "NoForm", clsV K "NoneYet"] = some q
  k_NoCorner : ∀ m q, tb_NoCorner m = some q → ExcC K (He.ga K (PySem.Str.ofString m)) ∧ PySem.W.kitOne K (clsV K m) (clsV K "NoCorner") = some q
  k_NoFace : ∀ m q, tb_NoFace m = some q → ExcC K (He.ga K (PySem.Str.ofString m)) ∧ PySem.W.kitOne K (clsV K m) (clsV K "NoFace") = some q
  k_NoLine : ∀ m q, tb_NoLine m = some q → ExcC K (He.ga K (PySem.Str.ofString m)) ∧ PySem.W.kitOne K (clsV K m) (clsV K "NoLine") = some q
  k_NoName : ∀ m q, tb_NoName m = some q → ExcC K (He.ga K (PySem.Str.ofString m)) ∧ PySem.W.kitOne K (clsV K m) (clsV K "NoName") = some q
  k_NoSpace : ∀ m q, tb_NoSpace m = some q → ExcC K (He.ga K (PySem.Str.ofString m)) ∧ PySem.W.kitOne K (clsV K m) (clsV K "NoSpace") = some q
  k_NoTurn : ∀ m q, tb_NoTurn m = some q → ExcC K (He.ga K (PySem.Str.ofString m)) ∧ PySem.W.kitOne K (clsV K m) (clsV K "NoTurn") = some q
  k_ValueError : ∀ m q, tb_ValueError m = some q → ExcC K (He.ga K (PySem.Str.ofString m)) ∧ PySem.W.kitOne K (clsV K m) (.type "ValueError") = some q
  t_RoomError : ∀ m q, tb_RoomError m = some q → PySem.W.exmOne K (clsV K m) (clsV K "RoomError") = some q
  g_STILL : mg "STILL" = some (.ref (He.ga K "STILL"))
  r_STILL : ∀ G n, Rel K G n c_STILL (.ref (He.ga K "STILL"))
  f_ValueError : mg "ValueError" = none
  f_all : mg "all" = none
  f_bool : mg "bool" = none
  f_enumerate : mg "enumerate" = none
  f_int : mg "int" = none
  f_isinstance : mg "isinstance" = none
  f_len : mg "len" = none
  f_list : mg "list" = none
  f_min : mg "min" = none
  f_range : mg "range" = none
  f_set : mg "set" = none
  f_sorted : mg "sorted" = none
  f_str : mg "str" = none
  f_tuple : mg "tuple" = none
  f_zip : mg "zip" = none

/-! is_whole -/
abbrev s_is_whole : Stmt := top 15
abbrev N_is_whole : List Str := ["thing"]
theorem sc_is_whole : FnScope N_is_whole ["thing"] (defScope s_is_whole) := ⟨rfl, rfl, rfl, by decide +kernel, rfl, by decide +kernel, by decide +kernel⟩
def b_is_whole : SM := (mRet (eIf (tE (e1 (dIsi ["int"]) (eB 0))) (eT (tNot (tE (e1 (dIsi ["bool"]) (eB 0))))) (eC (.bl false))))
def m_is_whole : FM := runA 1 1 b_is_whole
theorem d_is_whole {P : Program} {w : World} {K : PySem.W.Frag} {mg : Str → Option Value} {base : Heap} (nm : Nm K mg) : Body P w K mg base N_is_whole "is_whole" s_is_whole 0 b_is_whole := fun f cdv A outer s H E hr =>
  have nd := sc_is_whole.nd
  ⟨_, (s_one (s_ret (v_and (x_isi (by decide) ty_int nm.f_isinstance nm.f_int (x_b 0)) (v_one (v_not (x_isi (by decide) ty_bool nm.f_isinstance nm.f_bool (x_b 0)))))))⟩
/-! is_row -/
abbrev s_is_row : Stmt := top 16
abbrev N_is_row : List Str := ["thing"]
theorem sc_is_row : FnScope N_is_row ["thing"] (defScope s_is_row) := ⟨rfl, rfl, rfl, by decide +kernel, rfl, by decide +kernel, by decide +kernel⟩
def b_is_row : SM := (mRet (e1 (dIsi ["list", "tuple"]) (eB 0)))
def m_is_row : FM := runA 1 1 b_is_row
theorem d_is_row {P : Program} {w : World} {K : PySem.W.Frag} {mg : Str → Option Value} {base : Heap} (nm : Nm K mg) : Body P w K mg base N_is_row "is_row" s_is_row 0 b_is_row := fun f cdv A outer s H E hr =>
  have nd := sc_is_row.nd
  ⟨_, (s_one (s_ret (x_isi2 (by decide) (by decide) ty_list ty_tuple nm.f_isinstance nm.f_list nm.f_tuple (x_b 0))))⟩
/-! contrary -/
abbrev s_contrary : Stmt := top 18
abbrev N_contrary : List Str := ["turn", "corner"]
theorem sc_contrary : FnScope N_contrary ["turn"] (defScope s_contrary) := ⟨rfl, rfl, rfl, by decide +kernel, rfl, by decide +kernel, by decide +kernel⟩
def b_contrary : SM := (mRet (e1 dTrn (eFrz (lLc (iRange1 (eC (.int 4))) (gN 1) tYes (eIndexT (eV 0) (eB 1)) [1]))))
def m_contrary : FM := runA 1 2 b_contrary
theorem d_contrary {P : Program} {w : World} {K : PySem.W.Frag} {mg : Str → Option Value} {base : Heap} (nm : Nm K mg) : Body P w K mg base N_contrary "contrary" s_contrary 0 b_contrary := fun f cdv A outer s H E hr =>
  have nd := sc_contrary.nd
  ⟨_, (s_one (s_ret (x_tupleN nm.f_tuple (XE.bor (XL.frz (l_lc rfl nd (own := [("corner", 1)]) (i_range1 nm.f_range (XE.bor x_int)) (by rfl) (by intros; exact ⟨_, (g_n 1 nd)⟩) (by intros; exact ⟨_, ts_nil⟩) (by intros; exact ⟨_, (x_indexT (x_v 0) (x_b 1))⟩)))))))⟩
/-! behind -/
abbrev s_behind : Stmt := top 19
abbrev N_behind : List Str := ["one", "other", "corner"]
theorem sc_behind : FnScope N_behind ["one", "other"] (defScope s_behind) := ⟨rfl, rfl, rfl, by decide +kernel, rfl, by decide +kernel, by decide +kernel⟩
def b_behind : SM := (mRet (e1 dTrn (eFrz (lLc (iSeq (eB 0)) (gN 2) tYes (e2 dIdx (eB 1) (eB 2)) [2]))))
def m_behind : FM := runA 2 3 b_behind
theorem d_behind {P : Program} {w : World} {K : PySem.W.Frag} {mg : Str → Option Value} {base : Heap} (nm : Nm K mg) : Body P w K mg base N_behind "behind" s_behind 0 b_behind := fun f cdv A outer s H E hr =>
  have nd := sc_behind.nd
  ⟨_, (s_one (s_ret (x_tupleN nm.f_tuple (XE.bor (XL.frz (l_lc rfl nd (own := [("corner", 2)]) (i_seqB (x_b 0)) (by rfl) (by intros; exact ⟨_, (g_n 2 nd)⟩) (by intros; exact ⟨_, ts_nil⟩) (by intros; exact ⟨_, (x_ix (x_b 1) (x_b 2))⟩)))))))⟩
/-! _law_reel -/
abbrev s__law_reel : Stmt := top 26
abbrev N__law_reel : List Str := ["script", "stir", "cell", "great"]
theorem sc__law_reel : FnScope N__law_reel ["script"] (defScope s__law_reel) := ⟨rfl, rfl, rfl, by decide +kernel, rfl, by decide +kernel, by decide +kernel⟩
def l1__law_reel : SM := (mSet (gN 1) (e2 dMod (e2 dAdd (e2 dAdd (e2 dMul (eB 1) (eB 1)) (e2 dMod (eB 2) (eC (.int 1000000000000000003)))) (eC (.int 11))) (e2 dSub (e2 dMul (e2 dPow (eC (.int 2)) (eC (.int 64))) (e2 dPow (eC (.int 2)) (eC (.int 63)))) (eC (.int 1)))))
def b__law_reel : SM := (mSeq (mSet (gN 1) (e2 dPow (eC (.int 3)) (eC (.int 60))))
  (mSeq (mFor (iSeq (eSl (eB 0) pNo (pSo (eC (.int 63))))) (gN 2) l1__law_reel)
  (mSeq (mSet (gN 3) (eFrz (lLc (iSeq (eSl (eB 0) pNo (pSo (eC (.int 63))))) (gN 2) (tE (e2 dGe (eB 2) (e2 dPow (eC (.int 10)) (eC (.int 18))))) (e2 dSub (eB 2) (e2 dPow (eC (.int 10)) (eC (.int 18)))) [2])))
  (mRet (eNew (lLst (aC (eV 3) (aC (e2 dAdd (eFrz (lLc (iSeq (eSl (eB 0) pNo (pSo (eC (.int 63))))) (gN 2) tYes (e2 dMod (eB 2) (eC (.int 1000003))) [2])) (eFrz (lLst (aC (eC (.int 41)) aN)))) (aC (eC (.int 0)) (aC (eV 1) aN))))))))))
def m__law_reel : FM := runA 1 4 b__law_reel
theorem d__law_reel {P : Program} {w : World} {K : PySem.W.Frag} {mg : Str → Option Value} {base : Heap} (nm : Nm K mg) : Body P w K mg base N__law_reel "_law_reel" s__law_reel 0 b__law_reel := fun f cdv A outer s H E hr =>
  have nd := sc__law_reel.nd
  ⟨_, (s_cons (s_set 1 nd (x_pow (XE.bor x_int) (XE.bor x_int)))
  (s_cons (s_for PassesOwn.never rfl (i_seq (x_sl (x_b 0) o_no (o_so (XE.bor x_int)))) (g_n 2 nd) (s_one (s_set 1 nd (x_mod (XE.bor (x_add (XE.bor (x_add (XE.bor (x_mul (x_b 1) (x_b 1))) (XE.bor (x_mod (x_b 2) (XE.bor x_int))))) (XE.bor x_int))) (XE.bor (x_sub (XE.bor (x_mul (XE.bor (x_pow (XE.bor x_int) (XE.bor x_int))) (XE.bor (x_pow (XE.bor x_int) (XE.bor x_int))))) (XE.bor x_int)))))))
  (s_cons (s_lcF 3 rfl nd (own := [("cell", 2)]) (i_seq (x_sl (x_b 0) o_no (o_so (XE.bor x_int)))) (by rfl) (by intros; exact ⟨_, (g_n 2 nd)⟩) (by intros; exact ⟨_, (ts_one (t_ge (x_b 2) (XE.bor (x_pow (XE.bor x_int) (XE.bor x_int)))))⟩) (by intros; exact ⟨_, (x_sub (x_b 2) (XE.bor (x_pow (XE.bor x_int) (XE.bor x_int))))⟩))
  (s_one (s_ret (XL.new (l_lst (a_cons (x_v 3) (a_cons (x_add (XE.bor (XL.frz (l_lc rfl nd (own := [("cell", 2)]) (i_seq (x_sl (x_b 0) o_no (o_so (XE.bor x_int)))) (by rfl) (by intros; exact ⟨_, (g_n 2 nd)⟩) (by intros; exact ⟨_, ts_nil⟩) (by intros; exact ⟨_, (x_mod (x_b 2) (XE.bor x_int))⟩)))) (XE.bor (XL.frz (l_lst (a_cons x_int a_nil))))) (a_cons x_int (a_cons (x_v 1) a_nil)))))))))))⟩
/-! _law_draw -/
abbrev s__law_draw : Stmt := top 27
abbrev N__law_draw : List Str := ["reel", "many", "rest", "told", "stir"]
theorem sc__law_draw : FnScope N__law_draw ["reel", "many"] (defScope s__law_draw) := ⟨rfl, rfl, rfl, by decide +kernel, rfl, by decide +kernel, by decide +kernel⟩
def b__law_draw : SM := (mSeq (mIf (tE (e2 dNe (e2 dIdx (eB 0) (eC (.int 0))) (eFrz (lLst aN)))) (mSeq (mSet (gN 2) (e2 dIdx (e2 dIdx (eB 0) (eC (.int 0))) (eC (.int 0))))
  (mSeq (mSetE (eV 0) (eC (.int 0)) (e2 dAdd (e2 dMul (eFrz (lLst (aC (e2 dFdiv (eB 2) (eB 1)) aN))) (e1 dInt (e2 dGe (eB 2) (eB 1)))) (eSl (e2 dIdx (eB 0) (eC (.int 0))) (pSo (eC (.int 1))) pNo)))
  (mRet (e2 dMod (eB 2) (eB 1))))) mNil)
  (mSeq (mSetE (eV 0) (eC (.int 2)) (e2 dAdd (e2 dIdx (eB 0) (eC (.int 2))) (eC (.int 1))))
  (mSeq (mSet (gN 3) (e2 dIdx (e2 dIdx (eB 0) (eC (.int 1))) (e2 dMod (e2 dIdx (eB 0) (eC (.int 2))) (e1 dLen (e2 dIdx (eB 0) (eC (.int 1)))))))
  (mSeq (mSet (gN 4) (e2 dAdd (e2 dAdd (e2 dMul (e2 dIdx (eB 0) (eC (.int 3))) (e2 dIdx (eB 0) (eC (.int 3)))) (e2 dMul (e2 dAdd (eB 3) (eC (.int 7))) (eC (.int 69621)))) (e2 dMul (e2 dIdx (eB 0) (eC (.int 2))) (eC (.int 1000003)))))
  (mSeq (mSetE (eV 0) (eC (.int 3)) (e2 dMod (eB 4) (e2 dSub (e2 dMul (e2 dPow (eC (.int 2)) (eC (.int 64))) (e2 dPow (eC (.int 2)) (eC (.int 63)))) (eC (.int 1)))))
  (mRet (e2 dMod (e2 dFdiv (e2 dIdx (eB 0) (eC (.int 3))) (e2 dPow (eC (.int 2)) (eC (.int 40)))) (eB 1))))))))
def m__law_draw : FM := runA 2 5 b__law_draw
theorem d__law_draw {P : Program} {w : World} {K : PySem.W.Frag} {mg : Str → Option Value} {base : Heap} (nm : Nm K mg) : Body P w K mg base N__law_draw "_law_draw" s__law_draw 0 b__law_draw := fun f cdv A outer s H E hr =>
  have nd := sc__law_draw.nd
  ⟨_, (s_cons (s_if (t_ne (hu hr) (XE.bor (x_ix (x_b 0) (XE.bor x_int))) (XE.bor (XL.frz (l_lst a_nil)))) (s_cons (s_set 2 nd (x_ix (XE.bor (x_ix (x_b 0) (XE.bor x_int))) (XE.bor x_int)))
  (s_cons (s_setX (x_add (XE.bor (x_mul (XE.bor (XL.frz (l_lst (a_cons (x_fdiv (x_b 2) (x_b 1)) a_nil)))) (XE.bor (x_intc nm.f_int (XE.bor (x_ge (x_b 2) (x_b 1))))))) (XE.bor (x_sl (XE.bor (x_ix (x_b 0) (XE.bor x_int))) (o_so (XE.bor x_int)) o_no))) (x_v 0) (XE.bor x_int))
  (s_one (s_ret (x_mod (x_b 2) (x_b 1)))))) s_nil)
  (s_cons (s_setX (x_add (XE.bor (x_ix (x_b 0) (XE.bor x_int))) (XE.bor x_int)) (x_v 0) (XE.bor x_int))
  (s_cons (s_set 3 nd (x_ix (XE.bor (x_ix (x_b 0) (XE.bor x_int))) (XE.bor (x_mod (XE.bor (x_ix (x_b 0) (XE.bor x_int))) (XE.bor (x_len nm.f_len (XE.bor (x_ix (x_b 0) (XE.bor x_int)))))))))
  (s_cons (s_set 4 nd (x_add (XE.bor (x_add (XE.bor (x_mul (XE.bor (x_ix (x_b 0) (XE.bor x_int))) (XE.bor (x_ix (x_b 0) (XE.bor x_int))))) (XE.bor (x_mul (XE.bor (x_add (x_b 3) (XE.bor x_int))) (XE.bor x_int))))) (XE.bor (x_mul (XE.bor (x_ix (x_b 0) (XE.bor x_int))) (XE.bor x_int)))))
  (s_cons (s_setX (x_mod (x_b 4) (XE.bor (x_sub (XE.bor (x_mul (XE.bor (x_pow (XE.bor x_int) (XE.bor x_int))) (XE.bor (x_pow (XE.bor x_int) (XE.bor x_int))))) (XE.bor x_int)))) (x_v 0) (XE.bor x_int))
  (s_one (s_ret (x_mod (XE.bor (x_fdiv (XE.bor (x_ix (x_b 0) (XE.bor x_int))) (XE.bor (x_pow (XE.bor x_int) (XE.bor x_int))))) (x_b 1)))))))))⟩
/-! _law_turns -/
abbrev s__law_turns : Stmt := top 29
abbrev N__law_turns : List Str := ["found", "a", "b", "c"]
theorem sc__law_turns : FnScope N__law_turns [] (defScope s__law_turns) := ⟨rfl, rfl, rfl, by decide +kernel, rfl, by decide +kernel, by decide +kernel⟩
def l1__law_turns : SM := (mExt 0 (eFrz (lLc (iRange1 (eC (.int 4))) (gN 3) (tE (e2 dNotIn (eB 3) (eTrn (aC (eV 1) (aC (eV 2) aN))))) (eTrn (aC (eV 1) (aC (eV 2) (aC (eV 3) (aC (e2 dSub (e2 dSub (e2 dSub (eC (.int 6)) (eB 1)) (eB 2)) (eB 3)) aN))))) [3])))
def l2__law_turns : SM := (mFor (iSeq (eFrz (lLc (iRange1 (eC (.int 4))) (gN 2) (tE (e2 dNe (eB 2) (eB 1))) (eV 2) [2]))) (gN 2) l1__law_turns)
def b__law_turns : SM := (mSeq (mOwn 0 (lLst aN))
  (mSeq (mFor (iRange1 (eC (.int 4))) (gN 1) l2__law_turns)
  (mFrz 0 (mRet (eV 0)))))
def m__law_turns : FM := runA 0 4 b__law_turns
theorem d__law_turns {P : Program} {w : World} {K : PySem.W.Frag} {mg : Str → Option Value} {base : Heap} (nm : Nm K mg) : Body P w K mg base N__law_turns "_law_turns" s__law_turns 0 b__law_turns := fun f cdv A outer s H E hr =>
  have nd := sc__law_turns.nd
  ⟨_, (s_cons (s_own 0 nd (l_lst a_nil))
  (s_cons (s_for PassesOwn.never rfl (i_range1 nm.f_range (XE.bor x_int)) (g_n 1 nd) (s_one (s_for PassesOwn.never rfl (i_seq (XL.frz (l_lc rfl nd (own := [("b", 2)]) (i_range1 nm.f_range (XE.bor x_int)) (by rfl) (by intros; exact ⟨_, (g_n 2 nd)⟩) (by intros; exact ⟨_, (ts_one (t_ne (hu hr) (x_b 2) (x_b 1)))⟩) (by intros; exact ⟨_, (x_v 2)⟩)))) (g_n 2 nd) (s_one (s_extV 0 (XE.bor (XL.frz (l_lc rfl nd (own := [("c", 3)]) (i_range1 nm.f_range (XE.bor x_int)) (by rfl) (by intros; exact ⟨_, (g_n 3 nd)⟩) (by intros; exact ⟨_, (ts_one (t_notIn (hu65 hr) (x_b 3) (XE.bor (x_trn (a_cons (x_v 1) (a_cons (x_v 2) a_nil))))))⟩) (by intros; exact ⟨_, (x_trn (a_cons (x_v 1) (a_cons (x_v 2) (a_cons (x_v 3) (a_cons (x_sub (XE.bor (x_sub (XE.bor (x_sub (XE.bor x_int) (x_b 1))) (x_b 2))) (x_b 3)) a_nil)))))⟩)))))))))
  (s_frz 0 (s_one (s_ret (x_v 0))))))⟩
/-! _law_back -/
abbrev s__law_back : Stmt := top 30
abbrev N__law_back : List Str := ["turn", "corner"]
theorem sc__law_back : FnScope N__law_back ["turn"] (defScope s__law_back) := ⟨rfl, rfl, rfl, by decide +kernel, rfl, by decide +kernel, by decide +kernel⟩
def b__law_back : SM := (mRet (e1 dTrn (eFrz (lLc (iRange1 (eC (.int 4))) (gN 1) tYes (eIndexT (eV 0) (eB 1)) [1]))))
def m__law_back : FM := runA 1 2 b__law_back
theorem d__law_back {P : Program} {w : World} {K : PySem.W.Frag} {mg : Str → Option Value} {base : Heap} (nm : Nm K mg) : Body P w K mg base N__law_back "_law_back" s__law_back 0 b__law_back := fun f cdv A outer s H E hr =>
  have nd := sc__law_back.nd
  ⟨_, (s_one (s_ret (x_tupleN nm.f_tuple (XE.bor (XL.frz (l_lc rfl nd (own := [("corner", 1)]) (i_range1 nm.f_range (XE.bor x_int)) (by rfl) (by intros; exact ⟨_, (g_n 1 nd)⟩) (by intros; exact ⟨_, ts_nil⟩) (by intros; exact ⟨_, (x_indexT (x_v 0) (x_b 1))⟩)))))))⟩
/-! _law_shut -/
abbrev s__law_shut : Stmt := top 36
abbrev N__law_shut : List Str := ["blocks", "block"]
theorem sc__law_shut : FnScope N__law_shut ["blocks"] (defScope s__law_shut) := ⟨rfl, rfl, rfl, by decide +kernel, rfl, by decide +kernel, by decide +kernel⟩
def b__law_shut : SM := (mRet (e1 dTrn (eFrz (lLc (iSeq (eB 0)) (gN 1) tYes (e1 dTrn (eB 1)) [1]))))
def m__law_shut : FM := runA 1 2 b__law_shut
theorem d__law_shut {P : Program} {w : World} {K : PySem.W.Frag} {mg : Str → Option Value} {base : Heap} (nm : Nm K mg) : Body P w K mg base N__law_shut "_law_shut" s__law_shut 0 b__law_shut := fun f cdv A outer s H E hr =>
  have nd := sc__law_shut.nd
  ⟨_, (s_one (s_ret (x_tupleN nm.f_tuple (XE.bor (XL.frz (l_lc rfl nd (own := [("block", 1)]) (i_seqB (x_b 0)) (by rfl) (by intros; exact ⟨_, (g_n 1 nd)⟩) (by intros; exact ⟨_, ts_nil⟩) (by intros; exact ⟨_, (x_tupleN nm.f_tuple (x_b 1))⟩)))))))⟩
/-! _law_is_number -/
abbrev s__law_is_number : Stmt := top 37
abbrev N__law_is_number : List Str := ["thing", "most"]
theorem sc__law_is_number : FnScope N__law_is_number ["thing", "most"] (defScope s__law_is_number) := ⟨rfl, rfl, rfl, by decide +kernel, rfl, by decide +kernel, by decide +kernel⟩
def b__law_is_number : SM := (mRet (eIf (tE (e1 (dIsi ["int"]) (eB 0))) (eIf (tE (eT (tNot (tE (e1 (dIsi ["bool"]) (eB 0)))))) (chainM dLe dLt (eC (.int 0)) (eV 0) (eB 1)) (eC (.bl false))) (eC (.bl false))))
def m__law_is_number : FM := runA 2 2 b__law_is_number
theorem d__law_is_number {P : Program} {w : World} {K : PySem.W.Frag} {mg : Str → Option Value} {base : Heap} (nm : Nm K mg) : Body P w K mg base N__law_is_number "_law_is_number" s__law_is_number 0 b__law_is_number := fun f cdv A outer s H E hr =>
  have nd := sc__law_is_number.nd
  ⟨_, (s_one (s_ret (v_and (x_isi (by decide) ty_int nm.f_isinstance nm.f_int (x_b 0)) (v_and (v_not (x_isi (by decide) ty_bool nm.f_isinstance nm.f_bool (x_b 0))) (v_one (x_leLt x_int (x_v 0) (x_b 1)))))))⟩
/-! _law_kind_of -/
abbrev s__law_kind_of : Stmt := top 39
abbrev N__law_kind_of : List Str := ["caught", "some", "found", "others", "name", "so"]
theorem sc__law_kind_of : FnScope N__law_kind_of ["caught"] (defScope s__law_kind_of) := ⟨rfl, rfl, rfl, by decide +kernel, rfl, by decide +kernel, by decide +kernel⟩
def b__law_kind_of : SM := (mSeq (mSet (gN 1) (eFrz (lLst (aC (eTrn (aC (eC (.str "NoSpace")) (aC (e1 (dIsX tb_NoSpace) (eB 0)) aN))) (aC (eTrn (aC (eC (.str "NoFace")) (aC (e1 (dIsX tb_NoFace) (eB 0)) aN))) aN)))))
  (mSeq (mSet (gN 1) (e2 dAdd (eB 1) (eFrz (lLst (aC (eTrn (aC (eC (.str "NoTurn")) (aC (e1 (dIsX tb_NoTurn) (eB 0)) aN))) (aC (eTrn (aC (eC (.str "NoName")) (aC (e1 (dIsX tb_NoName) (eB 0)) aN))) aN))))))
  (mSeq (mSet (gN 1) (e2 dAdd (eB 1) (eFrz (lLst (aC (eTrn (aC (eC (.str "NoLine")) (aC (e1 (dIsX tb_NoLine) (eB 0)) aN))) (aC (eTrn (aC (eC (.str "NoCorner")) (aC (e1 (dIsX tb_NoCorner) (eB 0)) aN))) aN))))))
  (mSeq (mSet (gN 2) (eFrz (lLc (iSeq (eB 1)) (gU [(gN 4), (gN 5)]) (tE (eB 5)) (eV 4) [4, 5])))
  (mSeq (mSet (gN 3) (e1 (dIsX tb_NoNumbers_NoSurface_NoMove_NoForm_NoneYet) (eB 0)))
  (mSeq (mIf (tOr (tE (eB 3)) (tOr (tE (e2 dNe (e1 dLen (eB 2)) (eC (.int 1)))) (tNot (tE (e1 (dIsX tb_ValueError) (eB 0)))))) (mRet (eC (.str "odd"))) mNil)
  (mRet (e2 dIdx (eB 2) (eC (.int 0))))))))))
def m__law_kind_of : FM := runA 1 6 b__law_kind_of
theorem d__law_kind_of {P : Program} {w : World} {K : PySem.W.Frag} {mg : Str → Option Value} {base : Heap} (nm : Nm K mg) : Body P w K mg base N__law_kind_of "_law_kind_of" s__law_kind_of 0 b__law_kind_of := fun f cdv A outer s H E hr =>
  have nd := sc__law_kind_of.nd
  ⟨_, (s_cons (s_set 1 nd (XL.frz (l_lst (a_cons (x_trn (a_cons x_str (a_cons (x_isX tb_NoSpace (c := .ref (He.ga K (PySem.Str.ofString "NoSpace"))) (cv := clsV K "NoSpace") (fun _ h => h) (pe_glob rfl nm.c_NoSpace rfl) nm.k_NoSpace nm.f_isinstance (x_b 0)) a_nil))) (a_cons (x_trn (a_cons x_str (a_cons (x_isX tb_NoFace (c := .ref (He.ga K (PySem.Str.ofString "NoFace"))) (cv := clsV K "NoFace") (fun _ h => h) (pe_glob rfl nm.c_NoFace rfl) nm.k_NoFace nm.f_isinstance (x_b 0)) a_nil))) a_nil)))))
  (s_cons (s_set 1 nd (x_add (x_b 1) (XE.bor (XL.frz (l_lst (a_cons (x_trn (a_cons x_str (a_cons (x_isX tb_NoTurn (c := .ref (He.ga K (PySem.Str.ofString "NoTurn"))) (cv := clsV K "NoTurn") (fun _ h => h) (pe_glob rfl nm.c_NoTurn rfl) nm.k_NoTurn nm.f_isinstance (x_b 0)) a_nil))) (a_cons (x_trn (a_cons x_str (a_cons (x_isX tb_NoName (c := .ref (He.ga K (PySem.Str.ofString "NoName"))) (cv := clsV K "NoName") (fun _ h => h) (pe_glob rfl nm.c_NoName rfl) nm.k_NoName nm.f_isinstance (x_b 0)) a_nil))) a_nil)))))))
  (s_cons (s_set 1 nd (x_add (x_b 1) (XE.bor (XL.frz (l_lst (a_cons (x_trn (a_cons x_str (a_cons (x_isX tb_NoLine (c := .ref (He.ga K (PySem.Str.ofString "NoLine"))) (cv := clsV K "NoLine") (fun _ h => h) (pe_glob rfl nm.c_NoLine rfl) nm.k_NoLine nm.f_isinstance (x_b 0)) a_nil))) (a_cons (x_trn (a_cons x_str (a_cons (x_isX tb_NoCorner (c := .ref (He.ga K (PySem.Str.ofString "NoCorner"))) (cv := clsV K "NoCorner") (fun _ h => h) (pe_glob rfl nm.c_NoCorner rfl) nm.k_NoCorner nm.f_isinstance (x_b 0)) a_nil))) a_nil)))))))
  (s_cons (s_lcF 2 rfl nd (own := [("name", 4), ("so", 5)]) (i_seqB (x_b 1)) (by rfl) (by intros; exact ⟨_, (g_u rfl (gs_cons (g_n 4 nd) (gs_cons (g_n 5 nd) gs_nil)))⟩) (by intros; exact ⟨_, (ts_one (t_val (x_b 5)))⟩) (by intros; exact ⟨_, (x_v 4)⟩))
  (s_cons (s_set 3 nd (x_isXT tb_NoNumbers_NoSurface_NoMove_NoForm_NoneYet (cs := [.ref (He.ga K (PySem.Str.ofString "NoNumbers")), .ref (He.ga K (PySem.Str.ofString "NoSurface")), .ref (He.ga K (PySem.Str.ofString "NoMove")), .ref (He.ga K (PySem.Str.ofString "NoForm")), .ref (He.ga K (PySem.Str.ofString "NoneYet"))]) (us := [clsV K "NoNumbers", clsV K "NoSurface", clsV K "NoMove", clsV K "NoForm", clsV K "NoneYet"]) ⟨fun _ h => h, ⟨fun _ h => h, ⟨fun _ h => h, ⟨fun _ h => h, ⟨fun _ h => h, True.intro⟩⟩⟩⟩⟩ (by simp) (pa_cons (pe_glob rfl nm.c_NoNumbers rfl) (pa_cons (pe_glob rfl nm.c_NoSurface rfl) (pa_cons (pe_glob rfl nm.c_NoMove rfl) (pa_cons (pe_glob rfl nm.c_NoForm rfl) (pa_cons (pe_glob rfl nm.c_NoneYet rfl) pa_nil))))) nm.a_NoNumbers_NoSurface_NoMove_NoForm_NoneYet nm.f_isinstance (x_b 0)))
  (s_cons (s_if (XW.tst (w_or (t_val (x_b 3)) (w_or (t_ne (hu hr) (XE.bor (x_len nm.f_len (x_b 2))) (XE.bor x_int)) (w_or1 (t_not (t_val (XE.bor (x_isX tb_ValueError (c := .ty "ValueError") (cv := .type "ValueError") (fun _ h => h) (pe_bltn rfl nm.f_ValueError rfl rfl) nm.k_ValueError nm.f_isinstance (x_b 0))))))))) (s_one (s_ret x_str)) s_nil)
  (s_one (s_ret (x_ix (x_b 2) (XE.bor x_int))))))))))⟩
/-! is_turn -/
abbrev s_is_turn : Stmt := top 17
abbrev N_is_turn : List Str := ["thing", "one"]
theorem sc_is_turn : FnScope N_is_turn ["thing"] (defScope s_is_turn) := ⟨rfl, rfl, rfl, by decide +kernel, rfl, by decide +kernel, by decide +kernel⟩
def b_is_turn : SM := (mRet (eIf (tE (eA m_is_row (aC (eV 0) aN))) (eIf (tE (e2 dEq (e1 dLen (eB 0)) (eC (.int 4)))) (eIf (tE (e1 dAll (eFrz (lLc (iSeq (eB 0)) (gN 1) tYes (eA m_is_whole (aC (eV 1) aN)) [1])))) (e2 dEq (eFrz (l1 lSorted (eB 0))) (eFrz (l1 lList (eC c_STILL)))) (eC (.bl false))) (eC (.bl false))) (eC (.bl false))))
def m_is_turn : FM := runA 1 2 b_is_turn
theorem d_is_turn {P : Program} {w : World} {K : PySem.W.Frag} {mg : Str → Option Value} {base : Heap} (nm : Nm K mg) (D_is_row : DefOk P w K mg base CX0 "is_row" 1 (sp0 K 1 m_is_row)) (D_is_whole : DefOk P w K mg base CX0 "is_whole" 1 (sp0 K 1 m_is_whole)) : Body P w K mg base N_is_turn "is_turn" s_is_turn 1 b_is_turn := fun f cdv A outer s H E hr =>
  have nd := sc_is_turn.nd
  ⟨_, (s_one (s_ret (v_and (x_call D_is_row runA_bad hr (by omega) (a_cons (x_v 0) a_nil)) (v_and (x_eq (hu hr) (XE.bor (x_len nm.f_len (x_b 0))) (XE.bor x_int)) (v_and (x_all rfl nm.f_all (XE.bor (XL.frz (l_lc rfl nd (own := [("one", 1)]) (i_seqB (x_b 0)) (by rfl) (by intros; exact ⟨_, (g_n 1 nd)⟩) (by intros; exact ⟨_, ts_nil⟩) (by intros; exact ⟨_, (x_call D_is_whole runA_bad hr (by omega) (a_cons (x_v 1) a_nil))⟩))))) (v_one (x_eq (hu hr) (XE.bor (XL.frz (l_sorted nm.f_sorted (x_b 0)))) (XE.bor (XL.frz (l_list nm.f_list (XE.bor (x_gVal nm.r_STILL nm.g_STILL))))))))))))⟩
/-! is_joined_back -/
abbrev s_is_joined_back : Stmt := top 21
abbrev N_is_joined_back : List Str := ["blocks", "block", "face", "other", "turn"]
theorem sc_is_joined_back : FnScope N_is_joined_back ["blocks", "block", "face"] (defScope s_is_joined_back) := ⟨rfl, rfl, rfl, by decide +kernel, rfl, by decide +kernel, by decide +kernel⟩
def b_is_joined_back : SM := (mSeq (mIf (tE (e2 dIs (e2 dIdx (e2 dIdx (eB 0) (eB 1)) (eB 2)) (eC (.non)))) (mRet (eC (.bl true))) mNil)
  (mSeq (mSet (gU [(gN 3), (gN 4)]) (e2 dIdx (e2 dIdx (eB 0) (eB 1)) (eB 2)))
  (mSeq (mIf (tOr (tNot (tE (chainM dLe dLt (eC (.int 0)) (eV 3) (e1 dLen (eB 0))))) (tE (e2 dEq (eTrn (aC (eV 3) (aC (e2 dIdx (eB 4) (eB 2)) aN))) (eTrn (aC (eV 1) (aC (eV 2) aN)))))) (mRet (eC (.bl false))) mNil)
  (mRet (e2 dEq (e2 dIdx (e2 dIdx (eB 0) (eB 3)) (e2 dIdx (eB 4) (eB 2))) (eTrn (aC (eV 1) (aC (eA m_contrary (aC (eV 4) aN)) aN))))))))
def m_is_joined_back : FM := runA 3 5 b_is_joined_back
theorem d_is_joined_back {P : Program} {w : World} {K : PySem.W.Frag} {mg : Str → Option Value} {base : Heap} (nm : Nm K mg) (D_contrary : DefOk P w K mg base CX0 "contrary" 1 (sp0 K 1 m_contrary)) : Body P w K mg base N_is_joined_back "is_joined_back" s_is_joined_back 1 b_is_joined_back := fun f cdv A outer s H E hr =>
  have nd := sc_is_joined_back.nd
  ⟨_, (s_cons (s_if (t_is (XE.bor (x_ix (XE.bor (x_ix (x_b 0) (x_b 1))) (x_b 2))) (XE.bor x_non)) (s_one (s_ret x_bl)) s_nil)
  (s_cons (s_asg (x_ix (XE.bor (x_ix (x_b 0) (x_b 1))) (x_b 2)) (g_u rfl (gs_cons (g_n 3 nd) (gs_cons (g_n 4 nd) gs_nil))))
  (s_cons (s_if (XW.tst (w_or (t_not (t_leLt x_int (x_v 3) (XE.bor (x_len nm.f_len (x_b 0))))) (w_or1 (t_eq (hu hr) (XE.bor (x_trn (a_cons (x_v 3) (a_cons (x_ix (x_b 4) (x_b 2)) a_nil)))) (XE.bor (x_trn (a_cons (x_v 1) (a_cons (x_v 2) a_nil)))))))) (s_one (s_ret x_bl)) s_nil)
  (s_one (s_ret (x_eq (hu hr) (XE.bor (x_ix (XE.bor (x_ix (x_b 0) (x_b 3))) (XE.bor (x_ix (x_b 4) (x_b 2))))) (XE.bor (x_trn (a_cons (x_v 1) (a_cons (x_call D_contrary runA_bad hr (by omega) (a_cons (x_v 4) a_nil)) a_nil))))))))))⟩
/-! _law_set -/
abbrev s__law_set : Stmt := top 31
abbrev N__law_set : List Str := ["blocks", "block", "face", "other", "turn"]
theorem sc__law_set : FnScope N__law_set ["blocks", "block", "face", "other", "turn"] (defScope s__law_set) := ⟨rfl, rfl, rfl, by decide +kernel, rfl, by decide +kernel, by decide +kernel⟩
def b__law_set : SM := (mSeq (mSetE (e2 dIdx (eB 0) (eB 1)) (eB 2) (eTrn (aC (eV 3) (aC (eV 4) aN))))
  (mSetE (e2 dIdx (eB 0) (eB 3)) (e2 dIdx (eB 4) (eB 2)) (eTrn (aC (eV 1) (aC (eA m__law_back (aC (eV 4) aN)) aN)))))
def m__law_set : FM := runA 5 5 b__law_set
theorem d__law_set {P : Program} {w : World} {K : PySem.W.Frag} {mg : Str → Option Value} {base : Heap} (nm : Nm K mg) (D__law_back : DefOk P w K mg base CX0 "_law_back" 1 (sp0 K 1 m__law_back)) : Body P w K mg base N__law_set "_law_set" s__law_set 1 b__law_set := fun f cdv A outer s H E hr =>
  have nd := sc__law_set.nd
  ⟨_, (s_cons (s_setX (x_trn (a_cons (x_v 3) (a_cons (x_v 4) a_nil))) (x_ix (x_b 0) (x_b 1)) (x_b 2))
  (s_one (s_setX (x_trn (a_cons (x_v 1) (a_cons (x_call D__law_back runA_bad hr (by omega) (a_cons (x_v 4) a_nil)) a_nil))) (x_ix (x_b 0) (x_b 3)) (XE.bor (x_ix (x_b 4) (x_b 2))))))⟩
/-! _law_is_turn -/
abbrev s__law_is_turn : Stmt := top 38
abbrev N__law_is_turn : List Str := ["thing", "one"]
theorem sc__law_is_turn : FnScope N__law_is_turn ["thing"] (defScope s__law_is_turn) := ⟨rfl, rfl, rfl, by decide +kernel, rfl, by decide +kernel, by decide +kernel⟩
def b__law_is_turn : SM := (mSeq (mIf (tOr (tNot (tE (e1 (dIsi ["list", "tuple"]) (eB 0)))) (tOr (tE (e2 dNe (e1 dLen (eB 0)) (eC (.int 4)))) (tNot (tE (e1 dAll (eFrz (lLc (iSeq (eB 0)) (gN 1) tYes (eA m__law_is_number (aC (eV 1) (aC (eC (.int 4)) aN))) [1]))))))) (mRet (eC (.bl false))) mNil)
  (mRet (e2 dEq (e1 dLenSet (eB 0)) (eC (.int 4)))))
def m__law_is_turn : FM := runA 1 2 b__law_is_turn
theorem d__law_is_turn {P : Program} {w : World} {K : PySem.W.Frag} {mg : Str → Option Value} {base : Heap} (nm : Nm K mg) (D__law_is_number : DefOk P w K mg base CX0 "_law_is_number" 1 (sp0 K 2 m__law_is_number)) : Body P w K mg base N__law_is_turn "_law_is_turn" s__law_is_turn 1 b__law_is_turn := fun f cdv A outer s H E hr =>
  have nd := sc__law_is_turn.nd
  ⟨_, (s_cons (s_if (XW.tst (w_or (t_not (t_val (XE.bor (x_isi2 (by decide) (by decide) ty_list ty_tuple nm.f_isinstance nm.f_list nm.f_tuple (x_b 0))))) (w_or (t_ne (hu hr) (XE.bor (x_len nm.f_len (x_b 0))) (XE.bor x_int)) (w_or1 (t_not (t_val (XE.bor (x_all rfl nm.f_all (XE.bor (XL.frz (l_lc rfl nd (own := [("one", 1)]) (i_seqB (x_b 0)) (by rfl) (by intros; exact ⟨_, (g_n 1 nd)⟩) (by intros; exact ⟨_, ts_nil⟩) (by intros; exact ⟨_, (x_call D__law_is_number runA_bad hr (by omega) (a_cons (x_v 1) (a_cons x_int a_nil)))⟩)))))))))))) (s_one (s_ret x_bl)) s_nil)
  (s_one (s_ret (x_eq (hu hr) (XE.bor (x_lenSet rfl nm.f_len nm.f_set (x_b 0))) (XE.bor x_int)))))⟩
/-! _law_renamed -/
abbrev s__law_renamed : Stmt := top 40
abbrev N__law_renamed : List Str := ["space", "order", "turns", "found", "k", "face", "one", "at", "turn", "corner", "block"]
theorem sc__law_renamed : FnScope N__law_renamed ["space", "order", "turns"] (defScope s__law_renamed) := ⟨rfl, rfl, rfl, by decide +kernel, rfl, by decide +kernel, by decide +kernel⟩
def l1__law_renamed : SM := (mSetV 8 (e2 dIdx (e2 dIdx (eB 2) (eB 4)) (eB 9)) (e2 dIdx (e2 dIdx (eB 2) (eB 7)) (e2 dIdx (e2 dIdx (eB 6) (eC (.int 1))) (eB 9))))
def l2__law_renamed : SM := (mSeq (mSet (gN 6) (e2 dIdx (e2 dIdx (eB 0) (e2 dIdx (eB 1) (eB 4))) (eB 5)))
  (mIf (tE (e2 dIsNot (eB 6) (eC (.non)))) (mSeq (mSet (gN 7) (eIndexL (eFrz (l1 lList (eB 1))) (e2 dIdx (eB 6) (eC (.int 0)))))
  (mSeq (mOwn 8 (lLst (aC (eC (.int 0)) (aC (eC (.int 0)) (aC (eC (.int 0)) (aC (eC (.int 0)) aN))))))
  (mSeq (mFor (iRange1 (eC (.int 4))) (gN 9) l1__law_renamed)
  (mSetE (e2 dIdx (eB 3) (eB 4)) (e2 dIdx (e2 dIdx (eB 2) (eB 4)) (eB 5)) (eTrn (aC (eV 7) (aC (e1 dTrn (eB 8)) aN))))))) mNil))
def l3__law_renamed : SM := (mFor (iRange1 (eC (.int 4))) (gN 5) l2__law_renamed)
def b__law_renamed : SM := (mSeq (mSet (gN 3) (eNew (lLc (iSeq (eB 0)) (gN 10) tYes (eNew (l2 lRep (eFrz (lLst (aC (eC (.non)) aN))) (eC (.int 4)))) [10])))
  (mSeq (mFor (iRange1 (e1 dLen (eB 0))) (gN 4) l3__law_renamed)
  (mRet (eA m__law_shut (aC (eV 3) aN)))))
def m__law_renamed : FM := runA 3 11 b__law_renamed
theorem d__law_renamed {P : Program} {w : World} {K : PySem.W.Frag} {mg : Str → Option Value} {base : Heap} (nm : Nm K mg) (D__law_shut : DefOk P w K mg base CX0 "_law_shut" 1 (sp0 K 1 m__law_shut)) : Body P w K mg base N__law_renamed "_law_renamed" s__law_renamed 1 b__law_renamed := fun f cdv A outer s H E hr =>
  have nd := sc__law_renamed.nd
  ⟨_, (s_cons (s_lcN 3 rfl nd (own := [("block", 10)]) (i_seqB (x_b 0)) (by rfl) (by intros; exact ⟨_, (g_n 10 nd)⟩) (by intros; exact ⟨_, ts_nil⟩) (by intros; exact ⟨_, (XL.new (l_rep (XE.bor (XL.frz (l_lst (a_cons x_non a_nil)))) (XE.bor x_int)))⟩))
  (s_cons (s_for PassesOwn.never rfl (i_range1 nm.f_range (XE.bor (x_len nm.f_len (x_b 0)))) (g_n 4 nd) (s_one (s_for PassesOwn.never rfl (i_range1 nm.f_range (XE.bor x_int)) (g_n 5 nd) (s_cons (s_set 6 nd (x_ix (XE.bor (x_ix (x_b 0) (XE.bor (x_ix (x_b 1) (x_b 4))))) (x_b 5)))
  (s_one (s_if (t_isNot (x_b 6) (XE.bor x_non)) (s_cons (s_set 7 nd (x_indexL (XE.bor (XL.frz (l_list nm.f_list (x_b 1)))) (XE.bor (x_ix (x_b 6) (XE.bor x_int)))))
  (s_cons (s_own 8 nd (l_lst (a_cons x_int (a_cons x_int (a_cons x_int (a_cons x_int a_nil))))))
  (s_cons (s_for PassesOwn.never rfl (i_range1 nm.f_range (XE.bor x_int)) (g_n 9 nd) (s_one (s_setVx 8 (x_ix (XE.bor (x_ix (x_b 2) (x_b 7))) (XE.bor (x_ix (XE.bor (x_ix (x_b 6) (XE.bor x_int))) (x_b 9)))) (XE.bor (x_ix (XE.bor (x_ix (x_b 2) (x_b 4))) (x_b 9))))))
  (s_one (s_setX (x_trn (a_cons (x_v 7) (a_cons (x_tupleN nm.f_tuple (x_b 8)) a_nil))) (x_ix (x_b 3) (x_b 4)) (XE.bor (x_ix (XE.bor (x_ix (x_b 2) (x_b 4))) (x_b 5)))))))) s_nil))))))
  (s_one (s_ret (x_call D__law_shut runA_bad hr (by omega) (a_cons (x_v 3) a_nil))))))⟩
/-! _law_names -/
abbrev s__law_names : Stmt := top 41
abbrev N__law_names : List Str := ["reel", "many", "left", "order", "k"]
theorem sc__law_names : FnScope N__law_names ["reel", "many"] (defScope s__law_names) := ⟨rfl, rfl, rfl, by decide +kernel, rfl, by decide +kernel, by decide +kernel⟩
def b__law_names : SM := (mSeq (mSet (gN 2) (eNew (l1 lRg1 (eV 1))))
  (mSeq (mSet (gN 3) (eFrz (lLc (iRange1 (eB 1)) (gN 4) tYes (ePopAt (eV 2) (eA m__law_draw (aC (eV 0) (aC (e1 dLen (eB 2)) aN)))) [4])))
  (mRet (eTrn (aC (eV 3) (aC (eFrz (lLc (iRange1 (eB 1)) (gN 4) tYes (e2 dIdx (eA m__law_turns aN) (eA m__law_draw (aC (eV 0) (aC (eC (.int 24)) aN)))) [4])) aN))))))
def m__law_names : FM := runA 2 5 b__law_names
theorem d__law_names {P : Program} {w : World} {K : PySem.W.Frag} {mg : Str → Option Value} {base : Heap} (nm : Nm K mg) (D__law_draw : DefOk P w K mg base CX0 "_law_draw" 1 (sp0 K 2 m__law_draw)) (D__law_turns : DefOk P w K mg base CX0 "_law_turns" 1 (sp0 K 0 m__law_turns)) : Body P w K mg base N__law_names "_law_names" s__law_names 1 b__law_names := fun f cdv A outer s H E hr =>
  have nd := sc__law_names.nd
  ⟨_, (s_cons (s_set 2 nd (XL.new (l_rg1 rfl nm.f_list nm.f_range (x_v 1))))
  (s_cons (s_lcF 3 rfl nd (own := [("k", 4)]) (i_range1 nm.f_range (x_b 1)) (by rfl) (by intros; exact ⟨_, (g_n 4 nd)⟩) (by intros; exact ⟨_, ts_nil⟩) (by intros; exact ⟨_, (x_popAt (x_v 2) (XE.bor (x_call D__law_draw runA_bad hr (by omega) (a_cons (x_v 0) (a_cons (x_len nm.f_len (x_b 2)) a_nil)))))⟩))
  (s_one (s_ret (x_trn (a_cons (x_v 3) (a_cons (XL.frz (l_lc rfl nd (own := [("k", 4)]) (i_range1 nm.f_range (x_b 1)) (by rfl) (by intros; exact ⟨_, (g_n 4 nd)⟩) (by intros; exact ⟨_, ts_nil⟩) (by intros; exact ⟨_, (x_ix (XE.bor (x_call0 D__law_turns runA_bad hr (by omega))) (XE.bor (x_call D__law_draw runA_bad hr (by omega) (a_cons (x_v 0) (a_cons x_int a_nil)))))⟩))) a_nil)))))))⟩
/-! _law_bent -/
abbrev s__law_bent : Stmt := top 42
abbrev N__law_bent : List Str := ["reel", "row", "odd", "found", "at", "kind"]
theorem sc__law_bent : FnScope N__law_bent ["reel", "row", "odd"] (defScope s__law_bent) := ⟨rfl, rfl, rfl, by decide +kernel, rfl, by decide +kernel, by decide +kernel⟩
def b__law_bent : SM := (mSeq (mOwn 3 (l1 lList (eB 1)))
  (mSeq (mSet (gN 4) (eA m__law_draw (aC (eV 0) (aC (e2 dAdd (e1 dLen (eB 3)) (eC (.int 1))) aN))))
  (mSeq (mSet (gN 5) (eA m__law_draw (aC (eV 0) (aC (eC (.int 5)) aN))))
  (mSeq (mIf (tE (e2 dEq (eB 5) (eC (.int 0)))) (mIns 3 (aC (eV 4) (aC (eV 2) aN))) (mIf (tE (e2 dEq (eB 5) (eC (.int 1)))) (mPopI 3 (aC (e2 dMin2 (eB 4) (e2 dSub (e1 dLen (eB 3)) (eC (.int 1)))) aN)) (mIf (tE (e2 dEq (eB 5) (eC (.int 2)))) (mRet (e2 dIdx (eFrz (lLst (aC (eC (.non)) (aC (eC (.int 7)) (aC (eC (.str "01")) (aC (eC (.dK [] [])) (aC (eC (.bl true)) aN))))))) (eA m__law_draw (aC (eV 0) (aC (eC (.int 5)) aN))))) (mSetV 3 (e2 dMin2 (eB 4) (e2 dSub (e1 dLen (eB 3)) (eC (.int 1)))) (eV 2)))))
  (mFrz 3 (mRet (e2 dIdx (eFrz (lLst (aC (eV 3) (aC (e1 dTrn (eB 3)) aN)))) (eA m__law_draw (aC (eV 0) (aC (eC (.int 2)) aN))))))))))
def m__law_bent : FM := runA 3 6 b__law_bent
theorem d__law_bent {P : Program} {w : World} {K : PySem.W.Frag} {mg : Str → Option Value} {base : Heap} (nm : Nm K mg) (D__law_draw : DefOk P w K mg base CX0 "_law_draw" 1 (sp0 K 2 m__law_draw)) : Body P w K mg base N__law_bent "_law_bent" s__law_bent 1 b__law_bent := fun f cdv A outer s H E hr =>
  have nd := sc__law_bent.nd
  ⟨_, (s_cons (s_own 3 nd (l_list nm.f_list (x_b 1)))
  (s_cons (s_set 4 nd (x_call D__law_draw runA_bad hr (by omega) (a_cons (x_v 0) (a_cons (x_add (XE.bor (x_len nm.f_len (x_b 3))) (XE.bor x_int)) a_nil))))
  (s_cons (s_set 5 nd (x_call D__law_draw runA_bad hr (by omega) (a_cons (x_v 0) (a_cons x_int a_nil))))
  (s_cons (s_if (t_eq (hu hr) (x_b 5) (XE.bor x_int)) (s_one (s_insV 3 (a_cons (x_v 4) (a_cons (x_v 2) a_nil)))) (s_one (s_if (t_eq (hu hr) (x_b 5) (XE.bor x_int)) (s_one (s_popI 3 (a_cons (x_min2 rfl nm.f_min (x_b 4) (XE.bor (x_sub (XE.bor (x_len nm.f_len (x_b 3))) (XE.bor x_int)))) a_nil))) (s_one (s_if (t_eq (hu hr) (x_b 5) (XE.bor x_int)) (s_one (s_ret (x_ix (XE.bor (XL.frz (l_lst (a_cons x_non (a_cons x_int (a_cons x_str (a_cons (XN.frz n_newK) (a_cons x_bl a_nil)))))))) (XE.bor (x_call D__law_draw runA_bad hr (by omega) (a_cons (x_v 0) (a_cons x_int a_nil))))))) (s_one (s_setVx 3 (x_v 2) (XE.bor (x_min2 rfl nm.f_min (x_b 4) (XE.bor (x_sub (XE.bor (x_len nm.f_len (x_b 3))) (XE.bor x_int))))))))))))
  (s_frz 3 (s_one (s_ret (x_ix (XE.bor (XL.frz (l_lst (a_cons (x_v 3) (a_cons (x_tupleN nm.f_tuple (x_b 3)) a_nil))))) (XE.bor (x_call D__law_draw runA_bad hr (by omega) (a_cons (x_v 0) (a_cons x_int a_nil))))))))))))⟩
/-! joining_of -/
abbrev s_joining_of : Stmt := top 20
abbrev N_joining_of : List Str := ["thing", "other", "turn"]
theorem sc_joining_of : FnScope N_joining_of ["thing"] (defScope s_joining_of) := ⟨rfl, rfl, rfl, by decide +kernel, rfl, by decide +kernel, by decide +kernel⟩
def b_joining_of : SM := (mSeq (mIf (tE (e2 dIs (eB 0) (eC (.non)))) (mRet (eC (.non))) mNil)
  (mSeq (mIf (tOr (tNot (tE (eA m_is_row (aC (eV 0) aN)))) (tOr (tE (e2 dNe (e1 dLen (eB 0)) (eC (.int 2)))) (tOr (tNot (tE (eA m_is_whole (aC (e2 dIdx (eB 0) (eC (.int 0))) aN)))) (tNot (tE (eA m_is_turn (aC (e2 dIdx (eB 0) (eC (.int 1))) aN))))))) mBad mNil)
  (mSeq (mSet (gU [(gN 1), (gN 2)]) (eV 0))
  (mRet (eTrn (aC (eV 1) (aC (e1 dTrn (eB 2)) aN)))))))
def m_joining_of : FM := runA 1 3 b_joining_of
theorem d_joining_of {P : Program} {w : World} {K : PySem.W.Frag} {mg : Str → Option Value} {base : Heap} (nm : Nm K mg) (D_is_row : DefOk P w K mg base CX0 "is_row" 1 (sp0 K 1 m_is_row)) (D_is_whole : DefOk P w K mg base CX0 "is_whole" 1 (sp0 K 1 m_is_whole)) (D_is_turn : DefOk P w K mg base CX0 "is_turn" 2 (sp0 K 1 m_is_turn)) : Body P w K mg base N_joining_of "joining_of" s_joining_of 2 b_joining_of := fun f cdv A outer s H E hr =>
  have nd := sc_joining_of.nd
  ⟨_, (s_cons (s_if (t_is (x_b 0) (XE.bor x_non)) (s_one (s_ret x_non)) s_nil)
  (s_cons (s_if (XW.tst (w_or (t_not (t_val (XE.bor (x_call D_is_row runA_bad hr (by omega) (a_cons (x_v 0) a_nil))))) (w_or (t_ne (hu hr) (XE.bor (x_len nm.f_len (x_b 0))) (XE.bor x_int)) (w_or (t_not (t_val (XE.bor (x_call D_is_whole runA_bad hr (by omega) (a_cons (x_ix (x_b 0) (XE.bor x_int)) a_nil))))) (w_or1 (t_not (t_val (XE.bor (x_call D_is_turn runA_bad hr (by omega) (a_cons (x_ix (x_b 0) (XE.bor x_int)) a_nil)))))))))) (s_one s_bad) s_nil)
  (s_cons (s_asg (x_v 0) (g_u rfl (gs_cons (g_n 1 nd) (gs_cons (g_n 2 nd) gs_nil))))
  (s_one (s_ret (x_trn (a_cons (x_v 1) (a_cons (x_tupleN nm.f_tuple (x_b 2)) a_nil))))))))⟩
/-! need_names -/
abbrev s_need_names : Stmt := top 23
abbrev N_need_names : List Str := ["space", "order", "turns", "block", "turn"]
theorem sc_need_names : FnScope N_need_names ["space", "order", "turns"] (defScope s_need_names) := ⟨rfl, rfl, rfl, by decide +kernel, rfl, by decide +kernel, by decide +kernel⟩
def b_need_names : SM := (mSeq (mIf (tNx (tOr (tNot (tE (eA m_is_row (aC (eV 1) aN)))) (tOr (tNot (tE (e1 dAll (eFrz (lLc (iSeq (eB 1)) (gN 3) tYes (eA m_is_whole (aC (eV 3) aN)) [3]))))) (tE (e2 dNe (eFrz (l1 lSorted (eB 1))) (eFrz (l1 lRg1 (e1 dLen (eB 0))))))))) (mRaise "NoName") mNil)
  (mIf (tNx (tOr (tNot (tE (eA m_is_row (aC (eV 2) aN)))) (tOr (tE (e2 dNe (e1 dLen (eB 2)) (e1 dLen (eB 0)))) (tNot (tE (e1 dAll (eFrz (lLc (iSeq (eB 2)) (gN 4) tYes (eA m_is_turn (aC (eV 4) aN)) [4])))))))) (mRaise "NoName") mNil))
def m_need_names : FM := runA 3 5 b_need_names
theorem d_need_names {P : Program} {w : World} {K : PySem.W.Frag} {mg : Str → Option Value} {base : Heap} (nm : Nm K mg) (D_is_row : DefOk P w K mg base CX0 "is_row" 1 (sp0 K 1 m_is_row)) (D_is_whole : DefOk P w K mg base CX0 "is_whole" 1 (sp0 K 1 m_is_whole)) (D_is_turn : DefOk P w K mg base CX0 "is_turn" 2 (sp0 K 1 m_is_turn)) : BodyE P w K mg base N_need_names "need_names" s_need_names 2 b_need_names := fun f cdv A outer s H E hr =>
  have nd := sc_need_names.nd
  have tk : Takes (CtxE P w K mg base N_need_names "need_names" s_need_names f cdv A outer s H E) (fun cls d _ H => E cls d H) := tkE
  ⟨_, (s_cons (s_if (XT.nx (XW.tst (w_or (t_not (t_val (XE.bor (x_call D_is_row runA_bad hr (by omega) (a_cons (x_v 1) a_nil))))) (w_or (t_not (t_val (XE.bor (x_all rfl nm.f_all (XE.bor (XL.frz (l_lc rfl nd (own := [("block", 3)]) (i_seqB (x_b 1)) (by rfl) (by intros; exact ⟨_, (g_n 3 nd)⟩) (by intros; exact ⟨_, ts_nil⟩) (by intros; exact ⟨_, (x_call D_is_whole runA_bad hr (by omega) (a_cons (x_v 3) a_nil))⟩)))))))) (w_or1 (t_ne (hu hr) (XE.bor (XL.frz (l_sorted nm.f_sorted (x_b 1)))) (XE.bor (XL.frz (l_rg1 rfl nm.f_list nm.f_range (x_len nm.f_len (x_b 0))))))))))) (s_one (s_raise "NoName" nm.x_NoName.f rfl tk)) s_nil)
  (s_one (s_if (XT.nx (XW.tst (w_or (t_not (t_val (XE.bor (x_call D_is_row runA_bad hr (by omega) (a_cons (x_v 2) a_nil))))) (w_or (t_ne (hu hr) (XE.bor (x_len nm.f_len (x_b 2))) (XE.bor (x_len nm.f_len (x_b 0)))) (w_or1 (t_not (t_val (XE.bor (x_all rfl nm.f_all (XE.bor (XL.frz (l_lc rfl nd (own := [("turn", 4)]) (i_seqB (x_b 2)) (by rfl) (by intros; exact ⟨_, (g_n 4 nd)⟩) (by intros; exact ⟨_, ts_nil⟩) (by intros; exact ⟨_, (x_call D_is_turn runA_bad hr (by omega) (a_cons (x_v 4) a_nil))⟩))))))))))))) (s_one (s_raise "NoName" nm.x_NoName.f rfl tk)) s_nil)))⟩
/-! _law_any -/
abbrev s__law_any : Stmt := top 32
abbrev N__law_any : List Str := ["reel", "many", "blocks", "left", "k", "block", "face", "other", "at", "some", "turn"]
theorem sc__law_any : FnScope N__law_any ["reel", "many"] (defScope s__law_any) := ⟨rfl, rfl, rfl, by decide +kernel, rfl, by decide +kernel, by decide +kernel⟩
def l1__law_any : SM := (mSeq (mSet (gU [(gN 5), (gN 6)]) (e2 dIdx (eB 3) (e2 dMul (eC (.int 2)) (eB 4))))
  (mSeq (mSet (gU [(gN 7), (gN 8)]) (e2 dIdx (eB 3) (e2 dAdd (e2 dMul (eC (.int 2)) (eB 4)) (eC (.int 1)))))
  (mSeq (mSet (gN 9) (eFrz (lLc (iSeq (eA m__law_turns aN)) (gN 10) (tE (e2 dEq (e2 dIdx (eB 10) (eB 6)) (eB 8))) (eV 10) [10])))
  (mDrop (eA m__law_set (aC (eV 2) (aC (eV 5) (aC (eV 6) (aC (eV 7) (aC (e2 dIdx (eB 9) (eA m__law_draw (aC (eV 0) (aC (eC (.int 6)) aN)))) aN))))))))))
def b__law_any : SM := (mSeq (mSet (gN 2) (eNew (lLc (iRange1 (eB 1)) (gN 5) tYes (eNew (l2 lRep (eFrz (lLst (aC (eC (.non)) aN))) (eC (.int 4)))) [5])))
  (mSeq (mSet (gN 3) (eNew (lLc (iRange1 (e2 dMul (eC (.int 4)) (eB 1))) (gN 4) tYes (eTrn (aC (e2 dFdiv (eB 4) (eC (.int 4))) (aC (e2 dMod (eB 4) (eC (.int 4))) aN))) [4])))
  (mSeq (mSet (gN 3) (eNew (lLc (iRange1 (e2 dMul (eC (.int 4)) (eB 1))) (gN 4) tYes (ePopAt (eV 3) (eA m__law_draw (aC (eV 0) (aC (e1 dLen (eB 3)) aN)))) [4])))
  (mSeq (mFor (iRange1 (e2 dIdx (eFrz (lLst (aC (eA m__law_draw (aC (eV 0) (aC (e2 dAdd (e2 dMul (eC (.int 2)) (eB 1)) (eC (.int 1))) aN))) (aC (e2 dMul (eC (.int 2)) (eB 1)) aN)))) (eA m__law_draw (aC (eV 0) (aC (eC (.int 2)) aN))))) (gN 4) l1__law_any)
  (mRet (eV 2))))))
def m__law_any : FM := runA 2 11 b__law_any
theorem d__law_any {P : Program} {w : World} {K : PySem.W.Frag} {mg : Str → Option Value} {base : Heap} (nm : Nm K mg) (D__law_draw : DefOk P w K mg base CX0 "_law_draw" 1 (sp0 K 2 m__law_draw)) (D__law_turns : DefOk P w K mg base CX0 "_law_turns" 1 (sp0 K 0 m__law_turns)) (D__law_set : DefOk P w K mg base CX0 "_law_set" 2 (sp0 K 5 m__law_set)) : Body P w K mg base N__law_any "_law_any" s__law_any 2 b__law_any := fun f cdv A outer s H E hr =>
  have nd := sc__law_any.nd
  ⟨_, (s_cons (s_lcN 2 rfl nd (own := [("block", 5)]) (i_range1 nm.f_range (x_b 1)) (by rfl) (by intros; exact ⟨_, (g_n 5 nd)⟩) (by intros; exact ⟨_, ts_nil⟩) (by intros; exact ⟨_, (XL.new (l_rep (XE.bor (XL.frz (l_lst (a_cons x_non a_nil)))) (XE.bor x_int)))⟩))
  (s_cons (s_set 3 nd (XL.new (l_lc rfl nd (own := [("k", 4)]) (i_range1 nm.f_range (XE.bor (x_mul (XE.bor x_int) (x_b 1)))) (by rfl) (by intros; exact ⟨_, (g_n 4 nd)⟩) (by intros; exact ⟨_, ts_nil⟩) (by intros; exact ⟨_, (x_trn (a_cons (x_fdiv (x_b 4) (XE.bor x_int)) (a_cons (x_mod (x_b 4) (XE.bor x_int)) a_nil)))⟩))))
  (s_cons (s_set 3 nd (XL.new (l_lc rfl nd (own := [("k", 4)]) (i_range1 nm.f_range (XE.bor (x_mul (XE.bor x_int) (x_b 1)))) (by rfl) (by intros; exact ⟨_, (g_n 4 nd)⟩) (by intros; exact ⟨_, ts_nil⟩) (by intros; exact ⟨_, (x_popAt (x_v 3) (XE.bor (x_call D__law_draw runA_bad hr (by omega) (a_cons (x_v 0) (a_cons (x_len nm.f_len (x_b 3)) a_nil)))))⟩))))
  (s_cons (s_for PassesOwn.never rfl (i_range1 nm.f_range (XE.bor (x_ix (XE.bor (XL.frz (l_lst (a_cons (x_call D__law_draw runA_bad hr (by omega) (a_cons (x_v 0) (a_cons (x_add (XE.bor (x_mul (XE.bor x_int) (x_b 1))) (XE.bor x_int)) a_nil))) (a_cons (x_mul (XE.bor x_int) (x_b 1)) a_nil))))) (XE.bor (x_call D__law_draw runA_bad hr (by omega) (a_cons (x_v 0) (a_cons x_int a_nil))))))) (g_n 4 nd) (s_cons (s_asg (x_ix (x_b 3) (XE.bor (x_mul (XE.bor x_int) (x_b 4)))) (g_u rfl (gs_cons (g_n 5 nd) (gs_cons (g_n 6 nd) gs_nil))))
  (s_cons (s_asg (x_ix (x_b 3) (XE.bor (x_add (XE.bor (x_mul (XE.bor x_int) (x_b 4))) (XE.bor x_int)))) (g_u rfl (gs_cons (g_n 7 nd) (gs_cons (g_n 8 nd) gs_nil))))
  (s_cons (s_lcF 9 rfl nd (own := [("turn", 10)]) (i_seq (x_call0 D__law_turns runA_bad hr (by omega))) (by rfl) (by intros; exact ⟨_, (g_n 10 nd)⟩) (by intros; exact ⟨_, (ts_one (t_eq (hu hr) (XE.bor (x_ix (x_b 10) (x_b 6))) (x_b 8)))⟩) (by intros; exact ⟨_, (x_v 10)⟩))
  (s_one (s_expr (XE.bor (x_call D__law_set runA_bad hr (by omega) (a_cons (x_v 2) (a_cons (x_v 5) (a_cons (x_v 6) (a_cons (x_v 7) (a_cons (x_ix (x_b 9) (XE.bor (x_call D__law_draw runA_bad hr (by omega) (a_cons (x_v 0) (a_cons x_int a_nil))))) a_nil)))))))))))))
  (s_one (s_ret (x_v 2)))))))⟩
/-! _law_ball -/
abbrev s__law_ball : Stmt := top 33
abbrev N__law_ball : List Str := ["reel", "many", "blocks", "k", "left", "block", "face", "at"]
theorem sc__law_ball : FnScope N__law_ball ["reel", "many"] (defScope s__law_ball) := ⟨rfl, rfl, rfl, by decide +kernel, rfl, by decide +kernel, by decide +kernel⟩
def l1__law_ball : SM := (mSeq (mSet (gN 4) (eFrz (lLc (iRange1 (e2 dMul (eC (.int 4)) (eB 3))) (gN 7) (tE (e2 dIs (e2 dIdx (e2 dIdx (eB 2) (e2 dFdiv (eB 7) (eC (.int 4)))) (e2 dMod (eB 7) (eC (.int 4)))) (eC (.non)))) (eTrn (aC (e2 dFdiv (eB 7) (eC (.int 4))) (aC (e2 dMod (eB 7) (eC (.int 4))) aN))) [7])))
  (mSeq (mSet (gU [(gN 5), (gN 6)]) (e2 dIdx (eB 4) (eA m__law_draw (aC (eV 0) (aC (e1 dLen (eB 4)) aN)))))
  (mSeq (mApp 2 (eNew (l2 lRep (eFrz (lLst (aC (eC (.non)) aN))) (eC (.int 4)))))
  (mDrop (eA m__law_set (aC (eV 2) (aC (eV 5) (aC (eV 6) (aC (eV 3) (aC (e2 dIdx (eA m__law_turns aN) (eA m__law_draw (aC (eV 0) (aC (eC (.int 24)) aN)))) aN))))))))))
def b__law_ball : SM := (mSeq (mSet (gN 2) (eNew (lLst (aC (eNew (l2 lRep (eFrz (lLst (aC (eC (.non)) aN))) (eC (.int 4)))) aN))))
  (mSeq (mFor (iRange2 (eC (.int 1)) (eB 1)) (gN 3) l1__law_ball)
  (mRet (eV 2))))
def m__law_ball : FM := runA 2 8 b__law_ball
theorem d__law_ball {P : Program} {w : World} {K : PySem.W.Frag} {mg : Str → Option Value} {base : Heap} (nm : Nm K mg) (D__law_draw : DefOk P w K mg base CX0 "_law_draw" 1 (sp0 K 2 m__law_draw)) (D__law_set : DefOk P w K mg base CX0 "_law_set" 2 (sp0 K 5 m__law_set)) (D__law_turns : DefOk P w K mg base CX0 "_law_turns" 1 (sp0 K 0 m__law_turns)) : Body P w K mg base N__law_ball "_law_ball" s__law_ball 2 b__law_ball := fun f cdv A outer s H E hr =>
  have nd := sc__law_ball.nd
  ⟨_, (s_cons (s_set 2 nd (XL.new (l_lst (a_cons (XL.new (l_rep (XE.bor (XL.frz (l_lst (a_cons x_non a_nil)))) (XE.bor x_int))) a_nil))))
  (s_cons (s_for PassesOwn.never rfl (i_range2 nm.f_range (XE.bor x_int) (x_b 1)) (g_n 3 nd) (s_cons (s_lcF 4 rfl nd (own := [("at", 7)]) (i_range1 nm.f_range (XE.bor (x_mul (XE.bor x_int) (x_b 3)))) (by rfl) (by intros; exact ⟨_, (g_n 7 nd)⟩) (by intros; exact ⟨_, (ts_one (t_is (XE.bor (x_ix (XE.bor (x_ix (x_b 2) (XE.bor (x_fdiv (x_b 7) (XE.bor x_int))))) (XE.bor (x_mod (x_b 7) (XE.bor x_int))))) (XE.bor x_non)))⟩) (by intros; exact ⟨_, (x_trn (a_cons (x_fdiv (x_b 7) (XE.bor x_int)) (a_cons (x_mod (x_b 7) (XE.bor x_int)) a_nil)))⟩))
  (s_cons (s_asg (x_ix (x_b 4) (XE.bor (x_call D__law_draw runA_bad hr (by omega) (a_cons (x_v 0) (a_cons (x_len nm.f_len (x_b 4)) a_nil))))) (g_u rfl (gs_cons (g_n 5 nd) (gs_cons (g_n 6 nd) gs_nil))))
  (s_cons (s_appV 2 (XL.new (l_rep (XE.bor (XL.frz (l_lst (a_cons x_non a_nil)))) (XE.bor x_int))))
  (s_one (s_expr (XE.bor (x_call D__law_set runA_bad hr (by omega) (a_cons (x_v 2) (a_cons (x_v 5) (a_cons (x_v 6) (a_cons (x_v 3) (a_cons (x_ix (XE.bor (x_call0 D__law_turns runA_bad hr (by omega))) (XE.bor (x_call D__law_draw runA_bad hr (by omega) (a_cons (x_v 0) (a_cons x_int a_nil))))) a_nil)))))))))))))
  (s_one (s_ret (x_v 2)))))⟩
/-! _law_doubled -/
abbrev s__law_doubled : Stmt := top 34
abbrev N__law_doubled : List Str := ["blocks", "many", "found", "block", "face", "one"]
theorem sc__law_doubled : FnScope N__law_doubled ["blocks"] (defScope s__law_doubled) := ⟨rfl, rfl, rfl, by decide +kernel, rfl, by decide +kernel, by decide +kernel⟩
def l1__law_doubled : SM := (mApp 2 (eNew (lLc (iSeq (eB 3)) (gN 5) tYes (eIf (tE (e2 dIs (eB 5) (eC (.non)))) (eC (.non)) (eTrn (aC (e2 dAdd (e2 dIdx (eB 5) (eC (.int 0))) (eB 1)) (aC (e2 dIdx (eB 5) (eC (.int 1))) aN)))) [5])))
def l2__law_doubled : SM := (mIf (tE (e2 dIs (e2 dIdx (e2 dIdx (eB 0) (eB 3)) (eB 4)) (eC (.non)))) (mDrop (eA m__law_set (aC (eV 2) (aC (eV 3) (aC (eV 4) (aC (e2 dAdd (eB 1) (eB 3)) (aC (eTrn (aC (eC (.int 0)) (aC (eC (.int 1)) (aC (eC (.int 2)) (aC (eC (.int 3)) aN))))) aN))))))) mNil)
def l3__law_doubled : SM := (mFor (iRange1 (eC (.int 4))) (gN 4) l2__law_doubled)
def b__law_doubled : SM := (mSeq (mSet (gN 1) (e1 dLen (eB 0)))
  (mSeq (mSet (gN 2) (eNew (lLc (iSeq (eB 0)) (gN 3) tYes (eNew (l1 lList (eB 3))) [3])))
  (mSeq (mFor (iSeq (eV 0)) (gN 3) l1__law_doubled)
  (mSeq (mFor (iRange1 (eB 1)) (gN 3) l3__law_doubled)
  (mRet (eV 2))))))
def m__law_doubled : FM := runA 1 6 b__law_doubled
theorem d__law_doubled {P : Program} {w : World} {K : PySem.W.Frag} {mg : Str → Option Value} {base : Heap} (nm : Nm K mg) (D__law_set : DefOk P w K mg base CX0 "_law_set" 2 (sp0 K 5 m__law_set)) : Body P w K mg base N__law_doubled "_law_doubled" s__law_doubled 2 b__law_doubled := fun f cdv A outer s H E hr =>
  have nd := sc__law_doubled.nd
  ⟨_, (s_cons (s_set 1 nd (x_len nm.f_len (x_b 0)))
  (s_cons (s_lcN 2 rfl nd (own := [("block", 3)]) (i_seqB (x_b 0)) (by rfl) (by intros; exact ⟨_, (g_n 3 nd)⟩) (by intros; exact ⟨_, ts_nil⟩) (by intros; exact ⟨_, (XL.new (l_list nm.f_list (x_b 3)))⟩))
  (s_cons (s_for PassesOwn.never rfl (i_seq (x_v 0)) (g_n 3 nd) (s_one (s_appV 2 (XL.new (l_lc rfl nd (own := [("one", 5)]) (i_seqB (x_b 3)) (by rfl) (by intros; exact ⟨_, (g_n 5 nd)⟩) (by intros; exact ⟨_, ts_nil⟩) (by intros; exact ⟨_, (x_ifE (t_is (x_b 5) (XE.bor x_non)) x_non (x_trn (a_cons (x_add (XE.bor (x_ix (x_b 5) (XE.bor x_int))) (x_b 1)) (a_cons (x_ix (x_b 5) (XE.bor x_int)) a_nil))))⟩))))))
  (s_cons (s_for PassesOwn.never rfl (i_range1 nm.f_range (x_b 1)) (g_n 3 nd) (s_one (s_for PassesOwn.never rfl (i_range1 nm.f_range (XE.bor x_int)) (g_n 4 nd) (s_one (s_if (t_is (XE.bor (x_ix (XE.bor (x_ix (x_b 0) (x_b 3))) (x_b 4))) (XE.bor x_non)) (s_one (s_expr (XE.bor (x_call D__law_set runA_bad hr (by omega) (a_cons (x_v 2) (a_cons (x_v 3) (a_cons (x_v 4) (a_cons (x_add (x_b 1) (x_b 3)) (a_cons (x_trn (a_cons x_int (a_cons x_int (a_cons x_int (a_cons x_int a_nil))))) a_nil))))))))) s_nil)))))
  (s_one (s_ret (x_v 2)))))))⟩
/-! _law_is_right -/
abbrev s__law_is_right : Stmt := top 43
abbrev N__law_is_right : List Str := ["many", "order", "turns", "turn", "one"]
theorem sc__law_is_right : FnScope N__law_is_right ["many", "order", "turns"] (defScope s__law_is_right) := ⟨rfl, rfl, rfl, by decide +kernel, rfl, by decide +kernel, by decide +kernel⟩
def b__law_is_right : SM := (mSeq (mIf (tOr (tNot (tE (e1 (dIsi ["list", "tuple"]) (eB 1)))) (tNot (tE (e1 dAll (eFrz (lLc (iSeq (eB 1)) (gN 4) tYes (eA m__law_is_number (aC (eV 4) (aC (eV 0) aN))) [4])))))) (mRet (eC (.bl false))) mNil)
  (mSeq (mIf (tOr (tE (e2 dNe (e1 dLen (eB 1)) (eB 0))) (tOr (tE (e2 dNe (e1 dLenSet (eB 1)) (eB 0))) (tNot (tE (e1 (dIsi ["list", "tuple"]) (eB 2)))))) (mRet (eC (.bl false))) mNil)
  (mRet (eIf (tE (e2 dEq (e1 dLen (eB 2)) (eB 0))) (e1 dAll (eFrz (lLc (iSeq (eB 2)) (gN 3) tYes (eA m__law_is_turn (aC (eV 3) aN)) [3]))) (eC (.bl false))))))
def m__law_is_right : FM := runA 3 5 b__law_is_right
theorem d__law_is_right {P : Program} {w : World} {K : PySem.W.Frag} {mg : Str → Option Value} {base : Heap} (nm : Nm K mg) (D__law_is_number : DefOk P w K mg base CX0 "_law_is_number" 1 (sp0 K 2 m__law_is_number)) (D__law_is_turn : DefOk P w K mg base CX0 "_law_is_turn" 2 (sp0 K 1 m__law_is_turn)) : Body P w K mg base N__law_is_right "_law_is_right" s__law_is_right 2 b__law_is_right := fun f cdv A outer s H E hr =>
  have nd := sc__law_is_right.nd
  ⟨_, (s_cons (s_if (XW.tst (w_or (t_not (t_val (XE.bor (x_isi2 (by decide) (by decide) ty_list ty_tuple nm.f_isinstance nm.f_list nm.f_tuple (x_b 1))))) (w_or1 (t_not (t_val (XE.bor (x_all rfl nm.f_all (XE.bor (XL.frz (l_lc rfl nd (own := [("one", 4)]) (i_seqB (x_b 1)) (by rfl) (by intros; exact ⟨_, (g_n 4 nd)⟩) (by intros; exact ⟨_, ts_nil⟩) (by intros; exact ⟨_, (x_call D__law_is_number runA_bad hr (by omega) (a_cons (x_v 4) (a_cons (x_v 0) a_nil)))⟩))))))))))) (s_one (s_ret x_bl)) s_nil)
  (s_cons (s_if (XW.tst (w_or (t_ne (hu hr) (XE.bor (x_len nm.f_len (x_b 1))) (x_b 0)) (w_or (t_ne (hu hr) (XE.bor (x_lenSet rfl nm.f_len nm.f_set (x_b 1))) (x_b 0)) (w_or1 (t_not (t_val (XE.bor (x_isi2 (by decide) (by decide) ty_list ty_tuple nm.f_isinstance nm.f_list nm.f_tuple (x_b 2))))))))) (s_one (s_ret x_bl)) s_nil)
  (s_one (s_ret (v_and (x_eq (hu hr) (XE.bor (x_len nm.f_len (x_b 2))) (x_b 0)) (v_one (x_all rfl nm.f_all (XE.bor (XL.frz (l_lc rfl nd (own := [("turn", 3)]) (i_seqB (x_b 2)) (by rfl) (by intros; exact ⟨_, (g_n 3 nd)⟩) (by intros; exact ⟨_, ts_nil⟩) (by intros; exact ⟨_, (x_call D__law_is_turn runA_bad hr (by omega) (a_cons (x_v 3) a_nil))⟩)))))))))))⟩
/-! space_of -/
abbrev s_space_of : Stmt := top 22
abbrev N_space_of : List Str := ["blocks", "found", "block", "face"]
theorem sc_space_of : FnScope N_space_of ["blocks"] (defScope s_space_of) := ⟨rfl, rfl, rfl, by decide +kernel, rfl, by decide +kernel, by decide +kernel⟩
def l1_space_of : SM := (mSeq (mIf (tOr (tNot (tE (eA m_is_row (aC (eV 2) aN)))) (tE (e2 dNe (e1 dLen (eB 2)) (eC (.int 4))))) mBad mNil)
  (mApp 1 (e1 dTrn (eFrz (lLc (iSeq (eB 2)) (gN 3) tYes (eA m_joining_of (aC (eV 3) aN)) [3])))))
def b_space_of : SM := (mSeq (mIf (tOr (tNot (tE (eA m_is_row (aC (eV 0) aN)))) (tE (e2 dEq (e1 dLen (eB 0)) (eC (.int 0))))) mBad mNil)
  (mSeq (mOwn 1 (lLst aN))
  (mSeq (mFor (iSeq (eV 0)) (gN 2) l1_space_of)
  (mFrz 1 (mSeq (mIf (tNot (tE (e1 dAll (eFrz (lLc2 (iRange1 (e1 dLen (eB 1))) (gN 2) tYes (iRange1 (eC (.int 4))) (gN 3) tYes (eA m_is_joined_back (aC (eV 1) (aC (eV 2) (aC (eV 3) aN)))) [2, 3] [3]))))) mBad mNil)
  (mRet (e1 dTrn (eB 1))))))))
def m_space_of : FM := runA 1 4 b_space_of
theorem d_space_of {P : Program} {w : World} {K : PySem.W.Frag} {mg : Str → Option Value} {base : Heap} (nm : Nm K mg) (D_is_row : DefOk P w K mg base CX0 "is_row" 1 (sp0 K 1 m_is_row)) (D_joining_of : DefOk P w K mg base CX0 "joining_of" 3 (sp0 K 1 m_joining_of)) (D_is_joined_back : DefOk P w K mg base CX0 "is_joined_back" 2 (sp0 K 3 m_is_joined_back)) : Body P w K mg base N_space_of "space_of" s_space_of 3 b_space_of := fun f cdv A outer s H E hr =>
  have nd := sc_space_of.nd
  ⟨_, (s_cons (s_if (XW.tst (w_or (t_not (t_val (XE.bor (x_call D_is_row runA_bad hr (by omega) (a_cons (x_v 0) a_nil))))) (w_or1 (t_eq (hu hr) (XE.bor (x_len nm.f_len (x_b 0))) (XE.bor x_int))))) (s_one s_bad) s_nil)
  (s_cons (s_own 1 nd (l_lst a_nil))
  (s_cons (s_for PassesOwn.never rfl (i_seq (x_v 0)) (g_n 2 nd) (s_cons (s_if (XW.tst (w_or (t_not (t_val (XE.bor (x_call D_is_row runA_bad hr (by omega) (a_cons (x_v 2) a_nil))))) (w_or1 (t_ne (hu hr) (XE.bor (x_len nm.f_len (x_b 2))) (XE.bor x_int))))) (s_one s_bad) s_nil)
  (s_one (s_appV 1 (x_tupleN nm.f_tuple (XE.bor (XL.frz (l_lc rfl nd (own := [("face", 3)]) (i_seqB (x_b 2)) (by rfl) (by intros; exact ⟨_, (g_n 3 nd)⟩) (by intros; exact ⟨_, ts_nil⟩) (by intros; exact ⟨_, (x_call D_joining_of runA_bad hr (by omega) (a_cons (x_v 3) a_nil))⟩)))))))))
  (s_frz 1 (s_cons (s_if (t_not (t_val (XE.bor (x_all rfl nm.f_all (XE.bor (XL.frz (l_lc2 rfl nd (own := [("block", 2), ("face", 3)]) (vs1 := [3]) (i_range1 nm.f_range (XE.bor (x_len nm.f_len (x_b 1)))) (by rfl) (by intros; exact ⟨_, (g_n 2 nd)⟩) (by intros; exact ⟨_, ts_nil⟩) (by intros; exact ⟨_, (i_range1 nm.f_range (XE.bor x_int))⟩) (by intros; exact ⟨_, (g_n 3 nd)⟩) (by intros; exact ⟨_, ts_nil⟩) (by intros; exact ⟨_, (x_call D_is_joined_back runA_bad hr (by omega) (a_cons (x_v 1) (a_cons (x_v 2) (a_cons (x_v 3) a_nil))))⟩)))))))) (s_one s_bad) s_nil)
  (s_one (s_ret (x_tupleN nm.f_tuple (x_b 1)))))))))⟩
/-! _law_blocks -/
abbrev s__law_blocks : Stmt := top 35
abbrev N__law_blocks : List Str := ["reel", "most", "kind", "many"]
theorem sc__law_blocks : FnScope N__law_blocks ["reel", "most"] (defScope s__law_blocks) := ⟨rfl, rfl, rfl, by decide +kernel, rfl, by decide +kernel, by decide +kernel⟩
def b__law_blocks : SM := (mSeq (mSet (gN 2) (eA m__law_draw (aC (eV 0) (aC (eC (.int 5)) aN))))
  (mSeq (mIf (tAnd (tE (e2 dEq (eB 2) (eC (.int 0)))) (tE (e2 dGt (eB 1) (eC (.int 1))))) (mRet (eA m__law_doubled (aC (eA m__law_ball (aC (eV 0) (aC (e2 dAdd (eC (.int 1)) (eA m__law_draw (aC (eV 0) (aC (e2 dFdiv (eB 1) (eC (.int 2))) aN)))) aN))) aN))) mNil)
  (mSeq (mSet (gN 3) (e2 dAdd (eC (.int 1)) (eA m__law_draw (aC (eV 0) (aC (e2 dIdx (eFrz (lLst (aC (eV 1) (aC (e2 dMin2 (eB 1) (eC (.int 3))) aN)))) (eA m__law_draw (aC (eV 0) (aC (eC (.int 2)) aN)))) aN)))))
  (mRet (eIf (tE (e2 dEq (eB 2) (eC (.int 1)))) (eA m__law_ball (aC (eV 0) (aC (eV 3) aN))) (eA m__law_any (aC (eV 0) (aC (eV 3) aN))))))))
def m__law_blocks : FM := runA 2 4 b__law_blocks
theorem d__law_blocks {P : Program} {w : World} {K : PySem.W.Frag} {mg : Str → Option Value} {base : Heap} (nm : Nm K mg) (D__law_draw : DefOk P w K mg base CX0 "_law_draw" 1 (sp0 K 2 m__law_draw)) (D__law_doubled : DefOk P w K mg base CX0 "_law_doubled" 3 (sp0 K 1 m__law_doubled)) (D__law_ball : DefOk P w K mg base CX0 "_law_ball" 3 (sp0 K 2 m__law_ball)) (D__law_any : DefOk P w K mg base CX0 "_law_any" 3 (sp0 K 2 m__law_any)) : Body P w K mg base N__law_blocks "_law_blocks" s__law_blocks 3 b__law_blocks := fun f cdv A outer s H E hr =>
  have nd := sc__law_blocks.nd
  ⟨_, (s_cons (s_set 2 nd (x_call D__law_draw runA_bad hr (by omega) (a_cons (x_v 0) (a_cons x_int a_nil))))
  (s_cons (s_if (XW.tst (w_and (t_eq (hu hr) (x_b 2) (XE.bor x_int)) (w_and1 (t_gt (x_b 1) (XE.bor x_int))))) (s_one (s_ret (x_call D__law_doubled runA_bad hr (by omega) (a_cons (x_call D__law_ball runA_bad hr (by omega) (a_cons (x_v 0) (a_cons (x_add (XE.bor x_int) (XE.bor (x_call D__law_draw runA_bad hr (by omega) (a_cons (x_v 0) (a_cons (x_fdiv (x_b 1) (XE.bor x_int)) a_nil))))) a_nil))) a_nil)))) s_nil)
  (s_cons (s_set 3 nd (x_add (XE.bor x_int) (XE.bor (x_call D__law_draw runA_bad hr (by omega) (a_cons (x_v 0) (a_cons (x_ix (XE.bor (XL.frz (l_lst (a_cons (x_v 1) (a_cons (x_min2 rfl nm.f_min (x_b 1) (XE.bor x_int)) a_nil))))) (XE.bor (x_call D__law_draw runA_bad hr (by omega) (a_cons (x_v 0) (a_cons x_int a_nil))))) a_nil))))))
  (s_one (s_ret (x_ifE (t_eq (hu hr) (x_b 2) (XE.bor x_int)) (x_call D__law_ball runA_bad hr (by omega) (a_cons (x_v 0) (a_cons (x_v 3) a_nil))) (x_call D__law_any runA_bad hr (by omega) (a_cons (x_v 0) (a_cons (x_v 3) a_nil)))))))))⟩
/-! renamed -/
abbrev s_renamed : Stmt := top 24
abbrev N_renamed : List Str := ["space", "order", "turns", "place", "found", "number", "block", "own", "faces", "face", "joining", "other", "turn"]
theorem sc_renamed : FnScope N_renamed ["space", "order", "turns"] (defScope s_renamed) := ⟨rfl, rfl, rfl, by decide +kernel, rfl, by decide +kernel, by decide +kernel⟩
def l1_renamed : SM := (mSeq (mNx (mPutV 8 (e2 dIdx (eB 7) (eB 9)) (eC (.non))))
  (mNx (mIf (tE (e2 dIsNot (eB 10) (eC (.non)))) (mSeq (mNx (mSet (gU [(gN 11), (gN 12)]) (eV 10)))
  (mNx (mPutV 8 (e2 dIdx (eB 7) (eB 9)) (eTrn (aC (e2 dAtD (eB 3) (eV 11)) (aC (eA m_behind (aC (eA m_behind (aC (eA m_contrary (aC (eV 7) aN)) (aC (eV 12) aN))) (aC (e1 dTrn (e2 dIdx (eB 2) (e2 dAtD (eB 3) (eV 11)))) aN))) aN)))))) mNil)))
def l2_renamed : SM := (mSeq (mNx (mSet (gN 7) (e1 dTrn (e2 dIdx (eB 2) (eB 5)))))
  (mSeq (mNx (mOwnN 8 (eC (.dK [] []))))
  (mSeq (mNx (mFor (iEnum (e2 dIdx (eB 0) (eB 6))) (gU [(gN 9), (gN 10)]) l1_renamed))
  (mNx (mApp 4 (e1 dTrn (eFrz (lLc (iRange1 (eC (.int 4))) (gN 9) tYes (e2 dAtD (eB 8) (eV 9)) [9]))))))))
def b_renamed : SM := (mSeq (mNx (mSet (gN 0) (eA m_space_of (aC (eV 0) aN))))
  (mSeq (mDrop (eA m_need_names (lNx (aC (eV 0) (aC (eV 1) (aC (eV 2) aN))))))
  (mSeq (mNx (mSet (gN 3) (eDc (iEnum (eV 1)) (gU [(gN 5), (gN 6)]) tYes (eV 6) (eV 5) [5, 6])))
  (mSeq (mNx (mOwn 4 (lLst aN)))
  (mSeq (mNx (mFor (iEnum (eV 1)) (gU [(gN 5), (gN 6)]) l2_renamed))
  (mNx (mRet (e1 dTrn (eB 4)))))))))
def m_renamed : FM := runA 3 13 b_renamed
theorem d_renamed {P : Program} {w : World} {K : PySem.W.Frag} {mg : Str → Option Value} {base : Heap} (nm : Nm K mg) (D_space_of : DefOk P w K mg base CX0 "space_of" 4 (sp0 K 1 m_space_of)) (D_need_names : DefOk P w K mg base (L2.CX P w) "need_names" 3 (spE K 3 m_need_names)) (D_behind : DefOk P w K mg base CX0 "behind" 1 (sp0 K 2 m_behind)) (D_contrary : DefOk P w K mg base CX0 "contrary" 1 (sp0 K 1 m_contrary)) : BodyE P w K mg base N_renamed "renamed" s_renamed 4 b_renamed := fun f cdv A outer s H E hr =>
  have nd := sc_renamed.nd
  have tk : Takes (CtxE P w K mg base N_renamed "renamed" s_renamed f cdv A outer s H E) (fun cls d _ H => E cls d H) := tkE
  ⟨_, (s_cons (XS.nx (s_set 0 nd (x_call D_space_of runA_bad hr (by omega) (a_cons (x_v 0) a_nil))))
  (s_cons (s_expr (XE.bor (x_callE tk D_need_names runA_bad hr (by omega) (XA.nx (a_cons (x_v 0) (a_cons (x_v 1) (a_cons (x_v 2) a_nil)))))))
  (s_cons (XS.nx (s_dcF 3 rfl nd (own := [("number", 5), ("block", 6)]) (i_enum nm.f_enumerate (x_v 1)) (by rfl) (by intros; exact ⟨_, (g_u rfl (gs_cons (g_n 5 nd) (gs_cons (g_n 6 nd) gs_nil)))⟩) (by intros; exact ⟨_, ts_nil⟩) (by intros; exact ⟨_, (x_v 6)⟩) (by intros; exact ⟨_, (x_v 5)⟩)))
  (s_cons (XS.nx (s_own 4 nd (l_lst a_nil)))
  (s_cons (XS.nx (s_for (passes_of rfl) rfl (i_enum nm.f_enumerate (x_v 1)) (g_u rfl (gs_cons (g_n 5 nd) (gs_cons (g_n 6 nd) gs_nil))) (s_cons (XS.nx (s_set 7 nd (x_tupleN nm.f_tuple (XE.bor (x_ix (x_b 2) (x_b 5))))))
  (s_cons (XS.nx (s_ownN 8 nd n_newK))
  (s_cons (XS.nx (s_for (passes_of rfl) rfl (i_enum nm.f_enumerate (x_ix (x_b 0) (x_b 6))) (g_u rfl (gs_cons (g_n 9 nd) (gs_cons (g_n 10 nd) gs_nil))) (s_cons (XS.nx (s_putV 8 (hu1 hr) x_non (x_ix (x_b 7) (x_b 9))))
  (s_one (XS.nx (s_if (t_isNot (x_b 10) (XE.bor x_non)) (s_cons (XS.nx (s_asg (x_v 10) (g_u rfl (gs_cons (g_n 11 nd) (gs_cons (g_n 12 nd) gs_nil)))))
  (s_one (XS.nx (s_putV 8 (hu1 hr) (x_trn (a_cons (x_dAt (hu1 hr) (x_b 3) (x_v 11)) (a_cons (x_call D_behind runA_bad hr (by omega) (a_cons (x_call D_behind runA_bad hr (by omega) (a_cons (x_call D_contrary runA_bad hr (by omega) (a_cons (x_v 7) a_nil)) (a_cons (x_v 12) a_nil))) (a_cons (x_tupleN nm.f_tuple (XE.bor (x_ix (x_b 2) (XE.bor (x_dAt (hu1 hr) (x_b 3) (x_v 11)))))) a_nil))) a_nil))) (x_ix (x_b 7) (x_b 9)))))) s_nil))))))
  (s_one (XS.nx (s_appV 4 (x_tupleN nm.f_tuple (XE.bor (XL.frz (l_lc rfl nd (own := [("face", 9)]) (i_range1 nm.f_range (XE.bor x_int)) (by rfl) (by intros; exact ⟨_, (g_n 9 nd)⟩) (by intros; exact ⟨_, ts_nil⟩) (by intros; exact ⟨_, (x_dAt (hu1 hr) (x_b 8) (x_v 9))⟩)))))))))))))
  (s_one (XS.nx (s_ret (x_tupleN nm.f_tuple (x_b 4))))))))))⟩
/-! _law_asked -/
abbrev s__law_asked : Stmt := top 44
abbrev N__law_asked : List Str := ["space", "order", "turns", "caught", "told", "e"]
theorem sc__law_asked : FnScope N__law_asked ["space", "order", "turns"] (defScope s__law_asked) := ⟨rfl, rfl, rfl, by decide +kernel, rfl, by decide +kernel, by decide +kernel⟩
def b__law_asked : SM := (mSeq (mSet (gN 3) (eC (.non)))
  (mSeq (mSet (gN 4) (eC (.non)))
  (mSeq (mTryK tb_RoomError 5 3 (mSet (gN 4) (eA m_renamed (lNx (aC (eV 0) (aC (eV 1) (aC (eV 2) aN)))))))
  (mRet (eTrn (aC (eIf (tE (e2 dIs (eB 3) (eC (.non)))) (eC (.str "none")) (eA m__law_kind_of (aC (eV 3) aN))) (aC (eV 4) aN)))))))
def m__law_asked : FM := runA 3 6 b__law_asked
theorem d__law_asked {P : Program} {w : World} {K : PySem.W.Frag} {mg : Str → Option Value} {base : Heap} (nm : Nm K mg) (D_renamed : DefOk P w K mg base (L2.CX P w) "renamed" 5 (spE K 3 m_renamed)) (D__law_kind_of : DefOk P w K mg base CX0 "_law_kind_of" 1 (sp0 K 1 m__law_kind_of)) : Body P w K mg base N__law_asked "_law_asked" s__law_asked 5 b__law_asked := fun f cdv A outer s H E hr =>
  have nd := sc__law_asked.nd
  ⟨_, (s_cons (s_set 3 nd x_non)
  (s_cons (s_set 4 nd x_non)
  (s_cons (s_tryK0 5 3 tb_RoomError rfl rfl rfl nd rfl rfl ⟨rfl, by decide, .inl nm.c_RoomError⟩ nm.t_RoomError (fun W pn xe tk => (s1_one (s1_set 4 nd (x_callW tk D_renamed runA_bad hr (by omega) (a_cons (x_v 0) (a_cons (x_v 1) (a_cons (x_v 2) a_nil))))))) (fun a oe pn => (s_set (EE := Z0) 3 nd (x_v 5)).1))
  (s_one (s_ret (x_trn (a_cons (x_ifE (t_is (x_b 3) (XE.bor x_non)) x_str (x_call D__law_kind_of runA_bad hr (by omega) (a_cons (x_v 3) a_nil))) (a_cons (x_v 4) a_nil))))))))⟩
/-! _law_alike -/
abbrev s__law_alike : Stmt := top 28
abbrev N__law_alike : List Str := ["found", "due", "mine", "other"]
theorem sc__law_alike : FnScope N__law_alike ["found", "due"] (defScope s__law_alike) := ⟨rfl, rfl, rfl, by decide +kernel, rfl, by decide +kernel, by decide +kernel⟩
def b__law_alike (rec : FM) : SM := (mSeq (mIf (tOr (tE (e1 (dIsi ["tuple"]) (eB 1))) (tE (e1 (dIsi ["list"]) (eB 1)))) (mSeq (mIf (tOr (tE (e2 dNe (e1 (dIsi ["tuple"]) (eB 0)) (e1 (dIsi ["tuple"]) (eB 1)))) (tE (e2 dNe (e1 (dIsi ["list"]) (eB 0)) (e1 (dIsi ["list"]) (eB 1))))) (mRet (eC (.bl false))) mNil)
  (mSeq (mIf (tE (e2 dNe (e1 dLen (eB 0)) (e1 dLen (eB 1)))) (mRet (eC (.bl false))) mNil)
  (mRet (e1 dAll (eFrz (lLc (iZip (eV 0) (eV 1)) (gU [(gN 2), (gN 3)]) tYes (eA rec (aC (eV 2) (aC (eV 3) aN))) [2, 3])))))) mNil)
  (mSeq (mIf (tE (e2 dIs (eB 1) (eC (.non)))) (mRet (e2 dIs (eB 0) (eC (.non)))) mNil)
  (mSeq (mIf (tOr (tE (e1 (dIsi ["bool"]) (eB 1))) (tE (e1 (dIsi ["str"]) (eB 1)))) (mRet (eIf (tE (e2 dEq (e1 (dIsi ["bool"]) (eB 0)) (e1 (dIsi ["bool"]) (eB 1)))) (e2 dEq (eB 0) (eB 1)) (eC (.bl false)))) mNil)
  (mRet (eIf (tE (e1 (dIsi ["int"]) (eB 0))) (eIf (tE (eT (tNot (tE (e1 (dIsi ["bool"]) (eB 0)))))) (e2 dEq (eB 0) (eB 1)) (eC (.bl false))) (eC (.bl false)))))))
def m__law_alike : Nat → FM
  | 0 => fun _ _ => .bad
  | k + 1 => runA 2 4 (b__law_alike (m__law_alike k))
theorem mb__law_alike : ∀ (k : Nat) (ds : List BR.D) (S : Store), ds.length ≠ 2 → m__law_alike k ds S = .bad
  | 0, _, _, _ => rfl
  | _ + 1, ds, S, h => runA_bad ds S h
theorem d__law_alike {P : Program} {w : World} {K : PySem.W.Frag} {mg : Str → Option Value} {base : Heap} (nm : Nm K mg) (k : Nat) (rec : FM) (har : ∀ (ds : List BR.D) (S : Store), ds.length ≠ 2 → rec ds S = .bad) (D_rec : DefOk P w K mg base CX0 "_law_alike" (1 + k) (sp0 K 2 rec)) : Body P w K mg base N__law_alike "_law_alike" s__law_alike (1 + k) (b__law_alike rec) := fun f cdv A outer s H E hr =>
  have nd := sc__law_alike.nd
  ⟨_, (s_cons (s_if (XW.tst (w_or (t_val (XE.bor (x_isi (by decide) ty_tuple nm.f_isinstance nm.f_tuple (x_b 1)))) (w_or1 (t_val (XE.bor (x_isi (by decide) ty_list nm.f_isinstance nm.f_list (x_b 1))))))) (s_cons (s_if (XW.tst (w_or (t_ne (hu hr) (XE.bor (x_isi (by decide) ty_tuple nm.f_isinstance nm.f_tuple (x_b 0))) (XE.bor (x_isi (by decide) ty_tuple nm.f_isinstance nm.f_tuple (x_b 1)))) (w_or1 (t_ne (hu hr) (XE.bor (x_isi (by decide) ty_list nm.f_isinstance nm.f_list (x_b 0))) (XE.bor (x_isi (by decide) ty_list nm.f_isinstance nm.f_list (x_b 1))))))) (s_one (s_ret x_bl)) s_nil)
  (s_cons (s_if (t_ne (hu hr) (XE.bor (x_len nm.f_len (x_b 0))) (XE.bor (x_len nm.f_len (x_b 1)))) (s_one (s_ret x_bl)) s_nil)
  (s_one (s_ret (x_all rfl nm.f_all (XE.bor (XL.frz (l_lc rfl nd (own := [("mine", 2), ("other", 3)]) (i_zip nm.f_zip (x_v 0) (x_v 1)) (by rfl) (by intros; exact ⟨_, (g_u rfl (gs_cons (g_n 2 nd) (gs_cons (g_n 3 nd) gs_nil)))⟩) (by intros; exact ⟨_, ts_nil⟩) (by intros; exact ⟨_, (x_call D_rec har hr (by omega) (a_cons (x_v 2) (a_cons (x_v 3) a_nil)))⟩))))))))) s_nil)
  (s_cons (s_if (t_is (x_b 1) (XE.bor x_non)) (s_one (s_ret (x_is (x_b 0) (XE.bor x_non)))) s_nil)
  (s_cons (s_if (XW.tst (w_or (t_val (XE.bor (x_isi (by decide) ty_bool nm.f_isinstance nm.f_bool (x_b 1)))) (w_or1 (t_val (XE.bor (x_isi (by decide) ty_str nm.f_isinstance nm.f_str (x_b 1))))))) (s_one (s_ret (v_and (x_eq (hu hr) (XE.bor (x_isi (by decide) ty_bool nm.f_isinstance nm.f_bool (x_b 0))) (XE.bor (x_isi (by decide) ty_bool nm.f_isinstance nm.f_bool (x_b 1)))) (v_one (x_eq (hu hr) (x_b 0) (x_b 1)))))) s_nil)
  (s_one (s_ret (v_and (x_isi (by decide) ty_int nm.f_isinstance nm.f_int (x_b 0)) (v_and (v_not (x_isi (by decide) ty_bool nm.f_isinstance nm.f_bool (x_b 0))) (v_one (x_eq (hu hr) (x_b 0) (x_b 1))))))))))⟩
/-! law -/
abbrev s_law : Stmt := top 45
abbrev N_law : List Str := ["script", "reel", "k", "space", "many", "turn", "order", "turns", "odd", "some", "other", "due"]
theorem sc_law : FnScope N_law ["script"] (defScope s_law) := ⟨rfl, rfl, rfl, by decide +kernel, rfl, by decide +kernel, by decide +kernel⟩
def l1_law : SM := (mSeq (mSet (gU [(gN 6), (gN 7)]) (eA m__law_names (aC (eV 1) (aC (eV 4) aN))))
  (mSeq (mSet (gN 8) (e2 dIdx (eFrz (lLst (aC (eV 4) (aC (e1 dNeg (eC (.int 1))) (aC (eC (.int 0)) (aC (e2 dSub (eB 4) (eC (.int 1))) (aC (eC (.bl true)) (aC (eC (.str "0")) (aC (eC (.non)) (aC (e2 dPow (eC (.int 10)) (eC (.int 29))) aN)))))))))) (eA m__law_draw (aC (eV 1) (aC (eC (.int 8)) aN)))))
  (mSeq (mSet (gN 9) (eFrz (lLst (aC (eTrn (aC (eC (.int 0)) (aC (eC (.int 1)) (aC (eC (.int 2)) (aC (e1 dNeg (eC (.int 1))) aN))))) (aC (eTrn (aC (eC (.int 0)) (aC (eC (.int 1)) (aC (eC (.int 2)) (aC (eC (.int 2)) aN))))) (aC (eTrn (aC (eC (.int 3)) (aC (eC (.int 2)) (aC (eC (.int 1)) (aC (eC (.int 0)) aN))))) (aC (eC (.non)) (aC (eC (.str "0123")) (aC (eFrz (lLst (aC (eC (.int 0)) (aC (eC (.int 1)) (aC (eC (.int 2)) (aC (eC (.bl true)) aN)))))) (aC (eTrn (aC (eC (.int 0)) (aC (eC (.int 1)) (aC (eC (.int 2)) (aC (eC (.int 4)) aN))))) aN))))))))))
  (mSeq (mSet (gN 10) (e2 dIdx (eB 9) (eA m__law_draw (aC (eV 1) (aC (eC (.int 7)) aN)))))
  (mSeq (mSet (gN 6) (e2 dIdx (eFrz (lLst (aC (eV 6) (aC (eA m__law_bent (aC (eV 1) (aC (eV 6) (aC (eV 8) aN)))) aN)))) (eA m__law_draw (aC (eV 1) (aC (eC (.int 2)) aN)))))
  (mSeq (mSet (gN 7) (e2 dIdx (eFrz (lLst (aC (eV 7) (aC (eV 7) (aC (eA m__law_bent (aC (eV 1) (aC (eV 7) (aC (eV 10) aN)))) aN))))) (eA m__law_draw (aC (eV 1) (aC (eC (.int 3)) aN)))))
  (mSeq (mSet (gN 11) (eTrn (aC (eC (.str "NoName")) (aC (eC (.non)) aN))))
  (mSeq (mIf (tE (eA m__law_is_right (aC (eV 4) (aC (eV 6) (aC (eV 7) aN))))) (mSet (gN 11) (eTrn (aC (eC (.str "none")) (aC (eA m__law_renamed (aC (eV 3) (aC (eV 6) (aC (eV 7) aN)))) aN)))) mNil)
  (mIf (tNot (tE (eA (m__law_alike 8) (aC (eA m__law_asked (aC (eV 3) (aC (eV 6) (aC (eV 7) aN)))) (aC (eV 11) aN))))) (mRet (eC (.bl false))) mNil)))))))))
def l2_law : SM := (mSeq (mSet (gN 3) (eA m__law_shut (aC (eA m__law_blocks (aC (eV 1) (aC (eC (.int 5)) aN))) aN)))
  (mSeq (mSet (gN 4) (e1 dLen (eB 3)))
  (mFor (iRange1 (eC (.int 10))) (gN 5) l1_law)))
def b_law : SM := (mSeq (mSet (gN 1) (eA m__law_reel (aC (eV 0) aN)))
  (mSeq (mFor (iRange1 (e2 dAdd (eC (.int 1)) (e2 dMin2 (e1 dLen (eB 0)) (eC (.int 15))))) (gN 2) l2_law)
  (mRet (eC (.bl true)))))
def m_law : FM := runA 1 12 b_law
theorem d_law {P : Program} {w : World} {K : PySem.W.Frag} {mg : Str → Option Value} {base : Heap} (nm : Nm K mg) (D__law_reel : DefOk P w K mg base CX0 "_law_reel" 1 (sp0 K 1 m__law_reel)) (D__law_shut : DefOk P w K mg base CX0 "_law_shut" 1 (sp0 K 1 m__law_shut)) (D__law_blocks : DefOk P w K mg base CX0 "_law_blocks" 4 (sp0 K 2 m__law_blocks)) (D__law_names : DefOk P w K mg base CX0 "_law_names" 2 (sp0 K 2 m__law_names)) (D__law_draw : DefOk P w K mg base CX0 "_law_draw" 1 (sp0 K 2 m__law_draw)) (D__law_bent : DefOk P w K mg base CX0 "_law_bent" 2 (sp0 K 3 m__law_bent)) (D__law_is_right : DefOk P w K mg base CX0 "_law_is_right" 3 (sp0 K 3 m__law_is_right)) (D__law_renamed : DefOk P w K mg base CX0 "_law_renamed" 2 (sp0 K 3 m__law_renamed)) (D__law_alike : DefOk P w K mg base CX0 "_law_alike" 9 (sp0 K 2 (m__law_alike 8))) (D__law_asked : DefOk P w K mg base CX0 "_law_asked" 6 (sp0 K 3 m__law_asked)) : Body P w K mg base N_law "law" s_law 9 b_law := fun f cdv A outer s H E hr =>
  have nd := sc_law.nd
  ⟨_, (s_cons (s_set 1 nd (x_call D__law_reel runA_bad hr (by omega) (a_cons (x_v 0) a_nil)))
  (s_cons (s_for PassesOwn.never rfl (i_range1 nm.f_range (XE.bor (x_add (XE.bor x_int) (XE.bor (x_min2 rfl nm.f_min (XE.bor (x_len nm.f_len (x_b 0))) (XE.bor x_int)))))) (g_n 2 nd) (s_cons (s_set 3 nd (x_call D__law_shut runA_bad hr (by omega) (a_cons (x_call D__law_blocks runA_bad hr (by omega) (a_cons (x_v 1) (a_cons x_int a_nil))) a_nil)))
  (s_cons (s_set 4 nd (x_len nm.f_len (x_b 3)))
  (s_one (s_for PassesOwn.never rfl (i_range1 nm.f_range (XE.bor x_int)) (g_n 5 nd) (s_cons (s_asg (x_call D__law_names runA_bad hr (by omega) (a_cons (x_v 1) (a_cons (x_v 4) a_nil))) (g_u rfl (gs_cons (g_n 6 nd) (gs_cons (g_n 7 nd) gs_nil))))
  (s_cons (s_set 8 nd (x_ix (XE.bor (XL.frz (l_lst (a_cons (x_v 4) (a_cons (x_neg (XE.bor x_int)) (a_cons x_int (a_cons (x_sub (x_b 4) (XE.bor x_int)) (a_cons x_bl (a_cons x_str (a_cons x_non (a_cons (x_pow (XE.bor x_int) (XE.bor x_int)) a_nil))))))))))) (XE.bor (x_call D__law_draw runA_bad hr (by omega) (a_cons (x_v 1) (a_cons x_int a_nil))))))
  (s_cons (s_set 9 nd (XL.frz (l_lst (a_cons (x_trn (a_cons x_int (a_cons x_int (a_cons x_int (a_cons (x_neg (XE.bor x_int)) a_nil))))) (a_cons (x_trn (a_cons x_int (a_cons x_int (a_cons x_int (a_cons x_int a_nil))))) (a_cons (x_trn (a_cons x_int (a_cons x_int (a_cons x_int (a_cons x_int a_nil))))) (a_cons x_non (a_cons x_str (a_cons (XL.frz (l_lst (a_cons x_int (a_cons x_int (a_cons x_int (a_cons x_bl a_nil)))))) (a_cons (x_trn (a_cons x_int (a_cons x_int (a_cons x_int (a_cons x_int a_nil))))) a_nil))))))))))
  (s_cons (s_set 10 nd (x_ix (x_b 9) (XE.bor (x_call D__law_draw runA_bad hr (by omega) (a_cons (x_v 1) (a_cons x_int a_nil))))))
  (s_cons (s_set 6 nd (x_ix (XE.bor (XL.frz (l_lst (a_cons (x_v 6) (a_cons (x_call D__law_bent runA_bad hr (by omega) (a_cons (x_v 1) (a_cons (x_v 6) (a_cons (x_v 8) a_nil)))) a_nil))))) (XE.bor (x_call D__law_draw runA_bad hr (by omega) (a_cons (x_v 1) (a_cons x_int a_nil))))))
  (s_cons (s_set 7 nd (x_ix (XE.bor (XL.frz (l_lst (a_cons (x_v 7) (a_cons (x_v 7) (a_cons (x_call D__law_bent runA_bad hr (by omega) (a_cons (x_v 1) (a_cons (x_v 7) (a_cons (x_v 10) a_nil)))) a_nil)))))) (XE.bor (x_call D__law_draw runA_bad hr (by omega) (a_cons (x_v 1) (a_cons x_int a_nil))))))
  (s_cons (s_set 11 nd (x_trn (a_cons x_str (a_cons x_non a_nil))))
  (s_cons (s_if (t_val (XE.bor (x_call D__law_is_right runA_bad hr (by omega) (a_cons (x_v 4) (a_cons (x_v 6) (a_cons (x_v 7) a_nil)))))) (s_one (s_set 11 nd (x_trn (a_cons x_str (a_cons (x_call D__law_renamed runA_bad hr (by omega) (a_cons (x_v 3) (a_cons (x_v 6) (a_cons (x_v 7) a_nil)))) a_nil))))) s_nil)
  (s_one (s_if (t_not (t_val (XE.bor (x_call D__law_alike (mb__law_alike 8) hr (by omega) (a_cons (x_call D__law_asked runA_bad hr (by omega) (a_cons (x_v 3) (a_cons (x_v 6) (a_cons (x_v 7) a_nil)))) (a_cons (x_v 11) a_nil)))))) (s_one (s_ret x_bl)) s_nil)))))))))))))))
  (s_one (s_ret x_bl))))⟩
end LW
end

section
/-! The reel: draws. -/
namespace LW
open PySem BR
abbrev rlv (gs cs : List Int) (n s : Int) : Option BR.D := some (.lst [.lst (gs.map BR.D.int), .lst (cs.map BR.D.int), .int n, .int s])
theorem at0 {a b c d : BR.D} : L2.atI [a, b, c, d] 0 = some a := rfl
theorem at1 {a b c d : BR.D} : L2.atI [a, b, c, d] 1 = some b := rfl
theorem at2 {a b c d : BR.D} : L2.atI [a, b, c, d] 2 = some c := rfl
theorem at3 {a b c d : BR.D} : L2.atI [a, b, c, d] 3 = some d := rfl
theorem ix0 : L2.ixN 4 0 = some 0 := rfl
theorem ix1 : L2.ixN 4 1 = some 1 := rfl
theorem ix2 : L2.ixN 4 2 = some 2 := rfl
theorem ix3 : L2.ixN 4 3 = some 3 := rfl
theorem lstAt_of {S : Store} {k : Nat} {xs : List BR.D} (h : S[k]? = some (some (.lst xs))) : lstAt S k = some xs := by simp [lstAt, h]
theorem lt_of {S : Store} {k : Nat} {x : Option BR.D} (h : S[k]? = some x) : k < S.length := (List.getElem?_eq_some_iff.mp h).1
def t40 : Int := 2 ^ 40
def t63 : Int := 2 ^ 63
def t64 : Int := 2 ^ 64
def MR : Int := 2 ^ 64 * 2 ^ 63 - 1
theorem two40 {S : Store} : dPow (.int 2) (.int 40) S = .ok (.int t40) S := by rw [p_pow (by decide)]; rfl
theorem two63 {S : Store} : dPow (.int 2) (.int 63) S = .ok (.int t63) S := by rw [p_pow (by decide)]; rfl
theorem two64 {S : Store} : dPow (.int 2) (.int 64) S = .ok (.int t64) S := by rw [p_pow (by decide)]; rfl
theorem mul6463 {S : Store} : dMul (.int t64) (.int t63) S = .ok (.int (t64 * t63)) S := p_mul (by decide)
theorem mr_eq : t64 * t63 - 1 = MR := rfl
theorem mr_pos : 0 < MR := by decide
theorem okInts (xs : List Int) : ∀ k, (xs.map BR.D.int).all (okP (k + 1)) = true := fun k => by simp [List.all_eq_true, okP]
theorem ne_nil {S : Store} {gs : List Int} : dNe (.lst (gs.map BR.D.int)) (.lst []) S = .ok (.bl (decide (gs ≠ []))) S := by
  have h1 : okP deep (.lst (gs.map BR.D.int)) = true := okInts gs 58
  have h2 : okP deep (.lst []) = true := rfl
  cases gs with
  | nil => simp [dNe, h1, h2, eqD, toP, toPs, PyData.eqv, PyData.eqvAll]
  | cons g gs =>
    simp only [List.map_cons] at h1
    simp [dNe, h1, h2, eqD, toP, toPs, PyData.eqv, PyData.eqvAll]
theorem cut1 (d : BR.D) (xs : List BR.D) : cutD (d :: xs) (some 1) none = xs := by
  have e1 : HT.sIx (d :: xs).length 0 (some 1) = 1 := by simp [HT.sIx]
  have e2 : HT.sIx (d :: xs).length (d :: xs).length none = xs.length + 1 := by simp [HT.sIx]
  unfold cutD
  rw [e1, e2]
  simp
structure Rl (S : Store) (k : Nat) (c : Int) : Prop where
  ex : ∃ gs cs n s, S[k]? = some (rlv gs cs n s) ∧ gs.length ≤ 63 ∧ (cs ≠ [] ∧ cs.length ≤ 64 ∧ ∀ x ∈ cs, 0 ≤ x ∧ x < 1000003) ∧ (0 ≤ n ∧ n ≤ c) ∧ (0 ≤ s ∧ s < MR)
theorem Rl.lt {S : Store} {k : Nat} {c : Int} (h : Rl S k c) : k < S.length := by
  obtain ⟨_, _, _, _, h, _⟩ := h.ex
  exact lt_of h
theorem Rl.push {S : Store} {k : Nat} {c : Int} (h : Rl S k c) (xs : Store) : Rl (S ++ xs) k c := by
  have := h.lt
  obtain ⟨a, b, n, s, h1, h2⟩ := h.ex
  exact ⟨a, b, n, s, by rw [List.getElem?_append_left this]; exact h1, h2⟩
theorem Rl.at {S S' : Store} {k : Nat} {c : Int} (h : Rl S k c) (e : S'[k]? = S[k]?) : Rl S' k c := by
  obtain ⟨a, b, n, s, h1, h2⟩ := h.ex
  exact ⟨a, b, n, s, by rw [e]; exact h1, h2⟩
theorem Rl.le {S : Store} {k : Nat} {c d : Int} (h : Rl S k c) (hd : c ≤ d) : Rl S k d := by
  obtain ⟨a, b, n, s, h1, h2, h3, h4, h5⟩ := h.ex
  exact ⟨a, b, n, s, h1, h2, h3, ⟨h4.1, by omega⟩, h5⟩
/-- the same store but for k -/
def But (k : Nat) (S S' : Store) : Prop := S'.length = S.length ∧ ∀ j, j ≠ k → S'[j]? = S[j]?
theorem But.set {k : Nat} {S : Store} (x : Option BR.D) : But k S (S.set k x) := ⟨by simp, fun j hj => List.getElem?_set_ne (Ne.symm hj)⟩
theorem But.trans {k : Nat} {S S' S'' : Store} (h : But k S S') (h' : But k S' S'') : But k S S'' := ⟨h'.1.trans h.1, fun j hj => (h'.2 j hj).trans (h.2 j hj)⟩
theorem draw {S : Store} {k : Nat} {c many : Int} (h : Rl S k c) (hc : c < 1000000000) (hm : 0 < many) (hm2 : many < 2 ^ 200) :
    ∃ i S', m__law_draw [.ref k, .int many] S = .ok (.int i) S' ∧ (0 ≤ i ∧ i < many) ∧ Rl S' k (c + 1) ∧ But k S S' := by
  obtain ⟨gs, cs, n, s, hS, hg, ⟨hc1, hc2, hc3⟩, hn, hs⟩ := h.ex
  have hk := lt_of hS
  have gse : ∀ x, (S.set k x)[k]? = some x := fun x => List.getElem?_set_self hk
  have s2 := lstAt_of hS
  have hl : many.natAbs.log2 < 9000 := by
    have : many.natAbs.log2 < 200 := log2_lt (by omega) (by decide)
    omega
  cases gs with
  | cons g gs =>
    have e1 : L2.atI ((g :: gs).map BR.D.int) 0 = some (.int g) := by rw [List.map_cons, show (0 : Int) = ((0 : Nat) : Int) from rfl, atI_nat (by simp)]; rfl
    simp only [List.length_cons] at hg
    have cm : cutD ((g :: gs).map BR.D.int) (some 1) none = gs.map BR.D.int := by rw [List.map_cons]; exact cut1 _ _
    refine ⟨g % many, S.set k (rlv ((if many ≤ g then [g / many] else []) ++ gs) cs n s), ?_, ⟨Int.emod_nonneg _ (by omega), Int.emod_lt_of_pos _ hm⟩, ⟨_, cs, n, s, gse _, ?_, ⟨hc1, hc2, hc3⟩, ⟨hn.1, by omega⟩, hs⟩, But.set _⟩
    · by_cases hmg : many ≤ g
      · have l2 : gs.length + 1 ≤ 16777216 := by omega
        have l3 : 1 + gs.length ≤ 16777216 := by omega
        simp [m__law_draw, b__law_draw, BR.start, dIdx, at0, hS, ne_nil, e1, p_fdiv hm hl, p_mod hm, hmg, dInt, dMul, okRep, dAdd, cm, s2, ix0, lim, l2, l3, rlv, -List.map_cons]
        simp
      · have l2 : gs.length ≤ 16777216 := by omega
        simp [m__law_draw, b__law_draw, BR.start, dIdx, at0, hS, ne_nil, e1, p_fdiv hm hl, p_mod hm, hmg, dInt, dMul, okRep, dAdd, cm, s2, ix0, lim, l2, rlv, -List.map_cons]
    · split <;> simp <;> omega
  | nil =>
    have hcl : (0 : Int) < cs.length := by
      have : cs.length ≠ 0 := fun e => hc1 (List.length_eq_zero_iff.mp e)
      omega
    have hi0 : 0 ≤ (n + 1) % (cs.length : Int) := Int.emod_nonneg _ (by omega)
    have hi1 : (n + 1) % (cs.length : Int) < cs.length := Int.emod_lt_of_pos _ hcl
    obtain ⟨x, hx, ex⟩ : ∃ x, x ∈ cs ∧ L2.atI (cs.map BR.D.int) ((n + 1) % (cs.length : Int)) = some (.int x) := by
      refine ⟨cs[((n + 1) % (cs.length : Int)).toNat]'(by omega), List.getElem_mem _, ?_⟩
      rw [atI_map, atI_int hi0 (by omega)]
      rfl
    have hx3 := hc3 x hx
    have g1 : s.natAbs.log2 < 128 := log2_lt (by
      have : MR < 2 ^ 128 := by decide
      omega) (by decide)
    have g2 : (x + 7).natAbs.log2 < 31 := log2_lt (by omega) (by decide)
    have g3 : (69621 : Int).natAbs.log2 < 20 := by decide
    have g4 : (n + 1).natAbs.log2 < 31 := log2_lt (by omega) (by decide)
    have g5 : (1000003 : Int).natAbs.log2 < 21 := by decide
    refine ⟨(s * s + (x + 7) * 69621 + (n + 1) * 1000003) % MR / t40 % many, S.set k (rlv [] cs (n + 1) ((s * s + (x + 7) * 69621 + (n + 1) * 1000003) % MR)), ?_, ⟨Int.emod_nonneg _ (by omega), Int.emod_lt_of_pos _ hm⟩, ⟨[], cs, _, _, gse _, by simp, ⟨hc1, hc2, hc3⟩, ⟨by omega, by omega⟩, ⟨Int.emod_nonneg _ (by decide), Int.emod_lt_of_pos _ mr_pos⟩⟩, But.set _⟩
    have nn := ne_nil (S := S) (gs := [])
    simp only [List.map_nil] at nn
    have hlen : dLen (.lst (cs.map BR.D.int)) = fun S => .ok (.int cs.length) S := by funext S; simp [dLen]
    simp [m__law_draw, b__law_draw, BR.start, dIdx, at0, at1, at2, at3, hS, nn, s2, ix2, ix3, lstAt, gse, hlen, p_mod hcl, ex, p_mul (show s.natAbs.log2 + s.natAbs.log2 < 1000000 by omega), p_mul (show (x + 7).natAbs.log2 + (69621 : Int).natAbs.log2 < 1000000 by omega),
      p_mul (show (n + 1).natAbs.log2 + (1000003 : Int).natAbs.log2 < 1000000 by omega), two40, two63, two64, mul6463, mr_eq, p_mod mr_pos, p_mod hm, p_fdiv (show 0 < t40 by decide) (show t40.natAbs.log2 < 9000 by decide), lim, rlv]
end LW

end

section
/-! Turns; spaces in the store. -/
namespace LW
open PySem BR
def turnsL : List (List Nat) := [[0, 1, 2, 3], [0, 1, 3, 2], [0, 2, 1, 3], [0, 2, 3, 1], [0, 3, 1, 2], [0, 3, 2, 1], [1, 0, 2, 3], [1, 0, 3, 2], [1, 2, 0, 3], [1, 2, 3, 0], [1, 3, 0, 2], [1, 3, 2, 0], [2, 0, 1, 3], [2, 0, 3, 1], [2, 1, 0, 3], [2, 1, 3, 0], [2, 3, 0, 1], [2, 3, 1, 0], [3, 0, 1, 2], [3, 0, 2, 1], [3, 1, 0, 2], [3, 1, 2, 0], [3, 2, 0, 1], [3, 2, 1, 0]]
def invL : List Nat := [0, 1, 2, 4, 3, 5, 6, 7, 12, 18, 13, 19, 8, 10, 14, 20, 16, 22, 9, 11, 15, 21, 17, 23]
def tn (t f : Nat) : Nat := (turnsL.getD t []).getD f 0
def iv (t : Nat) : Nat := invL.getD t 0
def dT (t : Nat) : BR.D := .trn [.int (tn t 0), .int (tn t 1), .int (tn t 2), .int (tn t 3)]
theorem tn_lt : ∀ t < 24, ∀ f < 4, tn t f < 4 := by decide
theorem iv_lt : ∀ t < 24, iv t < 24 := by decide
theorem iv_tn : ∀ t < 24, ∀ f < 4, tn (iv t) (tn t f) = f := by decide
theorem tn_iv : ∀ t < 24, ∀ f < 4, tn t (tn (iv t) f) = f := by decide
theorem iv_iv : ∀ t < 24, iv (iv t) = t := by decide
theorem turns_ok {S : Store} : m__law_turns [] S = .ok (.lst ((List.range 24).map dT)) S := by rfl
theorem back_ok {S : Store} : ∀ {t : Nat}, t < 24 → m__law_back [dT t] S = .ok (dT (iv t)) S
  | 0, _ => rfl
  | 1, _ => rfl
  | 2, _ => rfl
  | 3, _ => rfl
  | 4, _ => rfl
  | 5, _ => rfl
  | 6, _ => rfl
  | 7, _ => rfl
  | 8, _ => rfl
  | 9, _ => rfl
  | 10, _ => rfl
  | 11, _ => rfl
  | 12, _ => rfl
  | 13, _ => rfl
  | 14, _ => rfl
  | 15, _ => rfl
  | 16, _ => rfl
  | 17, _ => rfl
  | 18, _ => rfl
  | 19, _ => rfl
  | 20, _ => rfl
  | 21, _ => rfl
  | 22, _ => rfl
  | 23, _ => rfl
  | n + 24, h => absurd h (by omega)
/-- turn[face] -/
theorem dT_at {S : Store} {t f : Nat} (hf : f < 4) : dIdx (dT t) (.int f) S = .ok (.int (tn t f)) S := by
  match f, hf with
  | 0, _ => rfl
  | 1, _ => rfl
  | 2, _ => rfl
  | 3, _ => rfl
  | n + 4, h => exact absurd h (by omega)
abbrev Spc : Type := Nat → Nat → Option (Nat × Nat)
def dF : Option (Nat × Nat) → BR.D
  | none => .non
  | some (o, t) => .trn [.int o, dT t]
def Row (s : Spc) (i : Nat) : List BR.D := [dF (s i 0), dF (s i 1), dF (s i 2), dF (s i 3)]
theorem Row_len {s : Spc} {i : Nat} : (Row s i).length = 4 := rfl
theorem Row_at {s : Spc} {i f : Nat} (hf : f < 4) : (Row s i)[f]? = some (dF (s i f)) := by
  match f, hf with
  | 0, _ => rfl
  | 1, _ => rfl
  | 2, _ => rfl
  | 3, _ => rfl
  | n + 4, h => exact absurd h (by omega)
def put (s : Spc) (b f : Nat) (x : Option (Nat × Nat)) : Spc := fun i g => if i = b ∧ g = f then x else s i g
theorem Row_put {s : Spc} {b f : Nat} {x : Option (Nat × Nat)} (hf : f < 4) : Row (put s b f x) b = (Row s b).set f (dF x) := by
  match f, hf with
  | 0, _ => simp [Row, put]
  | 1, _ => simp [Row, put]
  | 2, _ => simp [Row, put]
  | 3, _ => simp [Row, put]
  | n + 4, h => exact absurd h (by omega)
theorem Row_put_ne {s : Spc} {b f i : Nat} {x : Option (Nat × Nat)} (h : i ≠ b) : Row (put s b f x) i = Row s i := by simp [Row, put, h]
/-- the space stands at kb, its blocks at ks, all behind b -/
structure SpAt (S : BR.Store) (lo kb : Nat) (ks : List Nat) (n : Nat) (s : Spc) : Prop where
  top : S[kb]? = some (some (BR.D.lst (ks.map BR.D.ref)))
  len : ks.length = n
  row : ∀ i k, ks[i]? = some k → S[k]? = some (some (BR.D.lst (Row s i)))
  nd : ks.Nodup
  nb : kb ∉ ks
  low : lo ≤ kb ∧ ∀ k ∈ ks, lo ≤ k
section
variable {S S' : Store} {lo kb n : Nat} {ks : List Nat} {s : Spc}
theorem SpAt.get (h : SpAt S lo kb ks n s) {i : Nat} (hi : i < n) : ∃ k, ks[i]? = some k ∧ k ∈ ks ∧ dIdx (.ref kb) (.int i) S = .ok (.ref k) S := by
  have hi' : i < ks.length := by rw [h.len]; exact hi
  refine ⟨ks[i], List.getElem?_eq_getElem hi', List.getElem_mem hi', ?_⟩
  have e : L2.atI (ks.map BR.D.ref) (i : Int) = some (.ref ks[i]) := by
    rw [atI_map, atI_nat hi']
    rfl
  simp [dIdx, h.top, e]
theorem SpAt.face (h : SpAt S lo kb ks n s) {i k f : Nat} (hk : ks[i]? = some k) (hf : f < 4) : dIdx (.ref k) (.int f) S = .ok (dF (s i f)) S := by
  have e : L2.atI (Row s i) (f : Int) = some (dF (s i f)) := by
    rw [atI_nat (by rw [Row_len]; exact hf)]
    have := Row_at (s := s) (i := i) hf
    rw [List.getElem?_eq_getElem (by rw [Row_len]; exact hf)] at this
    exact this
  simp [dIdx, h.row i k hk, e]
theorem SpAt.at (h : SpAt S lo kb ks n s) (e : ∀ j, lo ≤ j → S'[j]? = S[j]?) : SpAt S' lo kb ks n s :=
  ⟨by rw [e _ h.low.1]; exact h.top, h.len, fun i k hk => by rw [e _ (h.low.2 k (List.mem_of_getElem? hk))]; exact h.row i k hk, h.nd, h.nb, h.low⟩
theorem SpAt.put (h : SpAt S lo kb ks n s) {b k f : Nat} {x : Option (Nat × Nat)} (hk : ks[b]? = some k) (hf : f < 4) : SpAt (S.set k (some (.lst ((Row s b).set f (dF x))))) lo kb ks n (put s b f x) := by
  have hm := List.mem_of_getElem? hk
  have hlt := lt_of (h.row b k hk)
  have hne : k ≠ kb := fun q => h.nb (by rw [← q]; exact hm)
  refine ⟨by rw [List.getElem?_set_ne hne]; exact h.top, h.len, fun i k' hk' => ?_, h.nd, h.nb, h.low⟩
  by_cases q : i = b
  · subst q
    rw [hk] at hk'
    cases hk'
    rw [List.getElem?_set_self hlt, Row_put hf]
  · have : k ≠ k' := fun z => q (by
      subst z
      exact (List.getElem?_inj (List.getElem?_eq_some_iff.mp hk').1 h.nd).mp (hk'.trans hk.symm))
    rw [List.getElem?_set_ne this, Row_put_ne q]
    exact h.row i k' hk'
theorem ixN_nat {m k : Nat} (h : k < m) : L2.ixN m (k : Int) = some k := by
  unfold L2.ixN
  rw [if_pos (by omega), if_pos (by omega)]
  simp
/-- what does not lie at ks is as it was -/
def Kp (ks : List Nat) (S S' : Store) : Prop := S'.length = S.length ∧ ∀ j, j ∉ ks → S'[j]? = S[j]?
def set2 (s : Spc) (b f o t : Nat) : Spc := LW.put (LW.put s b f (some (o, t))) o (tn t f) (some (b, iv t))
theorem set_ok (h : SpAt S lo kb ks n s) {b f o t : Nat} (hb : b < n) (hf : f < 4) (ho : o < n) (ht : t < 24) :
    ∃ S', m__law_set [.ref kb, .int b, .int f, .int o, dT t] S = .ok .non S' ∧ SpAt S' lo kb ks n (set2 s b f o t) ∧ Kp ks S S' := by
  obtain ⟨k, k1, k2, k3⟩ := h.get hb
  have hr := h.row b k k1
  have h2 := h.put (x := some (o, t)) k1 hf
  generalize hS1 : S.set k (some (.lst ((Row s b).set f (dF (some (o, t)))))) = S1 at h2
  obtain ⟨k', q1, q2, q3⟩ := h2.get ho
  have hg := tn_lt t ht f hf
  have hr2 := h2.row o k' q1
  have h3 := h2.put (x := some (b, iv t)) q1 hg
  refine ⟨_, ?_, h3, ?_⟩
  · have i1 : L2.ixN (Row s b).length (f : Int) = some f := ixN_nat (by rw [Row_len]; exact hf)
    have i2 : L2.ixN (Row (LW.put s b f (some (o, t))) o).length ((tn t f : Nat) : Int) = some (tn t f) := ixN_nat (by rw [Row_len]; exact hg)
    have a1 := lstAt_of hr
    have a2 := lstAt_of hr2
    have d1 : (BR.D.trn [.int o, dT t]) = dF (some (o, t)) := rfl
    have d2 : (BR.D.trn [.int b, dT (iv t)]) = dF (some (b, iv t)) := rfl
    simp [m__law_set, b__law_set, BR.start, k3, a1, i1, lim, d1, hS1, back_ok ht, q3, dT_at hf, a2, i2, d2]
  · rw [← hS1]
    refine ⟨by simp, fun j hj => ?_⟩
    have l1 : k' ≠ j := fun q => hj (q ▸ q2)
    have l2 : k ≠ j := fun q => hj (q ▸ k2)
    rw [List.getElem?_set_ne l1, List.getElem?_set_ne l2]
/-- joinings that go both ways -/
def Valid (n : Nat) (s : Spc) : Prop := ∀ i < n, ∀ f < 4, ∀ o t, s i f = some (o, t) → o < n ∧ t < 24 ∧ (o, tn t f) ≠ (i, f) ∧ s o (tn t f) = some (i, iv t)
theorem Valid.set (v : Valid n s) {b f o t : Nat} (hb : b < n) (hf : f < 4) (ho : o < n) (ht : t < 24) (h1 : s b f = none) (h2 : s o (tn t f) = none) (hne : (o, tn t f) ≠ (b, f)) : Valid n (set2 s b f o t) := by
  have hg := tn_lt t ht f hf
  have at1 : set2 s b f o t b f = some (o, t) := by
    have : ¬ (b = o ∧ f = tn t f) := fun q => hne (by rw [← q.1, ← q.2])
    simp [set2, LW.put, this]
  have at2 : set2 s b f o t o (tn t f) = some (b, iv t) := by simp [set2, LW.put]
  have atn : ∀ i g, ¬ (i = b ∧ g = f) → ¬ (i = o ∧ g = tn t f) → set2 s b f o t i g = s i g := fun i g z1 z2 => by simp [set2, LW.put, z1, z2]
  intro i hi g hg' p u e
  by_cases z1 : i = b ∧ g = f
  · obtain ⟨rfl, rfl⟩ := z1
    rw [at1] at e
    cases e
    exact ⟨ho, ht, hne, at2⟩
  · by_cases z2 : i = o ∧ g = tn t f
    · obtain ⟨rfl, rfl⟩ := z2
      rw [at2] at e
      cases e
      rw [iv_tn t ht f hf, iv_iv t ht]
      exact ⟨hb, iv_lt t ht, fun q => hne q.symm, at1⟩
    · rw [atn i g z1 z2] at e
      obtain ⟨a1, a2, a3, a4⟩ := v i hi g hg' p u e
      refine ⟨a1, a2, a3, ?_⟩
      rw [atn]
      · exact a4
      · rintro ⟨q1, q2⟩
        rw [q1, q2, h1] at a4
        cases a4
      · rintro ⟨q1, q2⟩
        rw [q1, q2, h2] at a4
        cases a4
end
end LW

end

section
/-! A space out of any pairs of faces. -/
namespace LW
open PySem BR
/-- all but kr ahead of lo is as it was -/
def Fr (kr lo : Nat) (S S' : Store) : Prop := S.length ≤ S'.length ∧ ∀ j, j < lo → j ≠ kr → S'[j]? = S[j]?
theorem Fr.refl {kr lo : Nat} {S : Store} : Fr kr lo S S := ⟨Nat.le_refl _, fun _ _ _ => rfl⟩
theorem Fr.trans {kr lo : Nat} {S S' S'' : Store} (h : Fr kr lo S S') (h' : Fr kr lo S' S'') : Fr kr lo S S'' := ⟨Nat.le_trans h.1 h'.1, fun j a b => (h'.2 j a b).trans (h.2 j a b)⟩
theorem But.fr {kr lo : Nat} {S S' : Store} (h : But kr S S') : Fr kr lo S S' := ⟨Nat.le_of_eq h.1.symm, fun j _ b => h.2 j b⟩
theorem Fr.push {kr lo : Nat} {S S' : Store} (h : lo ≤ S.length) : Fr kr lo S (S ++ S') := ⟨by simp, fun j a _ => List.getElem?_append_left (by omega)⟩
abbrev noRow : Option BR.D := some (.lst [.non, .non, .non, .non])
theorem rep4 {S : Store} : lRep (.lst [.non]) (.int 4) S = .ok [.non, .non, .non, .non] S := by rfl
theorem row0 : Row (fun _ _ => none) = fun _ => [BR.D.non, .non, .non, .non] := rfl
/-- a new space without joinings -/
theorem new_ok {S : Store} {n : Nat} (hn : n ≤ 100) {r : BR.Env} {vs : List Nat} {i5 : Nat} :
    ∃ rs, lcGo (gN i5) tYes (eNew (l2 lRep (eFrz (lLst (aC (eC (.non)) aN))) (eC (.int 4)))) r (rangeD 0 n) [] S = .ok rs (S ++ List.replicate n noRow) ∧ rs = ((List.range n).map fun i => BR.D.ref (S.length + i)) := by
  obtain ⟨acc, S2, e, ⟨h1, h2⟩, h3⟩ := lcR_inv (g := gN i5) (t := tYes) (e := eNew (l2 lRep (eFrz (lLst (aC (eC (.non)) aN))) (eC (.int 4)))) (r := r) (j0 := (n : Int)) (S := S) (by omega) (by omega)
    (fun i acc S' => acc = ((List.range i).map fun i => BR.D.ref (S.length + i)) ∧ S' = S ++ List.replicate i noRow) (fun i acc S' hi ha h => by
      obtain ⟨h1, rfl⟩ := h
      refine ⟨_, _, _, rfl, rfl, by simp [lim, rep4]; exact ⟨rfl, rfl⟩, ?_, ?_⟩
      · rw [h1, List.range_succ, List.map_append]
        simp
      · rw [List.replicate_succ']) ⟨rfl, by simp⟩
  simp only [Int.toNat_natCast] at h1 h2
  exact ⟨acc, by rw [e, h2], h1⟩
theorem new_at {S : Store} {n : Nat} (X : Store) : SpAt (S ++ List.replicate n noRow ++ some (BR.D.lst (((List.range n).map fun i => S.length + i).map BR.D.ref)) :: X) S.length (S.length + n) ((List.range n).map fun i => S.length + i) n (fun _ _ => none) := by
  refine ⟨?_, by simp, fun i k hk => ?_, ?_, ?_, ?_, ?_⟩
  · rw [List.getElem?_append_right (by simp)]
    simp
  · rw [List.getElem?_map] at hk
    by_cases hi : i < n
    · rw [List.getElem?_range hi] at hk
      cases hk
      show (S ++ List.replicate n noRow ++ _)[S.length + i]? = _
      rw [List.getElem?_append_left (by simp; omega), List.getElem?_append_right (by omega)]
      simp [hi, row0]
    · rw [List.getElem?_eq_none_iff.mpr (by simpa using hi)] at hk
      cases hk
  · refine List.Pairwise.map _ (fun a b h => ?_) List.nodup_range
    intro q
    exact h (by omega)
  · intro q
    obtain ⟨i, h1, h2⟩ := List.mem_map.mp q
    have := List.mem_range.mp h1
    omega
  · omega
  · intro k hk
    obtain ⟨i, h1, rfl⟩ := List.mem_map.mp hk
    omega
/-! faces, numbered -/
def dP (p : Nat × Nat) : BR.D := .trn [.int p.1, .int p.2]
def allP (n : Nat) : List (Nat × Nat) := (List.range (4 * n)).map fun k => (k / 4, k % 4)
theorem allP_mem {n : Nat} {p : Nat × Nat} (h : p ∈ allP n) : p.1 < n ∧ p.2 < 4 := by
  obtain ⟨k, h1, rfl⟩ := List.mem_map.mp h
  have := List.mem_range.mp h1
  exact ⟨by show k / 4 < n; omega, by show k % 4 < 4; omega⟩
theorem allP_nodup {n : Nat} : (allP n).Nodup := by
  refine List.Pairwise.map _ (fun a b h => ?_) List.nodup_range
  intro q
  have h1 : a / 4 = b / 4 := congrArg Prod.fst q
  have h2 : a % 4 = b % 4 := congrArg Prod.snd q
  exact h (by omega)
theorem allP_len {n : Nat} : (allP n).length = 4 * n := by simp [allP]
theorem left_ok {S : Store} {n i4 : Nat} {r : BR.Env} (hn : n ≤ 100) (hr : ∀ d, (r.set i4 (.val d))[i4]? = some (.val d)) :
    lcGo (gN i4) tYes (eTrn (aC (e2 dFdiv (eB i4) (eC (.int 4))) (aC (e2 dMod (eB i4) (eC (.int 4))) aN))) r (rangeD 0 (4 * (n : Int))) [] S = .ok ((allP n).map dP) S := by
  have e4 : ∀ k : Nat, (k : Int) / 4 = ((k / 4 : Nat) : Int) := fun k => by omega
  have e5 : ∀ k : Nat, (k : Int) % 4 = ((k % 4 : Nat) : Int) := fun k => by omega
  have lc := lcGo_map (g := gN i4) (t := tYes) (e := eTrn (aC (e2 dFdiv (eB i4) (eC (.int 4))) (aC (e2 dMod (eB i4) (eC (.int 4))) aN))) (r := r) (S := S) (ds := rangeD 0 (4 * (n : Int))) (acc := []) (fun _ => true) (fun d => match d with
    | .int k => dP ((k.toNat) / 4, (k.toNat) % 4)
    | d => d) (fun d hd => by
      obtain ⟨j, hj⟩ := List.getElem?_of_mem hd
      obtain ⟨rfl, hk⟩ := rangeD_at hj
      refine ⟨_, rfl, rfl, fun _ => ?_⟩
      have f1 : dFdiv (.int (0 + (j : Int))) (.int 4) S = .ok (.int ((j / 4 : Nat) : Int)) S := by rw [p_fdiv (by decide) (by decide), show (0 : Int) + (j : Int) = (j : Int) by omega, e4]
      have f2 : dMod (.int (0 + (j : Int))) (.int 4) S = .ok (.int ((j % 4 : Nat) : Int)) S := by rw [p_mod (by decide), show (0 : Int) + (j : Int) = (j : Int) by omega, e5]
      simp only [p_eTrn, p_aC, p_e2, p_eB, p_gN, hr, p_eC, bind_ok, f1, f2, p_aN]
      rw [if_pos (show _ ≤ lim by simp [lim])]
      have : ((0 : Int) + (j : Int)).toNat = j := by omega
      simp only [dP, this]) (by rw [rangeD_len]; simp [lim]; omega)
  rw [lc]
  congr 1
  rw [List.nil_append, List.filter_eq_self.mpr (fun _ _ => rfl)]
  unfold rangeD allP
  rw [List.map_map, List.map_map, show (4 * (n : Int) - 0).toNat = 4 * n by omega]
  refine List.map_congr_left fun k _ => ?_
  simp
theorem perm_pop {α : Type} {P Q : List α} {p : Nat} (h : p < Q.length) : ((P ++ [Q[p]]) ++ Q.eraseIdx p).Perm (P ++ Q) := by
  rw [List.append_assoc]
  refine List.Perm.append_left P ?_
  rw [List.eraseIdx_eq_take_drop_succ]
  have e : Q = Q.take p ++ Q[p] :: Q.drop (p + 1) := by rw [← List.drop_eq_getElem_cons h, List.take_append_drop]
  conv => rhs; rw [e]
  exact (List.perm_middle (a := Q[p]) (l₁ := Q.take p) (l₂ := Q.drop (p + 1))).symm
/-- the faces in another order -/
theorem mix_ok {S : Store} {kr kl n : Nat} {c : Int} {x2 x5 x6 x7 x8 x9 x10 : BR.Slot} (hr : Rl S kr c) (hc : c < 100000000) (hn : 0 < n ∧ n ≤ 12) (hne : kl ≠ kr) (hl : S[kl]? = some (some (.lst ((allP n).map dP)))) :
    ∃ (P : List (Nat × Nat)) (S' : Store), lcGo (gN 4) tYes (ePopAt (eV 3) (eA m__law_draw (aC (eV 0) (aC (e1 dLen (eB 3)) aN)))) [.val (.ref kr), .val (.int n), x2, .val (.ref kl), .no, x5, x6, x7, x8, x9, x10] (rangeD 0 (4 * (n : Int))) [] S = .ok (P.map dP) S' ∧ P.Perm (allP n) ∧ Rl S' kr (c + 4 * n) ∧ S'.length = S.length ∧ ∀ j, j ≠ kr → j ≠ kl → S'[j]? = S[j]? := by
  obtain ⟨acc, S2, e, ⟨P, Q, rfl, h1, h2, h3, h4, h5⟩, h6⟩ := lcR_inv (g := gN 4) (t := tYes) (e := ePopAt (eV 3) (eA m__law_draw (aC (eV 0) (aC (e1 dLen (eB 3)) aN)))) (r := [.val (.ref kr), .val (.int n), x2, .val (.ref kl), .no, x5, x6, x7, x8, x9, x10]) (j0 := 4 * (n : Int)) (S := S) (by omega) (by omega)
    (fun i acc S' => ∃ P Q : List (Nat × Nat), acc = P.map dP ∧ S'[kl]? = some (some (.lst (Q.map dP))) ∧ (P ++ Q).Perm (allP n) ∧ Rl S' kr (c + i) ∧ S'.length = S.length ∧ ∀ j, j ≠ kr → j ≠ kl → S'[j]? = S[j]?) (fun i acc S' hi ha h => by
      obtain ⟨P, Q, rfl, h1, h2, h3, h4, h5⟩ := h
      have hpl := h2.length_eq
      rw [List.length_append, allP_len] at hpl
      rw [List.length_map] at ha
      obtain ⟨p, S2, e, hp, r2, b⟩ := draw (many := (Q.length : Int)) h3 (by omega) (by omega) (by omega)
      have hk2 : S2[kl]? = some (some (.lst (Q.map dP))) := by rw [b.2 kl hne]; exact h1
      have hpq : p.toNat < Q.length := by omega
      have ix : L2.ixN Q.length p = some p.toNat := by unfold L2.ixN; rw [if_pos hp.1, if_pos hp.2]
      have a1 := lstAt_of h1
      have a2 := lstAt_of hk2
      have ln : dLen (.ref kl) S' = .ok (.int Q.length) S' := by simp [dLen, h1]
      have big : -9223372036854775808 ≤ p ∧ p < 9223372036854775808 := by omega
      have hq : Q[p.toNat]? = some Q[p.toNat] := List.getElem?_eq_getElem hpq
      refine ⟨_, dP Q[p.toNat], S2.set kl (some (.lst ((Q.eraseIdx p.toNat).map dP))), rfl, rfl, ?_, P ++ [Q[p.toNat]], Q.eraseIdx p.toNat, by simp, List.getElem?_set_self (lt_of hk2), ((perm_pop hpq).trans h2), ?_, by simp [b.1, h4], fun j z1 z2 => ?_⟩
      · have em : (Q.map dP).eraseIdx p.toNat = (Q.eraseIdx p.toNat).map dP := by
          simp [List.eraseIdx_eq_take_drop_succ]
        simp [a1, ln, e, a2, ix, big, hq, em]
      · exact (r2.at (List.getElem?_set_ne hne)).le (by omega)
      · rw [List.getElem?_set_ne (Ne.symm z2), b.2 j z1]
        exact h5 j z1 z2)
    ⟨[], allP n, rfl, hl, by simp, by simpa using hr, rfl, fun _ _ _ => rfl⟩
  rw [List.length_map] at h6
  have hpl := h2.length_eq
  rw [List.length_append, allP_len] at hpl
  have : Q = [] := List.length_eq_zero_iff.mp (by omega)
  subst this
  rw [List.append_nil] at h2
  exact ⟨P, S2, e, h2, h3.le (by omega), h4, h5⟩
end LW

end

section
namespace LW
open PySem BR
/-- the turns that take face f to g -/
def someT (f g : Nat) : List Nat := (List.range 24).filter fun t => tn t f == g
theorem someT_len : ∀ f < 4, ∀ g < 4, (someT f g).length = 6 := by decide
theorem someT_mem {f g t : Nat} (h : t ∈ someT f g) : t < 24 ∧ tn t f = g := by
  obtain ⟨h1, h2⟩ := List.mem_filter.mp h
  exact ⟨List.mem_range.mp h1, eq_of_beq h2⟩
/-- [turn for turn in turns if turn[face] == at] -/
theorem some_ok {S : Store} {f g : Nat} {r : BR.Env} (hf : f < 4) (h6 : ∀ d, (r.set 10 (.val d))[6]? = some (.val (.int f))) (h8 : ∀ d, (r.set 10 (.val d))[8]? = some (.val (.int g))) (h10 : ∀ d, (r.set 10 (.val d))[10]? = some (.val d)) :
    lcGo (gN 10) (tE (e2 dEq (e2 dIdx (eB 10) (eB 6)) (eB 8))) (eV 10) r ((List.range 24).map dT) [] S = .ok ((someT f g).map dT) S := by
  have lc := lcGo_map (g := gN 10) (t := tE (e2 dEq (e2 dIdx (eB 10) (eB 6)) (eB 8))) (e := eV 10) (r := r) (S := S) (ds := (List.range 24).map dT) (acc := []) (fun d => match dIdx d (.int f) S with
    | .ok (.int x) _ => decide (x = g)
    | _ => false) (fun d => d) (fun d hd => by
      obtain ⟨t, _, rfl⟩ := List.mem_map.mp hd
      refine ⟨_, rfl, ?_, fun _ => ?_⟩
      · simp [h10, h6, h8, dT_at hf]
      · simp [h10]) (by simp [lim])
  rw [lc, List.nil_append, List.map_id', List.filter_map]
  congr 2
  unfold someT
  refine List.filter_congr fun t _ => ?_
  simp only [Function.comp_apply, dT_at hf]
  by_cases q : tn t f = g
  · simp [q]
  · have : ¬ ((tn t f : Nat) : Int) = (g : Int) := by omega
    simp [q, this]
theorem noneV {n : Nat} : Valid n (fun _ _ => none) := fun i _ f _ o t e => by cases e
/-- the loop's invariant -/
def AnyI (n kr kb kp lo : Nat) (ks : List Nat) (P : List (Nat × Nat)) (c : Int) (S : Store) (i : Int) (r : BR.Env) (S' : Store) : Prop :=
  ∃ x4 x5 x6 x7 x8 x9 x10 s, r = [.val (.ref kr), .val (.int n), .val (.ref kb), .val (.ref kp), x4, x5, x6, x7, x8, x9, x10] ∧ SpAt S' lo kb ks n s ∧ Valid n s ∧ (∀ i' f', (∃ z, s i' f' = some z) → ∃ j : Nat, (j : Int) < 2 * i ∧ P[j]? = some (i', f')) ∧ S'[kp]? = some (some (BR.D.lst (P.map dP))) ∧ Rl S' kr (c + i) ∧ Fr kr lo S S'
theorem spBut {kr lo kb n : Nat} {ks : List Nat} {S0 S' : Store} {s : Spc} (b : But kr S0 S') (h1 : kb ≠ kr) (h2 : kr ∉ ks) (sp : SpAt S0 lo kb ks n s) : SpAt S' lo kb ks n s := by
  refine ⟨by rw [b.2 kb h1]; exact sp.top, sp.len, fun i k hk => ?_, sp.nd, sp.nb, sp.low⟩
  have : k ≠ kr := fun q => h2 (q ▸ List.mem_of_getElem? hk)
  rw [b.2 k this]
  exact sp.row i k hk
theorem any_step {n kr kb kp lo : Nat} {ks : List Nat} {P : List (Nat × Nat)} {c i m : Int} {S S' : Store} {r : BR.Env} (hn : 0 < n ∧ n ≤ 12) (hc : c < 100000000) (hP : P.Perm (allP n)) (hPn : P.Nodup) (hPl : P.length = 4 * n) (hkb : kb ≠ kr) (hkpn : kp ≠ kr ∧ kp ∉ ks) (hkrn : kr ∉ ks) (hlo : ∀ k ∈ ks, lo ≤ k)
    (hm : m ≤ 2 * n) (i0 : 0 ≤ i) (i1 : i < m) (h : AnyI n kr kb kp lo ks P c S i r S') : ∃ r1 r2 S2, gN 4 (.int i) r = some r1 ∧ (l1__law_any r1 S' = .ok (.nx r2) S2 ∨ l1__law_any r1 S' = .ok (.ct r2) S2) ∧ AnyI n kr kb kp lo ks P c S (i + 1) r2 S2 := by
  obtain ⟨x4, x5, x6, x7, x8, x9, x10, s, rfl, sp, v, z, hp, rl, f⟩ := h
  obtain ⟨k, rfl⟩ := Int.eq_ofNat_of_zero_le i0
  have h1 : 2 * k < P.length := by omega
  have h2 : 2 * k + 1 < P.length := by omega
  rcases hb : P[2 * k] with ⟨b, fa⟩
  rcases ho : P[2 * k + 1] with ⟨o, g⟩
  have p1 : P[2 * k]? = some (b, fa) := by rw [List.getElem?_eq_getElem h1, hb]
  have p2 : P[2 * k + 1]? = some (o, g) := by rw [List.getElem?_eq_getElem h2, ho]
  have m1 := allP_mem (hP.mem_iff.mp (List.mem_of_getElem? p1))
  have m2 := allP_mem (hP.mem_iff.mp (List.mem_of_getElem? p2))
  simp only at m1 m2
  have nb : s b fa = none := by
    cases q : s b fa with
    | none => rfl
    | some w =>
      obtain ⟨j, j1, j2⟩ := z b fa ⟨w, q⟩
      have := (List.getElem?_inj (List.getElem?_eq_some_iff.mp j2).1 hPn).mp (j2.trans p1.symm)
      omega
  have no : s o g = none := by
    cases q : s o g with
    | none => rfl
    | some w =>
      obtain ⟨j, j1, j2⟩ := z o g ⟨w, q⟩
      have := (List.getElem?_inj (List.getElem?_eq_some_iff.mp j2).1 hPn).mp (j2.trans p2.symm)
      omega
  have hne : (o, g) ≠ (b, fa) := fun q => by
    have := (List.getElem?_inj h2 hPn).mp (p2.trans (by rw [q]; exact p1.symm))
    omega
  obtain ⟨d, S8, e8, b8, r8, u8⟩ := draw (many := 6) rl (by omega) (by omega) (by omega)
  have sl := someT_len fa m1.2 g m2.2
  have hd : d.toNat < (someT fa g).length := by omega
  obtain ⟨t, ht⟩ : ∃ t, t = (someT fa g)[d.toNat] := ⟨_, rfl⟩
  have tm := someT_mem (ht ▸ List.getElem_mem hd : t ∈ someT fa g)
  have et : dIdx (.lst ((someT fa g).map dT)) (.int d) S8 = .ok (dT t) S8 := by
    have : L2.atI ((someT fa g).map dT) d = some (dT t) := by rw [atI_map, atI_int b8.1 hd, ht]; rfl
    simp [dIdx, this]
  have sp8 := spBut u8 hkb hkrn sp
  obtain ⟨S9, e9, sp9, k9⟩ := set_ok sp8 m1.1 m1.2 m2.1 tm.1
  have d1 : dIdx (.ref kp) (.int (2 * (k : Int))) S' = .ok (dP (b, fa)) S' := by
    have : L2.atI (P.map dP) ((2 * k : Nat) : Int) = some (dP (b, fa)) := by rw [atI_map, atI_nat h1, hb]; rfl
    rw [show 2 * (k : Int) = ((2 * k : Nat) : Int) by omega]
    simp only [dIdx, p_seqS, p_vwRef, hp, Option.bind_some, p_seqD1, this]
  have d2 : dIdx (.ref kp) (.int (2 * (k : Int) + 1)) S' = .ok (dP (o, g)) S' := by
    have : L2.atI (P.map dP) ((2 * k + 1 : Nat) : Int) = some (dP (o, g)) := by rw [atI_map, atI_nat h2, ho]; rfl
    rw [show 2 * (k : Int) + 1 = ((2 * k + 1 : Nat) : Int) by omega]
    simp only [dIdx, p_seqS, p_vwRef, hp, Option.bind_some, p_seqD1, this]
  have m22 : ∀ {S : Store}, dMul (.int 2) (.int k) S = .ok (.int (2 * (k : Int))) S := fun {S} => by
    have : (k : Int).natAbs.log2 < 30 := log2_lt (by omega) (by decide)
    have : (2 : Int).natAbs.log2 < 3 := by decide
    exact p_mul (by omega)
  have so := some_ok (S := S') (f := fa) (g := g) (r := [.val (.ref kr), .val (.int n), .val (.ref kb), .val (.ref kp), .val (.int k), .val (.int b), .val (.int fa), .val (.int o), .val (.int g), x9, .no]) m1.2 (fun _ => rfl) (fun _ => rfl) (fun _ => rfl)
  refine ⟨_, [.val (.ref kr), .val (.int n), .val (.ref kb), .val (.ref kp), .val (.int k), .val (.int b), .val (.int fa), .val (.int o), .val (.int g), .val (.lst ((someT fa g).map dT)), x10], S9, rfl, .inl ?_, _, _, _, _, _, _, _, set2 s b fa o t, rfl, sp9, ?_, ?_, ?_, ?_, ?_⟩
  · simp [l1__law_any, m22, d1, d2, dP, gU, gAll, turns_ok, so, e8, et, e9]
  · exact v.set m1.1 m1.2 m2.1 tm.1 nb (by rw [tm.2]; exact no) (by rw [tm.2]; exact hne)
  · intro i' f' ⟨w, hw⟩
    by_cases q1 : i' = b ∧ f' = fa
    · exact ⟨2 * k, by omega, by rw [q1.1, q1.2]; exact p1⟩
    · by_cases q2 : i' = o ∧ f' = g
      · exact ⟨2 * k + 1, by omega, by rw [q2.1, q2.2]; exact p2⟩
      · have : set2 s b fa o t i' f' = s i' f' := by
          have q2' : ¬ (i' = o ∧ f' = tn t fa) := by rw [tm.2]; exact q2
          simp [set2, LW.put, q1, q2']
        rw [this] at hw
        obtain ⟨j, j1, j2⟩ := z i' f' ⟨w, hw⟩
        exact ⟨j, by omega, j2⟩
  · rw [k9.2 kp hkpn.2, u8.2 kp hkpn.1]; exact hp
  · exact (r8.at (k9.2 kr hkrn)).le (by omega)
  · refine f.trans (u8.fr.trans ⟨Nat.le_of_eq k9.1.symm, fun j a b => k9.2 j fun q => ?_⟩)
    have := hlo j q
    omega
theorem any_ok {S : Store} {kr n : Nat} {c : Int} (h : Rl S kr c) (hc : c < 10000000) (hn : 0 < n ∧ n ≤ 12) :
    ∃ kb ks s S', m__law_any [.ref kr, .int n] S = .ok (.ref kb) S' ∧ SpAt S' S.length kb ks n s ∧ Valid n s ∧ Rl S' kr (c + 1000) ∧ Fr kr S.length S S' := by
  obtain ⟨rs, e1, hrs⟩ := new_ok (S := S) (n := n) (by omega) (r := [.val (.ref kr), .val (.int n), .no, .no, .no, .no, .no, .no, .no, .no, .no]) (i5 := 5) (vs := [])
  have hkr := h.lt
  -- blocks, left
  obtain ⟨kb, hkb⟩ : ∃ kb, kb = S.length + n := ⟨_, rfl⟩
  obtain ⟨ks, hks⟩ : ∃ ks : List Nat, ks = (List.range n).map fun i => S.length + i := ⟨_, rfl⟩
  have hrs2 : rs = ks.map BR.D.ref := by rw [hrs, hks, List.map_map]; rfl
  obtain ⟨S1, hS1⟩ : ∃ S1, S1 = S ++ List.replicate n noRow ++ [some (BR.D.lst rs)] := ⟨_, rfl⟩
  have l1 : S1.length = S.length + n + 1 := by rw [hS1]; simp; omega
  have sp1 : SpAt S1 S.length kb ks n (fun _ _ => none) := by rw [hS1, hrs2, hks, hkb]; exact new_at []
  have r1 : Rl S1 kr c := by rw [hS1, List.append_assoc]; exact h.push _
  have f1 : Fr kr S.length S S1 := by rw [hS1, List.append_assoc]; exact Fr.push (Nat.le_refl _)
  have e2 := left_ok (S := S1) (n := n) (i4 := 4) (r := [.val (.ref kr), .val (.int n), .val (.ref kb), .no, .no, .no, .no, .no, .no, .no, .no]) (by omega) (fun d => rfl)
  obtain ⟨kl, hkl⟩ : ∃ kl, kl = S1.length := ⟨_, rfl⟩
  obtain ⟨S2, hS2⟩ : ∃ S2, S2 = S1 ++ [some (BR.D.lst ((allP n).map dP))] := ⟨_, rfl⟩
  have hl2 : S2[kl]? = some (some (.lst ((allP n).map dP))) := by rw [hS2, hkl]; simp
  have r2 : Rl S2 kr c := by rw [hS2]; exact r1.push _
  obtain ⟨P, S3, e3, hP, r3, l3, b3⟩ := mix_ok (x2 := .val (.ref kb)) (x5 := .no) (x6 := .no) (x7 := .no) (x8 := .no) (x9 := .no) (x10 := .no) r2 (by omega) hn (by omega) hl2
  have hPl := hP.length_eq
  rw [allP_len] at hPl
  have hPn : P.Nodup := hP.symm.nodup allP_nodup
  obtain ⟨kp, hkp⟩ : ∃ kp, kp = S3.length := ⟨_, rfl⟩
  obtain ⟨S4, hS4⟩ : ∃ S4, S4 = S3 ++ [some (BR.D.lst (P.map dP))] := ⟨_, rfl⟩
  have l2 : S2.length = S.length + n + 2 := by rw [hS2]; simp [l1]
  have hp4 : S4[kp]? = some (some (.lst (P.map dP))) := by rw [hS4, hkp]; simp
  have r4 : Rl S4 kr (c + 4 * n) := by rw [hS4]; exact r3.push _
  have old : ∀ j, j < S1.length → j ≠ kr → S4[j]? = S1[j]? := fun j a b => by
    rw [hS4, List.getElem?_append_left (by omega), b3 j b (by omega), hS2, List.getElem?_append_left a]
  have hks_lo : ∀ k ∈ ks, S.length ≤ k ∧ k < S.length + n := fun k hk => by
    rw [hks] at hk
    obtain ⟨i, hi, rfl⟩ := List.mem_map.mp hk
    have := List.mem_range.mp hi
    omega
  have sp4 : SpAt S4 S.length kb ks n (fun _ _ => none) := by
    refine ⟨by rw [old kb (by omega) (by omega)]; exact sp1.top, sp1.len, fun i k hk => ?_, sp1.nd, sp1.nb, sp1.low⟩
    have := hks_lo k (List.mem_of_getElem? hk)
    rw [old k (by omega) (by omega)]
    exact sp1.row i k hk
  have f4 : Fr kr S.length S S4 := ⟨by rw [hS4]; simp; omega, fun j a b => (old j (by omega) b).trans (f1.2 j a b)⟩
  -- how many
  obtain ⟨q1, S5, e5, b5, r5, u5⟩ := draw (many := 2 * (n : Int) + 1) r4 (by omega) (by omega) (by omega)
  obtain ⟨q2, S6, e6, b6, r6, u6⟩ := draw (many := 2) r5 (by omega) (by omega) (by omega)
  obtain ⟨m, hm, em⟩ : ∃ m : Int, (0 ≤ m ∧ m ≤ 2 * n) ∧ dIdx (.lst [.int q1, .int (2 * (n : Int))]) (.int q2) S6 = .ok (.int m) S6 := by
    have : q2 = 0 ∨ q2 = 1 := by omega
    rcases this with rfl | rfl
    · exact ⟨q1, by omega, rfl⟩
    · exact ⟨2 * n, by omega, rfl⟩
  have hkpn : kp ≠ kr ∧ kp ∉ ks := ⟨by omega, fun q => by have := hks_lo kp q; omega⟩
  have hkrn : kr ∉ ks := fun q => by have := hks_lo kr q; omega
  obtain ⟨r7, S7, e7, ⟨x4, x5, x6, x7, x8, x9, x10, s, rfl, sp7, v7, z7, hp7, rl7, f7⟩⟩ := range_inv (g := gN 4) (b := l1__law_any) (i0 := 0) (j0 := m) hm.1 (AnyI n kr kb kp S.length ks P (c + 4 * n + 2) S)
    (fun i r S' i0 i1 h => any_step hn (by omega) hP hPn hPl (by omega) hkpn hkrn (fun k hk => (hks_lo k hk).1) hm.2 i0 i1 h)
    (r := [.val (.ref kr), .val (.int n), .val (.ref kb), .val (.ref kp), .no, .no, .no, .no, .no, .no, .no]) (S := S6)
    ⟨_, _, _, _, _, _, _, _, rfl, spBut u6 (by omega) hkrn (spBut u5 (by omega) hkrn sp4), noneV, (fun _ _ q => by obtain ⟨_, q⟩ := q; cases q), by rw [u6.2 kp hkpn.1, u5.2 kp hkpn.1]; exact hp4, r6.le (by omega), f4.trans (u5.fr.trans u6.fr)⟩
  refine ⟨kb, ks, s, S7, ?_, sp7, v7, rl7.le (by omega), f7⟩
  have m4 : ∀ {S : Store}, dMul (.int 4) (.int n) S = .ok (.int (4 * (n : Int))) S := fun {S} => by
    have : (n : Int).natAbs.log2 < 30 := log2_lt (by omega) (by decide)
    have : (4 : Int).natAbs.log2 < 3 := by decide
    exact p_mul (by omega)
  have m2 : ∀ {S : Store}, dMul (.int 2) (.int n) S = .ok (.int (2 * (n : Int))) S := fun {S} => by
    have : (n : Int).natAbs.log2 < 30 := log2_lt (by omega) (by decide)
    have : (2 : Int).natAbs.log2 < 3 := by decide
    exact p_mul (by omega)
  have g1 : -big62 ≤ (n : Int) ∧ (n : Int) < big62 := by simp only [big62]; omega
  have g2 : -big62 ≤ 4 * (n : Int) ∧ 4 * (n : Int) < big62 := by simp only [big62]; omega
  have g3 : -big62 ≤ m ∧ m < big62 := by simp only [big62]; omega
  have k1 : (S ++ List.replicate n noRow).length = kb := by simp [hkb]
  refine runA_ok rfl ?_
  unfold b__law_any
  refine seq_ok (r1 := [.val (.ref kr), .val (.int n), .val (.ref kb), .no, .no, .no, .no, .no, .no, .no, .no]) (S1 := S1) ?_ (seq_ok (r1 := [.val (.ref kr), .val (.int n), .val (.ref kb), .val (.ref kl), .no, .no, .no, .no, .no, .no, .no]) (S1 := S2) ?_
    (seq_ok (r1 := [.val (.ref kr), .val (.int n), .val (.ref kb), .val (.ref kp), .no, .no, .no, .no, .no, .no, .no]) (S1 := S4) ?_ (seq_ok (S1 := S7) (r1 := [.val (.ref kr), .val (.int n), .val (.ref kb), .val (.ref kp), x4, x5, x6, x7, x8, x9, x10]) ?_ ?_)))
  · have q := set_new (i := 2) (lLc_fix (g := gN 5) (t := tYes) (vs := [5]) (iR1 (a := eB 1) (r := BR.start 11 [.ref kr, .int n]) (S := S) rfl g1) e1)
    rw [k1] at q
    rw [q, hS1]
    rfl
  · have q := set_new (i := 3) (lLc_fix (g := gN 4) (t := tYes) (vs := [4]) (iR1 (a := BR.e2 dMul (eC (.int 4)) (eB 1)) (r := [.val (.ref kr), .val (.int n), .val (.ref kb), .no, .no, .no, .no, .no, .no, .no, .no]) (S := S1) (by rw [p_e2, p_eC, bind_ok]; exact m4) g2) e2)
    rw [← hkl] at q
    rw [q, hS2]
    rfl
  · have q := set_new (i := 3) (lLc_fix (g := gN 4) (t := tYes) (vs := [4]) (iR1 (a := BR.e2 dMul (eC (.int 4)) (eB 1)) (r := [.val (.ref kr), .val (.int n), .val (.ref kb), .val (.ref kl), .no, .no, .no, .no, .no, .no, .no]) (S := S2) (by rw [p_e2, p_eC, bind_ok]; exact m4) g2) e3)
    rw [← hkp] at q
    rw [q, hS4]
    rfl
  · refine mFor_fix (iR1 ?_ g3) e7
    simp [m2, e5, e6, em, lim]
  · rfl
end LW

end

section
/-! A space block by block. -/
namespace LW
open PySem BR
def freeP (n : Nat) (s : Spc) : List (Nat × Nat) := (allP n).filter fun p => (s p.1 p.2).isNone
theorem freeP_mem {n : Nat} {s : Spc} {p : Nat × Nat} (h : p ∈ freeP n s) : p.1 < n ∧ p.2 < 4 ∧ s p.1 p.2 = none := by
  obtain ⟨h1, h2⟩ := List.mem_filter.mp h
  have := allP_mem h1
  exact ⟨this.1, this.2, by simpa using h2⟩
theorem mem_freeP {n : Nat} {s : Spc} {b f : Nat} (hb : b < n) (hf : f < 4) (h : s b f = none) : (b, f) ∈ freeP n s := by
  refine List.mem_filter.mpr ⟨List.mem_map.mpr ⟨4 * b + f, List.mem_range.mpr (by omega), ?_⟩, by simp [h]⟩
  rw [show (4 * b + f) / 4 = b by omega, show (4 * b + f) % 4 = f by omega]
/-- [(at // 4, at % 4) for at in range(4 * n) if blocks[at // 4][at % 4] is None] -/
theorem free_ok {S : Store} {lo kb n : Nat} {ks : List Nat} {s : Spc} (sp : SpAt S lo kb ks n s) (hn : n ≤ 100) {r : BR.Env} (h2 : ∀ d, (r.set 7 (.val d))[2]? = some (.val (.ref kb))) (h7 : ∀ d, (r.set 7 (.val d))[7]? = some (.val d)) :
    lcGo (gN 7) (tE (e2 dIs (e2 dIdx (e2 dIdx (eB 2) (e2 dFdiv (eB 7) (eC (.int 4)))) (e2 dMod (eB 7) (eC (.int 4)))) (eC (.non)))) (eTrn (aC (e2 dFdiv (eB 7) (eC (.int 4))) (aC (e2 dMod (eB 7) (eC (.int 4))) aN))) r (rangeD 0 (4 * (n : Int))) [] S = .ok ((freeP n s).map dP) S := by
  have e4 : ∀ k : Nat, (k : Int) / 4 = ((k / 4 : Nat) : Int) := fun k => by omega
  have e5 : ∀ k : Nat, (k : Int) % 4 = ((k % 4 : Nat) : Int) := fun k => by omega
  have lc := lcGo_map (g := gN 7) (t := tE (e2 dIs (e2 dIdx (e2 dIdx (eB 2) (e2 dFdiv (eB 7) (eC (.int 4)))) (e2 dMod (eB 7) (eC (.int 4)))) (eC (.non)))) (e := eTrn (aC (e2 dFdiv (eB 7) (eC (.int 4))) (aC (e2 dMod (eB 7) (eC (.int 4))) aN))) (r := r) (S := S) (ds := rangeD 0 (4 * (n : Int))) (acc := []) (fun d => match d with
    | .int k => (s (k.toNat / 4) (k.toNat % 4)).isNone
    | _ => false) (fun d => match d with
    | .int k => dP ((k.toNat) / 4, (k.toNat) % 4)
    | d => d) (fun d hd => by
      obtain ⟨j, hj⟩ := List.getElem?_of_mem hd
      obtain ⟨rfl, hk⟩ := rangeD_at hj
      have z : ((0 : Int) + (j : Int)).toNat = j := by omega
      have f1 : dFdiv (.int (0 + (j : Int))) (.int 4) S = .ok (.int ((j / 4 : Nat) : Int)) S := by rw [p_fdiv (by decide) (by decide), show (0 : Int) + (j : Int) = (j : Int) by omega, e4]
      have f2 : dMod (.int (0 + (j : Int))) (.int 4) S = .ok (.int ((j % 4 : Nat) : Int)) S := by rw [p_mod (by decide), show (0 : Int) + (j : Int) = (j : Int) by omega, e5]
      obtain ⟨k, k1, k2, k3⟩ := sp.get (show j / 4 < n by omega)
      have k4 := sp.face k1 (show j % 4 < 4 by omega)
      refine ⟨_, rfl, ?_, fun _ => ?_⟩
      · simp only [p_tE, p_e2, p_eB, p_gN, h2, h7, p_eC, bind_ok, f1, f2, k3, k4]
        cases q : s (j / 4) (j % 4) with
        | none => simp [dF, dIs, isNon, q, z]
        | some w => obtain ⟨o, t⟩ := w; simp [dF, dIs, isNon, q, z]
      · simp only [p_eTrn, p_aC, p_e2, p_eB, p_gN, h7, p_eC, bind_ok, f1, f2, p_aN]
        rw [if_pos (show _ ≤ lim by simp [lim])]
        simp only [dP, z]) (by rw [rangeD_len]; simp [lim]; omega)
  rw [lc]
  congr 1
  rw [List.nil_append]
  unfold rangeD freeP allP
  rw [List.filter_map, List.filter_map, List.map_map, List.map_map, show (4 * (n : Int) - 0).toNat = 4 * n by omega]
  have : ((fun d => match d with
    | BR.D.int k => (s (k.toNat / 4) (k.toNat % 4)).isNone
    | _ => false) ∘ fun (k : Nat) => BR.D.int (0 + (k : Int))) = ((fun p : Nat × Nat => (s p.1 p.2).isNone) ∘ fun k => (k / 4, k % 4)) := by
    funext k
    simp
  rw [this]
  refine List.map_congr_left fun k _ => ?_
  simp
def BallI (kr kb lo : Nat) (n : Nat) (c : Int) (S : Store) (i : Int) (r : BR.Env) (S' : Store) : Prop :=
  ∃ k : Nat, i = k ∧ 0 < k ∧ ∃ x3 x4 x5 x6 ks s, r = [.val (.ref kr), .val (.int n), .val (.ref kb), x3, x4, x5, x6, .no] ∧ SpAt S' lo kb ks k s ∧ Valid k s ∧ (∀ j f, k ≤ j → s j f = none) ∧ (∃ f, f < 4 ∧ s (k - 1) f = none) ∧ Rl S' kr (c + 2 * i) ∧ Fr kr lo S S'
theorem app_row {S : Store} {lo kb n : Nat} {ks : List Nat} {s : Spc} (sp : SpAt S lo kb ks n s) (hs : ∀ j f, n ≤ j → s j f = none) (hkb : kb < S.length) (hlo : lo ≤ S.length) : SpAt ((S ++ [noRow]).set kb (some (.lst ((ks ++ [S.length]).map BR.D.ref)))) lo kb (ks ++ [S.length]) (n + 1) s := by
  have hlt : ∀ k ∈ ks, k < S.length := fun k hk => by
    obtain ⟨i, hi⟩ := List.getElem?_of_mem hk
    exact lt_of (sp.row i k hi)
  refine ⟨List.getElem?_set_self (by simp; omega), by simp [sp.len], fun i k hk => ?_, ?_, ?_, sp.low.1, fun k hk => ?_⟩
  · by_cases q : i < ks.length
    · rw [List.getElem?_append_left q] at hk
      have hm := List.mem_of_getElem? hk
      have hne : kb ≠ k := fun z => sp.nb (z ▸ hm)
      rw [List.getElem?_set_ne hne, List.getElem?_append_left (hlt k hm)]
      exact sp.row i k hk
    · have hi : i = ks.length := by
        have := (List.getElem?_eq_some_iff.mp hk).1
        simp at this
        omega
      subst hi
      rw [List.getElem?_append_right (Nat.le_refl _)] at hk
      simp at hk
      subst hk
      rw [List.getElem?_set_ne (by omega), List.getElem?_append_right (Nat.le_refl _)]
      have e : Row s ks.length = [.non, .non, .non, .non] := by
        rw [sp.len]
        simp [Row, hs n _ (Nat.le_refl n), dF]
      simp [e]
  · rw [List.nodup_append]
    refine ⟨sp.nd, by simp, fun a ha b hb => ?_⟩
    rw [List.mem_singleton.mp hb]
    have := hlt a ha
    omega
  · intro q
    rcases List.mem_append.mp q with q | q
    · exact sp.nb q
    · rw [List.mem_singleton.mp q] at hkb
      omega
  · rcases List.mem_append.mp hk with q | q
    · exact sp.low.2 k q
    · rw [List.mem_singleton.mp q]
      exact hlo
theorem ball_step {n kr kb lo : Nat} {c i : Int} {S S' : Store} {r : BR.Env} (hn : 0 < n ∧ n ≤ 12) (hc : c < 100000000) (hkb : kb ≠ kr) (hkr : kr < lo) (hS : lo ≤ S.length) (i0 : 1 ≤ i) (i1 : i < n) (h : BallI kr kb lo n c S i r S') :
    ∃ r1 r2 S2, gN 3 (.int i) r = some r1 ∧ (l1__law_ball r1 S' = .ok (.nx r2) S2 ∨ l1__law_ball r1 S' = .ok (.ct r2) S2) ∧ BallI kr kb lo n c S (i + 1) r2 S2 := by
  obtain ⟨k, rfl, k0, x3, x4, x5, x6, ks, s, rfl, sp, v, hs, ⟨f0, hf0, hn0⟩, rl, fr⟩ := h
  have hkrn : kr ∉ ks := fun q => by have := sp.low.2 kr q; omega
  have fo := free_ok (n := k) sp (by omega) (r := [.val (.ref kr), .val (.int n), .val (.ref kb), .val (.int k), x4, x5, x6, .no]) (fun _ => rfl) (fun _ => rfl)
  have hm := mem_freeP (n := k) (by omega) hf0 hn0
  have hlen : 0 < (freeP k s).length := List.length_pos_of_mem hm
  have hlen2 : (freeP k s).length ≤ 4 * k := by
    have := List.length_filter_le (fun p : Nat × Nat => (s p.1 p.2).isNone) (allP k)
    rw [allP_len] at this
    exact this
  obtain ⟨d, S1, e1, b1, r1, u1⟩ := draw (many := ((freeP k s).length : Int)) rl (by omega) (by omega) (by omega)
  have hd : d.toNat < (freeP k s).length := by omega
  rcases hp : (freeP k s)[d.toNat] with ⟨b, fa⟩
  have hpm := freeP_mem (n := k) (s := s) (p := (b, fa)) (hp ▸ List.getElem_mem hd)
  simp only at hpm
  have ei : dIdx (.lst ((freeP k s).map dP)) (.int d) S1 = .ok (dP (b, fa)) S1 := by
    have : L2.atI ((freeP k s).map dP) d = some (dP (b, fa)) := by rw [atI_map, atI_int b1.1 hd, hp]; rfl
    simp only [dIdx, p_seqS, p_vwLst, Option.bind_some, p_seqD1, this]
  have sp1 := spBut u1 hkb hkrn sp
  have hkb1 : kb < S1.length := lt_of sp1.top
  have hlo1 : lo ≤ S1.length := by have := fr.1; have := u1.1; omega
  have sp2 := app_row sp1 hs hkb1 hlo1
  have a1 := lstAt_of sp1.top
  obtain ⟨S2, hS2⟩ : ∃ S2, S2 = (S1 ++ [noRow]).set kb (some (.lst ((ks ++ [S1.length]).map BR.D.ref))) := ⟨_, rfl⟩
  rw [← hS2] at sp2
  have r2 : Rl S2 kr (c + 2 * (k : Int) + 1) := by rw [hS2]; exact (r1.push _).at (List.getElem?_set_ne hkb)
  have f2 : Fr kr lo S1 S2 := by
    rw [hS2]
    refine ⟨by simp, fun j a b => ?_⟩
    have := sp1.low.1
    rw [List.getElem?_set_ne (by omega), List.getElem?_append_left (by omega)]
  obtain ⟨t, S3, e3, b3, r3, u3⟩ := draw (many := 24) r2 (by omega) (by omega) (by omega)
  obtain ⟨t, rfl⟩ := Int.eq_ofNat_of_zero_le b3.1
  have ht : t < 24 := by omega
  have hkrn2 : kr ∉ ks ++ [S1.length] := fun q => by have := sp2.low.2 kr q; omega
  have sp3 := spBut u3 hkb hkrn2 sp2
  obtain ⟨S4, e4, sp4, k4⟩ := set_ok sp3 (b := b) (f := fa) (o := k) (t := t) (by omega) hpm.2.1 (by omega) ht
  have et : dIdx (.lst ((List.range 24).map dT)) (.int t) S3 = .ok (dT t) S3 := by
    have : L2.atI ((List.range 24).map dT) (t : Int) = some (dT t) := by rw [atI_map, atI_nat (by simpa using ht)]; simp
    simp only [dIdx, p_seqS, p_vwLst, Option.bind_some, p_seqD1, this]
  have m4 : dMul (.int 4) (.int k) S' = .ok (.int (4 * (k : Int))) S' := by
    have : (k : Int).natAbs.log2 < 30 := log2_lt (by omega) (by decide)
    have : (4 : Int).natAbs.log2 < 3 := by decide
    exact p_mul (by omega)
  have g2 : -big62 ≤ 4 * (k : Int) ∧ 4 * (k : Int) < big62 := by simp only [big62]; omega
  have hg := tn_lt t ht fa hpm.2.1
  have v2 : Valid (k + 1) s := fun i hi f hf o u e => by
    by_cases q : i = k
    · rw [q, hs k f (Nat.le_refl k)] at e; cases e
    · obtain ⟨z1, z2, z3, z4⟩ := v i (by omega) f hf o u e
      exact ⟨by omega, z2, z3, z4⟩
  refine ⟨_, [.val (.ref kr), .val (.int n), .val (.ref kb), .val (.int k), .val (.lst ((freeP k s).map dP)), .val (.int b), .val (.int fa), .no], S4, rfl, .inl ?_, k + 1, by simp, by omega, _, _, _, _, ks ++ [S1.length], set2 s b fa k t, rfl, sp4, v2.set (by omega) hpm.2.1 (by omega) ht hpm.2.2 (hs k _ (Nat.le_refl k)) (fun q => by have := congrArg Prod.fst q; simp at this; omega), fun j f hj => ?_, ⟨(tn t fa + 1) % 4, by omega, ?_⟩, ?_, ?_⟩
  · unfold l1__law_ball
    refine seq_ok (set_frz (lLc_fix (vs := [7]) (iR1 (by rw [p_e2, p_eC, bind_ok]; exact m4) g2) fo)) ?_
    refine seq_ok (r1 := [.val (.ref kr), .val (.int n), .val (.ref kb), .val (.int k), .val (.lst ((freeP k s).map dP)), .val (.int b), .val (.int fa), .no]) (S1 := S1) ?_ (seq_ok (r1 := [.val (.ref kr), .val (.int n), .val (.ref kb), .val (.int k), .val (.lst ((freeP k s).map dP)), .val (.int b), .val (.int fa), .no]) (S1 := S2) ?_ ?_)
    · have ln : dLen (.lst ((freeP k s).map dP)) S' = .ok (.int (freeP k s).length) S' := by simp [dLen]
      simp [ln, e1, ei, dP, gU, gAll]
    · have l3 : lstAt (S1 ++ [noRow]) kb = some (ks.map BR.D.ref) := by unfold lstAt; rw [List.getElem?_append_left hkb1, sp1.top]
      have l4 : ks.length < 16777216 := by rw [sp1.len]; omega
      have rp : ∀ S : Store, lRep (.lst [.non]) (.int 4) S = .ok [.non, .non, .non, .non] S := fun S => rep4
      simp only [noRow] at l3 hS2
      simp [a1, rp, lim, l3, l4, hS2]
    · simp [turns_ok, e3, et, e4]
  · have q1 : ¬ (j = b ∧ f = fa) := fun q => by omega
    have q2 : ¬ (j = k ∧ f = tn t fa) := fun q => by omega
    simp [set2, LW.put, q1, q2, hs j f (by omega)]
  · have q1 : ¬ (k = b ∧ (tn t fa + 1) % 4 = fa) := fun q => by omega
    have q2 : ¬ ((tn t fa + 1) % 4 = tn t fa) := fun q => by omega
    simp [set2, LW.put, q1, q2, hs k _ (Nat.le_refl k)]
  · exact (r3.at (k4.2 kr hkrn2)).le (by omega)
  · refine fr.trans (u1.fr.trans (f2.trans (u3.fr.trans ⟨Nat.le_of_eq k4.1.symm, fun j a b => k4.2 j fun q => ?_⟩)))
    have := sp2.low.2 j q
    omega
theorem ball_ok {S : Store} {kr n : Nat} {c : Int} (h : Rl S kr c) (hc : c < 10000000) (hn : 0 < n ∧ n ≤ 12) :
    ∃ kb ks s S', m__law_ball [.ref kr, .int n] S = .ok (.ref kb) S' ∧ SpAt S' S.length kb ks n s ∧ Valid n s ∧ Rl S' kr (c + 1000) ∧ Fr kr S.length S S' := by
  have hkr := h.lt
  obtain ⟨S1, hS1⟩ : ∃ S1, S1 = S ++ [noRow] ++ [some (BR.D.lst [.ref S.length])] := ⟨_, rfl⟩
  have sp1 : SpAt S1 S.length (S.length + 1) [S.length] 1 (fun _ _ => none) := by
    have := new_at (S := S) (n := 1) []
    rw [hS1]
    simpa using this
  have r1 : Rl S1 kr c := by rw [hS1, List.append_assoc]; exact h.push _
  have f1 : Fr kr S.length S S1 := by rw [hS1, List.append_assoc]; exact Fr.push (Nat.le_refl _)
  obtain ⟨r2, S2, e2, k, hk, k0, x3, x4, x5, x6, ks, s, rfl, sp, v, hs, _, rl, fr⟩ := range_inv (g := gN 3) (b := l1__law_ball) (i0 := 1) (j0 := (n : Int)) (by omega) (BallI kr (S.length + 1) S.length n c S)
    (fun i r S' i0 i1 h => ball_step hn (by omega) (by omega) hkr (Nat.le_refl _) i0 i1 h) (r := [.val (.ref kr), .val (.int n), .val (.ref (S.length + 1)), .no, .no, .no, .no, .no]) (S := S1)
    ⟨1, rfl, by decide, _, _, _, _, _, _, rfl, sp1, noneV, fun _ _ _ => rfl, ⟨0, by decide, rfl⟩, r1.le (by omega), f1⟩
  have hkn : k = n := by omega
  subst hkn
  refine ⟨_, ks, s, S2, ?_, sp, v, rl.le (by omega), fr⟩
  refine runA_ok rfl ?_
  unfold b__law_ball
  refine seq_ok (r1 := [.val (.ref kr), .val (.int k), .val (.ref (S.length + 1)), .no, .no, .no, .no, .no]) (S1 := S1) ?_ (seq_ok (mFor_fix (iR2 rfl rfl ?_) e2) rfl)
  · have rp : ∀ S : Store, lRep (.lst [.non]) (.int 4) S = .ok [.non, .non, .non, .non] S := fun S => rep4
    simp only [noRow] at hS1
    simp [BR.start, rp, lim, hS1]
  · simp only [big62]; omega
end LW

end

section
/-! A space doubled. -/
namespace LW
open PySem BR
def sh (n : Nat) : Option (Nat × Nat) → Option (Nat × Nat)
  | none => none
  | some (o, t) => some (o + n, t)
/-- the space and its copy, the first m open faces joined -/
def dbl (n m : Nat) (s : Spc) : Spc := fun i g => if i < n then (match s i g with
    | some x => some x
    | none => if 4 * i + g < m then some (n + i, 0) else none) else (match s (i - n) g with
    | some (o, t) => some (o + n, t)
    | none => if 4 * (i - n) + g < m then some (i - n, 0) else none)
theorem tn0 : ∀ g < 4, tn 0 g = g := by decide
theorem iv0 : iv 0 = 0 := by decide
theorem dbl_valid {n : Nat} {s : Spc} (v : Valid n s) : Valid (2 * n) (dbl n (4 * n) s) := by
  intro i hi f hf o t e
  unfold dbl at e
  by_cases h : i < n
  · rw [if_pos h] at e
    cases q : s i f with
    | some x =>
      rw [q] at e
      cases e
      obtain ⟨z1, z2, z3, z4⟩ := v i h f hf o t q
      refine ⟨by omega, z2, z3, ?_⟩
      unfold dbl
      rw [if_pos z1, z4]
    | none =>
      rw [q] at e
      simp only [] at e
      rw [if_pos (by omega)] at e
      cases e
      rw [tn0 f hf, iv0]
      refine ⟨by omega, by decide, fun q => by have := congrArg Prod.fst q; simp at this; omega, ?_⟩
      unfold dbl
      rw [if_neg (by omega), show n + i - n = i by omega, q]
      simp only []
      rw [if_pos (by omega)]
  · rw [if_neg h] at e
    cases q : s (i - n) f with
    | some x =>
      obtain ⟨o', t'⟩ := x
      rw [q] at e
      cases e
      obtain ⟨z1, z2, z3, z4⟩ := v (i - n) (by omega) f hf o' t q
      refine ⟨by omega, z2, fun q => z3 ?_, ?_⟩
      · have a := congrArg Prod.fst q
        have b := congrArg Prod.snd q
        simp only at a b
        rw [b, show o' = i - n by omega]
      · unfold dbl
        rw [if_neg (by omega), show o' + n - n = o' by omega, z4]
        simp only []
        rw [show i - n + n = i by omega]
    | none =>
      rw [q] at e
      simp only [] at e
      rw [if_pos (by omega)] at e
      cases e
      rw [tn0 f hf, iv0]
      refine ⟨by omega, by decide, fun q => by have := congrArg Prod.fst q; simp at this; omega, ?_⟩
      unfold dbl
      rw [if_pos (by omega), q]
      simp only []
      rw [if_pos (by omega), show n + (i - n) = i by omega]
theorem Row_congr {s s' : Spc} {i : Nat} (h : ∀ f < 4, s i f = s' i f) : Row s i = Row s' i := by
  unfold Row
  rw [h 0 (by decide), h 1 (by decide), h 2 (by decide), h 3 (by decide)]
theorem SpAt.congr {S : Store} {lo kb n : Nat} {ks : List Nat} {s s' : Spc} (h : SpAt S lo kb ks n s) (e : ∀ i < n, ∀ f < 4, s i f = s' i f) : SpAt S lo kb ks n s' := by
  refine ⟨h.top, h.len, fun i k hk => ?_, h.nd, h.nb, h.low⟩
  have hi : i < n := by
    have := (List.getElem?_eq_some_iff.mp hk).1
    rw [h.len] at this
    exact this
  rw [← Row_congr (e i hi)]
  exact h.row i k hk
/-- one open face joined to its copy's -/
theorem dbl_step {n b f : Nat} {s : Spc} (hb : b < n) (hf : f < 4) (hs : s b f = none) : ∀ i < 2 * n, ∀ g < 4, set2 (dbl n (4 * b + f) s) b f (n + b) 0 i g = dbl n (4 * b + f + 1) s i g := by
  intro i hi g hg
  unfold set2 LW.put
  rw [tn0 f hf, iv0]
  by_cases q2 : i = n + b ∧ g = f
  · rw [if_pos q2, q2.1, q2.2]
    unfold dbl
    rw [if_neg (by omega), show n + b - n = b by omega, hs]
    simp only []
    rw [if_pos (by omega)]
  · rw [if_neg q2]
    by_cases q1 : i = b ∧ g = f
    · rw [if_pos q1, q1.1, q1.2]
      unfold dbl
      rw [if_pos hb, hs]
      simp only []
      rw [if_pos (by omega)]
    · rw [if_neg q1]
      unfold dbl
      by_cases h : i < n
      · rw [if_pos h, if_pos h]
        cases s i g with
        | some x => rfl
        | none =>
          simp only []
          by_cases c : 4 * i + g < 4 * b + f
          · rw [if_pos c, if_pos (by omega)]
          · rw [if_neg c, if_neg (by omega)]
      · rw [if_neg h, if_neg h]
        cases s (i - n) g with
        | some x => rfl
        | none =>
          simp only []
          by_cases c : 4 * (i - n) + g < 4 * b + f
          · rw [if_pos c, if_pos (by omega)]
          · rw [if_neg c, if_neg (by omega)]
theorem dbl_skip {n b f : Nat} {s : Spc} {x : Nat × Nat} (hb : b < n) (hf : f < 4) (hs : s b f = some x) : ∀ i < 2 * n, ∀ g < 4, dbl n (4 * b + f) s i g = dbl n (4 * b + f + 1) s i g := by
  intro i hi g hg
  unfold dbl
  by_cases h : i < n
  · rw [if_pos h, if_pos h]
    cases q : s i g with
    | some x => rfl
    | none =>
      simp only []
      have : ¬ (4 * i + g = 4 * b + f) := fun z => by
        have h1 : i = b := by omega
        have h2 : g = f := by omega
        rw [h1, h2, hs] at q
        cases q
      by_cases c : 4 * i + g < 4 * b + f
      · rw [if_pos c, if_pos (by omega)]
      · rw [if_neg c, if_neg (by omega)]
  · rw [if_neg h, if_neg h]
    cases q : s (i - n) g with
    | some x => rfl
    | none =>
      simp only []
      have : ¬ (4 * (i - n) + g = 4 * b + f) := fun z => by
        have h1 : i - n = b := by omega
        have h2 : g = f := by omega
        rw [h1, h2, hs] at q
        cases q
      by_cases c : 4 * (i - n) + g < 4 * b + f
      · rw [if_pos c, if_pos (by omega)]
      · rw [if_neg c, if_neg (by omega)]
/-! the copies -/
def rowsD (s : Spc) (m : Nat) : Store := (List.range m).map fun i => some (BR.D.lst (Row s i))
theorem rowsD_succ {s : Spc} {m : Nat} : rowsD s (m + 1) = rowsD s m ++ [some (BR.D.lst (Row s m))] := by simp [rowsD, List.range_succ]
theorem rowsD_len {s : Spc} {m : Nat} : (rowsD s m).length = m := by simp [rowsD]
def from_ (a m : Nat) : List Nat := (List.range m).map fun i => a + i
theorem from_succ {a m : Nat} : from_ a (m + 1) = from_ a m ++ [a + m] := by simp [from_, List.range_succ]
theorem from_mem {a m k : Nat} (h : k ∈ from_ a m) : a ≤ k ∧ k < a + m := by
  obtain ⟨i, h1, rfl⟩ := List.mem_map.mp h
  have := List.mem_range.mp h1
  omega
theorem from_nd {a m : Nat} : (from_ a m).Nodup := by
  refine List.Pairwise.map _ (fun a b h => ?_) List.nodup_range
  intro q
  exact h (by omega)
theorem copy_ok {S : Store} {lo kb n : Nat} {ks : List Nat} {s : Spc} (sp : SpAt S lo kb ks n s) (hn : n ≤ 100) {r : BR.Env} (h3 : ∀ d, (r.set 3 (.val d))[3]? = some (.val d)) :
    lcGoV kb (gN 3) tYes (eNew (l1 lList (eB 3))) r fuel 0 [] S = .ok ((from_ S.length n).map BR.D.ref) (S ++ rowsD s n) := by
  have hkb := lt_of sp.top
  obtain ⟨acc, S2, e, ⟨h1, h2⟩, h3⟩ := lcGoV_inv (kc := kb) (g := gN 3) (t := tYes) (e := eNew (l1 lList (eB 3))) (r := r) (ds := ks.map BR.D.ref) (fun i acc S' => acc = (from_ S.length i).map BR.D.ref ∧ S' = S ++ rowsD s i)
    (fun i acc S' h => by rw [h.2]; unfold lstAt; rw [List.getElem?_append_left hkb, sp.top]) (by simp [lim, sp.len]; omega) (fun i d acc S' hd ha h => by
      obtain ⟨h1, rfl⟩ := h
      rw [List.getElem?_map] at hd
      cases q : ks[i]? with
      | none => rw [q] at hd; cases hd
      | some k =>
        rw [q] at hd
        cases hd
        have hr := sp.row i k q
        have hr2 : (S ++ rowsD s i)[k]? = some (some (BR.D.lst (Row s i))) := by rw [List.getElem?_append_left (lt_of hr)]; exact hr
        refine ⟨_, .ref (S.length + i), S ++ rowsD s (i + 1), rfl, rfl, ?_, ?_, rfl⟩
        · simp [h3, lList, hr2, rowsD_succ, rowsD_len]
        · rw [h1, from_succ]; simp) fuel 0 [] S (by simp [sp.len]; unfold fuel; omega) rfl (Nat.zero_le _) ⟨rfl, by simp [rowsD]⟩
  rw [List.length_map, sp.len] at h1 h2
  rw [e, h1, h2]
/-- the store behind m copies moved -/
def St (S : Store) (s : Spc) (n m : Nat) : Store := S ++ rowsD s n ++ some (BR.D.lst ((from_ S.length n ++ from_ (S.length + n + 1) m).map BR.D.ref)) :: rowsD (fun i g => sh n (s i g)) m
theorem St_len {S : Store} {s : Spc} {n m : Nat} : (St S s n m).length = S.length + n + 1 + m := by simp [St, rowsD_len]; omega
theorem St_old {S : Store} {s : Spc} {n m j : Nat} (h : j < S.length) : (St S s n m)[j]? = S[j]? := by
  unfold St
  rw [List.append_assoc, List.getElem?_append_left h]
theorem St_top {S : Store} {s : Spc} {n m : Nat} : (St S s n m)[S.length + n]? = some (some (BR.D.lst ((from_ S.length n ++ from_ (S.length + n + 1) m).map BR.D.ref))) := by
  unfold St
  rw [List.getElem?_append_right (by simp [rowsD_len])]
  simp [rowsD_len]
theorem St_step {S : Store} {s : Spc} {n m : Nat} : (St S s n m ++ [some (BR.D.lst (Row (fun i g => sh n (s i g)) m))]).set (S.length + n) (some (BR.D.lst ((from_ S.length n ++ from_ (S.length + n + 1) m).map BR.D.ref ++ [BR.D.ref (S.length + n + 1 + m)]))) = St S s n (m + 1) := by
  unfold St
  rw [List.append_assoc, List.set_append_right _ _ (by simp [rowsD_len])]
  simp [rowsD_len, rowsD_succ, from_succ]
theorem St_sp {S : Store} {s : Spc} {n : Nat} : SpAt (St S s n n) S.length (S.length + n) (from_ S.length n ++ from_ (S.length + n + 1) n) (2 * n) (dbl n 0 s) := by
  refine ⟨St_top, by simp [from_]; omega, fun i k hk => ?_, ?_, ?_, by omega, fun k hk => ?_⟩
  · by_cases h : i < n
    · rw [List.getElem?_append_left (by simp [from_]; exact h)] at hk
      unfold from_ at hk
      rw [List.getElem?_map, List.getElem?_range h] at hk
      cases hk
      show (St S s n n)[S.length + i]? = _
      unfold St
      rw [List.getElem?_append_left (by simp [rowsD_len]; exact h), List.getElem?_append_right (by omega)]
      have : rowsD s n = (List.range n).map fun i => some (BR.D.lst (Row s i)) := rfl
      rw [this, List.getElem?_map, show S.length + i - S.length = i by omega, List.getElem?_range h]
      simp only [Option.map_some]
      rw [Row_congr (s := s) (s' := dbl n 0 s) fun f _ => ?_]
      unfold dbl
      rw [if_pos h]
      cases s i f with
      | some x => rfl
      | none => simp
    · rw [List.getElem?_append_right (by simp [from_]; omega)] at hk
      have hl : (from_ S.length n).length = n := by simp [from_]
      rw [hl] at hk
      have h2 : i - n < n := by
        have := (List.getElem?_eq_some_iff.mp hk).1
        simpa [from_] using this
      unfold from_ at hk
      rw [List.getElem?_map, List.getElem?_range h2] at hk
      cases hk
      show (St S s n n)[S.length + n + 1 + (i - n)]? = _
      unfold St
      rw [List.getElem?_append_right (by simp [rowsD_len]; omega)]
      have e : S.length + n + 1 + (i - n) - (S ++ rowsD s n).length = (i - n) + 1 := by simp [rowsD_len]; omega
      rw [e, List.getElem?_cons_succ]
      have : rowsD (fun i g => sh n (s i g)) n = (List.range n).map fun i => some (BR.D.lst (Row (fun i g => sh n (s i g)) i)) := rfl
      rw [this, List.getElem?_map, List.getElem?_range h2]
      simp only [Option.map_some]
      have : Row (fun i g => sh n (s i g)) (i - n) = Row (dbl n 0 s) i := by
        unfold Row dbl
        simp only [if_neg h]
        congr 1
        · cases s (i - n) 0 with
          | some x => rfl
          | none => simp [sh]
        · congr 1
          · cases s (i - n) 1 with
            | some x => rfl
            | none => simp [sh]
          · congr 1
            · cases s (i - n) 2 with
              | some x => rfl
              | none => simp [sh]
            · congr 1
              cases s (i - n) 3 with
              | some x => rfl
              | none => simp [sh]
      rw [this]
  · rw [List.nodup_append]
    refine ⟨from_nd, from_nd, fun a ha b hb => ?_⟩
    have := from_mem ha
    have := from_mem hb
    omega
  · intro q
    rcases List.mem_append.mp q with q | q <;> have := from_mem q <;> omega
  · rcases List.mem_append.mp hk with q | q <;> have := from_mem q <;> omega
end LW

end

section
namespace LW
open PySem BR
/-- a block's joinings moved -/
theorem moved_ok {S : Store} {n k i : Nat} {s : Spc} (hk : S[k]? = some (some (BR.D.lst (Row s i)))) {r : BR.Env} (h1 : ∀ d, (r.set 5 (.val d))[1]? = some (.val (.int n))) (h5 : ∀ d, (r.set 5 (.val d))[5]? = some (.val d)) :
    lcGoV k (gN 5) tYes (eIf (tE (e2 dIs (eB 5) (eC (.non)))) (eC (.non)) (eTrn (aC (e2 dAdd (e2 dIdx (eB 5) (eC (.int 0))) (eB 1)) (aC (e2 dIdx (eB 5) (eC (.int 1))) aN)))) r fuel 0 [] S = .ok (Row (fun i g => sh n (s i g)) i) S := by
  have lc := lcGoV_map (g := gN 5) (t := tYes) (e := eIf (tE (e2 dIs (eB 5) (eC (.non)))) (eC (.non)) (eTrn (aC (e2 dAdd (e2 dIdx (eB 5) (eC (.int 0))) (eB 1)) (aC (e2 dIdx (eB 5) (eC (.int 1))) aN)))) (r := r) (lstAt_of hk) (fun _ => true) (fun d => match d with
    | .trn [.int o, t] => .trn [.int (o + n), t]
    | d => d) (fun d hd => by
      obtain ⟨f, hf⟩ := List.getElem?_of_mem hd
      have hf4 : f < 4 := (List.getElem?_eq_some_iff.mp hf).1
      rw [Row_at hf4] at hf
      cases hf
      refine ⟨_, rfl, rfl, fun _ => ?_⟩
      cases q : s i f with
      | none => simp [h5, dF, dIs, isNon]
      | some x =>
        obtain ⟨o, t⟩ := x
        have a0 : dIdx (.trn [.int (o : Int), dT t]) (.int 0) S = .ok (.int o) S := rfl
        have a1 : dIdx (.trn [.int (o : Int), dT t]) (.int 1) S = .ok (dT t) S := rfl
        simp [h5, h1, dF, dIs, isNon, a0, a1, lim]) fuel 0 [] (by rw [Row_len]; unfold fuel; omega) (by rw [Row_len]; unfold lim; decide)
  rw [lc]
  congr 1
  rw [List.drop_zero, List.nil_append, List.filter_eq_self.mpr (fun _ _ => rfl)]
  have one : ∀ x : Option (Nat × Nat), (match dF x with
    | .trn [.int o, t] => .trn [.int (o + n), t]
    | d => d) = dF (sh n x) := fun x => by
    cases x with
    | none => rfl
    | some x => obtain ⟨o, t⟩ := x; simp [dF, sh]
  simp only [Row, List.map_cons, List.map_nil, one]
theorem iSeq_B {i k : Nat} {r : BR.Env} {S : Store} {xs : List BR.D} (h : r[i]? = some (.val (.ref k))) (hk : lstAt S k = some xs) : iSeq (eB i) r S = .ok (.cell k) S := iSeq_cell (by rw [p_eB, h]) hk
theorem iSeq_V {i k : Nat} {r : BR.Env} {S : Store} {xs : List BR.D} (h : r[i]? = some (.val (.ref k))) (hk : lstAt S k = some xs) : iSeq (eV i) r S = .ok (.cell k) S := iSeq_cell (by rw [p_eV, h]) hk
theorem new_val {l : LM} {r : BR.Env} {S S1 : Store} {xs : List BR.D} (h : l r S = .ok xs S1) : eNew l r S = .ok (.ref S1.length) (S1 ++ [some (.lst xs)]) := by
  unfold eNew
  rw [h]
  rfl
def DblI (n kb kf lo : Nat) (kf' : List Nat) (s : Spc) (S : Store) (r : BR.Env) (S' : Store) (m : Nat) : Prop :=
  ∃ x3 x4, r = [.val (.ref kb), .val (.int n), .val (.ref kf), x3, x4, .no] ∧ SpAt S' lo kf kf' (2 * n) (dbl n m s) ∧ S'.length = S.length ∧ ∀ j, j < lo → S'[j]? = S[j]?
theorem dbl_face {n kb kf lo b f : Nat} {ks kf' : List Nat} {s : Spc} {S S' : Store} {x4 : BR.Slot} (hb : b < n) (hf : f < 4) (sp0 : SpAt S 0 kb ks n s) (h0 : kb < lo ∧ ∀ k ∈ ks, k < lo)
    (sp : SpAt S' lo kf kf' (2 * n) (dbl n (4 * b + f) s)) (hl : S'.length = S.length) (hj : ∀ j, j < lo → S'[j]? = S[j]?) :
    ∃ S2, l2__law_doubled [.val (.ref kb), .val (.int n), .val (.ref kf), .val (.int b), .val (.int f), .no] S' = .ok (.nx [.val (.ref kb), .val (.int n), .val (.ref kf), .val (.int b), .val (.int f), .no]) S2 ∧ SpAt S2 lo kf kf' (2 * n) (dbl n (4 * b + f + 1) s) ∧ S2.length = S.length ∧ ∀ j, j < lo → S2[j]? = S[j]? := by
  have spS : SpAt S' 0 kb ks n s := by
    refine ⟨by rw [hj kb h0.1]; exact sp0.top, sp0.len, fun i k hk => ?_, sp0.nd, sp0.nb, sp0.low⟩
    rw [hj k (h0.2 k (List.mem_of_getElem? hk))]
    exact sp0.row i k hk
  obtain ⟨k, k1, k2, k3⟩ := spS.get hb
  have k4 := spS.face k1 hf
  cases q : s b f with
  | some x =>
    obtain ⟨o, t⟩ := x
    refine ⟨S', ?_, sp.congr (dbl_skip hb hf q), hl, hj⟩
    rw [q] at k4
    simp [l2__law_doubled, k3, k4, dF, dIs, isNon]
  | none =>
    rw [q] at k4
    obtain ⟨S2, e2, sp2, u2⟩ := set_ok sp (b := b) (f := f) (o := n + b) (t := 0) (by omega) hf (by omega) (by decide)
    refine ⟨S2, ?_, sp2.congr (dbl_step hb hf q), u2.1.trans hl, fun j hj2 => ?_⟩
    · have ed : BR.D.trn [.int 0, .int 1, .int 2, .int 3] = dT 0 := rfl
      have en : (n : Int) + (b : Int) = ((n + b : Nat) : Int) := by omega
      simp only [l2__law_doubled, p_if, p_tE, p_e2, p_eB, p_eC, List.getElem?_cons_zero, List.getElem?_cons_succ, bind_ok, k3, k4, dF, dIs, isNon, if_true, p_drop, p_eA, p_aC, p_eV, p_aN, p_add, p_eTrn, en, ed]
      rw [if_pos (show _ ≤ lim by simp [lim])]
      simp only [bind_ok, ed, e2]
    · rw [u2.2 j fun z => by have := sp.low.2 j z; omega]
      exact hj j hj2
theorem doubled_ok {S : Store} {lo kb n : Nat} {ks : List Nat} {s : Spc} (sp : SpAt S lo kb ks n s) (hn : 0 < n ∧ n ≤ 50) :
    ∃ ks' S', m__law_doubled [.ref kb] S = .ok (.ref (S.length + n)) S' ∧ SpAt S' S.length (S.length + n) ks' (2 * n) (dbl n (4 * n) s) ∧ S.length ≤ S'.length ∧ ∀ j, j < S.length → S'[j]? = S[j]? := by
  have hkb := lt_of sp.top
  have hks : ∀ k ∈ ks, k < S.length := fun k hk => by
    obtain ⟨i, hi⟩ := List.getElem?_of_mem hk
    exact lt_of (sp.row i k hi)
  have ln : dLen (.ref kb) S = .ok (.int n) S := by simp [dLen, sp.top, sp.len]
  have e1 := copy_ok sp (by omega) (r := [.val (.ref kb), .val (.int n), .no, .no, .no, .no]) (fun _ => rfl)
  have k1 : (S ++ rowsD s n).length = S.length + n := by simp [rowsD_len]
  have st0 : S ++ rowsD s n ++ [some (.lst ((from_ S.length n).map BR.D.ref))] = St S s n 0 := by simp [St, rowsD, from_]
  -- the moved copies
  obtain ⟨r2, S2, e2, ⟨x3, rfl⟩, rfl⟩ := forGoV_inv (kc := kb) (g := gN 3) (b := l1__law_doubled) (ds := ks.map BR.D.ref) (fun i r S' => (∃ x3, r = [.val (.ref kb), .val (.int n), .val (.ref (S.length + n)), x3, .no, .no]) ∧ S' = St S s n i)
    (fun i r S' h => by rw [h.2]; unfold lstAt; rw [St_old hkb, sp.top]) (fun i d r S' hd h => by
      obtain ⟨⟨x3, rfl⟩, rfl⟩ := h
      rw [List.getElem?_map] at hd
      cases q : ks[i]? with
      | none => rw [q] at hd; cases hd
      | some k =>
        rw [q] at hd
        cases hd
        have hr : (St S s n i)[k]? = some (some (BR.D.lst (Row s i))) := by rw [St_old (hks k (List.mem_of_getElem? q))]; exact sp.row i k q
        have mv := moved_ok (n := n) hr (r := [.val (.ref kb), .val (.int n), .val (.ref (S.length + n)), .val (.ref k), .no, .no]) (fun _ => rfl) (fun _ => rfl)
        have hl := lLc_cell (g := gN 5) (t := tYes) (vs := [5]) (iSeq_B (i := 3) (r := [.val (.ref kb), .val (.int n), .val (.ref (S.length + n)), .val (.ref k), .no, .no]) rfl (lstAt_of hr)) mv
        have nv := new_val hl
        have t1 := lstAt_of (St_top (S := S) (s := s) (n := n) (m := i))
        have t2 : lstAt (St S s n i ++ [some (BR.D.lst (Row (fun i g => sh n (s i g)) i))]) (S.length + n) = some ((from_ S.length n ++ from_ (S.length + n + 1) i).map BR.D.ref) := by
          unfold lstAt
          rw [List.getElem?_append_left (by rw [St_len]; omega), St_top]
        have hi : i < n := by
          have := (List.getElem?_eq_some_iff.mp q).1
          rw [sp.len] at this
          exact this
        refine ⟨_, [.val (.ref kb), .val (.int n), .val (.ref (S.length + n)), .val (.ref k), .no, .no], St S s n (i + 1), rfl, .inl ?_, ⟨_, rfl⟩, rfl⟩
        unfold l1__law_doubled
        rw [p_app]
        simp only [p_gN, List.set_cons_succ, List.set_cons_zero, List.getElem?_cons_succ, List.getElem?_cons_zero, t1, nv, bind_ok, t2]
        rw [if_pos (by simp [from_, lim]; omega), St_len, St_step]) fuel 0 [.val (.ref kb), .val (.int n), .val (.ref (S.length + n)), .no, .no, .no] (St S s n 0) (by simp [sp.len]; unfold fuel; omega) (Nat.zero_le _) ⟨⟨_, rfl⟩, rfl⟩
  rw [List.length_map, sp.len] at e2
  -- the open faces
  have sp0 : SpAt (St S s n n) 0 kb ks n s := by
    refine ⟨by rw [St_old hkb]; exact sp.top, sp.len, fun i k hk => ?_, sp.nd, sp.nb, Nat.zero_le _, fun _ _ => Nat.zero_le _⟩
    rw [St_old (hks k (List.mem_of_getElem? hk))]
    exact sp.row i k hk
  obtain ⟨r3, S3, e3, x3', x4', rfl, sp3, hl3, hj3⟩ := range_inv (g := gN 3) (b := l3__law_doubled) (i0 := 0) (j0 := (n : Int)) (by omega) (fun i r S' => DblI n kb (S.length + n) S.length (from_ S.length n ++ from_ (S.length + n + 1) n) s (St S s n n) r S' (4 * i.toNat))
    (fun i r S' i0 i1 h => by
      obtain ⟨b, rfl⟩ := Int.eq_ofNat_of_zero_le i0
      obtain ⟨x3, x4, rfl, sp', hl, hj⟩ := h
      simp only [Int.toNat_natCast] at sp'
      obtain ⟨r4, S4, e4, x4', rfl, sp4, hl4, hj4⟩ := range_inv (g := gN 4) (b := l2__law_doubled) (i0 := 0) (j0 := 4) (by decide) (fun f r S' => ∃ x4, r = [.val (.ref kb), .val (.int n), .val (.ref (S.length + n)), .val (.int b), x4, .no] ∧ SpAt S' S.length (S.length + n) (from_ S.length n ++ from_ (S.length + n + 1) n) (2 * n) (dbl n (4 * b + f.toNat) s) ∧ S'.length = (St S s n n).length ∧ ∀ j, j < S.length → S'[j]? = (St S s n n)[j]?)
        (fun f r S' f0 f1 h => by
          obtain ⟨f, rfl⟩ := Int.eq_ofNat_of_zero_le f0
          obtain ⟨x4, rfl, sp', hl, hj⟩ := h
          simp only [Int.toNat_natCast] at sp'
          obtain ⟨S5, e5, sp5, hl5, hj5⟩ := dbl_face (x4 := x4) (b := b) (f := f) (by omega) (by omega) sp0 ⟨hkb, hks⟩ sp' hl hj
          exact ⟨_, _, S5, rfl, .inl e5, _, rfl, by rw [show ((f : Int) + 1).toNat = f + 1 by omega]; exact sp5, hl5, hj5⟩)
        (r := [.val (.ref kb), .val (.int n), .val (.ref (S.length + n)), .val (.int b), x4, .no]) (S := S') ⟨x4, rfl, by simpa using sp', hl, hj⟩
      refine ⟨_, _, S4, rfl, .inl (mFor_fix (iR1 rfl (by simp only [big62]; omega)) e4), _, _, rfl, ?_, hl4, hj4⟩
      rw [show 4 * ((b : Int) + 1).toNat = 4 * b + (4 : Int).toNat by simp; omega]
      exact sp4)
    (r := [.val (.ref kb), .val (.int n), .val (.ref (S.length + n)), x3, .no, .no]) (S := St S s n n) ⟨_, _, rfl, St_sp, rfl, fun _ _ => rfl⟩
  refine ⟨_, S3, ?_, by simpa using sp3, by rw [hl3, St_len]; omega, fun j hj => (hj3 j hj).trans (St_old hj)⟩
  refine runA_ok rfl ?_
  unfold b__law_doubled
  refine seq_ok (r1 := [.val (.ref kb), .val (.int n), .no, .no, .no, .no]) (S1 := S) (set_val ln) ?_
  have q := set_new (i := 2) (lLc_cell (g := gN 3) (t := tYes) (vs := [3]) (iSeq_B (i := 0) (r := [.val (.ref kb), .val (.int n), .no, .no, .no, .no]) rfl (lstAt_of sp.top)) e1)
  rw [k1, st0] at q
  refine seq_ok q (seq_ok (mFor_cell (iSeq_V (i := 0) rfl (lstAt_of (by rw [St_old hkb]; exact sp.top))) e2) (seq_ok (mFor_fix (iR1 rfl (by simp only [big62]; omega)) e3) rfl))
/-- the law's spaces -/
theorem blocks_ok {S : Store} {kr most : Nat} {c : Int} (h : Rl S kr c) (hc : c < 1000000) (hm : 0 < most ∧ most ≤ 12) :
    ∃ n kb ks s S', m__law_blocks [.ref kr, .int most] S = .ok (.ref kb) S' ∧ (0 < n ∧ n ≤ most) ∧ SpAt S' S.length kb ks n s ∧ Valid n s ∧ Rl S' kr (c + 2000) ∧ Fr kr S.length S S' := by
  have hkr := h.lt
  obtain ⟨q1, S1, e1, b1, r1, u1⟩ := draw (many := 5) h (by omega) (by decide) (by decide)
  have hS1 := u1.1
  by_cases hd : q1 = 0 ∧ 1 < most
  · obtain ⟨q2, S2, e2, b2, r2, u2⟩ := draw (many := (most : Int) / 2) r1 (by omega) (by omega) (by omega)
    obtain ⟨n, hn⟩ : ∃ n : Nat, (n : Int) = 1 + q2 := ⟨(1 + q2).toNat, by omega⟩
    obtain ⟨kb, ks, s, S3, e3, sp3, v3, r3, f3⟩ := ball_ok (n := n) r2 (by omega) (by omega)
    obtain ⟨ks', S4, e4, sp4, l4, f4⟩ := doubled_ok sp3 (by omega)
    have hS2 := u2.1
    have hl3 := f3.1
    refine ⟨2 * n, _, ks', _, S4, ?_, by omega, ⟨sp4.top, sp4.len, sp4.row, sp4.nd, sp4.nb, by have := sp4.low; omega, fun k hk => by have := sp4.low.2 k hk; omega⟩, dbl_valid v3, (r3.at (f4 kr (by omega))).le (by omega), ?_⟩
    · have fd : dFdiv (.int most) (.int 2) S1 = .ok (.int ((most : Int) / 2)) S1 := p_fdiv (by decide) (by decide)
      have h1 : (1 : Int) < (most : Int) := by omega
      rw [hn] at e3
      have fin : b__law_blocks (BR.start 4 [.ref kr, .int most]) S = .ok (.rt (.ref (S3.length + n))) S4 := by
        simp [b__law_blocks, BR.start, e1, hd.1, h1, fd, e2, e3, e4]
      exact runA_ok rfl fin
    · refine ⟨by omega, fun j a b => ?_⟩
      rw [f4 j (by omega), f3.2 j (by omega) b, u2.2 j b, u1.2 j b]
  · obtain ⟨q2, S2, e2, b2, r2, u2⟩ := draw (many := 2) r1 (by omega) (by decide) (by decide)
    obtain ⟨m, hm1, em⟩ : ∃ m : Int, (0 < m ∧ m ≤ most) ∧ dIdx (.lst [.int most, .int (if (3 : Int) < most then 3 else most)]) (.int q2) S2 = .ok (.int m) S2 := by
      have : q2 = 0 ∨ q2 = 1 := by omega
      rcases this with rfl | rfl
      · exact ⟨most, by omega, rfl⟩
      · exact ⟨_, by split <;> omega, rfl⟩
    obtain ⟨q3, S3, e3, b3, r3, u3⟩ := draw (many := m) r2 (by omega) (by omega) (by omega)
    obtain ⟨n, hn⟩ : ∃ n : Nat, (n : Int) = 1 + q3 := ⟨(1 + q3).toNat, by omega⟩
    have hS2 := u2.1
    have hS3 := u3.1
    have fr : ∀ {S4 : Store}, Fr kr S3.length S3 S4 → Fr kr S.length S S4 := fun f => ⟨by have := f.1; omega, fun j a b => by rw [f.2 j (by omega) b, u3.2 j b, u2.2 j b, u1.2 j b]⟩
    have lo : ∀ {S4 : Store} {kb n : Nat} {ks : List Nat} {s : Spc}, SpAt S4 S3.length kb ks n s → SpAt S4 S.length kb ks n s := fun sp => ⟨sp.top, sp.len, sp.row, sp.nd, sp.nb, by have := sp.low; omega, fun k hk => by have := sp.low.2 k hk; omega⟩
    have c1 : ¬ (q1 = 0 ∧ (1 : Int) < (most : Int)) := fun z => hd ⟨z.1, by omega⟩
    by_cases h1 : q1 = 1
    · obtain ⟨kb, ks, s, S4, e4, sp4, v4, r4, f4⟩ := ball_ok (n := n) r3 (by omega) (by omega)
      refine ⟨n, kb, ks, s, S4, ?_, by omega, lo sp4, v4, r4.le (by omega), fr f4⟩
      rw [hn] at e4
      have fin : b__law_blocks (BR.start 4 [.ref kr, .int most]) S = .ok (.rt (.ref kb)) S4 := by
        simp [b__law_blocks, BR.start, e1, h1, e2, em, e3, e4, lim]
      exact runA_ok rfl fin
    · obtain ⟨kb, ks, s, S4, e4, sp4, v4, r4, f4⟩ := any_ok (n := n) r3 (by omega) (by omega)
      refine ⟨n, kb, ks, s, S4, ?_, by omega, lo sp4, v4, r4.le (by omega), fr f4⟩
      rw [hn] at e4
      have fin : b__law_blocks (BR.start 4 [.ref kr, .int most]) S = .ok (.rt (.ref kb)) S4 := by
        by_cases h0 : q1 = 0
        · have c2 : ¬ ((1 : Int) < (most : Int)) := fun z => c1 ⟨h0, z⟩
          simp [b__law_blocks, BR.start, e1, h0, c2, e2, em, e3, e4, lim]
        · simp [b__law_blocks, BR.start, e1, h0, h1, e2, em, e3, e4, lim]
      exact runA_ok rfl fin
end LW

end

section
/-! What reads as a space. -/
namespace LW
open PySem BR
theorem tnot_ok {t : TM} {r : BR.Env} {S S1 : Store} {b : Bool} (h : t r S = .ok b S1) : tNot t r S = .ok (!b) S1 := by unfold tNot; rw [h]; rfl
theorem te_ok {e : EM} {r : BR.Env} {S S1 : Store} {b : Bool} (h : e r S = .ok (.bl b) S1) : tE e r S = .ok b S1 := by unfold tE; rw [h]; rfl
theorem e1_ok {f : BR.D → Store → Res BR.D} {a : EM} {r : BR.Env} {S S1 : Store} {d : BR.D} (h : a r S = .ok d S1) : BR.e1 f a r S = f d S1 := by unfold BR.e1; rw [h]; rfl
theorem frz_ok {l : LM} {r : BR.Env} {S S1 : Store} {xs : List BR.D} (h : l r S = .ok xs S1) : eFrz l r S = .ok (.lst xs) S1 := by unfold eFrz; rw [h]; rfl
theorem ret_ok {e : EM} {r : BR.Env} {S S1 : Store} {d : BR.D} (h : e r S = .ok d S1) : mRet e r S = .ok (.rt d) S1 := by unfold mRet; rw [h]; rfl
theorem ifF {t : TM} {a b : SM} {r : BR.Env} {S S1 : Store} {x : Res Out} (h : t r S = .ok false S1) (h2 : b r S1 = x) : mIf t a b r S = x := by unfold mIf; rw [h, bind_ok, if_neg (by decide), h2]
theorem ifT {t : TM} {a b : SM} {r : BR.Env} {S S1 : Store} {x : Res Out} (h : t r S = .ok true S1) (h2 : a r S1 = x) : mIf t a b r S = x := by unfold mIf; rw [h, bind_ok, if_pos rfl, h2]
theorem frzS {i : Nat} {a : SM} {r : BR.Env} {S : Store} {d : BR.D} {x : Res Out} (h : r[i]? = some (.own d)) (h2 : a (r.set i (.val d)) S = x) : mFrz i a r S = x := by rw [p_frz, h]; exact h2
/-- reads as these, in the store -/
def Vo (S : Store) (d : BR.D) (xs : List BR.D) : Prop := d = .trn xs ∨ d = .lst xs ∨ ∃ k, d = .ref k ∧ S[k]? = some (some (BR.D.lst xs))
def Vw (S : Store) (d : BR.D) (xs : List BR.D) : Prop := Vo S d xs ∨ d = .tup xs
theorem Vo.vw {S : Store} {d : BR.D} {xs : List BR.D} (h : Vo S d xs) : Vw S d xs := .inl h
/-- reads as these, without a cell -/
def Vn (d : BR.D) (xs : List BR.D) : Prop := d = .trn xs ∨ d = .lst xs
theorem Vn.vo {S : Store} {d : BR.D} {xs : List BR.D} (h : Vn d xs) : Vo S d xs := h.elim .inl fun z => .inr (.inl z)
theorem Vn.vw {S : Store} {d : BR.D} {xs : List BR.D} (h : Vn d xs) : Vw S d xs := h.vo.vw
section
variable {S : Store} {d : BR.D} {xs : List BR.D}
theorem Vw.len (h : Vw S d xs) : dLen d S = .ok (.int xs.length) S := by
  rcases h with (rfl | rfl | ⟨k, rfl, h⟩) | rfl <;> simp [dLen, *]
theorem Vw.isi (h : Vw S d xs) : dIsi ["list", "tuple"] d S = .ok (.bl true) S := by
  rcases h with (rfl | rfl | ⟨k, rfl, h⟩) | rfl <;> simp [dIsi, tyD, subTy, *]
theorem Vw.at (h : Vw S d xs) {i : Nat} {x : BR.D} (hx : xs[i]? = some x) : dIdx d (.int i) S = .ok x S := by
  have hi := (List.getElem?_eq_some_iff.mp hx).1
  have e : L2.atI xs (i : Int) = some x := by
    rw [atI_nat hi]
    rw [List.getElem?_eq_getElem hi] at hx
    exact hx
  rcases h with (rfl | rfl | ⟨k, rfl, h⟩) | rfl <;> simp [dIdx, e, *]
theorem Vw.seq (h : Vw S d xs) : seqS S d = some xs := by
  rcases h with (rfl | rfl | ⟨k, rfl, h⟩) | rfl <;> simp [*]
theorem Vo.trn (h : Vo S d xs) : dTrn d S = .ok (.trn xs) S := by
  rcases h with rfl | rfl | ⟨k, rfl, h⟩ <;> simp [dTrn, *]
theorem Vw.row (h : Vw S d xs) : m_is_row [d] S = .ok (.bl true) S := by
  simp [m_is_row, b_is_row, BR.start, h.isi]
/-- a comprehension over it -/
theorem Vw.lc (h : Vw S d xs) {a : EM} {g : GM} {t : TM} {e : EM} {vs : List Nat} {r : BR.Env} (ha : a r S = .ok d S) (hl : xs.length ≤ 16777216) (f : BR.D → BR.D) (hs : ∀ x ∈ xs, ∃ r1, g x (wipeE r vs) = some r1 ∧ t r1 S = .ok true S ∧ e r1 S = .ok (f x) S) :
    lLc (iSeq a) g t e vs r S = .ok (xs.map f) S := by
  have hs2 : ∀ x ∈ xs, ∃ r1, g x (wipeE r vs) = some r1 ∧ t r1 S = .ok ((fun _ => true) x) S ∧ ((fun _ => true) x = true → e r1 S = .ok (f x) S) := fun x hx => by
    obtain ⟨r1, h1, h2, h3⟩ := hs x hx
    exact ⟨r1, h1, h2, fun _ => h3⟩
  have fin : ∀ it, it r S = .ok (.fix xs) S → lLc it g t e vs r S = .ok (xs.map f) S := fun it hi => by
    refine lLc_fix hi ?_
    rw [lcGo_map (fun _ => true) f hs2 (by simpa [lim] using hl), List.nil_append, List.filter_eq_self.mpr (fun _ _ => rfl)]
  rcases h with (rfl | rfl | ⟨k, rfl, h⟩) | rfl
  · exact fin _ (iSeq_seq ha rfl)
  · exact fin _ (iSeq_seq ha rfl)
  rotate_left
  · exact fin _ (iSeq_seq ha rfl)
  · refine lLc_cell (iSeq_cell ha (lstAt_of h)) ?_
    rw [lcGoV_map (lstAt_of h) (fun _ => true) f hs2 fuel 0 [] (by rw [Nat.sub_zero]; exact fuel_big hl) (by simpa [lim] using hl), List.nil_append, List.drop_zero, List.filter_eq_self.mpr (fun _ _ => rfl)]
/-- a loop over it that leaves the store -/
theorem Vw.for (h : Vw S d xs) {a : EM} {g : GM} {b : SM} {r : BR.Env} (ha : a r S = .ok d S) (hl : xs.length ≤ 16777216) (I : Nat → BR.Env → Prop) (hs : ∀ i x r, xs[i]? = some x → I i r → ∃ r1 r2, g x r = some r1 ∧ b r1 S = .ok (.nx r2) S ∧ I (i + 1) r2) (h0 : I 0 r) :
    ∃ r2, mFor (iSeq a) g b r S = .ok (.nx r2) S ∧ I xs.length r2 := by
  have fin : iSeq a r S = .ok (.fix xs) S → ∃ r2, mFor (iSeq a) g b r S = .ok (.nx r2) S ∧ I xs.length r2 := fun hi => by
    obtain ⟨r2, S2, e, h1, rfl⟩ := forGo_inv (g := g) (b := b) (ds := xs) (fun i r S' => I i r ∧ S' = S) (fun i x r S' hx z => by
      obtain ⟨z, rfl⟩ := z
      obtain ⟨r1, r2, e1, e2, h2⟩ := hs i x r hx z
      exact ⟨r1, r2, S', e1, .inl e2, h2, rfl⟩) ⟨h0, rfl⟩
    exact ⟨r2, mFor_fix hi e, h1⟩
  rcases h with (rfl | rfl | ⟨k, rfl, h⟩) | rfl
  · exact fin (iSeq_seq ha rfl)
  · exact fin (iSeq_seq ha rfl)
  rotate_left
  · exact fin (iSeq_seq ha rfl)
  · obtain ⟨r2, S2, e, h1, rfl⟩ := forGoV_inv (kc := k) (g := g) (b := b) (ds := xs) (fun i r S' => I i r ∧ S' = S) (fun i r S' z => by rw [z.2]; exact lstAt_of h) (fun i x r S' hx z => by
      obtain ⟨z, rfl⟩ := z
      obtain ⟨r1, r2, e1, e2, h2⟩ := hs i x r hx z
      exact ⟨r1, r2, S', e1, .inl e2, h2, rfl⟩) fuel 0 r S (by rw [Nat.sub_zero]; exact fuel_big hl) (Nat.zero_le _) ⟨h0, rfl⟩
    exact ⟨r2, mFor_cell (iSeq_cell ha (lstAt_of h)) e, h1⟩
end
def tI (t : Nat) : List BR.D := [.int (tn t 0), .int (tn t 1), .int (tn t 2), .int (tn t 3)]
def FaceRd (S : Store) (d : BR.D) : Option (Nat × Nat) → Prop
  | none => d = .non
  | some (o, t) => ∃ d2, Vn d [.int o, d2] ∧ Vo S d2 (tI t)
def BlockRd (S : Store) (d : BR.D) (s : Spc) (i : Nat) : Prop := ∃ a b c e, Vw S d [a, b, c, e] ∧ FaceRd S a (s i 0) ∧ FaceRd S b (s i 1) ∧ FaceRd S c (s i 2) ∧ FaceRd S e (s i 3)
def SpRd (S : Store) (d : BR.D) (n : Nat) (s : Spc) : Prop := ∃ xs, Vw S d xs ∧ xs.length = n ∧ ∀ i y, xs[i]? = some y → BlockRd S y s i
theorem wh_ok {S : Store} {x : Int} : m_is_whole [.int x] S = .ok (.bl true) S := by
  simp [m_is_whole, b_is_whole, BR.start, dIsi, tyD, subTy]
theorem sort_t : ∀ t < 24, ([0, 1, 2, 3] : List Int).Perm [(tn t 0 : Int), tn t 1, tn t 2, tn t 3] := by decide
theorem sort_ok {t : Nat} (ht : t < 24) : (([(tn t 0 : Int), tn t 1, tn t 2, tn t 3] : List Int).mergeSort fun i j => decide (i ≤ j)) = [0, 1, 2, 3] := (isort_eq (sort_t t ht) (by decide)).symm
theorem turn_ok {S : Store} {d : BR.D} {t : Nat} (h : Vw S d (tI t)) (ht : t < 24) : m_is_turn [d] S = .ok (.bl true) S := by
  have c := h.lc (a := eB 0) (g := gN 1) (t := tYes) (e := eA m_is_whole (aC (eV 1) aN)) (vs := [1]) (r := [.val d, .no]) rfl (by simp [tI]) (fun _ => BR.D.bl true) (fun x hx => by
    refine ⟨_, rfl, rfl, ?_⟩
    simp only [tI, List.mem_cons, List.not_mem_nil, or_false] at hx
    rcases hx with rfl | rfl | rfl | rfl <;> simp [wh_ok])
  have hs : lSorted d S = .ok [.int 0, .int 1, .int 2, .int 3] S := by
    unfold lSorted
    rw [h.seq]
    simp only [tI, Option.bind_some, intsD, Option.map_some, sort_ok ht]
    rfl
  have ll : lList c_STILL S = .ok [.int 0, .int 1, .int 2, .int 3] S := rfl
  have da : dAll (.lst ((tI t).map fun _ => BR.D.bl true)) S = .ok (.bl true) S := rfl
  have eq : dEq (.lst [.int 0, .int 1, .int 2, .int 3]) (.lst [.int 0, .int 1, .int 2, .int 3]) S = .ok (.bl true) S := rfl
  have hl : (tI t).length = 4 := rfl
  simp [m_is_turn, b_is_turn, BR.start, h.row, h.len, hl, c, hs, ll, da, eq, -p_lLc]
theorem joining_ok {S : Store} {d : BR.D} {x : Option (Nat × Nat)} (h : FaceRd S d x) (ht : ∀ o t, x = some (o, t) → t < 24) : m_joining_of [d] S = .ok (dF x) S := by
  cases x with
  | none =>
    have : d = .non := h
    subst this
    simp [m_joining_of, b_joining_of, BR.start, dIs, isNon, dF]
  | some x =>
    obtain ⟨o, t⟩ := x
    obtain ⟨d2, hd, hd2⟩ := h
    have hv : Vw S d [.int o, d2] := hd.vw
    have h0 := hv.at (i := 0) (x := .int o) rfl
    have h1 := hv.at (i := 1) (x := d2) rfl
    have ln := hv.len
    have hn : dIs d .non S = .ok (.bl false) S := by rcases hd with rfl | rfl <;> rfl
    have gu : gU [gN 1, gN 2] d [.val d, .no, .no] = some [.val d, .val (.int o), .val d2] := by rcases hd with rfl | rfl <;> rfl
    have tr : dTrn d2 S = .ok (dT t) S := hd2.trn
    simp only [List.length_cons, List.length_nil] at ln
    have h0' : dIdx d (.int 0) S = .ok (.int o) S := h0
    have h1' : dIdx d (.int 1) S = .ok d2 S := h1
    simp [m_joining_of, b_joining_of, BR.start, hn, hv.row, ln, h0', h1', wh_ok, turn_ok hd2.vw (ht o t rfl), gu, tr, lim, dF]
/-! the space told -/
def rowT (s : Spc) (i : Nat) : BR.D := .trn (Row s i)
def tellT (n : Nat) (s : Spc) : List BR.D := (List.range n).map (rowT s)
theorem contrary_ok {S : Store} {t : Nat} (h : t < 24) : m_contrary [dT t] S = .ok (dT (iv t)) S := back_ok h
theorem tell_at {S : Store} {n i : Nat} {s : Spc} (hi : i < n) : dIdx (.lst (tellT n s)) (.int i) S = .ok (rowT s i) S := by
  have e : L2.atI (tellT n s) (i : Int) = some (rowT s i) := by
    unfold tellT
    rw [atI_map, atI_nat (by simpa using hi)]
    simp
  simp [dIdx, e]
theorem row_at {S : Store} {i f : Nat} {s : Spc} (hf : f < 4) : dIdx (rowT s i) (.int f) S = .ok (dF (s i f)) S := by
  have e : L2.atI (Row s i) (f : Int) = some (dF (s i f)) := by
    rw [atI_nat (by rw [Row_len]; exact hf)]
    have := Row_at (s := s) (i := i) hf
    rw [List.getElem?_eq_getElem (by rw [Row_len]; exact hf)] at this
    exact this
  simp [dIdx, rowT, e]
theorem eq_pair {S : Store} {a b c d : Nat} : dEq (.trn [.int a, .int b]) (.trn [.int c, .int d]) S = .ok (.bl (decide ((a, b) = (c, d)))) S := by
  have h1 : ∀ x y : Int, okP deep (.trn [.int x, .int y]) = true := fun _ _ => rfl
  simp only [dEq, p_vwTrn, h1, p_okI, Bool.and_self, if_true]
  congr 2
  simp [eqD, toP, toPs, PyData.eqv, PyData.eqvAll]
  by_cases p : a = c <;> by_cases q : b = d <;> simp [p, q] <;> omega
theorem okT (t : Nat) : ∀ k, okP (k + 2) (dT t) = true := fun k => rfl
theorem eqT (t : Nat) : PyData.eqv (toP (dT t)) (toP (dT t)) = true := by simp [dT, toP, toPs, PyData.eqv, PyData.eqvAll]
theorem eq_face {S : Store} {b t : Nat} : dEq (dF (some (b, t))) (.trn [.int b, dT t]) S = .ok (.bl true) S := by
  have h1 : okP deep (.trn [.int b, dT t]) = true := by
    exact rfl
  have h2 : eqD (.trn [.int b, dT t]) (.trn [.int b, dT t]) = true := by
    simp [eqD, toP, toPs, PyData.eqv, PyData.eqvAll, eqT t]
  simp [dF, dEq, h1, h2]
theorem joined_ok {S : Store} {n i f : Nat} {s : Spc} (v : Valid n s) (hi : i < n) (hf : f < 4) (hn : n ≤ 1000) : m_is_joined_back [.lst (tellT n s), .int i, .int f] S = .ok (.bl true) S := by
  have a1 := tell_at (S := S) (s := s) hi
  have a2 := row_at (S := S) (s := s) (i := i) hf
  have ln : dLen (.lst (tellT n s)) S = .ok (.int n) S := by simp [dLen, tellT]
  cases q : s i f with
  | none =>
    rw [q] at a2
    simp [m_is_joined_back, b_is_joined_back, BR.start, a1, a2, dF, dIs, isNon]
  | some x =>
    obtain ⟨o, t⟩ := x
    obtain ⟨z1, z2, z3, z4⟩ := v i hi f hf o t q
    have hg := tn_lt t z2 f hf
    rw [q] at a2
    have a3 := tell_at (S := S) (s := s) z1
    have a4 := row_at (S := S) (s := s) (i := o) hg
    rw [z4] at a4
    have e1 : dIdx (dT t) (.int f) S = .ok (.int (tn t f)) S := dT_at hf
    have e2 := eq_pair (S := S) (a := o) (b := tn t f) (c := i) (d := f)
    rw [decide_eq_false z3] at e2
    have e3 := eq_face (S := S) (b := i) (t := iv t)
    have e4 := contrary_ok (S := S) z2
    have l1 : (0 : Int) ≤ (o : Int) := by omega
    have l2 : (o : Int) < (n : Int) := by omega
    have nn : dIs (dF (some (o, t))) .non S = .ok (.bl false) S := rfl
    have gu : gU [gN 3, gN 4] (dF (some (o, t))) [.val (.lst (tellT n s)), .val (.int i), .val (.int f), .no, .no] = some [.val (.lst (tellT n s)), .val (.int i), .val (.int f), .val (.int o), .val (dT t)] := rfl
    simp [m_is_joined_back, b_is_joined_back, BR.start, a1, a2, nn, gu, chainM, ln, l2, e1, e2, a3, a4, e4, e3, lim]
theorem all_true {S : Store} : ∀ {ds : List BR.D}, (∀ d ∈ ds, d = .bl true) → dAll (.lst ds) S = .ok (.bl true) S := fun {ds} h => by
  have : ∀ ds : List BR.D, (∀ d ∈ ds, d = .bl true) → ∃ bs, blsD ds = some bs ∧ bs.all id = true := by
    intro ds
    induction ds with
    | nil => intro _; exact ⟨[], rfl, rfl⟩
    | cons d ds ih =>
      intro h
      obtain ⟨bs, h1, h2⟩ := ih fun x hx => h x (List.mem_cons_of_mem _ hx)
      rw [h d List.mem_cons_self]
      exact ⟨true :: bs, by simp [blsD, h1], by simp [h2]⟩
  obtain ⟨bs, h1, h2⟩ := this ds h
  simp [dAll, lstS, lstD, h1, h2]
/-- a comprehension of two fors over ranges, each part true -/
theorem lc2_true {S : Store} {n : Nat} {e : EM} {r : BR.Env} (hn : n ≤ 1000) (hs : ∀ i f : Nat, i < n → f < 4 → ∀ r1 r2, gN 2 (.int i) r = some r1 → gN 3 (.int f) (wipeE r1 [3]) = some r2 → e r2 S = .ok (.bl true) S) : ∀ (ds : List BR.D) (acc : List BR.D), (∀ d ∈ ds, ∃ i : Nat, d = .int i ∧ i < n) → acc.length + 4 * ds.length ≤ 5000 → (∀ d ∈ acc, d = .bl true) →
    ∃ acc2, lc2Go (gN 2) tYes (iRange1 (eC (.int 4))) (gN 3) tYes e [3] r ds acc S = .ok acc2 S ∧ ∀ d ∈ acc2, d = .bl true
  | [], acc, _, _, h => ⟨acc, rfl, h⟩
  | d :: ds, acc, hd, hl, h => by
    obtain ⟨i, rfl, hi⟩ := hd d List.mem_cons_self
    simp only [List.length_cons] at hl
    have lc := lcGo_map (g := gN 3) (t := tYes) (e := e) (r := wipeE (r.set 2 (.val (.int i))) [3]) (S := S) (ds := rangeD 0 4) (acc := acc) (fun _ => true) (fun _ => BR.D.bl true) (fun d hd => by
      obtain ⟨j, hj⟩ := List.getElem?_of_mem hd
      obtain ⟨rfl, hk⟩ := rangeD_at hj
      refine ⟨_, rfl, rfl, fun _ => ?_⟩
      rw [show (0 : Int) + (j : Int) = (j : Int) by omega]
      exact hs i j hi (by omega) _ _ rfl rfl) (by rw [rangeD_len]; simp [lim]; omega)
    obtain ⟨acc2, e2, h2⟩ := lc2_true hn hs ds (acc ++ [.bl true, .bl true, .bl true, .bl true]) (fun d hd2 => hd d (List.mem_cons_of_mem _ hd2)) (by simp; omega) (fun d hd => by
      rcases List.mem_append.mp hd with q | q
      · exact h d q
      · simpa using q)
    refine ⟨acc2, ?_, h2⟩
    unfold lc2Go
    have ir := iR1 (a := eC (.int 4)) (r := r.set 2 (.val (.int i))) (S := S) (n := 4) rfl (by decide)
    have rl : ((rangeD 0 4).filter fun _ => true).map (fun _ => BR.D.bl true) = [.bl true, .bl true, .bl true, .bl true] := rfl
    rw [rl] at lc
    simp only [p_gN, p_tYes, bind_ok, if_true, ir, lc, e2]
theorem space_ok {S : Store} {d : BR.D} {n : Nat} {s : Spc} (h : SpRd S d n s) (v : Valid n s) (hn : 0 < n ∧ n ≤ 1000) : m_space_of [d] S = .ok (.trn (tellT n s)) S := by
  obtain ⟨xs, hd, hl, hx⟩ := h
  have ln := hd.len
  obtain ⟨r2, e2, x2, rfl⟩ := hd.for (a := eV 0) (g := gN 2) (b := l1_space_of) (r := [.val d, .own (.lst []), .no, .no]) rfl (by omega) (fun i r => ∃ x2, r = [.val d, .own (.lst (tellT i s)), x2, .no]) (fun i y r hy hr => by
    obtain ⟨x2, rfl⟩ := hr
    have hi : i < n := by rw [← hl]; exact (List.getElem?_eq_some_iff.mp hy).1
    obtain ⟨a, b, c, e, hb, h0, h1, h2, h3⟩ := hx i y hy
    have tt : ∀ f < 4, ∀ o t, s i f = some (o, t) → t < 24 := fun f hf o t q => (v i hi f hf o t q).2.1
    have j0 := joining_ok h0 (tt 0 (by decide))
    have j1 := joining_ok h1 (tt 1 (by decide))
    have j2 := joining_ok h2 (tt 2 (by decide))
    have j3 := joining_ok h3 (tt 3 (by decide))
    have lc := hb.lc (a := eB 2) (g := gN 3) (t := tYes) (e := eA m_joining_of (aC (eV 3) aN)) (vs := [3]) (r := [.val d, .own (.lst (tellT i s)), .val y, .no]) rfl (by simp) (fun x => match m_joining_of [x] S with
      | .ok z _ => z
      | _ => .non) (fun x hx => by
        refine ⟨_, rfl, rfl, ?_⟩
        simp only [List.mem_cons, List.not_mem_nil, or_false] at hx
        rcases hx with rfl | rfl | rfl | rfl <;> simp [j0, j1, j2, j3])
    simp only [List.map_cons, List.map_nil, j0, j1, j2, j3] at lc
    have tl : (tellT i s).length < 16777216 := by simp [tellT]; omega
    have tr : dTrn (.lst [dF (s i 0), dF (s i 1), dF (s i 2), dF (s i 3)]) S = .ok (rowT s i) S := rfl
    have ts : tellT (i + 1) s = tellT i s ++ [rowT s i] := by simp [tellT, List.range_succ]
    have lb := hb.len
    simp only [List.length_cons, List.length_nil] at lb
    refine ⟨_, [.val d, .own (.lst (tellT (i + 1) s)), .val y, .no], rfl, ?_, _, rfl⟩
    simp [l1_space_of, hb.row, lb, lc, tr, tl, lim, ts, -p_lLc]) ⟨_, rfl⟩
  rw [hl] at e2
  obtain ⟨acc, e3, h3⟩ := lc2_true (S := S) (n := n) (e := eA m_is_joined_back (aC (eV 1) (aC (eV 2) (aC (eV 3) aN)))) (r := [.val d, .val (.lst (tellT n s)), .no, .no]) hn.2 (fun i f hi hf r1 r2 q1 q2 => by
    cases q1
    cases q2
    simp [joined_ok v hi hf hn.2]) (rangeD 0 n) [] (fun d hd => by
      obtain ⟨j, hj⟩ := List.getElem?_of_mem hd
      obtain ⟨rfl, hk⟩ := rangeD_at hj
      exact ⟨j, by rw [show (0 : Int) + (j : Int) = (j : Int) by omega], by omega⟩) (by rw [rangeD_len]; simp; omega) (by simp)
  have lt : dLen (.lst (tellT n s)) S = .ok (.int n) S := by simp [dLen, tellT]
  have l0 : ¬ ((n : Int) = 0) := by omega
  rw [hl] at ln
  have lcc : lLc2 (iRange1 (e1 dLen (eB 1))) (gN 2) tYes (iRange1 (eC (.int 4))) (gN 3) tYes (eA m_is_joined_back (aC (eV 1) (aC (eV 2) (aC (eV 3) aN)))) [2, 3] [3] [.val d, .val (.lst (tellT n s)), x2, .no] S = .ok acc S := by
    unfold lLc2
    have ir := iR1 (a := e1 dLen (eB 1)) (r := [.val d, .val (.lst (tellT n s)), x2, .no]) (S := S) (n := (n : Int)) (by rw [p_e1]; exact lt) (by simp only [big62]; omega)
    rw [ir, bind_ok]
    exact e3
  have da := all_true (S := S) h3
  have tr : dTrn (.lst (tellT n s)) S = .ok (.trn (tellT n s)) S := rfl
  refine runA_ok rfl ?_
  unfold b_space_of
  refine seq_ok (r1 := [.val d, .no, .no, .no]) (S1 := S) ?_ (seq_ok (r1 := [.val d, .own (.lst []), .no, .no]) (S1 := S) rfl (seq_ok e2 ?_))
  · have l1 : ¬ (n = 0) := by omega
    simp [BR.start, hd.row, ln, l1]
  · refine frzS rfl (seq_ok (r1 := [.val d, .val (.lst (tellT n s)), x2, .no]) (S1 := S) (ifF (tnot_ok (te_ok ((e1_ok (frz_ok lcc)).trans da))) rfl) ?_)
    exact ret_ok ((e1_ok rfl).trans tr)
end LW

end

section
/-! The reel wound; a space shut. -/
namespace LW
open PySem BR
def t18 : Int := 10 ^ 18
def t360 : Int := 3 ^ 60
theorem ten18 {S : Store} : dPow (.int 10) (.int 18) S = .ok (.int t18) S := by rw [p_pow (by decide)]; rfl
theorem thr60 {S : Store} : dPow (.int 3) (.int 60) S = .ok (.int t360) S := by rw [p_pow (by decide)]; rfl
theorem cut_ok {S : Store} {ns : List Int} {r : BR.Env} (h0 : r[0]? = some (.val (.scr (ns.map BR.D.int)))) : ∃ ms : List Int, eSl (eB 0) pNo (pSo (eC (.int 63))) r S = .ok (.lst (ms.map BR.D.int)) S ∧ ms.length ≤ ns.length := by
  obtain ⟨ms, e, hl⟩ := cutD_map ns none (some 63)
  exact ⟨ms, by simp [h0, e], hl⟩
theorem reel_ok (ns : List Int) (hn : ns.length ≤ 63) : ∃ S, m__law_reel [.scr (ns.map BR.D.int)] [] = .ok (.ref 0) S ∧ Rl S 0 0 ∧ S.length = 1 := by
  obtain ⟨ms, e, hl⟩ := cutD_map ns none (some 63)
  have sl : ∀ (r : BR.Env), r[0]? = some (.val (.scr (ns.map BR.D.int))) → eSl (eB 0) pNo (pSo (eC (.int 63))) r [] = .ok (.lst (ms.map BR.D.int)) [] := fun r h0 => by simp [h0, e]
  obtain ⟨r2, S2, eLoop, s, x, rfl, rfl, h2⟩ := forGo_inv (g := gN 2) (b := l1__law_reel) (ds := ms.map BR.D.int) (fun i r S => ∃ s x, S = [] ∧ r = [.val (.scr (ns.map BR.D.int)), .val (.int s), x, .no] ∧ (0 ≤ s ∧ s < MR)) (fun i d r S hd h => by
    obtain ⟨s, x, rfl, rfl, hs⟩ := h
    rw [List.getElem?_map] at hd
    cases q : ms[i]? with
    | none => rw [q] at hd; cases hd
    | some z =>
      rw [q] at hd
      cases hd
      have g1 : s.natAbs.log2 < 128 := log2_lt (by
        have : MR < 2 ^ 128 := by decide
        omega) (by decide)
      refine ⟨_, [.val (.scr (ns.map BR.D.int)), .val (.int ((s * s + z % 1000000000000000003 + 11) % MR)), .val (.int z), .no], [], rfl, .inl ?_, _, _, rfl, rfl, Int.emod_nonneg _ (by decide), Int.emod_lt_of_pos _ mr_pos⟩
      simp [l1__law_reel, p_mul (show s.natAbs.log2 + s.natAbs.log2 < 1000000 by omega), p_mod (show (0 : Int) < 1000000000000000003 by decide), two63, two64, mul6463, mr_eq, p_mod mr_pos])
    (r := [.val (.scr (ns.map BR.D.int)), .val (.int t360), .no, .no]) (S := []) ⟨_, _, rfl, rfl, by decide⟩
  have c1 := lcGo_map (g := gN 2) (t := tE (e2 dGe (eB 2) (e2 dPow (eC (.int 10)) (eC (.int 18))))) (e := e2 dSub (eB 2) (e2 dPow (eC (.int 10)) (eC (.int 18)))) (r := [.val (.scr (ns.map BR.D.int)), .val (.int s), .no, .no]) (S := []) (ds := ms.map BR.D.int) (acc := []) (fun d => match d with
    | .int z => decide (t18 ≤ z)
    | _ => false) (fun d => match d with
    | .int z => .int (z - t18)
    | d => d) (fun d hd => by
      obtain ⟨z, _, rfl⟩ := List.mem_map.mp hd
      exact ⟨_, rfl, by simp [ten18], fun _ => by simp [ten18]⟩) (by simp [lim]; omega)
  have c2 := fun gr : BR.D => lcGo_map (g := gN 2) (t := tYes) (e := e2 dMod (eB 2) (eC (.int 1000003))) (r := [.val (.scr (ns.map BR.D.int)), .val (.int s), .no, .val gr]) (S := []) (ds := ms.map BR.D.int) (acc := []) (fun _ => true) (fun d => match d with
    | .int z => .int (z % 1000003)
    | d => d) (fun d hd => by
      obtain ⟨z, _, rfl⟩ := List.mem_map.mp hd
      exact ⟨_, rfl, rfl, fun _ => by simp [p_mod (show (0 : Int) < 1000003 by decide)]⟩) (by simp [lim]; omega)
  have m1 : ((ms.map BR.D.int).filter fun d => match d with
    | .int z => decide (t18 ≤ z)
    | _ => false).map (fun d => match d with
    | .int z => .int (z - t18)
    | d => d) = ((ms.filter fun z => decide (t18 ≤ z)).map fun z => z - t18).map BR.D.int := by
    rw [List.filter_map, List.map_map, List.map_map]
    rfl
  have m2 : ((ms.map BR.D.int).filter fun _ => true).map (fun d => match d with
    | .int z => .int (z % 1000003)
    | d => d) = (ms.map fun z => z % 1000003).map BR.D.int := by
    rw [List.filter_eq_self.mpr (fun _ _ => rfl), List.map_map, List.map_map]
    rfl
  rw [List.nil_append, m1] at c1
  have c2 := fun gr => c2 gr
  simp only [List.nil_append, m2] at c2
  generalize hg : ((ms.filter fun z => decide (t18 ≤ z)).map fun z => z - t18) = gs at *
  have gl : gs.length ≤ 63 := by
    rw [← hg, List.length_map]
    have := List.length_filter_le (fun z => decide (t18 ≤ z)) ms
    omega
  generalize hc : (ms.map fun z => z % 1000003) = cs at *
  have cl : cs.length ≤ 63 := by rw [← hc, List.length_map]; omega
  have cm : ∀ x ∈ cs, 0 ≤ x ∧ x < 1000003 := fun x hx => by
    rw [← hc] at hx
    obtain ⟨z, _, rfl⟩ := List.mem_map.mp hx
    exact ⟨Int.emod_nonneg _ (by decide), Int.emod_lt_of_pos _ (by decide)⟩
  refine ⟨[rlv gs (cs ++ [41]) 0 s], ?_, ⟨gs, cs ++ [41], 0, s, rfl, gl, ⟨by simp, by simp; omega, fun y hy => ?_⟩, by decide, h2⟩, rfl⟩
  · refine runA_ok rfl ?_
    unfold b__law_reel
    refine seq_ok (r1 := [.val (.scr (ns.map BR.D.int)), .val (.int t360), .no, .no]) (S1 := []) ?_ (seq_ok (mFor_fix (iSeq_seq (sl _ rfl) rfl) eLoop) (seq_ok (set_frz (lLc_fix (vs := [2]) (iSeq_seq (sl _ rfl) rfl) c1)) ?_))
    · simp [BR.start, thr60]
    · have cc := lLc_fix (g := gN 2) (t := tYes) (e := e2 dMod (eB 2) (eC (.int 1000003))) (vs := [2]) (r := [.val (.scr (ns.map BR.D.int)), .val (.int s), x, .val (.lst (gs.map BR.D.int))]) (iSeq_seq (sl _ rfl) rfl) (c2 (.lst (gs.map BR.D.int)))
      have l1 : cs.length + 1 ≤ 16777216 := by omega
      simp [cc, dAdd, lim, l1, rlv, -p_lLc]
  · rcases List.mem_append.mp hy with q | q
    · exact cm y q
    · rw [List.mem_singleton.mp q]; decide
/-- tuple([tuple(block) for block in blocks]) -/
theorem shut_ok {S : Store} {lo kb n : Nat} {ks : List Nat} {s : Spc} (sp : SpAt S lo kb ks n s) (hn : n ≤ 1000) : m__law_shut [.ref kb] S = .ok (.trn (tellT n s)) S := by
  have hv : Vw S (.ref kb) (ks.map BR.D.ref) := .inl (.inr (.inr ⟨kb, rfl, sp.top⟩))
  have lc := hv.lc (a := eB 0) (g := gN 1) (t := tYes) (e := e1 dTrn (eB 1)) (vs := [1]) (r := [.val (.ref kb), .no]) rfl (by simp [sp.len]; omega) (fun d => match dTrn d S with
    | .ok x _ => x
    | _ => .non) (fun d hd => by
      obtain ⟨k, hk, rfl⟩ := List.mem_map.mp hd
      obtain ⟨i, hi⟩ := List.getElem?_of_mem hk
      have hr := sp.row i k hi
      have tr : dTrn (.ref k) S = .ok (.trn (Row s i)) S := by simp [dTrn, hr]
      exact ⟨_, rfl, rfl, by simp [tr]⟩)
  have e : (ks.map BR.D.ref).map (fun d => match dTrn d S with
    | .ok x _ => x
    | _ => .non) = tellT n s := by
    apply List.ext_getElem?
    intro i
    rw [List.getElem?_map, List.getElem?_map]
    unfold tellT
    rw [List.getElem?_map]
    by_cases hi : i < n
    · rw [List.getElem?_range hi]
      have hi2 : i < ks.length := by rw [sp.len]; exact hi
      have q : ks[i]? = some ks[i] := List.getElem?_eq_getElem hi2
      have hr := sp.row i ks[i] q
      have tr : dTrn (.ref ks[i]) S = .ok (.trn (Row s i)) S := by simp [dTrn, hr]
      rw [q]
      simp only [Option.map_some, tr, rowT]
    · rw [List.getElem?_eq_none_iff.mpr (by rw [sp.len]; omega), List.getElem?_eq_none_iff.mpr (by simp; omega)]
      rfl
  rw [e] at lc
  refine runA_ok rfl ?_
  exact ret_ok ((e1_ok (frz_ok lc)).trans rfl)
end LW

end

section
/-! Alike; mixed. -/
namespace LW
open PySem BR
/-- a nest of tuples of numbers and None, of a depth of at most k -/
inductive Pl : Nat → BR.D → Prop where
  | non (k : Nat) : Pl k .non
  | int (k : Nat) (i : Int) : Pl k (.int i)
  | trn (k : Nat) (ds : List BR.D) (h : ∀ d ∈ ds, Pl k d) (hl : ds.length ≤ 1000) : Pl (k + 1) (.trn ds)
/-- mixed: a nest of tuples or lists instead of tuples -/
inductive Mx : BR.D → BR.D → Prop where
  | non : Mx .non .non
  | int (i : Int) : Mx (.int i) (.int i)
  | trn (ds es : List BR.D) (e : BR.D) (hl : ds.length = es.length) (h : ∀ (i : Nat) (d e' : BR.D), ds[i]? = some d → es[i]? = some e' → Mx d e') (he : Vn e es) : Mx (.trn ds) e
/-- draws that a nest asks for -/
def wt : Nat → BR.D → Nat
  | 0, _ => 0
  | k + 1, .trn ds => 1 + (ds.map (wt k)).sum
  | _, _ => 0
end LW

end

section
/-! A space mixed reads as the space. -/
namespace LW
open PySem BR
theorem Pl_up {k : Nat} {d : BR.D} (h : Pl k d) : Pl (k + 1) d := by
  induction h with
  | non k => exact .non _
  | int k i => exact .int _ i
  | trn k ds h hl ih => exact .trn _ ds ih hl
theorem Pl_T (t : Nat) : Pl 1 (dT t) := .trn 0 _ (fun d hd => by
  simp only [List.mem_cons, List.not_mem_nil, or_false] at hd
  rcases hd with rfl | rfl | rfl | rfl <;> exact .int _ _) (by simp)
theorem Pl_F : ∀ x, Pl 2 (dF x)
  | none => .non _
  | some (o, t) => .trn 1 _ (fun d hd => by
    simp only [List.mem_cons, List.not_mem_nil, or_false] at hd
    rcases hd with rfl | rfl
    · exact .int _ _
    · exact Pl_T t) (by simp)
theorem Pl_R (s : Spc) (i : Nat) : Pl 3 (rowT s i) := .trn 2 _ (fun d hd => by
  simp only [Row, List.mem_cons, List.not_mem_nil, or_false] at hd
  rcases hd with rfl | rfl | rfl | rfl <;> exact Pl_F _) (by simp [Row_len])
theorem Pl_S {n : Nat} (s : Spc) (hn : n ≤ 1000) : Pl 4 (.trn (tellT n s)) := .trn 3 _ (fun d hd => by
  obtain ⟨i, _, rfl⟩ := List.mem_map.mp hd
  exact Pl_R s i) (by simp [tellT]; exact hn)
theorem Mx_int {i : Int} {e : BR.D} (h : Mx (.int i) e) : e = .int i := by cases h; rfl
theorem Mx_non {e : BR.D} (h : Mx .non e) : e = .non := by cases h; rfl
theorem Mx_trn {ds : List BR.D} {e : BR.D} (h : Mx (.trn ds) e) : ∃ es, Vn e es ∧ ds.length = es.length ∧ ∀ (i : Nat) (d e' : BR.D), ds[i]? = some d → es[i]? = some e' → Mx d e' := by
  cases h with
  | trn _ es _ hl h he => exact ⟨es, he, hl, h⟩
theorem four {α : Type} {l : List α} (h : 4 = l.length) : ∃ a b c d, l = [a, b, c, d] := by
  match l, h with
  | [a, b, c, d], _ => exact ⟨a, b, c, d, rfl⟩
theorem two {α : Type} {l : List α} (h : 2 = l.length) : ∃ a b, l = [a, b] := by
  match l, h with
  | [a, b], _ => exact ⟨a, b, rfl⟩
theorem mx_turn {S : Store} {t : Nat} {e : BR.D} (h : Mx (dT t) e) : Vo S e (tI t) := by
  obtain ⟨es, he, hl, hx⟩ := Mx_trn h
  obtain ⟨a, b, c, d, rfl⟩ := four hl
  have h0 := Mx_int (hx 0 _ _ rfl rfl)
  have h1 := Mx_int (hx 1 _ _ rfl rfl)
  have h2 := Mx_int (hx 2 _ _ rfl rfl)
  have h3 := Mx_int (hx 3 _ _ rfl rfl)
  subst h0 h1 h2 h3
  exact he.vo
theorem mx_face {S : Store} {x : Option (Nat × Nat)} {e : BR.D} (h : Mx (dF x) e) : FaceRd S e x := by
  cases x with
  | none => exact Mx_non h
  | some x =>
    obtain ⟨o, t⟩ := x
    obtain ⟨es, he, hl, hx⟩ := Mx_trn h
    obtain ⟨a, b, rfl⟩ := two hl
    have h0 := Mx_int (hx 0 _ _ rfl rfl)
    have h1 := hx 1 _ _ rfl rfl
    subst h0
    exact ⟨b, he, mx_turn h1⟩
theorem mx_block {S : Store} {s : Spc} {i : Nat} {e : BR.D} (h : Mx (rowT s i) e) : BlockRd S e s i := by
  obtain ⟨es, he, hl, hx⟩ := Mx_trn h
  obtain ⟨a, b, c, d, rfl⟩ := four hl
  exact ⟨a, b, c, d, he.vw, mx_face (hx 0 _ _ rfl rfl), mx_face (hx 1 _ _ rfl rfl), mx_face (hx 2 _ _ rfl rfl), mx_face (hx 3 _ _ rfl rfl)⟩
theorem mx_space {S : Store} {n : Nat} {s : Spc} {e : BR.D} (h : Mx (.trn (tellT n s)) e) : SpRd S e n s := by
  obtain ⟨es, he, hl, hx⟩ := Mx_trn h
  refine ⟨es, he.vw, by rw [← hl]; simp [tellT], fun i y hy => ?_⟩
  have hi : i < n := by
    have := (List.getElem?_eq_some_iff.mp hy).1
    rw [← hl] at this
    simpa [tellT] using this
  exact mx_block (hx i (rowT s i) y (by simp [tellT, hi]) hy)
/-- what reads as a space without a cell reads so in any store -/
theorem mx_any {n : Nat} {s : Spc} {e : BR.D} (h : Mx (.trn (tellT n s)) e) : ∀ S : Store, SpRd S e n s := fun _ => mx_space h
/-! ### the text of a mixed nest -/
theorem mx_ok {d e : BR.D} (h : Mx d e) : ∀ k, Pl k d → okP (k + 1) e = true := by
  induction h with
  | non => intro k _; cases k <;> rfl
  | int i => intro k _; cases k <;> rfl
  | trn ds es e hl h he ih =>
    intro k hp
    cases hp with
    | trn k _ hd _ =>
      have all : es.all (okP (k + 1)) = true := by
        rw [List.all_eq_true]
        intro y hy
        obtain ⟨i, hi⟩ := List.getElem?_of_mem hy
        have hlt : i < ds.length := by
          have := (List.getElem?_eq_some_iff.mp hi).1
          omega
        have q : ds[i]? = some ds[i] := List.getElem?_eq_getElem hlt
        exact ih i ds[i] y q hi k (hd _ (List.getElem_mem hlt))
      rcases he with rfl | rfl <;> simpa [okP] using all
end LW

end

section
namespace LW
open PySem BR
theorem strOk_int {x : Int} (h : 0 ≤ x) : PyData.strOk (PyData.int x).shown = true := by
  obtain ⟨n, rfl⟩ := Int.eq_ofNat_of_zero_le h
  rw [PyData.shown_int]
  unfold PyData.strOk
  rw [← Array.all_toList]
  rw [List.all_eq_true]
  intro c hc
  have e := TL.tl_num n
  have hd := TL.numL_digits n
  have hc' : c ∈ TL.numL n := by rw [← e]; exact hc
  have := hd c hc'
  simp
  omega
end LW

end

section
/-! The text of a small nest. -/
namespace LW
open PySem BR
theorem strOk_app (a b : Str) : PyData.strOk (a ++ b) = (PyData.strOk a && PyData.strOk b) := by
  unfold PyData.strOk
  show (a.cps ++ b.cps).all _ = _
  rw [Array.all_append]
theorem strOk_join (sep : Str) (hs : PyData.strOk sep = true) : ∀ ts : List Str, (∀ t ∈ ts, PyData.strOk t = true) → PyData.strOk (Str.join sep ts) = true
  | [], _ => by unfold Str.join; decide +kernel
  | [t], h => h t List.mem_cons_self
  | t :: u :: ts, h => by
    show PyData.strOk (t ++ sep ++ Str.join sep (u :: ts)) = true
    rw [strOk_app, strOk_app, h t List.mem_cons_self, hs, strOk_join sep hs (u :: ts) fun x hx => h x (List.mem_cons_of_mem _ hx)]
    rfl
/-- a small nest of tuples and lists, by the most things that stand at each depth -/
inductive Sm : List Nat → BR.D → Prop where
  | non (ws : List Nat) : Sm ws .non
  | int (ws : List Nat) (i : Int) (h : 0 ≤ i ∧ i < 1000000) : Sm ws (.int i)
  | seq (w : Nat) (ws : List Nat) (es : List BR.D) (e : BR.D) (h : ∀ d ∈ es, Sm ws d) (hl : es.length ≤ w) (he : Vn e es) : Sm (w :: ws) e
def wb : List Nat → Nat
  | [] => 21
  | w :: ws => w * (wb ws + 1) + 21
theorem wb_low : ∀ ws, 21 ≤ wb ws
  | [] => Nat.le_refl _
  | w :: ws => Nat.le_add_left _ _
theorem toPs_map : ∀ ds : List BR.D, toPs ds = ds.map toP
  | [] => rfl
  | d :: ds => by rw [toPs, toPs_map ds]; rfl
structure Txt (k : List Nat) (d : PyData) : Prop where
  show_ : d.showable = true
  short : d.leavesShort 13 = true
  wt : d.weight ≤ wb k
  ok : PyData.strOk d.shown = true
theorem Txt.all {k : List Nat} : ∀ (ds : List PyData), (∀ d ∈ ds, Txt k d) → PyData.showableAll ds = true ∧ PyData.leavesShortAll 13 ds = true ∧ PyData.weightAll ds ≤ ds.length * (wb k + 1) ∧ ∀ t ∈ PyData.shownAll ds, PyData.strOk t = true
  | [], _ => ⟨by simp [PyData.showableAll], by simp [PyData.leavesShortAll], by simp [PyData.weightAll], by simp [PyData.shownAll]⟩
  | d :: ds, h => by
    obtain ⟨h1, h2, h3, h4⟩ := Txt.all ds fun x hx => h x (List.mem_cons_of_mem _ hx)
    have hd := h d List.mem_cons_self
    refine ⟨by simp [PyData.showableAll, hd.show_, h1], by simp [PyData.leavesShortAll, hd.short, h2], ?_, fun t ht => ?_⟩
    · simp only [PyData.weightAll, List.length_cons, Nat.add_mul, Nat.one_mul]
      have := hd.wt
      omega
    · simp only [PyData.shownAll, List.mem_cons] at ht
      rcases ht with rfl | ht
      · exact hd.ok
      · exact h4 t ht
theorem sm_txt {k : List Nat} {e : BR.D} (h : Sm k e) : Txt k (toP e) := by
  induction h with
  | non k => exact ⟨by simp [toP, PyData.showable], by simp [toP, PyData.leavesShort], by have := wb_low k; simp [toP, PyData.weight] <;> omega, by simp only [toP, PyData.shown_none]; decide +kernel⟩
  | int k i hi =>
    have g : i.natAbs.log2 < 20 := log2_lt (by omega) (by decide)
    have wk := wb_low k
    refine ⟨by simp [toP, PyData.showable]; omega, ?_, ?_, strOk_int hi.1⟩
    · simp only [toP, PyData.leavesShort, decide_eq_true_eq]
      exact PyData.shown_int_le (by omega)
    · simp only [toP, PyData.weight]
      split <;> omega
  | seq w k es e h hl he ih =>
    have hp : toP e = .list (es.map toP) ∨ toP e = .tuple (es.map toP) := by
      rcases he with rfl | rfl
      · exact .inr (by simp [toP, toPs_map])
      · exact .inl (by simp [toP, toPs_map])
    obtain ⟨h1, h2, h3, h4⟩ := Txt.all (k := k) (es.map toP) (fun d hd => by obtain ⟨x, hx, rfl⟩ := List.mem_map.mp hd; exact ih x hx)
    have w : PyData.weightAll (es.map toP) ≤ wb (w :: k) := by
      rw [List.length_map] at h3
      have : es.length * (wb k + 1) ≤ w * (wb k + 1) := Nat.mul_le_mul_right _ hl
      simp only [wb]
      omega
    have j := strOk_join (Str.ofString ", ") (by decide +kernel) _ h4
    rcases hp with hp | hp
    · rw [hp]
      refine ⟨by simp [PyData.showable, h1], by simp [PyData.leavesShort, h2], by simp [PyData.weight]; exact w, ?_⟩
      rw [PyData.shown_list, strOk_app, strOk_app, j]
      decide +kernel
    · rw [hp]
      refine ⟨by simp [PyData.showable, h1], by simp [PyData.leavesShort, h2], by simp [PyData.weight]; exact w, ?_⟩
      rw [PyData.shown_tuple, strOk_app, strOk_app, j]
      split <;> decide +kernel
theorem okP_up : ∀ (k : Nat) (d : BR.D), okP k d = true → okP (k + 1) d = true
  | 0, d, h => by cases d <;> simp [okP] at h
  | k + 1, d, h => by
    cases d with
    | tup ds | trn ds | lst ds | scr ds =>
      simp only [okP, List.all_eq_true] at h ⊢
      exact fun x hx => okP_up k x (h x hx)
    | _ => simpa [okP] using h
theorem okP_le {j k : Nat} (hj : j ≤ k) {d : BR.D} (h : okP j d = true) : okP k d = true := by
  induction hj with
  | refl => exact h
  | step _ ih => exact okP_up _ _ ih
theorem sm_ok {k : List Nat} {e : BR.D} (h : Sm k e) : okP (k.length + 1) e = true := by
  induction h with
  | non k => cases k <;> rfl
  | int k i _ => cases k <;> rfl
  | seq w k es e h hl he ih =>
    have all : es.all (okP (k.length + 1)) = true := by rw [List.all_eq_true]; exact ih
    rcases he with rfl | rfl <;> simpa [okP] using all
theorem repr_ok {S : Store} {e : BR.D} {ws : List Nat} (h : Sm ws e) (hw : ws.length < 60 ∧ 16 * (wb ws + 5) ≤ 16777216) (hv : vw S e = some e) : ∃ t, dRepr e S = .ok (.str t) S ∧ ∀ S', dNe (.str t) (.str t) S' = .ok (.bl false) S' := by
  have tx := sm_txt h
  have ok : okP deep e = true := okP_le (by unfold deep; omega) (sm_ok h)
  have len : (toP e).shown.length ≤ 16777216 := by
    have := PyData.shown_le 13 (by decide) (toP e) tx.short
    have w := tx.wt
    omega
  refine ⟨(toP e).shown, ?_, fun S' => ?_⟩
  · simp [dRepr, hv, ok, tx.show_, lim, len]
  · have : okP deep (.str (toP e).shown) = true := tx.ok
    simp [dNe, this, eqD, toP, PyData.eqv]
end LW

end

section
/-! A mixed space is small; a joining undone; alike and mixed at the law's depth. -/
namespace LW
open PySem BR
theorem sm_of {w : Nat} {k : List Nat} {ds : List BR.D} {e : BR.D} (h : Mx (.trn ds) e) (hl : ds.length ≤ w) (hd : ∀ d ∈ ds, ∀ e', Mx d e' → Sm k e') : Sm (w :: k) e := by
  obtain ⟨es, he, hl2, hx⟩ := Mx_trn h
  refine .seq w k es e (fun y hy => ?_) (by omega) he
  obtain ⟨i, hi⟩ := List.getElem?_of_mem hy
  have hlt : i < ds.length := by
    have := (List.getElem?_eq_some_iff.mp hi).1
    omega
  exact hd ds[i] (List.getElem_mem hlt) y (hx i ds[i] y (List.getElem?_eq_getElem hlt) hi)
theorem tn_lt4 : ∀ t < 24, ∀ f < 4, tn t f < 4 := by decide
theorem sm_turn {t : Nat} {e : BR.D} (ht : t < 24) (h : Mx (dT t) e) : Sm [4] e := sm_of (ds := tI t) h (by simp [tI]) fun d hd e' he => by
  simp only [tI, List.mem_cons, List.not_mem_nil, or_false] at hd
  have a0 := tn_lt4 t ht 0 (by decide)
  have a1 := tn_lt4 t ht 1 (by decide)
  have a2 := tn_lt4 t ht 2 (by decide)
  have a3 := tn_lt4 t ht 3 (by decide)
  rcases hd with rfl | rfl | rfl | rfl <;> (rw [Mx_int he]; exact .int _ _ (by omega))
theorem sm_face {n : Nat} {x : Option (Nat × Nat)} {e : BR.D} (hx : ∀ o t, x = some (o, t) → o < n ∧ t < 24) (hn : n ≤ 12) (h : Mx (dF x) e) : Sm [2, 4] e := by
  cases x with
  | none => rw [Mx_non h]; exact .non _
  | some x =>
    obtain ⟨o, t⟩ := x
    obtain ⟨h1, h2⟩ := hx o t rfl
    refine sm_of (ds := [.int o, dT t]) h (by simp) fun d hd e' he => ?_
    simp only [List.mem_cons, List.not_mem_nil, or_false] at hd
    rcases hd with rfl | rfl
    · rw [Mx_int he]; exact .int _ _ (by omega)
    · exact sm_turn h2 he
theorem sm_space {n : Nat} {s : Spc} {e : BR.D} (v : Valid n s) (hn : n ≤ 12) (h : Mx (.trn (tellT n s)) e) : Sm [12, 4, 2, 4] e := sm_of h (by simp [tellT]; exact hn) fun d hd e' he => by
  obtain ⟨i, hi, rfl⟩ := List.mem_map.mp hd
  have hi := List.mem_range.mp hi
  have vv : ∀ f < 4, ∀ o t, s i f = some (o, t) → o < n ∧ t < 24 := fun f hf o t q => ⟨(v i hi f hf o t q).1, (v i hi f hf o t q).2.1⟩
  refine sm_of (ds := Row s i) he (by rw [Row_len]; decide) fun d hd e' he => ?_
  simp only [Row, List.mem_cons, List.not_mem_nil, or_false] at hd
  rcases hd with rfl | rfl | rfl | rfl
  · exact sm_face (vv 0 (by decide)) hn he
  · exact sm_face (vv 1 (by decide)) hn he
  · exact sm_face (vv 2 (by decide)) hn he
  · exact sm_face (vv 3 (by decide)) hn he
theorem mx_vw {n : Nat} {s : Spc} {e : BR.D} {S : Store} (h : Mx (.trn (tellT n s)) e) : vw S e = some e := by
  obtain ⟨es, he, _⟩ := Mx_trn h
  rcases he with rfl | rfl <;> rfl
def unset (s : Spc) (b f o t : Nat) : Spc := LW.put (LW.put s b f none) o (tn t f) none
theorem unset_eq {s : Spc} {b f o t i g : Nat} (h1 : ¬ (i = b ∧ g = f)) (h2 : ¬ (i = o ∧ g = tn t f)) : unset s b f o t i g = s i g := by simp [unset, LW.put, h1, h2]
theorem unset_some {s : Spc} {b f o t i g : Nat} {x : Nat × Nat} (h : unset s b f o t i g = some x) : ¬ (i = b ∧ g = f) ∧ ¬ (i = o ∧ g = tn t f) ∧ s i g = some x := by
  by_cases h2 : i = o ∧ g = tn t f
  · simp [unset, LW.put, h2] at h
  · by_cases h1 : i = b ∧ g = f
    · unfold unset LW.put at h
      rw [if_neg h2, if_pos h1] at h
      cases h
    · exact ⟨h1, h2, by rw [unset_eq h1 h2] at h; exact h⟩
theorem Valid.unset {n : Nat} {s : Spc} (v : Valid n s) {b f o t : Nat} (hb : b < n) (hf : f < 4) (h : s b f = some (o, t)) : Valid n (unset s b f o t) := by
  obtain ⟨y1, y2, y3, y4⟩ := v b hb f hf o t h
  intro i hi g hg p u e
  obtain ⟨n1, n2, e⟩ := unset_some e
  obtain ⟨z1, z2, z3, z4⟩ := v i hi g hg p u e
  refine ⟨z1, z2, z3, ?_⟩
  rw [unset_eq]
  · exact z4
  · rintro ⟨q1, q2⟩
    rw [q1, q2, h] at z4
    cases z4
    apply n2
    refine ⟨rfl, ?_⟩
    rw [← q2, iv_tn u z2 g hg]
  · rintro ⟨q1, q2⟩
    rw [q1, q2, y4] at z4
    have a := congrArg (fun x => x.map Prod.fst) z4
    have c := congrArg (fun x => x.map Prod.snd) z4
    simp only [Option.map_some, Option.some.injEq] at a c
    have tu : t = u := by rw [← iv_iv t y2, c, iv_iv u z2]
    apply n1
    refine ⟨a.symm, ?_⟩
    rw [← iv_tn u z2 g hg, q2, tu, iv_tn u z2 f hf]
theorem Pl.mono {k j : Nat} {d : BR.D} (h : Pl k d) (hj : k ≤ j) : Pl j d := by
  induction hj with
  | refl => exact h
  | step _ ih => exact Pl_up ih
end LW

end

section
/-! Alike. -/
namespace LW
open PySem BR
theorem eqB {S : Store} {b : Bool} : dNe (.bl b) (.bl b) S = .ok (.bl false) S := by cases b <;> rfl
theorem alike_ok {S : Store} : ∀ (k : Nat) (d : BR.D), Pl k d → m__law_alike (k + 1) [d, d] S = .ok (.bl true) S := by
  intro k d h
  induction h with
  | non k =>
    show runA 2 4 (b__law_alike (m__law_alike k)) _ _ = _
    simp [b__law_alike, BR.start, dIsi, tyD, subTy, dIs, isNon]
  | int k i =>
    show runA 2 4 (b__law_alike (m__law_alike k)) _ _ = _
    simp [b__law_alike, BR.start, dIsi, tyD, subTy, dIs, isNon]
  | trn k ds h hl ih =>
    have lc := lcGo_map (g := gU [gN 2, gN 3]) (t := tYes) (e := eA (m__law_alike (k + 1)) (aC (eV 2) (aC (eV 3) aN))) (r := [.val (.trn ds), .val (.trn ds), .no, .no]) (S := S) (ds := pairsD ds ds) (acc := []) (fun _ => true) (fun _ => BR.D.bl true) (fun x hx => by
      obtain ⟨i, hi⟩ := List.getElem?_of_mem hx
      obtain ⟨a, b, ha, hb, rfl⟩ := pairsD_at hi
      rw [ha] at hb
      cases hb
      refine ⟨[.val (.trn ds), .val (.trn ds), .val a, .val a], rfl, rfl, fun _ => ?_⟩
      have := ih a (List.mem_of_getElem? ha)
      simp only [p_eA, p_aC, p_eV, List.getElem?_cons_succ, List.getElem?_cons_zero, bind_ok, p_aN, this]) (by simp [pairsD, lim]; omega)
    have it : iZip (eV 0) (eV 1) [.val (.trn ds), .val (.trn ds), .no, .no] S = .ok (.fix (pairsD ds ds)) S := rfl
    have lz := lLc_fix (vs := [2, 3]) it lc
    rw [List.nil_append, List.filter_eq_self.mpr (fun _ _ => rfl)] at lz
    have da := all_true (S := S) (ds := (pairsD ds ds).map fun _ => BR.D.bl true) (fun d hd => by obtain ⟨_, _, rfl⟩ := List.mem_map.mp hd; rfl)
    show runA 2 4 (b__law_alike (m__law_alike (k + 1))) _ _ = _
    have i1 : dIsi ["tuple"] (.trn ds) S = .ok (.bl true) S := by simp [dIsi, tyD, subTy]
    have i2 : dIsi ["list"] (.trn ds) S = .ok (.bl false) S := by simp [dIsi, tyD, subTy]
    have ln : dLen (.trn ds) S = .ok (.int ds.length) S := by simp [dLen]
    refine runA_ok rfl ?_
    unfold b__law_alike
    rw [p_seq]
    have st : mIf (tOr (tE (e1 (dIsi ["tuple"]) (eB 1))) (tE (e1 (dIsi ["list"]) (eB 1)))) (mSeq (mIf (tOr (tE (e2 dNe (e1 (dIsi ["tuple"]) (eB 0)) (e1 (dIsi ["tuple"]) (eB 1)))) (tE (e2 dNe (e1 (dIsi ["list"]) (eB 0)) (e1 (dIsi ["list"]) (eB 1))))) (mRet (eC (.bl false))) mNil)
        (mSeq (mIf (tE (e2 dNe (e1 dLen (eB 0)) (e1 dLen (eB 1)))) (mRet (eC (.bl false))) mNil)
        (mRet (e1 dAll (eFrz (lLc (iZip (eV 0) (eV 1)) (gU [(gN 2), (gN 3)]) tYes (eA (m__law_alike (k + 1)) (aC (eV 2) (aC (eV 3) aN))) [2, 3])))))) mNil (BR.start 4 [.trn ds, .trn ds]) S = .ok (.rt (.bl true)) S := by
      refine ifT (S1 := S) (by simp [BR.start, i1]) (seq_ok (r1 := [.val (.trn ds), .val (.trn ds), .no, .no]) (S1 := S) (by simp [BR.start, i1, i2, eqB]) (seq_ok (r1 := [.val (.trn ds), .val (.trn ds), .no, .no]) (S1 := S) (by simp [ln]) (ret_ok ((e1_ok (frz_ok lz)).trans da))))
    rw [st, sq_rt]
end LW

end

section
namespace LW
open PySem BR
theorem alike8 {S : Store} {n : Nat} (s : Spc) (hn : n ≤ 1000) : m__law_alike 8 [.trn (tellT n s), .trn (tellT n s)] S = .ok (.bl true) S := alike_ok 7 _ ((Pl_S s hn).mono (by decide))
end LW

end

section
/-! A space renamed: what it is, and the law's own way to it. -/
namespace LW
open PySem BR
def cm (a b : Nat) : Nat := ((List.range 24).find? fun t => tn t 0 == tn b (tn a 0) && tn t 1 == tn b (tn a 1) && tn t 2 == tn b (tn a 2)).getD 0
theorem cm_ok : ∀ a < 24, ∀ b < 24, cm a b < 24 ∧ ∀ f < 4, tn (cm a b) f = tn b (tn a f) := by decide +kernel
theorem fillL (w : Nat → BR.D) (z : BR.D) : ∀ {a : Nat}, a < 24 → (((([z, z, z, z] : List BR.D).set (tn a 0) (w 0)).set (tn a 1) (w 1)).set (tn a 2) (w 2)).set (tn a 3) (w 3) = [w (tn (iv a) 0), w (tn (iv a) 1), w (tn (iv a) 2), w (tn (iv a) 3)]
  | 0, _ => rfl
  | 1, _ => rfl
  | 2, _ => rfl
  | 3, _ => rfl
  | 4, _ => rfl
  | 5, _ => rfl
  | 6, _ => rfl
  | 7, _ => rfl
  | 8, _ => rfl
  | 9, _ => rfl
  | 10, _ => rfl
  | 11, _ => rfl
  | 12, _ => rfl
  | 13, _ => rfl
  | 14, _ => rfl
  | 15, _ => rfl
  | 16, _ => rfl
  | 17, _ => rfl
  | 18, _ => rfl
  | 19, _ => rfl
  | 20, _ => rfl
  | 21, _ => rfl
  | 22, _ => rfl
  | 23, _ => rfl
  | n + 24, h => absurd h (by omega)
/-- an order and turns, in numbers -/
structure Nms (n : Nat) (os ts : List Nat) : Prop where
  perm : os.Perm (List.range n)
  len : ts.length = n
  lt : ∀ t ∈ ts, t < 24
def oAt (os : List Nat) (k : Nat) : Nat := os.getD k 0
def pAt : List Nat → Nat → Nat
  | [], _ => 0
  | a :: l, o => if a = o then 0 else pAt l o + 1
def rnF (os ts : List Nat) (k : Nat) (x : Option (Nat × Nat)) : Option (Nat × Nat) := match x with
  | none => none
  | some (o, t) => some (pAt os o, cm (cm (iv (oAt ts k)) t) (oAt ts (pAt os o)))
/-- the space renamed -/
def rnS (s : Spc) (os ts : List Nat) : Spc := fun k g => rnF os ts k (s (oAt os k) (tn (iv (oAt ts k)) g))
theorem oAt_get {l : List Nat} {k : Nat} (h : k < l.length) : l[k]? = some (oAt l k) := by
  unfold oAt
  rw [List.getD_eq_getElem?_getD, List.getElem?_eq_getElem h]
  rfl
section
variable {n : Nat} {os ts : List Nat}
theorem Nms.olen (h : Nms n os ts) : os.length = n := by have := h.perm.length_eq; simpa using this
theorem Nms.o_lt (h : Nms n os ts) {k : Nat} (hk : k < n) : oAt os k < n := by
  have e := oAt_get (l := os) (k := k) (by rw [h.olen]; exact hk)
  have := h.perm.mem_iff.mp (List.mem_of_getElem? e)
  exact List.mem_range.mp this
theorem Nms.t_lt (h : Nms n os ts) {k : Nat} (hk : k < n) : oAt ts k < 24 :=
  h.lt _ (List.mem_of_getElem? (oAt_get (by rw [h.len]; exact hk)))
theorem pAt_ok : ∀ {l : List Nat} {o : Nat}, o ∈ l → pAt l o < l.length ∧ l[pAt l o]? = some o
  | a :: l, o, h => by
    unfold pAt
    by_cases q : a = o
    · rw [if_pos q]; simp [q]
    · rw [if_neg q]
      have := pAt_ok (l := l) (o := o) (by
        rcases List.mem_cons.mp h with z | z
        · exact absurd z.symm q
        · exact z)
      simpa using this
theorem Nms.p_lt (h : Nms n os ts) {o : Nat} (ho : o < n) : pAt os o < n := by
  have := (pAt_ok (l := os) (o := o) (h.perm.mem_iff.mpr (List.mem_range.mpr ho))).1
  rw [h.olen] at this
  exact this
theorem rnF_at (h : Nms n os ts) {k o t f : Nat} (hk : k < n) (ho : o < n) (ht : t < 24) (hf : f < 4) : tn (cm (cm (iv (oAt ts k)) t) (oAt ts (pAt os o))) f = tn (oAt ts (pAt os o)) (tn t (tn (iv (oAt ts k)) f)) := by
  have h1 := iv_lt _ (h.t_lt hk)
  have h2 := h.t_lt (h.p_lt ho)
  have c1 := cm_ok _ h1 _ ht
  have c2 := cm_ok _ c1.1 _ h2
  rw [c2.2 f hf, c1.2 f hf]
theorem idx_ok {o : Nat} : ∀ {l : List Nat} (j : Nat), o ∈ l → idxOf (.int o) (l.map fun i : Nat => BR.D.int i) j = some (j + pAt l o)
  | a :: l, j, h => by
    rw [List.map_cons]
    unfold idxOf pAt
    by_cases q : a = o
    · have q2 : eqF (.int a) (.int o) = true := by simp [eqF, q]
      rw [if_pos q2, if_pos q]
      rfl
    · have q2 : ¬ eqF (.int a) (.int o) = true := by simp [eqF]; omega
      rw [if_neg q2, if_neg q]
      rcases List.mem_cons.mp h with z | z
      · exact absurd z.symm q
      · rw [idx_ok (l := l) (j + 1) z]
        congr 1
        omega
theorem flat_ints (l : List Nat) : (l.map fun i : Nat => BR.D.int i).all flatD = true := by
  rw [List.all_eq_true]
  intro x hx
  obtain ⟨i, _, rfl⟩ := List.mem_map.mp hx
  rfl
def oD (l : List Nat) : List BR.D := l.map fun i : Nat => BR.D.int i
def tD (l : List Nat) : List BR.D := l.map dT
theorem oD_at {l : List Nat} {k : Nat} (h : k < l.length) : (oD l)[k]? = some (.int (oAt l k)) := by
  unfold oD; rw [List.getElem?_map, oAt_get h]; rfl
theorem tD_at {l : List Nat} {k : Nat} (h : k < l.length) : (tD l)[k]? = some (dT (oAt l k)) := by
  unfold tD; rw [List.getElem?_map, oAt_get h]; rfl
theorem tell_get {n i : Nat} {s : Spc} (hi : i < n) : (tellT n s)[i]? = some (rowT s i) := by simp [tellT, hi]
theorem body1_ok {S : Store} {a b t c k p o : Nat} {x0 x1 x3 x5 x10 : BR.Slot} {ts : List Nat} {ys : List BR.D} (hk : k < ts.length) (ha : oAt ts k = a) (hp : p < ts.length) (hb : oAt ts p = b) (hc : c < 4) (hta : a < 24) (htt : t < 24) (hy : ys.length = 4) :
    l1__law_renamed [x0, x1, .val (.lst (tD ts)), x3, .val (.int k), x5, .val (dF (some (o, t))), .val (.int p), .own (.lst ys), .val (.int c), x10] S = .ok (.nx [x0, x1, .val (.lst (tD ts)), x3, .val (.int k), x5, .val (dF (some (o, t))), .val (.int p), .own (.lst (ys.set (tn a c) (.int (tn b (tn t c))))), .val (.int c), x10]) S := by
  have hv : ∀ S, Vw S (.lst (tD ts)) (tD ts) := fun S => .inl (.inr (.inl rfl))
  have a1 := (hv S).at (tD_at hk)
  have a2 := (hv S).at (tD_at hp)
  rw [ha] at a1
  rw [hb] at a2
  have a3 : dIdx (dF (some (o, t))) (.int 1) S = .ok (dT t) S := rfl
  have a4 := dT_at (S := S) (t := t) hc
  have h4 := tn_lt t htt c hc
  have a5 := dT_at (S := S) (t := b) h4
  have a6 := dT_at (S := S) (t := a) hc
  have ix : L2.ixN 4 (tn a c : Int) = some (tn a c) := ixN_nat (tn_lt a hta c hc)
  simp [l1__law_renamed, mSetV, a1, a2, a3, a4, a5, a6, hy, ix]
theorem fill_ok {S : Store} {a b t k p o : Nat} {x0 x1 x3 x5 x9 x10 : BR.Slot} {ts : List Nat} (hk : k < ts.length) (ha : oAt ts k = a) (hp : p < ts.length) (hb : oAt ts p = b) (hta : a < 24) (htt : t < 24) :
    mFor (iRange1 (eC (.int 4))) (gN 9) l1__law_renamed [x0, x1, .val (.lst (tD ts)), x3, .val (.int k), x5, .val (dF (some (o, t))), .val (.int p), .own (.lst [.int 0, .int 0, .int 0, .int 0]), x9, x10] S = .ok (.nx [x0, x1, .val (.lst (tD ts)), x3, .val (.int k), x5, .val (dF (some (o, t))), .val (.int p), .own (.lst [.int (tn b (tn t (tn (iv a) 0))), .int (tn b (tn t (tn (iv a) 1))), .int (tn b (tn t (tn (iv a) 2))), .int (tn b (tn t (tn (iv a) 3)))]), .val (.int 3), x10]) S := by
  have step : ∀ (c : Nat) (ys : List BR.D) (x9 : BR.Slot), c < 4 → ys.length = 4 → ∀ ds : List BR.D, forGo (gN 9) l1__law_renamed (.int c :: ds) [x0, x1, .val (.lst (tD ts)), x3, .val (.int k), x5, .val (dF (some (o, t))), .val (.int p), .own (.lst ys), x9, x10] S = forGo (gN 9) l1__law_renamed ds [x0, x1, .val (.lst (tD ts)), x3, .val (.int k), x5, .val (dF (some (o, t))), .val (.int p), .own (.lst (ys.set (tn a c) (.int (tn b (tn t c))))), .val (.int c), x10] S := fun c ys x9 hc hy ds => by
    conv => lhs; unfold forGo
    simp only [p_gN, List.set_cons_succ, List.set_cons_zero, body1_ok hk ha hp hb hc hta htt hy]
  refine mFor_fix (iR1 (a := eC (.int 4)) (S := S) (n := 4) rfl (by decide)) ?_
  have rg : rangeD 0 4 = [.int ((0 : Nat) : Int), .int ((1 : Nat) : Int), .int ((2 : Nat) : Int), .int ((3 : Nat) : Int)] := rfl
  rw [rg, step 0 _ _ (by decide) rfl, step 1 _ _ (by decide) (by simp), step 2 _ _ (by decide) (by simp), step 3 _ _ (by decide) (by simp), fillL (fun c => .int (tn b (tn t c))) (.int 0) hta]
  rfl
end
end LW

end

section
namespace LW
open PySem BR
theorem tell_congr {n : Nat} {s s' : Spc} (e : ∀ i < n, ∀ f < 4, s i f = s' i f) : tellT n s = tellT n s' := by
  unfold tellT
  refine List.map_congr_left fun i hi => ?_
  have hi := List.mem_range.mp hi
  simp only [rowT, Row, e i hi 0 (by decide), e i hi 1 (by decide), e i hi 2 (by decide), e i hi 3 (by decide)]
section
variable {n : Nat} {os ts : List Nat} {s : Spc}
def doneAt (s : Spc) (os ts : List Nat) (k f : Nat) : Spc := fun i g => if i < k ∨ (i = k ∧ tn (iv (oAt ts k)) g < f) then rnS s os ts i g else none
theorem done_put (h : Nms n os ts) {k f : Nat} (hk : k < n) (hf : f < 4) : ∀ i < n, ∀ g < 4, LW.put (doneAt s os ts k f) k (tn (oAt ts k) f) (rnF os ts k (s (oAt os k) f)) i g = doneAt s os ts k (f + 1) i g := fun i hi g hg => by
  have ht := h.t_lt hk
  unfold LW.put doneAt
  by_cases q : i = k ∧ g = tn (oAt ts k) f
  · obtain ⟨rfl, rfl⟩ := q
    rw [if_pos ⟨rfl, rfl⟩, if_pos (.inr ⟨rfl, by rw [iv_tn _ ht f hf]; omega⟩)]
    unfold rnS
    rw [iv_tn _ ht f hf]
  · rw [if_neg q]
    by_cases q1 : i < k
    · rw [if_pos (.inl q1), if_pos (.inl q1)]
    · by_cases q2 : i = k
      · subst q2
        have ne : tn (iv (oAt ts i)) g ≠ f := fun z => q ⟨rfl, by rw [← z, tn_iv _ ht g hg]⟩
        by_cases q3 : tn (iv (oAt ts i)) g < f
        · rw [if_pos (.inr ⟨rfl, q3⟩), if_pos (.inr ⟨rfl, by omega⟩)]
        · rw [if_neg (by rintro (z | ⟨_, z⟩) <;> omega), if_neg (by rintro (z | ⟨_, z⟩) <;> omega)]
      · rw [if_neg (by rintro (z | ⟨z, _⟩) <;> omega), if_neg (by rintro (z | ⟨z, _⟩) <;> omega)]
theorem done_skip (h : Nms n os ts) {k f : Nat} (hk : k < n) (hf : f < 4) (hn : s (oAt os k) f = none) : ∀ i < n, ∀ g < 4, doneAt s os ts k f i g = doneAt s os ts k (f + 1) i g := fun i hi g hg => by
  rw [← done_put h hk hf i hi g hg, hn]
  unfold LW.put
  split
  · rename_i q
    obtain ⟨rfl, rfl⟩ := q
    unfold doneAt
    rw [if_neg]
    · rfl
    · rw [iv_tn _ (h.t_lt hk) f hf]
      rintro (z | ⟨_, z⟩) <;> omega
  · rfl
theorem done_next (h : Nms n os ts) {k : Nat} (hk : k < n) : ∀ i < n, ∀ g < 4, doneAt s os ts k 4 i g = doneAt s os ts (k + 1) 0 i g := fun i hi g hg => by
  have := tn_lt _ (iv_lt _ (h.t_lt hk)) g hg
  unfold doneAt
  by_cases q : i < k + 1
  · have c : i < k ∨ (i = k ∧ tn (iv (oAt ts k)) g < 4) := by
      by_cases q2 : i = k
      · exact .inr ⟨q2, this⟩
      · exact .inl (by omega)
    rw [if_pos c, if_pos (.inl q)]
  · rw [if_neg (by rintro (z | ⟨z, _⟩) <;> omega), if_neg (by rintro (z | ⟨_, z⟩) <;> omega)]
/-- a face -/
theorem face_ok {S : Store} {lo kb : Nat} {ks : List Nat} (h : Nms n os ts) (v : Valid n s) {k f : Nat} (hk : k < n) (hf : f < 4) (sp : SpAt S lo kb ks n (doneAt s os ts k f)) {x6 x7 x8 x9 x10 : BR.Slot} :
    ∃ S' y6 y7 y8 y9, l2__law_renamed [.val (.trn (tellT n s)), .val (.lst (oD os)), .val (.lst (tD ts)), .val (.ref kb), .val (.int k), .val (.int f), x6, x7, x8, x9, x10] S = .ok (.nx [.val (.trn (tellT n s)), .val (.lst (oD os)), .val (.lst (tD ts)), .val (.ref kb), .val (.int k), .val (.int f), y6, y7, y8, y9, x10]) S' ∧ SpAt S' lo kb ks n (doneAt s os ts k (f + 1)) ∧ Kp ks S S' := by
  have ho := h.o_lt hk
  have hv : ∀ (S : Store) (l : List BR.D), Vw S (.lst l) l := fun S l => .inl (.inr (.inl rfl))
  have hv2 : ∀ (S : Store) (l : List BR.D), Vw S (.trn l) l := fun S l => .inl (.inl rfl)
  have a1 : dIdx (.lst (oD os)) (.int k) S = .ok (.int (oAt os k)) S := (hv S _).at (oD_at (by rw [h.olen]; exact hk))
  have a2 : dIdx (.trn (tellT n s)) (.int (oAt os k)) S = .ok (rowT s (oAt os k)) S := (hv2 S _).at (tell_get ho)
  have a3 : dIdx (rowT s (oAt os k)) (.int f) S = .ok (dF (s (oAt os k) f)) S := row_at hf
  cases q : s (oAt os k) f with
  | none =>
    rw [q] at a3
    refine ⟨S, .val (dF none), x7, x8, x9, ?_, sp.congr (done_skip h hk hf q), rfl, fun _ _ => rfl⟩
    unfold l2__law_renamed
    have nn : dIsNot (dF none) .non S = .ok (.bl false) S := rfl
    refine seq_ok (r1 := [.val (.trn (tellT n s)), .val (.lst (oD os)), .val (.lst (tD ts)), .val (.ref kb), .val (.int k), .val (.int f), .val (dF none), x7, x8, x9, x10]) (S1 := S) ?_ (ifF (S1 := S) ?_ rfl)
    · simp [a1, a2, a3]
    · simp [nn]
  | some x =>
    obtain ⟨o, t⟩ := x
    obtain ⟨z1, z2, _, _⟩ := v _ ho f hf o t q
    rw [q] at a3
    have hp := h.p_lt z1
    have ht := h.t_lt hk
    have nn : dIsNot (dF (some (o, t))) .non S = .ok (.bl true) S := rfl
    have b1 : dIdx (dF (some (o, t))) (.int 0) S = .ok (.int o) S := rfl
    have mem : o ∈ os := h.perm.mem_iff.mpr (List.mem_range.mpr z1)
    have b2 : dIndexL (.lst (oD os)) (.int o) S = .ok (.int (pAt os o)) S := by
      unfold dIndexL oD
      simp only [lstS, p_vwLst, Option.bind_some, lstD, flatD, flat_ints, Bool.and_self, if_true, idx_ok 0 mem, Nat.zero_add]
    have b3 : lList (.lst (oD os)) S = .ok (oD os) S := rfl
    have fl := fill_ok (S := S) (a := oAt ts k) (b := oAt ts (pAt os o)) (t := t) (k := k) (p := pAt os o) (o := o) (x0 := .val (.trn (tellT n s))) (x1 := .val (.lst (oD os))) (x3 := .val (.ref kb)) (x5 := .val (.int f)) (x9 := x9) (x10 := x10) (ts := ts) (by rw [h.len]; exact hk) rfl (by rw [h.len]; exact hp) rfl ht z2
    obtain ⟨kk, k1, k2, k3⟩ := sp.get hk
    have hg := tn_lt _ ht f hf
    have o7 := sp.put (x := rnF os ts k (s (oAt os k) f)) k1 hg
    have l7 := lstAt_of (sp.row k kk k1)
    have c1 : dIdx (.lst (tD ts)) (.int k) S = .ok (dT (oAt ts k)) S := (hv S _).at (tD_at (by rw [h.len]; exact hk))
    have c2 : dIdx (dT (oAt ts k)) (.int f) S = .ok (.int (tn (oAt ts k) f)) S := dT_at hf
    have ix : L2.ixN 4 (tn (oAt ts k) f : Int) = some (tn (oAt ts k) f) := ixN_nat hg
    have val : (BR.D.trn [.int (pAt os o), .trn [.int (tn (oAt ts (pAt os o)) (tn t (tn (iv (oAt ts k)) 0))), .int (tn (oAt ts (pAt os o)) (tn t (tn (iv (oAt ts k)) 1))), .int (tn (oAt ts (pAt os o)) (tn t (tn (iv (oAt ts k)) 2))), .int (tn (oAt ts (pAt os o)) (tn t (tn (iv (oAt ts k)) 3)))]]) = dF (rnF os ts k (s (oAt os k) f)) := by
      rw [q]
      simp only [rnF, dF, dT, rnF_at h hk z1 z2 (show 0 < 4 by decide), rnF_at h hk z1 z2 (show 1 < 4 by decide), rnF_at h hk z1 z2 (show 2 < 4 by decide), rnF_at h hk z1 z2 (show 3 < 4 by decide)]
    refine ⟨S.set kk (some (.lst ((Row (doneAt s os ts k f) k).set (tn (oAt ts k) f) (dF (rnF os ts k (s (oAt os k) f)))))), .val (dF (some (o, t))), .val (.int (pAt os o)), .own (.lst [.int (tn (oAt ts (pAt os o)) (tn t (tn (iv (oAt ts k)) 0))), .int (tn (oAt ts (pAt os o)) (tn t (tn (iv (oAt ts k)) 1))), .int (tn (oAt ts (pAt os o)) (tn t (tn (iv (oAt ts k)) 2))), .int (tn (oAt ts (pAt os o)) (tn t (tn (iv (oAt ts k)) 3)))]), .val (.int 3), ?_, o7.congr (done_put h hk hf), by simp, fun j hj => ?_⟩
    · unfold l2__law_renamed
      refine seq_ok (r1 := [.val (.trn (tellT n s)), .val (.lst (oD os)), .val (.lst (tD ts)), .val (.ref kb), .val (.int k), .val (.int f), .val (dF (some (o, t))), x7, x8, x9, x10]) (S1 := S) ?_ (ifT (S1 := S) ?_ ?_)
      · simp [a1, a2, a3]
      · simp [nn]
      · refine seq_ok (r1 := [.val (.trn (tellT n s)), .val (.lst (oD os)), .val (.lst (tD ts)), .val (.ref kb), .val (.int k), .val (.int f), .val (dF (some (o, t))), .val (.int (pAt os o)), x8, x9, x10]) (S1 := S) ?_ (seq_ok (r1 := [.val (.trn (tellT n s)), .val (.lst (oD os)), .val (.lst (tD ts)), .val (.ref kb), .val (.int k), .val (.int f), .val (dF (some (o, t))), .val (.int (pAt os o)), .own (.lst [.int 0, .int 0, .int 0, .int 0]), x9, x10]) (S1 := S) ?_ (seq_ok fl ?_))
        · simp [eIndexL, b1, b2, b3, lstS, lstD]
        · simp [lim]
        · simp [mSetE, c1, c2, k3, l7, Row_len, ix, lim, dTrn, val]
    · rw [List.getElem?_set_ne]
      rintro rfl
      exact hj k2
/-- the law's own renamed -/
theorem lawren_ok {S : Store} (h : Nms n os ts) (v : Valid n s) (hn : 0 < n ∧ n ≤ 12) : ∃ S', m__law_renamed [.trn (tellT n s), .lst (oD os), .lst (tD ts)] S = .ok (.trn (tellT n (rnS s os ts))) S' ∧ S.length ≤ S'.length ∧ ∀ j, j < S.length → S'[j]? = S[j]? := by
  have tl : (tellT n s).length = n := by simp [tellT]
  obtain ⟨acc, S1, e1', ⟨h1, h2⟩, h3⟩ := lcGo_inv (g := gN 10) (t := tYes) (e := eNew (l2 lRep (eFrz (lLst (aC (eC (.non)) aN))) (eC (.int 4)))) (r := [.val (.trn (tellT n s)), .val (.lst (oD os)), .val (.lst (tD ts)), .no, .no, .no, .no, .no, .no, .no, .no]) (ds := tellT n s)
    (fun i acc S' => acc = ((List.range i).map fun i => BR.D.ref (S.length + i)) ∧ S' = S ++ List.replicate i noRow) (tellT n s) 0 [] S rfl rfl (by rw [tl]; unfold lim; omega) (fun i d acc S' hd ha hI => by
      obtain ⟨h1, rfl⟩ := hI
      refine ⟨_, _, _, rfl, rfl, by simp [lim, rep4]; exact ⟨rfl, rfl⟩, ?_, ?_⟩
      · rw [h1, List.range_succ, List.map_append]
        simp
      · rw [List.replicate_succ']) ⟨rfl, by simp⟩ (Nat.zero_le _)
  rw [tl] at h1 h2
  obtain ⟨kb, hkb⟩ : ∃ kb, kb = S.length + n := ⟨_, rfl⟩
  obtain ⟨ks, hks⟩ : ∃ ks : List Nat, ks = (List.range n).map fun i => S.length + i := ⟨_, rfl⟩
  have hrs2 : acc = ks.map BR.D.ref := by rw [h1, hks, List.map_map]; rfl
  obtain ⟨S2, hS2⟩ : ∃ S2, S2 = S ++ List.replicate n noRow ++ [some (BR.D.lst acc)] := ⟨_, rfl⟩
  have sp : SpAt S2 S.length kb ks n (doneAt s os ts 0 0) := by
    have : SpAt S2 S.length kb ks n (fun _ _ => none) := by rw [hS2, hrs2, hks, hkb]; exact new_at []
    refine this.congr fun i hi f hf => ?_
    unfold doneAt
    rw [if_neg]
    rintro (z | ⟨_, z⟩) <;> omega
  have lz := set_new (i := 3) (lLc_fix (vs := [10]) (r := [.val (.trn (tellT n s)), .val (.lst (oD os)), .val (.lst (tD ts)), .no, .no, .no, .no, .no, .no, .no, .no]) (iSeq_seq (a := eB 0) (S := S) rfl rfl) e1')
  have kk : ∀ k ∈ ks, S.length ≤ k := fun k hk => sp.low.2 k hk
  have l1 : (S ++ List.replicate n noRow).length = kb := by rw [hkb]; simp
  have l2' : S2.length = kb + 1 := by rw [hS2]; simp [hkb]; omega
  rw [h2, l1, ← hS2] at lz
  have fr0 : ∀ j, j < S.length → S2[j]? = S[j]? := fun j hj => by rw [hS2, List.append_assoc, List.getElem?_append_left hj]
  have ln : ∀ S : Store, dLen (.trn (tellT n s)) S = .ok (.int n) S := fun S => by simp [dLen, tl]
  obtain ⟨r3, S3, e3, x4, x5, x6, x7, x8, x9, rfl, sp3, f3, g3⟩ := range_inv (g := gN 4) (b := l3__law_renamed) (i0 := 0) (j0 := (n : Int)) (by omega)
    (fun i r S' => ∃ x4 x5 x6 x7 x8 x9, r = [.val (.trn (tellT n s)), .val (.lst (oD os)), .val (.lst (tD ts)), .val (.ref kb), x4, x5, x6, x7, x8, x9, .no] ∧ SpAt S' S.length kb ks n (doneAt s os ts i.toNat 0) ∧ S'.length = S2.length ∧ ∀ j, j < S.length → S'[j]? = S[j]?)
    (fun i r S' i0 i1 hI => by
      obtain ⟨x4, x5, x6, x7, x8, x9, rfl, sp', f', g'⟩ := hI
      obtain ⟨k, rfl⟩ : ∃ k : Nat, i = k := ⟨i.toNat, by omega⟩
      have hk : k < n := by omega
      obtain ⟨r4, S4, e4, y5, y6, y7, y8, y9, rfl, sp4, f4, g4⟩ := range_inv (g := gN 5) (b := l2__law_renamed) (i0 := 0) (j0 := (4 : Int)) (by omega)
        (fun i r S' => ∃ x5 x6 x7 x8 x9, r = [.val (.trn (tellT n s)), .val (.lst (oD os)), .val (.lst (tD ts)), .val (.ref kb), .val (.int k), x5, x6, x7, x8, x9, .no] ∧ SpAt S' S.length kb ks n (doneAt s os ts k i.toNat) ∧ S'.length = S2.length ∧ ∀ j, j < S.length → S'[j]? = S[j]?)
        (fun i r S' i0 i1 hI => by
          obtain ⟨x5, x6, x7, x8, x9, rfl, sp', f', g'⟩ := hI
          obtain ⟨f, rfl⟩ : ∃ f : Nat, i = f := ⟨i.toNat, by omega⟩
          have hf : f < 4 := by omega
          obtain ⟨S5, y6, y7, y8, y9, e5, sp5, f5, g5⟩ := face_ok (x6 := x6) (x7 := x7) (x8 := x8) (x9 := x9) (x10 := .no) h v hk hf sp'
          exact ⟨_, _, S5, rfl, .inl e5, _, _, _, _, _, rfl, by rw [show ((f : Int) + 1).toNat = f + 1 by omega]; exact sp5, f5.trans f', fun j hj => (g5 j (fun z => by have := kk j z; omega)).trans (g' j hj)⟩)
        (r := [.val (.trn (tellT n s)), .val (.lst (oD os)), .val (.lst (tD ts)), .val (.ref kb), .val (.int k), x5, x6, x7, x8, x9, .no]) (S := S') ⟨_, _, _, _, _, rfl, sp', f', g'⟩
      refine ⟨_, _, S4, rfl, .inl (mFor_fix (iR1 (a := eC (.int 4)) (n := 4) rfl (by decide)) e4), _, _, _, _, _, _, rfl, ?_, f4, g4⟩
      rw [show ((k : Int) + 1).toNat = k + 1 by omega]
      exact sp4.congr (done_next h hk))
    (r := [.val (.trn (tellT n s)), .val (.lst (oD os)), .val (.lst (tD ts)), .val (.ref kb), .no, .no, .no, .no, .no, .no, .no]) (S := S2) ⟨_, _, _, _, _, _, rfl, sp, rfl, fr0⟩
  have sp3 : SpAt S3 S.length kb ks n (rnS s os ts) := sp3.congr fun i hi f hf => by
    unfold doneAt
    rw [if_pos (.inl (by omega))]
  have sh := shut_ok sp3 (by omega)
  refine ⟨S3, runA_ok rfl (seq_ok lz (seq_ok (mFor_fix (iR1 (n := (n : Int)) (S1 := S2) ?_ (by simp only [big62]; omega)) e3) (ret_ok ?_))), by omega, g3⟩
  · simp [ln]
  · simp [sh]
end
end LW

end

section
/-! The program's renamed: the parts. -/
namespace LW
open PySem BR
/-! own dicts by a function -/
section
variable {key : Nat → L2.Key} {w : Nat → BR.D}
theorem zPut_map {k : L2.Key} {v : BR.D} : ∀ (l : List Nat), (∀ x ∈ l, key x ≠ k) → zPut k v (l.map key) (l.map w) = l.map w
  | [], _ => rfl
  | a :: l, h => by
    have := zPut_map (k := k) (v := v) l fun x hx => h x (List.mem_cons_of_mem _ hx)
    unfold zPut at this ⊢
    simp only [List.map_cons, List.zipWith_cons_cons, if_neg (h a List.mem_cons_self), this]
theorem any_no {k : L2.Key} {l : List Nat} (h : ∀ x ∈ l, key x ≠ k) : ((l.map key).any fun k' => decide (k' = k)) = false := by
  rw [List.any_eq_false]
  intro y hy
  obtain ⟨x, hx, rfl⟩ := List.mem_map.mp hy
  simpa using h x hx
theorem put_new {K v : BR.D} {k : L2.Key} {l : List Nat} (hk : keyD K = some k) (h : ∀ x ∈ l, key x ≠ k) (hl : l.length < 1000) : dPutO (.dK (l.map key) (l.map w)) K v = some (.dK (l.map key ++ [k]) (l.map w ++ [v])) := by
  unfold dPutO
  simp only [hk, List.length_map, putL, any_no h]
  rw [if_pos (by unfold lim; omega)]
  rfl
theorem put_last {K v u : BR.D} {k : L2.Key} {l : List Nat} (hk : keyD K = some k) (h : ∀ x ∈ l, key x ≠ k) (hl : l.length < 1000) : dPutO (.dK (l.map key ++ [k]) (l.map w ++ [u])) K v = some (.dK (l.map key ++ [k]) (l.map w ++ [v])) := by
  unfold dPutO
  have a : ((l.map key ++ [k]).any fun k' => decide (k' = k)) = true := by simp
  have z : zPut k v (l.map key ++ [k]) (l.map w ++ [u]) = l.map w ++ [v] := by
    have := zPut_map (k := k) (v := v) (w := w) l h
    unfold zPut at this ⊢
    rw [List.zipWith_append (by simp), this]
    simp
  simp only [hk, putL, a, if_true, z]
  rw [if_pos (by simp [lim]; omega)]
theorem getL_map {l : List Nat} (inj : ∀ x ∈ l, ∀ y ∈ l, key x = key y → x = y) {j : Nat} (hj : j ∈ l) : getL (l.map key) (l.map w) (key j) = some (w j) := by
  induction l with
  | nil => simp at hj
  | cons a l ih =>
    simp only [List.map_cons, getL]
    by_cases q : key a = key j
    · rw [if_pos q, inj a List.mem_cons_self j hj q]
    · rw [if_neg q]
      refine ih (fun x hx y hy => inj x (List.mem_cons_of_mem _ hx) y (List.mem_cons_of_mem _ hy)) ?_
      rcases List.mem_cons.mp hj with z | z
      · subst z; exact absurd rfl q
      · exact z
theorem at_map {S : Store} {l : List Nat} (inj : ∀ x ∈ l, ∀ y ∈ l, key x = key y → x = y) {j : Nat} (hj : j ∈ l) {K : BR.D} (hk : keyD K = some (key j)) : dAtD (.dK (l.map key) (l.map w)) K S = .ok (w j) S := by
  unfold dAtD
  have : vw S (.dK (l.map key) (l.map w)) = some (.dK (l.map key) (l.map w)) := rfl
  rw [this]
  simp only [Option.bind_some, dGetO, hk, Option.map_some, getL_map inj hj]
end
def kI (x : Nat) : L2.Key := .inl (x : Int)
theorem kI_inj {x y : Nat} (h : kI x = kI y) : x = y := by
  unfold kI at h
  have := Sum.inl.inj h
  omega
section
variable {n : Nat} {os ts : List Nat} {s : Spc}
/-- what reads as the turns -/
def TuRd (S : Store) (d : BR.D) (ts : List Nat) : Prop := ∃ xs, Vw S d xs ∧ xs.length = ts.length ∧ ∀ (i : Nat) y, xs[i]? = some y → Vo S y (tI (oAt ts i))
theorem TuRd.at {S : Store} {d : BR.D} (h : TuRd S d ts) {i : Nat} (hi : i < ts.length) : ∃ y, dIdx d (.int i) S = .ok y S ∧ dTrn y S = .ok (dT (oAt ts i)) S := by
  obtain ⟨xs, hv, hl, hx⟩ := h
  have e : xs[i]? = some (xs[i]'(by omega)) := List.getElem?_eq_getElem (by omega)
  exact ⟨_, hv.at e, (hx i _ e).trn⟩
/-! need_names -/
theorem ints_map : ∀ l : List Nat, intsD (oD l) = some (l.map fun i : Nat => (i : Int))
  | [] => rfl
  | a :: l => by
    have := ints_map l
    unfold oD at this ⊢
    simp only [List.map_cons, intsD, this, Option.map_some]
theorem sorted_ok {S : Store} {d : BR.D} (h : Nms n os ts) (hv : Vw S d (oD os)) : lSorted d S = .ok (oD (List.range n)) S := by
  unfold lSorted
  rw [hv.seq]
  simp only [Option.bind_some, ints_map]
  rw [← isort_eq (is := os.map fun i : Nat => (i : Int)) (ns' := (List.range n).map fun i : Nat => (i : Int)) (h.perm.symm.map _) ?_]
  · unfold oD; rw [List.map_map]; rfl
  · rw [List.pairwise_map]
    refine List.Pairwise.imp (R := (· < ·)) (fun h => by omega) List.pairwise_lt_range
theorem eqv_ints : ∀ l : List Nat, PyData.eqvAll (toPs (oD l)) (toPs (oD l)) = true
  | [] => rfl
  | a :: l => by
    have := eqv_ints l
    unfold oD at this ⊢
    simp [toPs, toP, PyData.eqvAll, PyData.eqv, this]
theorem ok_ints (l : List Nat) : okP deep (.lst (oD l)) = true := by
  show (oD l).all (okP 59) = true
  rw [List.all_eq_true]
  intro x hx
  obtain ⟨i, _, rfl⟩ := List.mem_map.mp hx
  rfl
theorem ne_ints {S : Store} (l : List Nat) : dNe (.lst (oD l)) (.lst (oD l)) S = .ok (.bl false) S := by
  simp only [dNe, p_vwLst, ok_ints, p_okI, Bool.and_self, if_true]
  congr 2
  simp [eqD, toP, PyData.eqv, eqv_ints]
theorem rg_ints {S : Store} (hn : n ≤ 1000) : lRg1 (.int n) S = .ok (oD (List.range n)) S := by
  unfold lRg1
  have : rgOk 0 (n : Int) = true := by unfold rgOk; rw [decide_eq_true_eq]; omega
  have e : rangeD 0 (n : Int) = oD (List.range n) := by
    unfold rangeD oD
    rw [show ((n : Int) - 0).toNat = n by omega]
    refine List.map_congr_left fun i _ => ?_
    simp
  simp only [this, if_true, e]
theorem or_no {t u : TM} {r : BR.Env} {S S1 : Store} {x : Res Bool} (h : t r S = .ok false S1) (h2 : u r S1 = x) : tOr t u r S = x := by unfold tOr; rw [h, bind_ok, if_neg (by decide), h2]
theorem e2_ok {f : BR.D → BR.D → Store → Res BR.D} {a b : EM} {r : BR.Env} {S S1 S2 : Store} {x y : BR.D} (h : a r S = .ok x S1) (h2 : b r S1 = .ok y S2) : BR.e2 f a b r S = f x y S2 := by unfold BR.e2; rw [h, bind_ok, h2, bind_ok]
theorem l1_ok {f : BR.D → Store → Res (List BR.D)} {a : EM} {r : BR.Env} {S S1 : Store} {x : BR.D} (h : a r S = .ok x S1) : BR.l1 f a r S = f x S1 := by unfold BR.l1; rw [h, bind_ok]
/-! place -/
theorem pAt_mid {o : Nat} {l : List Nat} : ∀ {pre : List Nat}, o ∉ pre → pAt (pre ++ o :: l) o = pre.length
  | [], _ => by simp [pAt]
  | a :: pre, h => by
    have h1 : a ≠ o := fun z => h (by simp [z])
    have h2 : o ∉ pre := fun z => h (List.mem_cons_of_mem _ z)
    simp only [List.cons_append, pAt, if_neg h1, pAt_mid h2, List.length_cons]
theorem dc_ok {S : Store} {r : BR.Env} {os : List Nat} (nd : os.Nodup) (h1000 : os.length < 1000) (h5 : ∀ x y, ((r.set 5 (.val x)).set 6 (.val y))[5]? = some (.val x)) (h6 : ∀ x y, ((r.set 5 (.val x)).set 6 (.val y))[6]? = some (.val y)) : ∀ (l pre : List Nat), os = pre ++ l →
    dcGo (gU [gN 5, gN 6]) tYes (eV 6) (eV 5) r (((oD l).zipIdx pre.length).map fun p => BR.D.tup [.int (p.2 : Int), p.1]) (.dK (pre.map kI) (pre.map fun o => .int (pAt os o))) S = .ok (.dK (os.map kI) (os.map fun o => .int (pAt os o))) S
  | [], pre, e => by
    rw [List.append_nil] at e
    subst e
    rfl
  | o :: l, pre, e => by
    have ih := dc_ok (r := r) (S := S) nd h1000 h5 h6 l (pre ++ [o]) (by rw [e]; simp)
    have nm : o ∉ pre := fun z => by
      rw [e, List.nodup_append] at nd
      exact nd.2.2 o z o List.mem_cons_self rfl
    have hp : (pre.length : Int) = ((pAt os o : Nat) : Int) := by rw [e, pAt_mid nm]
    have le : pre.length < 1000 := by
      have : os.length = pre.length + (l.length + 1) := by rw [e]; simp
      omega
    have pn := put_new (key := kI) (w := fun o => BR.D.int (pAt os o)) (K := .int o) (v := .int (pAt os o)) (k := kI o) (l := pre) rfl (fun x hx z => nm (by rw [← kI_inj z]; exact hx)) le
    have e1 : pre.map kI ++ [kI o] = (pre ++ [o]).map kI := by simp
    have e2 : (pre.map fun o => BR.D.int (pAt os o)) ++ [.int (pAt os o)] = (pre ++ [o]).map fun o => BR.D.int (pAt os o) := by simp
    rw [e1, e2] at pn
    have e3 : (pre ++ [o]).length = pre.length + 1 := by simp
    rw [e3] at ih
    unfold oD at ih ⊢
    rw [List.map_cons, List.zipIdx_cons, List.map_cons]
    unfold dcGo
    have gu : gU [gN 5, gN 6] (BR.D.tup [.int (pre.length : Int), .int o]) r = some ((r.set 5 (.val (.int (pre.length : Int)))).set 6 (.val (.int o))) := rfl
    simp only [gu, p_tYes, bind_ok, if_true, p_eV, h6, h5]
    rw [hp, pn]
    exact ih
def plD (os : List Nat) : BR.D := .dK (os.map kI) (os.map fun o => .int (pAt os o))
theorem place_ok {S : Store} {r : BR.Env} {d1 : BR.D} (h : Nms n os ts) (hn : n ≤ 12) (h1 : Vn d1 (oD os)) (e1 : r[1]? = some (.val d1)) (h5 : ∀ x y, (((wipeE r [5, 6]).set 5 (.val x)).set 6 (.val y))[5]? = some (.val x)) (h6 : ∀ x y, (((wipeE r [5, 6]).set 5 (.val x)).set 6 (.val y))[6]? = some (.val y)) :
    eDc (iEnum (eV 1)) (gU [gN 5, gN 6]) tYes (eV 6) (eV 5) [5, 6] r S = .ok (plD os) S := by
  have ie : iEnum (eV 1) r S = .ok (.fix (enumD (oD os))) S := by
    unfold iEnum
    rw [p_eV, e1]
    rcases h1 with rfl | rfl <;> rfl
  have dc := dc_ok (S := S) (r := wipeE r [5, 6]) (os := os) (h.perm.symm.nodup List.nodup_range) (by rw [h.olen]; omega) h5 h6 os [] rfl
  unfold eDc
  rw [ie, bind_ok]
  exact dc
theorem place_at {S : Store} {o : Nat} (h : o ∈ os) : dAtD (plD os) (.int o) S = .ok (.int (pAt os o)) S := at_map (key := kI) (w := fun o => BR.D.int (pAt os o)) (fun _ _ _ _ e => kI_inj e) h rfl
/-! turns put together -/
theorem behind_ok {S : Store} {a b : Nat} (ha : a < 24) (hb : b < 24) : m_behind [dT a, dT b] S = .ok (dT (cm a b)) S := by
  have hv : Vw S (dT a) (tI a) := .inl (.inl rfl)
  have q : ∀ f < 4, dIdx (dT b) (.int (tn a f)) S = .ok (.int (tn (cm a b) f)) S := fun f hf => by
    rw [dT_at (tn_lt a ha f hf), (cm_ok a ha b hb).2 f hf]
  have q0 := q 0 (by decide); have q1 := q 1 (by decide); have q2 := q 2 (by decide); have q3 := q 3 (by decide)
  have c := hv.lc (a := eB 0) (g := gN 2) (t := tYes) (e := e2 dIdx (eB 1) (eB 2)) (vs := [2]) (r := [.val (dT a), .val (dT b), .no]) rfl (by simp [tI]) (fun x => match dIdx (dT b) x S with
    | .ok y _ => y
    | _ => .non) (fun x hx => by
      refine ⟨_, rfl, rfl, ?_⟩
      simp only [tI, List.mem_cons, List.not_mem_nil, or_false] at hx
      rcases hx with rfl | rfl | rfl | rfl <;> simp [q0, q1, q2, q3])
  simp only [tI, List.map_cons, List.map_nil, q0, q1, q2, q3] at c
  refine runA_ok rfl ?_
  exact ret_ok ((e1_ok (frz_ok c)).trans rfl)
end
end LW

end

section
/-! Numbers and what is none: the tests of the program and of the law answer alike. -/
namespace LW
open PySem BR
theorem rnx_ok {α : Type} {a : α} {S : Store} : rNx (.ok a S) = .ok a S := rfl
theorem mnx_ok {m : SM} {r : BR.Env} {S S1 : Store} {o : Out} (h : m r S = .ok o S1) : mNx m r S = .ok o S1 := by unfold mNx; rw [h]; rfl
theorem tnx_ok {t : TM} {r : BR.Env} {S S1 : Store} {b : Bool} (h : t r S = .ok b S1) : tNx t r S = .ok b S1 := by unfold tNx; rw [h]; rfl
theorem lnx_ok {l : LM} {r : BR.Env} {S S1 : Store} {xs : List BR.D} (h : l r S = .ok xs S1) : lNx l r S = .ok xs S1 := by unfold lNx; rw [h]; rfl
/-- a value that isinstance may be asked of -/
def Od : BR.D → Prop
  | .ty _ | .ref _ | .xc _ => False
  | _ => True
def isN (d : BR.D) (m : Int) : Bool := match d with
  | .int i => decide (0 ≤ i ∧ i < m)
  | _ => false
def isI : BR.D → Bool
  | .int _ => true
  | _ => false
theorem whole_od {S : Store} {d : BR.D} (h : Od d) : m_is_whole [d] S = .ok (.bl (isI d)) S := by
  cases d <;> first | exact h.elim | (simp [m_is_whole, b_is_whole, BR.start, dIsi, tyD, subTy, isI, vw]; done) | rfl
theorem number_od {S : Store} {d : BR.D} {m : Int} (h : Od d) : m__law_is_number [d, .int m] S = .ok (.bl (isN d m)) S := by
  cases d with
  | int i =>
    by_cases c : (0 : Int) ≤ i
    · simp [m__law_is_number, b__law_is_number, BR.start, dIsi, tyD, subTy, isN, chainM, c]
    · simp [m__law_is_number, b__law_is_number, BR.start, dIsi, tyD, subTy, isN, chainM, c]
  | ty _ | ref _ | xc _ => exact h.elim
  | _ => first | rfl | (simp [m__law_is_number, b__law_is_number, BR.start, dIsi, tyD, subTy, isN, vw]; done)
theorem runA_exc {ar n : Nat} {m : SM} {ds : List BR.D} {S S1 : Store} {x : BR.Exc} (hl : ds.length = ar) (h : m (BR.start n ds) S = .exc x S1) : runA ar n m ds S = .exc x S1 := by rw [p_runA, if_pos hl, h]
theorem raise_if {t : TM} {n : String} {r : BR.Env} {S S1 : Store} {x : Res Out} (h : t r S = .ok true S1) (hx : .exc ⟨n, none⟩ S1 = x) : mIf (tNx t) (mRaise n) mNil r S = x := ifT (tnx_ok h) hx
theorem pass_if {t : TM} {n : String} {r : BR.Env} {S S1 : Store} (h : t r S = .ok false S1) : mIf (tNx t) (mRaise n) mNil r S = .ok (.nx r) S1 := ifF (tnx_ok h) rfl
/-- not a number below m -/
theorem no_num {S : Store} {d : BR.D} {m : Int} {r : BR.Env} {i : Nat} {em : EM} (h : Od d) (hi : r[i]? = some (.val d)) (hm : em r S = .ok (.int m) S) :
    tOr (tNot (tE (eA m_is_whole (aC (eV i) aN)))) (tNot (tE (chainM dLe dLt (eC (.int 0)) (eV i) em))) r S = .ok (!isN d m) S := by
  have w := whole_od (S := S) h
  cases d with
  | int j =>
    by_cases c : (0 : Int) ≤ j
    · simp [w, hi, isI, isN, chainM, hm, c]
    · simp [w, hi, isI, isN, chainM, hm, c]
  | ty _ | ref _ | xc _ => exact h.elim
  | _ => simp [w, hi, isI, isN]
end LW

end

section
/-! Turns and what is none. -/
namespace LW
open PySem BR
theorem law_turn_ok {S : Store} : ∀ {t : Nat}, t < 24 → m__law_is_turn [dT t] S = .ok (.bl true) S
  | 0, _ => rfl
  | 1, _ => rfl
  | 2, _ => rfl
  | 3, _ => rfl
  | 4, _ => rfl
  | 5, _ => rfl
  | 6, _ => rfl
  | 7, _ => rfl
  | 8, _ => rfl
  | 9, _ => rfl
  | 10, _ => rfl
  | 11, _ => rfl
  | 12, _ => rfl
  | 13, _ => rfl
  | 14, _ => rfl
  | 15, _ => rfl
  | 16, _ => rfl
  | 17, _ => rfl
  | 18, _ => rfl
  | 19, _ => rfl
  | 20, _ => rfl
  | 21, _ => rfl
  | 22, _ => rfl
  | 23, _ => rfl
  | n + 24, h => absurd h (by omega)
def oddT : List BR.D := [.non, .int 7, .str "0123", .trn [], .trn [.int 0, .int 1, .int 2], .trn [.int 0, .int 1, .int 2, .int 2], .trn [.int 0, .int 1, .int 2, .int 4], .trn [.int 0, .int 1, .int 2, .int 3, .int 0], .trn [.bl true, .int 0, .int 2, .int 3],
  .trn [.int 0, .int 1, .int 2, .int (-1)], .lst [.str "0", .str "1", .str "2", .str "3"], .dK [] [], .trn [.trn [.int 0, .int 1, .int 2, .int 3]], .lst [.int 3, .int 2, .int 1, .non]]
theorem oddT_law {S : Store} : ∀ d ∈ oddT, m__law_is_turn [d] S = .ok (.bl false) S := by
  intro d hd
  simp only [oddT, List.mem_cons, List.not_mem_nil, or_false] at hd
  rcases hd with rfl | rfl | rfl | rfl | rfl | rfl | rfl | rfl | rfl | rfl | rfl | rfl | rfl | rfl <;> rfl
theorem sorted3 {S : Store} {a b c d : Int} {ns : List Int} (hp : ns.Perm [a, b, c, d]) (hs : ns.Pairwise (· ≤ ·)) (hn : dEq (.lst (ns.map BR.D.int)) (.lst [.int 0, .int 1, .int 2, .int 3]) S = .ok (.bl false) S) : m_is_turn [.trn [.int a, .int b, .int c, .int d]] S = .ok (.bl false) S := by
  have h : Vw S (.trn [.int a, .int b, .int c, .int d]) [.int a, .int b, .int c, .int d] := .inl (.inl rfl)
  have cc := h.lc (a := eB 0) (g := gN 1) (t := tYes) (e := eA m_is_whole (aC (eV 1) aN)) (vs := [1]) (r := [.val (.trn [.int a, .int b, .int c, .int d]), .no]) rfl (by simp) (fun _ => BR.D.bl true) (fun x hx => by
    refine ⟨_, rfl, rfl, ?_⟩
    simp only [List.mem_cons, List.not_mem_nil, or_false] at hx
    rcases hx with rfl | rfl | rfl | rfl <;> simp [wh_ok])
  have hso : lSorted (.trn [.int a, .int b, .int c, .int d]) S = .ok (ns.map BR.D.int) S := by
    unfold lSorted
    rw [h.seq]
    simp only [Option.bind_some, intsD, Option.map_some, ← isort_eq hp hs]
  have ll : lList c_STILL S = .ok [.int 0, .int 1, .int 2, .int 3] S := rfl
  have da : dAll (.lst [.bl true, .bl true, .bl true, .bl true]) S = .ok (.bl true) S := rfl
  have hl : ([BR.D.int a, .int b, .int c, .int d]).length = 4 := rfl
  simp [m_is_turn, b_is_turn, BR.start, h.row, h.len, cc, hso, ll, da, hn, -p_lLc]
theorem oddT_is {S : Store} : ∀ d ∈ oddT, m_is_turn [d] S = .ok (.bl false) S := by
  intro d hd
  simp only [oddT, List.mem_cons, List.not_mem_nil, or_false] at hd
  rcases hd with rfl | rfl | rfl | rfl | rfl | rfl | rfl | rfl | rfl | rfl | rfl | rfl | rfl | rfl
  · rfl
  · rfl
  · rfl
  · rfl
  · rfl
  · exact sorted3 (ns := [0, 1, 2, 2]) (by decide) (by decide) rfl
  · exact sorted3 (ns := [0, 1, 2, 4]) (by decide) (by decide) rfl
  · rfl
  · rfl
  · exact sorted3 (ns := [-1, 0, 1, 2]) (by decide) (by decide) rfl
  · rfl
  · rfl
  · rfl
  · rfl
end LW

end

section
/-! Orders: what is one, by sorting and by counting. -/
namespace LW
open PySem BR
theorem below_len : ∀ (n : Nat) (os : List Nat), os.Nodup → (∀ x ∈ os, x < n) → os.length ≤ n
  | 0, os, _, h => by
    cases os with
    | nil => exact Nat.le_refl _
    | cons a os => have := h a List.mem_cons_self; omega
  | n + 1, os, nd, h => by
    have h1 := below_len n (os.erase n) (nd.erase n) (fun x hx => by
      have h2 := (nd.mem_erase_iff).mp hx
      have := h x h2.2
      omega)
    rw [List.length_erase] at h1
    split at h1 <;> omega
theorem perm_range : ∀ (n : Nat) (os : List Nat), os.Nodup → (∀ x ∈ os, x < n) → os.length = n → os.Perm (List.range n)
  | 0, os, _, _, hl => by rw [List.length_eq_zero_iff.mp hl]; exact .refl _
  | n + 1, os, nd, h, hl => by
    have hx : ∀ x ∈ os.erase n, x < n := fun x hx => by
      have h2 := (nd.mem_erase_iff).mp hx
      have := h x h2.2
      omega
    have hm : n ∈ os := by
      refine Classical.byContradiction fun c => ?_
      have := below_len n os nd (fun x hx => by
        have := h x hx
        have : x ≠ n := fun e => c (e ▸ hx)
        omega)
      omega
    have h1 := perm_range n (os.erase n) (nd.erase n) hx (by rw [List.length_erase, if_pos (by simpa using hm)]; omega)
    refine (List.perm_cons_erase hm).trans ((h1.cons n).trans ?_)
    rw [List.range_succ]
    exact (List.perm_append_singleton _ _).symm
theorem dd_len : ∀ (xs acc : List Int), (xs.foldl PyProof.Rows.step_dedup acc).length = acc.length + xs.length → xs.Nodup ∧ ∀ x ∈ xs, x ∉ acc
  | [], acc, _ => ⟨List.nodup_nil, fun x hx => by simp at hx⟩
  | a :: xs, acc, h => by
    rw [List.foldl_cons] at h
    have le := PyProof.Rows.length_foldl_step_dedup_le xs (PyProof.Rows.step_dedup acc a)
    by_cases c : acc.any (· == a) = true
    · have e : PyProof.Rows.step_dedup acc a = acc := by unfold PyProof.Rows.step_dedup; rw [if_pos c]
      rw [e] at h le
      simp only [List.length_cons] at h
      omega
    · have e : PyProof.Rows.step_dedup acc a = acc ++ [a] := by unfold PyProof.Rows.step_dedup; rw [if_neg c]
      rw [e] at h
      have c' : a ∉ acc := by simpa using c
      obtain ⟨h1, h2⟩ := dd_len xs (acc ++ [a]) (by rw [h]; simp; omega)
      refine ⟨List.nodup_cons.mpr ⟨fun hm => h2 a hm (by simp), h1⟩, fun x hx => ?_⟩
      rcases List.mem_cons.mp hx with rfl | hx
      · exact c'
      · exact fun z => h2 x hx (by simp [z])
theorem uniq_nodup {ns : List Int} (h : (uniqI ns).length = ns.length) : ns.Nodup := (dd_len ns [] (by simpa [uniqI] using h)).1
theorem nodup_uniq {ns : List Int} (h : ns.Nodup) : (uniqI ns).length = ns.length := (uniq_len h fun _ => Iff.rfl).symm
theorem eqv_lists : ∀ a b : List Int, PyData.eqvAll (toPs (a.map BR.D.int)) (toPs (b.map BR.D.int)) = decide (a = b)
  | [], [] => rfl
  | [], _ :: _ => rfl
  | _ :: _, [] => rfl
  | x :: a, y :: b => by
    have ih := eqv_lists a b
    simp only [List.map_cons, toPs, toP, PyData.eqvAll, PyData.eqv, ih]
    by_cases h1 : x = y <;> by_cases h2 : a = b <;> simp [h1, h2]
theorem ne_lists {S : Store} (a b : List Int) : dNe (.lst (a.map BR.D.int)) (.lst (b.map BR.D.int)) S = .ok (.bl (decide (a ≠ b))) S := by
  have h1 : ∀ l : List Int, okP deep (.lst (l.map BR.D.int)) = true := fun l => okInts l 58
  simp only [dNe, p_vwLst, h1, p_okI, Bool.and_self, if_true]
  congr 2
  simp [eqD, toP, PyData.eqv, eqv_lists]
/-- all of them -/
theorem bls_map {α : Type} (p : α → Bool) : ∀ xs : List α, blsD (xs.map fun x => BR.D.bl (p x)) = some (xs.map p)
  | [] => rfl
  | x :: xs => by
    have := bls_map p xs
    simp only [List.map_cons, blsD, this, Option.map_some]
theorem all_map {S : Store} {α : Type} (p : α → Bool) (xs : List α) : dAll (.lst (xs.map fun x => BR.D.bl (p x))) S = .ok (.bl (xs.all p)) S := by
  unfold dAll
  simp only [lstS, p_vwLst, Option.bind_some, lstD, bls_map]
  congr 2
  induction xs with
  | nil => rfl
  | cons x xs ih => simp_all
theorem ints_of : ∀ {xs : List BR.D}, xs.all isI = true → ∃ is : List Int, xs = is.map BR.D.int
  | [], _ => ⟨[], rfl⟩
  | x :: xs, h => by
    rw [List.all_cons, Bool.and_eq_true] at h
    obtain ⟨is, rfl⟩ := ints_of h.2
    cases x with
    | int i => exact ⟨i :: is, rfl⟩
    | _ => exact absurd h.1 (by simp [isI])
theorem intsD_map : ∀ is : List Int, intsD (is.map BR.D.int) = some is
  | [] => rfl
  | i :: is => by
    have := intsD_map is
    simp only [List.map_cons, intsD, this, Option.map_some]
/-- an order of n -/
def isOrd (n : Nat) (xs : List BR.D) : Prop := ∃ os : List Nat, xs = oD os ∧ os.Perm (List.range n)
theorem nums_of {n : Nat} : ∀ {xs : List BR.D}, (xs.all fun x => isN x n) = true → ∃ os : List Nat, xs = oD os ∧ ∀ o ∈ os, o < n
  | [], _ => ⟨[], rfl, fun _ h => by simp at h⟩
  | x :: xs, h => by
    rw [List.all_cons, Bool.and_eq_true] at h
    obtain ⟨os, rfl, h2⟩ := nums_of h.2
    cases x with
    | int i =>
      have h1 := h.1
      simp only [isN, decide_eq_true_eq] at h1
      refine ⟨i.toNat :: os, ?_, fun o ho => ?_⟩
      · unfold oD
        rw [List.map_cons, Int.toNat_of_nonneg h1.1]
      · rcases List.mem_cons.mp ho with rfl | ho
        · omega
        · exact h2 o ho
    | _ => exact absurd h.1 (by simp [isN])
theorem oD_map (l : List Nat) : oD l = (l.map fun i : Nat => (i : Int)).map BR.D.int := by unfold oD; rw [List.map_map]; rfl
theorem cast_nodup {l : List Nat} (h : (l.map fun i : Nat => (i : Int)).Nodup) : l.Nodup := by
  rw [List.Nodup, List.pairwise_map] at h
  exact h.imp fun h e => h (by rw [e])
theorem nodup_cast {l : List Nat} (h : l.Nodup) : (l.map fun i : Nat => (i : Int)).Nodup := by
  rw [List.Nodup, List.pairwise_map]
  exact List.Pairwise.imp (fun h e => h (by omega)) h
theorem sort_range {n : Nat} {is : List Int} (h : (is.mergeSort fun i j => decide (i ≤ j)) = (List.range n).map fun i : Nat => (i : Int)) : isOrd n (is.map BR.D.int) := by
  have p : ((List.range n).map fun i : Nat => (i : Int)).Perm is := by rw [← h]; exact List.mergeSort_perm _ _
  have a : (is.map BR.D.int).all (fun x => isN x n) = true := by
    rw [List.all_eq_true]
    intro x hx
    obtain ⟨i, hi, rfl⟩ := List.mem_map.mp hx
    obtain ⟨j, hj, rfl⟩ := List.mem_map.mp (p.mem_iff.mpr hi)
    have := List.mem_range.mp hj
    simp [isN]
    omega
  obtain ⟨os, e, h2⟩ := nums_of a
  refine ⟨os, e, ?_⟩
  rw [oD_map] at e
  have e' : is = os.map fun i : Nat => (i : Int) := by
    have := congrArg intsD e
    rw [intsD_map, intsD_map] at this
    exact Option.some.inj this
  rw [e'] at p
  have nd := p.nodup (nodup_cast List.nodup_range)
  have l := p.length_eq
  simp at l
  exact perm_range n os (cast_nodup nd) h2 l.symm
end LW

end

section
/-! The law's own renamed, of lists or tuples. -/
namespace LW
open PySem BR
section
variable {n : Nat} {os ts : List Nat} {s : Spc}
theorem body1_okV {S : Store} {a b t c k p o : Nat} {x0 x1 x3 x5 x10 : BR.Slot} {d2 : BR.D} {ts : List Nat} {ys : List BR.D} (h2 : Vn d2 (tD ts)) (hk : k < ts.length) (ha : oAt ts k = a) (hp : p < ts.length) (hb : oAt ts p = b) (hc : c < 4) (hta : a < 24) (htt : t < 24) (hy : ys.length = 4) :
    l1__law_renamed [x0, x1, .val d2, x3, .val (.int k), x5, .val (dF (some (o, t))), .val (.int p), .own (.lst ys), .val (.int c), x10] S = .ok (.nx [x0, x1, .val d2, x3, .val (.int k), x5, .val (dF (some (o, t))), .val (.int p), .own (.lst (ys.set (tn a c) (.int (tn b (tn t c))))), .val (.int c), x10]) S := by
  have hv : ∀ S, Vw S d2 (tD ts) := fun S => h2.vw
  have a1 := (hv S).at (tD_at hk)
  have a2 := (hv S).at (tD_at hp)
  rw [ha] at a1
  rw [hb] at a2
  have a3 : dIdx (dF (some (o, t))) (.int 1) S = .ok (dT t) S := rfl
  have a4 := dT_at (S := S) (t := t) hc
  have h4 := tn_lt t htt c hc
  have a5 := dT_at (S := S) (t := b) h4
  have a6 := dT_at (S := S) (t := a) hc
  have ix : L2.ixN 4 (tn a c : Int) = some (tn a c) := ixN_nat (tn_lt a hta c hc)
  simp [l1__law_renamed, mSetV, a1, a2, a3, a4, a5, a6, hy, ix]
theorem fill_okV {S : Store} {a b t k p o : Nat} {x0 x1 x3 x5 x9 x10 : BR.Slot} {d2 : BR.D} {ts : List Nat} (h2 : Vn d2 (tD ts)) (hk : k < ts.length) (ha : oAt ts k = a) (hp : p < ts.length) (hb : oAt ts p = b) (hta : a < 24) (htt : t < 24) :
    mFor (iRange1 (eC (.int 4))) (gN 9) l1__law_renamed [x0, x1, .val d2, x3, .val (.int k), x5, .val (dF (some (o, t))), .val (.int p), .own (.lst [.int 0, .int 0, .int 0, .int 0]), x9, x10] S = .ok (.nx [x0, x1, .val d2, x3, .val (.int k), x5, .val (dF (some (o, t))), .val (.int p), .own (.lst [.int (tn b (tn t (tn (iv a) 0))), .int (tn b (tn t (tn (iv a) 1))), .int (tn b (tn t (tn (iv a) 2))), .int (tn b (tn t (tn (iv a) 3)))]), .val (.int 3), x10]) S := by
  have step : ∀ (c : Nat) (ys : List BR.D) (x9 : BR.Slot), c < 4 → ys.length = 4 → ∀ ds : List BR.D, forGo (gN 9) l1__law_renamed (.int c :: ds) [x0, x1, .val d2, x3, .val (.int k), x5, .val (dF (some (o, t))), .val (.int p), .own (.lst ys), x9, x10] S = forGo (gN 9) l1__law_renamed ds [x0, x1, .val d2, x3, .val (.int k), x5, .val (dF (some (o, t))), .val (.int p), .own (.lst (ys.set (tn a c) (.int (tn b (tn t c))))), .val (.int c), x10] S := fun c ys x9 hc hy ds => by
    conv => lhs; unfold forGo
    simp only [p_gN, List.set_cons_succ, List.set_cons_zero, body1_okV h2 hk ha hp hb hc hta htt hy]
  refine mFor_fix (iR1 (a := eC (.int 4)) (S := S) (n := 4) rfl (by decide)) ?_
  have rg : rangeD 0 4 = [.int ((0 : Nat) : Int), .int ((1 : Nat) : Int), .int ((2 : Nat) : Int), .int ((3 : Nat) : Int)] := rfl
  rw [rg, step 0 _ _ (by decide) rfl, step 1 _ _ (by decide) (by simp), step 2 _ _ (by decide) (by simp), step 3 _ _ (by decide) (by simp), fillL (fun c => .int (tn b (tn t c))) (.int 0) hta]
  rfl
/-- a face -/
theorem face_okV {S : Store} {lo kb : Nat} {ks : List Nat} {d1 d2 : BR.D} (h1 : Vn d1 (oD os)) (h2 : Vn d2 (tD ts)) (h : Nms n os ts) (v : Valid n s) {k f : Nat} (hk : k < n) (hf : f < 4) (sp : SpAt S lo kb ks n (doneAt s os ts k f)) {x6 x7 x8 x9 x10 : BR.Slot} :
    ∃ S' y6 y7 y8 y9, l2__law_renamed [.val (.trn (tellT n s)), .val d1, .val d2, .val (.ref kb), .val (.int k), .val (.int f), x6, x7, x8, x9, x10] S = .ok (.nx [.val (.trn (tellT n s)), .val d1, .val d2, .val (.ref kb), .val (.int k), .val (.int f), y6, y7, y8, y9, x10]) S' ∧ SpAt S' lo kb ks n (doneAt s os ts k (f + 1)) ∧ Kp ks S S' := by
  have ho := h.o_lt hk
  have hv : ∀ (S : Store) (l : List BR.D), Vw S (.lst l) l := fun S l => .inl (.inr (.inl rfl))
  have hv2 : ∀ (S : Store) (l : List BR.D), Vw S (.trn l) l := fun S l => .inl (.inl rfl)
  have a1 : dIdx d1 (.int k) S = .ok (.int (oAt os k)) S := h1.vw.at (oD_at (by rw [h.olen]; exact hk))
  have a2 : dIdx (.trn (tellT n s)) (.int (oAt os k)) S = .ok (rowT s (oAt os k)) S := (hv2 S _).at (tell_get ho)
  have a3 : dIdx (rowT s (oAt os k)) (.int f) S = .ok (dF (s (oAt os k) f)) S := row_at hf
  cases q : s (oAt os k) f with
  | none =>
    rw [q] at a3
    refine ⟨S, .val (dF none), x7, x8, x9, ?_, sp.congr (done_skip h hk hf q), rfl, fun _ _ => rfl⟩
    unfold l2__law_renamed
    have nn : dIsNot (dF none) .non S = .ok (.bl false) S := rfl
    refine seq_ok (r1 := [.val (.trn (tellT n s)), .val d1, .val d2, .val (.ref kb), .val (.int k), .val (.int f), .val (dF none), x7, x8, x9, x10]) (S1 := S) ?_ (ifF (S1 := S) ?_ rfl)
    · simp [a1, a2, a3]
    · simp [nn]
  | some x =>
    obtain ⟨o, t⟩ := x
    obtain ⟨z1, z2, _, _⟩ := v _ ho f hf o t q
    rw [q] at a3
    have hp := h.p_lt z1
    have ht := h.t_lt hk
    have nn : dIsNot (dF (some (o, t))) .non S = .ok (.bl true) S := rfl
    have b1 : dIdx (dF (some (o, t))) (.int 0) S = .ok (.int o) S := rfl
    have mem : o ∈ os := h.perm.mem_iff.mpr (List.mem_range.mpr z1)
    have b2 : dIndexL (.lst (oD os)) (.int o) S = .ok (.int (pAt os o)) S := by
      unfold dIndexL oD
      simp only [lstS, p_vwLst, Option.bind_some, lstD, flatD, flat_ints, Bool.and_self, if_true, idx_ok 0 mem, Nat.zero_add]
    have b3 : lList d1 S = .ok (oD os) S := by rcases h1 with rfl | rfl <;> rfl
    have fl := fill_okV (S := S) (h2 := h2) (a := oAt ts k) (b := oAt ts (pAt os o)) (t := t) (k := k) (p := pAt os o) (o := o) (x0 := .val (.trn (tellT n s))) (x1 := .val d1) (x3 := .val (.ref kb)) (x5 := .val (.int f)) (x9 := x9) (x10 := x10) (ts := ts) (by rw [h.len]; exact hk) rfl (by rw [h.len]; exact hp) rfl ht z2
    obtain ⟨kk, k1, k2, k3⟩ := sp.get hk
    have hg := tn_lt _ ht f hf
    have o7 := sp.put (x := rnF os ts k (s (oAt os k) f)) k1 hg
    have l7 := lstAt_of (sp.row k kk k1)
    have c1 : dIdx d2 (.int k) S = .ok (dT (oAt ts k)) S := h2.vw.at (tD_at (by rw [h.len]; exact hk))
    have c2 : dIdx (dT (oAt ts k)) (.int f) S = .ok (.int (tn (oAt ts k) f)) S := dT_at hf
    have ix : L2.ixN 4 (tn (oAt ts k) f : Int) = some (tn (oAt ts k) f) := ixN_nat hg
    have val : (BR.D.trn [.int (pAt os o), .trn [.int (tn (oAt ts (pAt os o)) (tn t (tn (iv (oAt ts k)) 0))), .int (tn (oAt ts (pAt os o)) (tn t (tn (iv (oAt ts k)) 1))), .int (tn (oAt ts (pAt os o)) (tn t (tn (iv (oAt ts k)) 2))), .int (tn (oAt ts (pAt os o)) (tn t (tn (iv (oAt ts k)) 3)))]]) = dF (rnF os ts k (s (oAt os k) f)) := by
      rw [q]
      simp only [rnF, dF, dT, rnF_at h hk z1 z2 (show 0 < 4 by decide), rnF_at h hk z1 z2 (show 1 < 4 by decide), rnF_at h hk z1 z2 (show 2 < 4 by decide), rnF_at h hk z1 z2 (show 3 < 4 by decide)]
    refine ⟨S.set kk (some (.lst ((Row (doneAt s os ts k f) k).set (tn (oAt ts k) f) (dF (rnF os ts k (s (oAt os k) f)))))), .val (dF (some (o, t))), .val (.int (pAt os o)), .own (.lst [.int (tn (oAt ts (pAt os o)) (tn t (tn (iv (oAt ts k)) 0))), .int (tn (oAt ts (pAt os o)) (tn t (tn (iv (oAt ts k)) 1))), .int (tn (oAt ts (pAt os o)) (tn t (tn (iv (oAt ts k)) 2))), .int (tn (oAt ts (pAt os o)) (tn t (tn (iv (oAt ts k)) 3)))]), .val (.int 3), ?_, o7.congr (done_put h hk hf), by simp, fun j hj => ?_⟩
    · unfold l2__law_renamed
      refine seq_ok (r1 := [.val (.trn (tellT n s)), .val d1, .val d2, .val (.ref kb), .val (.int k), .val (.int f), .val (dF (some (o, t))), x7, x8, x9, x10]) (S1 := S) ?_ (ifT (S1 := S) ?_ ?_)
      · simp [a1, a2, a3]
      · simp [nn]
      · refine seq_ok (r1 := [.val (.trn (tellT n s)), .val d1, .val d2, .val (.ref kb), .val (.int k), .val (.int f), .val (dF (some (o, t))), .val (.int (pAt os o)), x8, x9, x10]) (S1 := S) ?_ (seq_ok (r1 := [.val (.trn (tellT n s)), .val d1, .val d2, .val (.ref kb), .val (.int k), .val (.int f), .val (dF (some (o, t))), .val (.int (pAt os o)), .own (.lst [.int 0, .int 0, .int 0, .int 0]), x9, x10]) (S1 := S) ?_ (seq_ok fl ?_))
        · simp [eIndexL, b1, b2, b3, lstS, lstD]
        · simp [lim]
        · simp [mSetE, c1, c2, k3, l7, Row_len, ix, lim, dTrn, val]
    · rw [List.getElem?_set_ne]
      rintro rfl
      exact hj k2
/-- the law's own renamed -/
theorem lawren_okV {S : Store} {d1 d2 : BR.D} (h1 : Vn d1 (oD os)) (h2 : Vn d2 (tD ts)) (h : Nms n os ts) (v : Valid n s) (hn : 0 < n ∧ n ≤ 12) : ∃ S', m__law_renamed [.trn (tellT n s), d1, d2] S = .ok (.trn (tellT n (rnS s os ts))) S' ∧ S.length ≤ S'.length ∧ ∀ j, j < S.length → S'[j]? = S[j]? := by
  have tl : (tellT n s).length = n := by simp [tellT]
  obtain ⟨acc, S1, e1', ⟨g1, g2⟩, g3⟩ := lcGo_inv (g := gN 10) (t := tYes) (e := eNew (l2 lRep (eFrz (lLst (aC (eC (.non)) aN))) (eC (.int 4)))) (r := [.val (.trn (tellT n s)), .val d1, .val d2, .no, .no, .no, .no, .no, .no, .no, .no]) (ds := tellT n s)
    (fun i acc S' => acc = ((List.range i).map fun i => BR.D.ref (S.length + i)) ∧ S' = S ++ List.replicate i noRow) (tellT n s) 0 [] S rfl rfl (by rw [tl]; unfold lim; omega) (fun i d acc S' hd ha hI => by
      obtain ⟨h1, rfl⟩ := hI
      refine ⟨_, _, _, rfl, rfl, by simp [lim, rep4]; exact ⟨rfl, rfl⟩, ?_, ?_⟩
      · rw [h1, List.range_succ, List.map_append]
        simp
      · rw [List.replicate_succ']) ⟨rfl, by simp⟩ (Nat.zero_le _)
  rw [tl] at g1 g2
  obtain ⟨kb, hkb⟩ : ∃ kb, kb = S.length + n := ⟨_, rfl⟩
  obtain ⟨ks, hks⟩ : ∃ ks : List Nat, ks = (List.range n).map fun i => S.length + i := ⟨_, rfl⟩
  have hrs2 : acc = ks.map BR.D.ref := by rw [g1, hks, List.map_map]; rfl
  obtain ⟨S2, hS2⟩ : ∃ S2, S2 = S ++ List.replicate n noRow ++ [some (BR.D.lst acc)] := ⟨_, rfl⟩
  have sp : SpAt S2 S.length kb ks n (doneAt s os ts 0 0) := by
    have : SpAt S2 S.length kb ks n (fun _ _ => none) := by rw [hS2, hrs2, hks, hkb]; exact new_at []
    refine this.congr fun i hi f hf => ?_
    unfold doneAt
    rw [if_neg]
    rintro (z | ⟨_, z⟩) <;> omega
  have lz := set_new (i := 3) (lLc_fix (vs := [10]) (r := [.val (.trn (tellT n s)), .val d1, .val d2, .no, .no, .no, .no, .no, .no, .no, .no]) (iSeq_seq (a := eB 0) (S := S) rfl rfl) e1')
  have kk : ∀ k ∈ ks, S.length ≤ k := fun k hk => sp.low.2 k hk
  have l1 : (S ++ List.replicate n noRow).length = kb := by rw [hkb]; simp
  have l2' : S2.length = kb + 1 := by rw [hS2]; simp [hkb]; omega
  rw [g2, l1, ← hS2] at lz
  have fr0 : ∀ j, j < S.length → S2[j]? = S[j]? := fun j hj => by rw [hS2, List.append_assoc, List.getElem?_append_left hj]
  have ln : ∀ S : Store, dLen (.trn (tellT n s)) S = .ok (.int n) S := fun S => by simp [dLen, tl]
  obtain ⟨r3, S3, e3, x4, x5, x6, x7, x8, x9, rfl, sp3, f3, g3⟩ := range_inv (g := gN 4) (b := l3__law_renamed) (i0 := 0) (j0 := (n : Int)) (by omega)
    (fun i r S' => ∃ x4 x5 x6 x7 x8 x9, r = [.val (.trn (tellT n s)), .val d1, .val d2, .val (.ref kb), x4, x5, x6, x7, x8, x9, .no] ∧ SpAt S' S.length kb ks n (doneAt s os ts i.toNat 0) ∧ S'.length = S2.length ∧ ∀ j, j < S.length → S'[j]? = S[j]?)
    (fun i r S' i0 i1 hI => by
      obtain ⟨x4, x5, x6, x7, x8, x9, rfl, sp', f', g'⟩ := hI
      obtain ⟨k, rfl⟩ : ∃ k : Nat, i = k := ⟨i.toNat, by omega⟩
      have hk : k < n := by omega
      obtain ⟨r4, S4, e4, y5, y6, y7, y8, y9, rfl, sp4, f4, g4⟩ := range_inv (g := gN 5) (b := l2__law_renamed) (i0 := 0) (j0 := (4 : Int)) (by omega)
        (fun i r S' => ∃ x5 x6 x7 x8 x9, r = [.val (.trn (tellT n s)), .val d1, .val d2, .val (.ref kb), .val (.int k), x5, x6, x7, x8, x9, .no] ∧ SpAt S' S.length kb ks n (doneAt s os ts k i.toNat) ∧ S'.length = S2.length ∧ ∀ j, j < S.length → S'[j]? = S[j]?)
        (fun i r S' i0 i1 hI => by
          obtain ⟨x5, x6, x7, x8, x9, rfl, sp', f', g'⟩ := hI
          obtain ⟨f, rfl⟩ : ∃ f : Nat, i = f := ⟨i.toNat, by omega⟩
          have hf : f < 4 := by omega
          obtain ⟨S5, y6, y7, y8, y9, e5, sp5, f5, g5⟩ := face_okV h1 h2 (x6 := x6) (x7 := x7) (x8 := x8) (x9 := x9) (x10 := .no) h v hk hf sp'
          exact ⟨_, _, S5, rfl, .inl e5, _, _, _, _, _, rfl, by rw [show ((f : Int) + 1).toNat = f + 1 by omega]; exact sp5, f5.trans f', fun j hj => (g5 j (fun z => by have := kk j z; omega)).trans (g' j hj)⟩)
        (r := [.val (.trn (tellT n s)), .val d1, .val d2, .val (.ref kb), .val (.int k), x5, x6, x7, x8, x9, .no]) (S := S') ⟨_, _, _, _, _, rfl, sp', f', g'⟩
      refine ⟨_, _, S4, rfl, .inl (mFor_fix (iR1 (a := eC (.int 4)) (n := 4) rfl (by decide)) e4), _, _, _, _, _, _, rfl, ?_, f4, g4⟩
      rw [show ((k : Int) + 1).toNat = k + 1 by omega]
      exact sp4.congr (done_next h hk))
    (r := [.val (.trn (tellT n s)), .val d1, .val d2, .val (.ref kb), .no, .no, .no, .no, .no, .no, .no]) (S := S2) ⟨_, _, _, _, _, _, rfl, sp, rfl, fr0⟩
  have sp3 : SpAt S3 S.length kb ks n (rnS s os ts) := sp3.congr fun i hi f hf => by
    unfold doneAt
    rw [if_pos (.inl (by omega))]
  have sh := shut_ok sp3 (by omega)
  refine ⟨S3, runA_ok rfl (seq_ok lz (seq_ok (mFor_fix (iR1 (n := (n : Int)) (S1 := S2) ?_ (by simp only [big62]; omega)) e3) (ret_ok ?_))), by omega, g3⟩
  · simp [ln]
  · simp [sh]
end
end LW

end

section
/-! Names: what is one, by the program's test and by the law's. -/
namespace LW
open PySem BR
theorem seq_exc {a b : SM} {r : BR.Env} {S S1 : Store} {x : BR.Exc} (h : a r S = .exc x S1) : mSeq a b r S = .exc x S1 := by rw [p_seq, h]; rfl
theorem or_yes {t u : TM} {r : BR.Env} {S S1 : Store} (h : t r S = .ok true S1) : tOr t u r S = .ok true S1 := by unfold tOr; rw [h, bind_ok, if_pos rfl]
def nonRow : List BR.D := [.non, .int 7, .str "01", .dK [] [], .bl true]
def OrdD (d : BR.D) : Prop := d ∈ nonRow ∨ ∃ xs, Vn d xs ∧ xs.length ≤ 60 ∧ ∀ x ∈ xs, Od x
def oddS : List BR.D := [.trn [.int 0, .int 1, .int 2, .int (-1)], .trn [.int 0, .int 1, .int 2, .int 2], .non, .str "0123", .lst [.int 0, .int 1, .int 2, .bl true], .trn [.int 0, .int 1, .int 2, .int 4]]
def El (x : BR.D) : Prop := (∃ t, t < 24 ∧ x = dT t) ∨ x ∈ oddS
def TurD (d : BR.D) : Prop := d ∈ nonRow ∨ ∃ xs, Vn d xs ∧ xs.length ≤ 60 ∧ ∀ x ∈ xs, El x
def isOrdD (n : Nat) (d : BR.D) : Prop := ∃ os : List Nat, Vn d (oD os) ∧ os.Perm (List.range n)
def isTurD (n : Nat) (d : BR.D) : Prop := ∃ ts : List Nat, Vn d (tD ts) ∧ ts.length = n ∧ ∀ t ∈ ts, t < 24
noncomputable def isT (x : BR.D) : Bool := @decide (∃ t, t < 24 ∧ x = dT t) (Classical.propDecidable _)
theorem isT_yes {x : BR.D} (h : ∃ t, t < 24 ∧ x = dT t) : isT x = true := @decide_eq_true _ (Classical.propDecidable _) h
theorem isT_of {x : BR.D} (h : isT x = true) : ∃ t, t < 24 ∧ x = dT t := @of_decide_eq_true _ (Classical.propDecidable _) h
theorem dT_is {S : Store} {t : Nat} (ht : t < 24) : m_is_turn [dT t] S = .ok (.bl true) S := turn_ok (.inl (.inl rfl)) ht
theorem isT_no {x : BR.D} (h : m_is_turn [x] [] = .ok (.bl false) []) : isT x = false := by
  cases q : isT x with
  | false => rfl
  | true =>
    obtain ⟨t, ht, rfl⟩ := isT_of q
    rw [dT_is ht] at h
    cases h
theorem oddS_ok {S : Store} {x : BR.D} (h : x ∈ oddS) : m_is_turn [x] S = .ok (.bl false) S ∧ m__law_is_turn [x] S = .ok (.bl false) S := by
  have a := fun (d : BR.D) (h : d ∈ oddT) => (⟨oddT_is (S := S) d h, oddT_law (S := S) d h⟩ : _ ∧ _)
  simp only [oddS, List.mem_cons, List.not_mem_nil, or_false] at h
  rcases h with rfl | rfl | rfl | rfl | rfl | rfl
  · exact a _ (by simp [oddT])
  · exact a _ (by simp [oddT])
  · exact a _ (by simp [oddT])
  · exact a _ (by simp [oddT])
  · exact ⟨rfl, rfl⟩
  · exact a _ (by simp [oddT])
theorem el_ok {S : Store} {x : BR.D} (h : El x) : m_is_turn [x] S = .ok (.bl (isT x)) S ∧ m__law_is_turn [x] S = .ok (.bl (isT x)) S := by
  rcases h with ⟨t, ht, rfl⟩ | h
  · rw [isT_yes ⟨t, ht, rfl⟩]
    exact ⟨dT_is ht, law_turn_ok ht⟩
  · rw [isT_no (oddS_ok h).1]
    exact oddS_ok h
theorem turns_of : ∀ {xs : List BR.D}, xs.all isT = true → ∃ ts : List Nat, xs = tD ts ∧ ∀ t ∈ ts, t < 24
  | [], _ => ⟨[], rfl, fun _ h => by simp at h⟩
  | x :: xs, h => by
    rw [List.all_cons, Bool.and_eq_true] at h
    obtain ⟨ts, rfl, h2⟩ := turns_of h.2
    obtain ⟨t, ht, rfl⟩ := isT_of h.1
    exact ⟨t :: ts, rfl, fun y hy => by
      rcases List.mem_cons.mp hy with rfl | hy
      · exact ht
      · exact h2 y hy⟩
theorem tD_all {ts : List Nat} (h : ∀ t ∈ ts, t < 24) : (tD ts).all isT = true := by
  rw [List.all_eq_true]
  intro x hx
  obtain ⟨t, ht, rfl⟩ := List.mem_map.mp hx
  exact isT_yes ⟨t, h t ht, rfl⟩
theorem Vn.uni {d : BR.D} {xs ys : List BR.D} (h : Vn d xs) (h2 : Vn d ys) : xs = ys := by
  rcases h with rfl | rfl <;> rcases h2 with h2 | h2 <;> cases h2 <;> rfl
theorem nonRow_no {d : BR.D} {xs : List BR.D} (h : d ∈ nonRow) (h2 : Vn d xs) : False := by
  simp only [nonRow, List.mem_cons, List.not_mem_nil, or_false] at h
  rcases h with rfl | rfl | rfl | rfl | rfl <;> rcases h2 with h2 | h2 <;> cases h2
theorem nonRow_row {S : Store} {d : BR.D} (h : d ∈ nonRow) : m_is_row [d] S = .ok (.bl false) S ∧ dIsi ["list", "tuple"] d S = .ok (.bl false) S := by
  simp only [nonRow, List.mem_cons, List.not_mem_nil, or_false] at h
  rcases h with rfl | rfl | rfl | rfl | rfl <;> exact ⟨rfl, rfl⟩
theorem ord_get {n : Nat} {d : BR.D} {xs : List BR.D} (h : Vn d xs) (h2 : isOrdD n d) : isOrd n xs := by
  obtain ⟨os, h3, h4⟩ := h2
  exact ⟨os, h.uni h3, h4⟩
theorem ord_put {n : Nat} {d : BR.D} {xs : List BR.D} (h : Vn d xs) (h2 : isOrd n xs) : isOrdD n d := by
  obtain ⟨os, rfl, h4⟩ := h2
  exact ⟨os, h, h4⟩
theorem all_isI {os : List Nat} : (oD os).all isI = true := by
  rw [List.all_eq_true]
  intro x hx
  obtain ⟨i, _, rfl⟩ := List.mem_map.mp hx
  rfl
section
variable {S : Store} {n : Nat} {s : Spc} {d1 d2 : BR.D}
/-- the program's test of an order -/
def T1 : TM := tOr (tNot (tE (eA m_is_row (aC (eV 1) aN)))) (tOr (tNot (tE (BR.e1 dAll (eFrz (lLc (iSeq (eB 1)) (gN 3) tYes (eA m_is_whole (aC (eV 3) aN)) [3]))))) (tE (BR.e2 dNe (eFrz (BR.l1 lSorted (eB 1))) (eFrz (BR.l1 lRg1 (BR.e1 dLen (eB 0)))))))
theorem T1_ok (h : OrdD d1) (hn : n ≤ 60) : ∃ b, T1 [.val (.trn (tellT n s)), .val d1, .val d2, .no, .no] S = .ok b S ∧ (b = false ↔ isOrdD n d1) := by
  have ln : dLen (.trn (tellT n s)) S = .ok (.int n) S := by simp [dLen, tellT]
  unfold T1
  rcases h with h | ⟨xs, hv, hl, ho⟩
  · refine ⟨true, or_yes (tnot_ok (te_ok (b := false) ?_)), ⟨fun z => (by cases z), fun z => let ⟨_, y, _⟩ := z; (nonRow_no h y).elim⟩⟩
    simp only [p_eA, p_aC, p_eV, p_aN, List.getElem?_cons_succ, List.getElem?_cons_zero, bind_ok, (nonRow_row (S := S) h).1]
  · have hw := hv.vw (S := S)
    have row : tNot (tE (eA m_is_row (aC (eV 1) aN))) [.val (.trn (tellT n s)), .val d1, .val d2, .no, .no] S = .ok false S := by
      refine tnot_ok (te_ok (b := true) ?_)
      simp only [p_eA, p_aC, p_eV, p_aN, List.getElem?_cons_succ, List.getElem?_cons_zero, bind_ok, hw.row]
    have c1 := hw.lc (a := eB 1) (g := gN 3) (t := tYes) (e := eA m_is_whole (aC (eV 3) aN)) (vs := [3]) (r := [.val (.trn (tellT n s)), .val d1, .val d2, .no, .no]) rfl (by omega) (fun x => BR.D.bl (isI x)) (fun x hx => by
      exact ⟨_, rfl, rfl, by
        have w := whole_od (S := S) (ho x hx)
        simp only [p_eA, p_aC, p_eV, p_aN, List.set_cons_succ, List.set_cons_zero, wipeE, List.getElem?_cons_succ, List.getElem?_cons_zero, bind_ok, w]⟩)
    have al := (e1_ok (f := dAll) (frz_ok c1)).trans (all_map isI xs)
    cases q : xs.all isI with
    | false =>
      rw [q] at al
      refine ⟨true, (or_no row rfl).trans (or_yes (tnot_ok (te_ok al))), ⟨fun z => (by cases z), fun z => ?_⟩⟩
      obtain ⟨os, rfl, _⟩ := ord_get hv z
      rw [all_isI] at q
      cases q
    | true =>
      rw [q] at al
      obtain ⟨is, rfl⟩ := ints_of q
      have so : lSorted d1 S = .ok ((is.mergeSort fun i j => decide (i ≤ j)).map BR.D.int) S := by
        unfold lSorted
        rw [hw.seq]
        simp only [Option.bind_some, intsD_map]
      have rg := rg_ints (S := S) (n := n) (by omega)
      rw [oD_map] at rg
      refine ⟨_, (or_no row rfl).trans ((or_no (tnot_ok (te_ok al)) rfl).trans (te_ok ((e2_ok (frz_ok ((l1_ok rfl).trans so)) (frz_ok ((l1_ok ((e1_ok rfl).trans ln)).trans rg))).trans (ne_lists _ _)))), ⟨fun z => ?_, fun z => ?_⟩⟩
      · exact ord_put hv (sort_range (Classical.byContradiction fun c => of_decide_eq_false z c))
      · obtain ⟨os, e, hp⟩ := ord_get hv z
        rw [oD_map] at e
        have e' : is = os.map fun i : Nat => (i : Int) := by
          have := congrArg intsD e
          rw [intsD_map, intsD_map] at this
          exact Option.some.inj this
        refine decide_eq_false fun c => c ?_
        rw [e']
        refine (isort_eq (hp.symm.map _) ?_).symm
        rw [List.pairwise_map]
        exact List.Pairwise.imp (R := (· < ·)) (fun h => by omega) List.pairwise_lt_range
def T2 : TM := tOr (tNot (tE (eA m_is_row (aC (eV 2) aN)))) (tOr (tE (BR.e2 dNe (BR.e1 dLen (eB 2)) (BR.e1 dLen (eB 0)))) (tNot (tE (BR.e1 dAll (eFrz (lLc (iSeq (eB 2)) (gN 4) tYes (eA m_is_turn (aC (eV 4) aN)) [4]))))))
theorem T2_ok (h : TurD d2) (hn : n ≤ 60) : ∃ b, T2 [.val (.trn (tellT n s)), .val d1, .val d2, .no, .no] S = .ok b S ∧ (b = false ↔ isTurD n d2) := by
  have ln : dLen (.trn (tellT n s)) S = .ok (.int n) S := by simp [dLen, tellT]
  unfold T2
  rcases h with h | ⟨xs, hv, hl, ho⟩
  · refine ⟨true, or_yes (tnot_ok (te_ok (b := false) ?_)), ⟨fun z => (by cases z), fun z => let ⟨_, y, _⟩ := z; (nonRow_no h y).elim⟩⟩
    simp only [p_eA, p_aC, p_eV, p_aN, List.getElem?_cons_succ, List.getElem?_cons_zero, bind_ok, (nonRow_row (S := S) h).1]
  · have hw := hv.vw (S := S)
    have row : tNot (tE (eA m_is_row (aC (eV 2) aN))) [.val (.trn (tellT n s)), .val d1, .val d2, .no, .no] S = .ok false S := by
      refine tnot_ok (te_ok (b := true) ?_)
      simp only [p_eA, p_aC, p_eV, p_aN, List.getElem?_cons_succ, List.getElem?_cons_zero, bind_ok, hw.row]
    have l2 : dNe (.int xs.length) (.int n) S = .ok (.bl (decide ((xs.length : Int) ≠ n))) S := by simp
    have lt := te_ok ((e2_ok (f := dNe) (r := [.val (.trn (tellT n s)), .val d1, .val d2, .no, .no]) ((e1_ok (f := dLen) (a := eB 2) rfl).trans hw.len) ((e1_ok (f := dLen) (a := eB 0) rfl).trans ln)).trans l2)
    have c1 := hw.lc (a := eB 2) (g := gN 4) (t := tYes) (e := eA m_is_turn (aC (eV 4) aN)) (vs := [4]) (r := [.val (.trn (tellT n s)), .val d1, .val d2, .no, .no]) rfl (by omega) (fun x => BR.D.bl (isT x)) (fun x hx => by
      exact ⟨_, rfl, rfl, by
        have w := (el_ok (S := S) (ho x hx)).1
        simp only [p_eA, p_aC, p_eV, p_aN, List.set_cons_succ, List.set_cons_zero, wipeE, List.getElem?_cons_succ, List.getElem?_cons_zero, bind_ok, w]⟩)
    have al := (e1_ok (f := dAll) (frz_ok c1)).trans (all_map isT xs)
    by_cases hc : xs.length = n
    · rw [decide_eq_false (show ¬ ((xs.length : Int) ≠ n) by omega)] at lt
      refine ⟨!xs.all isT, (or_no row rfl).trans ((or_no lt rfl).trans (tnot_ok (te_ok al))), ⟨fun z => ?_, fun z => ?_⟩⟩
      · obtain ⟨ts, rfl, ht⟩ := turns_of (by simpa using z)
        exact ⟨ts, hv, by simpa [tD] using hc, ht⟩
      · obtain ⟨ts, h1, h2, h3⟩ := z
        rw [hv.uni h1, tD_all h3]
        rfl
    · rw [decide_eq_true (show ((xs.length : Int) ≠ n) by omega)] at lt
      refine ⟨true, (or_no row rfl).trans (or_yes lt), ⟨fun z => (by cases z), fun z => ?_⟩⟩
      obtain ⟨ts, h1, h2, h3⟩ := z
      rw [hv.uni h1] at hc
      exact (hc (by simpa [tD] using h2)).elim
/-- need_names -/
theorem need_right (h1 : OrdD d1) (h2 : TurD d2) (hn : n ≤ 60) (hr : isOrdD n d1 ∧ isTurD n d2) : m_need_names [.trn (tellT n s), d1, d2] S = .ok .non S := by
  obtain ⟨b1, e1, i1⟩ := T1_ok (S := S) (s := s) (d2 := d2) h1 hn
  obtain ⟨b2, e2, i2⟩ := T2_ok (S := S) (s := s) (d1 := d1) h2 hn
  rw [i1.mpr hr.1] at e1
  rw [i2.mpr hr.2] at e2
  exact runA_nx rfl (seq_ok (pass_if e1) (pass_if e2))
theorem need_wrong (h1 : OrdD d1) (h2 : TurD d2) (hn : n ≤ 60) (hr : ¬ (isOrdD n d1 ∧ isTurD n d2)) : m_need_names [.trn (tellT n s), d1, d2] S = .exc ⟨"NoName", none⟩ S := by
  obtain ⟨b1, e1, i1⟩ := T1_ok (S := S) (s := s) (d2 := d2) h1 hn
  obtain ⟨b2, e2, i2⟩ := T2_ok (S := S) (s := s) (d1 := d1) h2 hn
  cases b1 with
  | true =>
    exact runA_exc rfl (seq_exc (raise_if e1 rfl))
  | false =>
    cases b2 with
    | true => exact runA_exc rfl (seq_ok (pass_if e1) (raise_if e2 rfl))
    | false => exact (hr ⟨i1.mp rfl, i2.mp rfl⟩).elim
end
end LW

end

section
/-! The program's renamed, where it may raise. -/
namespace LW
open PySem BR
theorem tn_inj : ∀ a < 24, ∀ i < 4, ∀ j < 4, tn a i = tn a j → i = j := by decide
section
variable {n : Nat} {os ts : List Nat} {s : Spc}
def kT (a : Nat) (j : Nat) : L2.Key := kI (tn a j)
def wF (s : Spc) (os ts : List Nat) (k f : Nat) : BR.D := dF (rnF os ts k (s (oAt os k) f))
def fcD (s : Spc) (os ts : List Nat) (k f : Nat) : BR.D := .dK ((List.range f).map (kT (oAt ts k))) ((List.range f).map (wF s os ts k))
theorem face1_ok {S : Store} {d0 d1 d2 : BR.D} (h : Nms n os ts) (v : Valid n s) (h2 : TuRd S d2 ts) {k f : Nat} (hk : k < n) (hf : f < 4) {x4 x5 x6 x11 x12 : BR.Slot} :
    ∃ y11 y12, l1_renamed [.val d0, .val d1, .val d2, .val (plD os), x4, x5, x6, .val (dT (oAt ts k)), .own (fcD s os ts k f), .val (.int f), .val (dF (s (oAt os k) f)), x11, x12] S = .ok (.nx [.val d0, .val d1, .val d2, .val (plD os), x4, x5, x6, .val (dT (oAt ts k)), .own (fcD s os ts k (f + 1)), .val (.int f), .val (dF (s (oAt os k) f)), y11, y12]) S := by
  have ho := h.o_lt hk
  have ht := h.t_lt hk
  have ne : ∀ x ∈ List.range f, kT (oAt ts k) x ≠ kI (tn (oAt ts k) f) := fun x hx z => by
    have hx := List.mem_range.mp hx
    have := tn_inj _ ht x (by omega) f hf (kI_inj z)
    omega
  have pn := put_new (key := kT (oAt ts k)) (w := wF s os ts k) (K := .int (tn (oAt ts k) f)) (v := .non) (k := kI (tn (oAt ts k) f)) rfl ne (by simp; omega)
  have e7 : ∀ S, dIdx (dT (oAt ts k)) (.int f) S = .ok (.int (tn (oAt ts k) f)) S := fun S => dT_at hf
  have fs : fcD s os ts k (f + 1) = .dK ((List.range f).map (kT (oAt ts k)) ++ [kI (tn (oAt ts k) f)]) ((List.range f).map (wF s os ts k) ++ [wF s os ts k f]) := by
    unfold fcD
    rw [List.range_succ, List.map_append, List.map_append]
    rfl
  obtain ⟨D1, hD1⟩ : ∃ D1 : BR.D, D1 = .dK ((List.range f).map (kT (oAt ts k)) ++ [kI (tn (oAt ts k) f)]) ((List.range f).map (wF s os ts k) ++ [.non]) := ⟨_, rfl⟩
  rw [← hD1] at pn
  have p1 : mPutV 8 (BR.e2 dIdx (eB 7) (eB 9)) (eC (.non)) [.val d0, .val d1, .val d2, .val (plD os), x4, x5, x6, .val (dT (oAt ts k)), .own (fcD s os ts k f), .val (.int f), .val (dF (s (oAt os k) f)), x11, x12] S = .ok (.nx [.val d0, .val d1, .val d2, .val (plD os), x4, x5, x6, .val (dT (oAt ts k)), .own D1, .val (.int f), .val (dF (s (oAt os k) f)), x11, x12]) S := by
    unfold mPutV
    simp only [p_eC, bind_ok, List.getElem?_cons_succ, List.getElem?_cons_zero, p_e2, p_eB, e7]
    unfold fcD
    rw [pn]
    rfl
  unfold l1_renamed
  cases q : s (oAt os k) f with
  | none =>
    rw [q] at p1
    refine ⟨x11, x12, seq_ok (mnx_ok p1) (mnx_ok (ifF (S1 := S) ?_ ?_))⟩
    · have nn : dIsNot (dF none) .non S = .ok (.bl false) S := rfl
      simp [nn]
    · have : wF s os ts k f = .non := by unfold wF; rw [q]; rfl
      rw [fs, this, hD1]
      rfl
  | some x =>
    obtain ⟨o, t⟩ := x
    rw [q] at p1
    obtain ⟨z1, z2, _, _⟩ := v _ ho f hf o t q
    have hp := h.p_lt z1
    have htp := h.t_lt hp
    have mem : o ∈ os := h.perm.mem_iff.mpr (List.mem_range.mpr z1)
    have pa := place_at (S := S) mem
    obtain ⟨y, t1, t2⟩ := h2.at (i := pAt os o) (by rw [h.len]; exact hp)
    have c1 := contrary_ok (S := S) ht
    have i1 := iv_lt _ ht
    have b1 := behind_ok (S := S) i1 z2
    have m1 := (cm_ok _ i1 _ z2).1
    have b2 := behind_ok (S := S) m1 htp
    have pl := put_last (key := kT (oAt ts k)) (w := wF s os ts k) (K := .int (tn (oAt ts k) f)) (u := .non) (v := wF s os ts k f) (k := kI (tn (oAt ts k) f)) rfl ne (by simp; omega)
    rw [← hD1, ← fs] at pl
    have wv : wF s os ts k f = .trn [.int (pAt os o), dT (cm (cm (iv (oAt ts k)) t) (oAt ts (pAt os o)))] := by unfold wF; rw [q]; rfl
    have gu : gU [gN 11, gN 12] (dF (some (o, t))) [.val d0, .val d1, .val d2, .val (plD os), x4, x5, x6, .val (dT (oAt ts k)), .own D1, .val (.int f), .val (dF (some (o, t))), x11, x12] = some [.val d0, .val d1, .val d2, .val (plD os), x4, x5, x6, .val (dT (oAt ts k)), .own D1, .val (.int f), .val (dF (some (o, t))), .val (.int o), .val (dT t)] := rfl
    refine ⟨.val (.int o), .val (dT t), seq_ok (mnx_ok p1) (mnx_ok (ifT (S1 := S) ?_ (seq_ok (r1 := [.val d0, .val d1, .val d2, .val (plD os), x4, x5, x6, .val (dT (oAt ts k)), .own D1, .val (.int f), .val (dF (some (o, t))), .val (.int o), .val (dT t)]) (S1 := S) (mnx_ok ?_) (mnx_ok ?_))))⟩
    · have nn : dIsNot (dF (some (o, t))) .non S = .ok (.bl true) S := rfl
      simp [nn]
    · simp only [p_set, p_eV, List.getElem?_cons_succ, List.getElem?_cons_zero, bind_ok, gu]
    · unfold mPutV
      have ev : eTrn (aC (BR.e2 dAtD (eB 3) (eV 11)) (aC (eA m_behind (aC (eA m_behind (aC (eA m_contrary (aC (eV 7) aN)) (aC (eV 12) aN))) (aC (BR.e1 dTrn (BR.e2 dIdx (eB 2) (BR.e2 dAtD (eB 3) (eV 11)))) aN))) aN)) [.val d0, .val d1, .val d2, .val (plD os), x4, x5, x6, .val (dT (oAt ts k)), .own D1, .val (.int f), .val (dF (some (o, t))), .val (.int o), .val (dT t)] S = .ok (wF s os ts k f) S := by
        simp only [p_eTrn, p_aC, p_e2, p_e1, p_eB, p_eV, p_eA, p_aN, List.getElem?_cons_succ, List.getElem?_cons_zero, bind_ok, pa, c1, b1, t1, t2, b2, wv]
        rw [if_pos (show _ ≤ lim by simp [lim])]
      rw [ev]
      simp only [bind_ok, List.getElem?_cons_succ, List.getElem?_cons_zero, p_e2, p_eB, e7, pl]
      rfl
theorem block1_ok {S : Store} {d1 d2 : BR.D} (h : Nms n os ts) (v : Valid n s) (h2 : TuRd S d2 ts) (hn : 0 < n ∧ n ≤ 12) {k : Nat} (hk : k < n) {x7 x8 x9 x10 x11 x12 : BR.Slot} :
    ∃ y7 y8 y9 y10 y11 y12, l2_renamed [.val (.trn (tellT n s)), .val d1, .val d2, .val (plD os), .own (.lst (tellT k (rnS s os ts))), .val (.int k), .val (.int (oAt os k)), x7, x8, x9, x10, x11, x12] S = .ok (.nx [.val (.trn (tellT n s)), .val d1, .val d2, .val (plD os), .own (.lst (tellT (k + 1) (rnS s os ts))), .val (.int k), .val (.int (oAt os k)), y7, y8, y9, y10, y11, y12]) S := by
  have ho := h.o_lt hk
  have ht := h.t_lt hk
  obtain ⟨y, t1, t2⟩ := h2.at (i := k) (by rw [h.len]; exact hk)
  have hv2 : ∀ (S : Store) (l : List BR.D), Vw S (.trn l) l := fun S l => .inl (.inl rfl)
  have a2 : dIdx (.trn (tellT n s)) (.int (oAt os k)) S = .ok (rowT s (oAt os k)) S := (hv2 S _).at (tell_get ho)
  have ie : iEnum (BR.e2 dIdx (eB 0) (eB 6)) [.val (.trn (tellT n s)), .val d1, .val d2, .val (plD os), .own (.lst (tellT k (rnS s os ts))), .val (.int k), .val (.int (oAt os k)), .val (dT (oAt ts k)), .own (fcD s os ts k 0), x9, x10, x11, x12] S = .ok (.fix (enumD (Row s (oAt os k)))) S := by
    unfold iEnum
    simp only [p_e2, p_eB, List.getElem?_cons_succ, List.getElem?_cons_zero, bind_ok, a2]
    rfl
  obtain ⟨r3, S3, e3, ⟨rfl, y9, y10, y11, y12, rfl⟩⟩ := forGo_inv (g := gU [gN 9, gN 10]) (b := l1_renamed) (ds := enumD (Row s (oAt os k)))
    (fun i r S' => S' = S ∧ ∃ x9 x10 x11 x12, r = [.val (.trn (tellT n s)), .val d1, .val d2, .val (plD os), .own (.lst (tellT k (rnS s os ts))), .val (.int k), .val (.int (oAt os k)), .val (dT (oAt ts k)), .own (fcD s os ts k i), x9, x10, x11, x12])
    (fun i d r S' hd hI => by
      obtain ⟨rfl, x9, x10, x11, x12, rfl⟩ := hI
      obtain ⟨x, hx, rfl⟩ := enumD_at hd
      have hi : i < 4 := (List.getElem?_eq_some_iff.mp hx).1
      rw [Row_at hi] at hx
      cases hx
      obtain ⟨y11, y12, e⟩ := face1_ok (d0 := .trn (tellT n s)) (d1 := d1) (x4 := .own (.lst (tellT k (rnS s os ts)))) (x5 := .val (.int k)) (x6 := .val (.int (oAt os k))) (x11 := x11) (x12 := x12) h v h2 hk hi
      exact ⟨_, _, _, rfl, .inl e, rfl, _, _, _, _, rfl⟩)
    (r := [.val (.trn (tellT n s)), .val d1, .val d2, .val (plD os), .own (.lst (tellT k (rnS s os ts))), .val (.int k), .val (.int (oAt os k)), .val (dT (oAt ts k)), .own (fcD s os ts k 0), x9, x10, x11, x12]) (S := S) ⟨rfl, _, _, _, _, rfl⟩
  have l4 : (enumD (Row s (oAt os k))).length = 4 := by rw [enumD_len]; rfl
  rw [l4] at e3
  have fa : ∀ g : Nat, g < 4 → dAtD (fcD s os ts k 4) (.int g) S3 = .ok (dF (rnS s os ts k g)) S3 := fun g hg => by
    have hj := tn_lt _ (iv_lt _ ht) g hg
    have := at_map (S := S3) (key := kT (oAt ts k)) (w := wF s os ts k) (l := List.range 4) (fun x hx y hy e => tn_inj _ ht x (List.mem_range.mp hx) y (List.mem_range.mp hy) (kI_inj e)) (j := tn (iv (oAt ts k)) g) (List.mem_range.mpr hj) (K := .int g) (by unfold kT; rw [tn_iv _ ht g hg]; rfl)
    exact this
  have lc := lcGo_map (g := gN 9) (t := tYes) (e := BR.e2 dAtD (eB 8) (eV 9)) (r := [.val (.trn (tellT n s)), .val d1, .val d2, .val (plD os), .own (.lst (tellT k (rnS s os ts))), .val (.int k), .val (.int (oAt os k)), .val (dT (oAt ts k)), .own (fcD s os ts k 4), .no, y10, y11, y12]) (S := S3) (ds := rangeD 0 4) (acc := []) (fun _ => true) (fun x => match dAtD (fcD s os ts k 4) x S3 with
    | .ok y _ => y
    | _ => .non) (fun d hd => by
      obtain ⟨j, hj⟩ := List.getElem?_of_mem hd
      obtain ⟨rfl, hk⟩ := rangeD_at hj
      refine ⟨_, rfl, rfl, fun _ => ?_⟩
      have e : (0 : Int) + (j : Int) = (j : Int) := by omega
      rw [e]
      simp only [p_e2, p_eB, p_eV, List.set_cons_succ, List.set_cons_zero, List.getElem?_cons_succ, List.getElem?_cons_zero, bind_ok, fa j (by omega)]) (by rw [rangeD_len]; simp [lim])
  have rg : rangeD 0 4 = [.int ((0 : Nat) : Int), .int ((1 : Nat) : Int), .int ((2 : Nat) : Int), .int ((3 : Nat) : Int)] := rfl
  rw [List.nil_append, List.filter_eq_self.mpr (fun _ _ => rfl)] at lc
  conv at lc => rhs; rw [rg]
  simp only [List.map_cons, List.map_nil, fa 0 (by decide), fa 1 (by decide), fa 2 (by decide), fa 3 (by decide)] at lc
  have lz := lLc_fix (g := gN 9) (t := tYes) (e := BR.e2 dAtD (eB 8) (eV 9)) (vs := [9]) (r := [.val (.trn (tellT n s)), .val d1, .val d2, .val (plD os), .own (.lst (tellT k (rnS s os ts))), .val (.int k), .val (.int (oAt os k)), .val (dT (oAt ts k)), .own (fcD s os ts k 4), y9, y10, y11, y12]) (iR1 (a := eC (.int 4)) (S := S3) (n := 4) rfl (by decide)) lc
  have tl : (tellT k (rnS s os ts)).length < lim := by simp [tellT, lim]; omega
  have tsu : tellT (k + 1) (rnS s os ts) = tellT k (rnS s os ts) ++ [rowT (rnS s os ts) k] := by simp [tellT, List.range_succ]
  refine ⟨.val (dT (oAt ts k)), .own (fcD s os ts k 4), y9, y10, y11, y12, ?_⟩
  unfold l2_renamed
  refine seq_ok (r1 := [.val (.trn (tellT n s)), .val d1, .val d2, .val (plD os), .own (.lst (tellT k (rnS s os ts))), .val (.int k), .val (.int (oAt os k)), .val (dT (oAt ts k)), x8, x9, x10, x11, x12]) (S1 := S3) (mnx_ok ?_) (seq_ok (r1 := [.val (.trn (tellT n s)), .val d1, .val d2, .val (plD os), .own (.lst (tellT k (rnS s os ts))), .val (.int k), .val (.int (oAt os k)), .val (dT (oAt ts k)), .own (fcD s os ts k 0), x9, x10, x11, x12]) (S1 := S3) (mnx_ok rfl) (seq_ok (mnx_ok (mFor_fix ie e3)) (mnx_ok ?_)))
  · exact (set_val (i := 7) (d := dT (oAt ts k)) ((e1_ok ((e2_ok rfl rfl).trans t1)).trans t2))
  · have tr : BR.e1 dTrn (eFrz (lLc (iRange1 (eC (.int 4))) (gN 9) tYes (BR.e2 dAtD (eB 8) (eV 9)) [9])) [.val (.trn (tellT n s)), .val d1, .val d2, .val (plD os), .own (.lst (tellT k (rnS s os ts))), .val (.int k), .val (.int (oAt os k)), .val (dT (oAt ts k)), .own (fcD s os ts k 4), y9, y10, y11, y12] S3 = .ok (rowT (rnS s os ts) k) S3 := (e1_ok (frz_ok lz)).trans rfl
    rw [p_app]
    simp only [List.getElem?_cons_succ, List.getElem?_cons_zero, tr, bind_ok, if_pos tl, tsu]
    rfl
theorem tuRd_of {S : Store} {d2 : BR.D} (h : Vn d2 (tD ts)) : TuRd S d2 ts := ⟨tD ts, h.vw, by unfold tD; rw [List.length_map], fun i y hy => by
  have hi : i < ts.length := by have := (List.getElem?_eq_some_iff.mp hy).1; unfold tD at this; rw [List.length_map] at this; exact this
  rw [tD_at hi] at hy
  cases hy
  exact .inl rfl⟩
theorem ordD_of {d1 : BR.D} (h : Nms n os ts) (hn : n ≤ 12) (h1 : Vn d1 (oD os)) : OrdD d1 := .inr ⟨oD os, h1, by unfold oD; rw [List.length_map, h.olen]; omega, fun x hx => by
  obtain ⟨i, _, rfl⟩ := List.mem_map.mp hx
  trivial⟩
theorem turD_of {d2 : BR.D} (h : Nms n os ts) (hn : n ≤ 12) (h1 : Vn d2 (tD ts)) : TurD d2 := .inr ⟨tD ts, h1, by unfold tD; rw [List.length_map, h.len]; omega, fun x hx => by
  obtain ⟨t, ht, rfl⟩ := List.mem_map.mp hx
  exact .inl ⟨t, h.lt t ht, rfl⟩⟩
/-- renamed -/
theorem renamed_ok {S : Store} {d d1 d2 : BR.D} (rd : SpRd S d n s) (h : Nms n os ts) (v : Valid n s) (h1 : Vn d1 (oD os)) (hv2 : Vn d2 (tD ts)) (hn : 0 < n ∧ n ≤ 12) : m_renamed [d, d1, d2] S = .ok (.trn (tellT n (rnS s os ts))) S := by
  have sp := space_ok rd v ⟨hn.1, by omega⟩
  have h2 := tuRd_of (S := S) hv2
  have ne := need_right (S := S) (s := s) (ordD_of h hn.2 h1) (turD_of h hn.2 hv2) (by omega) ⟨⟨os, h1, h.perm⟩, ⟨ts, hv2, h.len, h.lt⟩⟩
  have pk := place_ok (S := S) (r := [.val (.trn (tellT n s)), .val d1, .val d2, .no, .no, .no, .no, .no, .no, .no, .no, .no, .no]) h hn.2 h1 rfl (fun _ _ => rfl) (fun _ _ => rfl)
  have ie : iEnum (eV 1) [.val (.trn (tellT n s)), .val d1, .val d2, .val (plD os), .own (.lst []), .no, .no, .no, .no, .no, .no, .no, .no] S = .ok (.fix (enumD (oD os))) S := by
    unfold iEnum
    simp only [p_eV, List.getElem?_cons_succ, List.getElem?_cons_zero, bind_ok]
    rcases h1 with rfl | rfl <;> rfl
  obtain ⟨r3, S3, e3, ⟨rfl, y5, y6, y7, y8, y9, y10, y11, y12, rfl⟩⟩ := forGo_inv (g := gU [gN 5, gN 6]) (b := l2_renamed) (ds := enumD (oD os))
    (fun i r S' => S' = S ∧ ∃ x5 x6 x7 x8 x9 x10 x11 x12, r = [.val (.trn (tellT n s)), .val d1, .val d2, .val (plD os), .own (.lst (tellT i (rnS s os ts))), x5, x6, x7, x8, x9, x10, x11, x12])
    (fun i d r S' hd hI => by
      obtain ⟨rfl, x5, x6, x7, x8, x9, x10, x11, x12, rfl⟩ := hI
      obtain ⟨x, hx, rfl⟩ := enumD_at hd
      have hi : i < n := by
        have := (List.getElem?_eq_some_iff.mp hx).1
        unfold oD at this
        rw [List.length_map, h.olen] at this
        exact this
      rw [oD_at (by rw [h.olen]; exact hi)] at hx
      cases hx
      obtain ⟨y7, y8, y9, y10, y11, y12, e⟩ := block1_ok (d1 := d1) (x7 := x7) (x8 := x8) (x9 := x9) (x10 := x10) (x11 := x11) (x12 := x12) h v h2 hn hi
      exact ⟨_, _, _, rfl, .inl e, rfl, _, _, _, _, _, _, _, _, rfl⟩)
    (r := [.val (.trn (tellT n s)), .val d1, .val d2, .val (plD os), .own (.lst []), .no, .no, .no, .no, .no, .no, .no, .no]) (S := S) ⟨rfl, _, _, _, _, _, _, _, _, rfl⟩
  have ln : (enumD (oD os)).length = n := by rw [enumD_len]; unfold oD; rw [List.length_map, h.olen]
  rw [ln] at e3
  refine runA_ok rfl ?_
  show b_renamed [.val d, .val d1, .val d2, .no, .no, .no, .no, .no, .no, .no, .no, .no, .no] S3 = _
  unfold b_renamed
  refine seq_ok (r1 := [.val (.trn (tellT n s)), .val d1, .val d2, .no, .no, .no, .no, .no, .no, .no, .no, .no, .no]) (S1 := S3) (mnx_ok (set_val (i := 0) (d := .trn (tellT n s)) ?_)) (seq_ok (r1 := [.val (.trn (tellT n s)), .val d1, .val d2, .no, .no, .no, .no, .no, .no, .no, .no, .no, .no]) (S1 := S3) ?_ (seq_ok (mnx_ok (set_val (i := 3) (d := plD os) pk)) (seq_ok (r1 := [.val (.trn (tellT n s)), .val d1, .val d2, .val (plD os), .own (.lst []), .no, .no, .no, .no, .no, .no, .no, .no]) (S1 := S3) (mnx_ok rfl) (seq_ok (mnx_ok (mFor_fix ie e3)) (mnx_ok (ret_ok ((e1_ok (d := .lst (tellT n (rnS s os ts))) rfl).trans rfl)))))))
  · simp only [p_eA, p_aC, p_eV, p_aN, List.getElem?_cons_succ, List.getElem?_cons_zero, bind_ok, sp]
  · have la : lNx (aC (eV 0) (aC (eV 1) (aC (eV 2) aN))) [.val (.trn (tellT n s)), .val d1, .val d2, .no, .no, .no, .no, .no, .no, .no, .no, .no, .no] S3 = .ok [.trn (tellT n s), d1, d2] S3 := rfl
    rw [p_drop, p_eA, la, bind_ok, ne, bind_ok]
theorem renamed_no {S : Store} {d d1 d2 : BR.D} (rd : SpRd S d n s) (v : Valid n s) (h1 : OrdD d1) (h2 : TurD d2) (hn : 0 < n ∧ n ≤ 12) (hr : ¬ (isOrdD n d1 ∧ isTurD n d2)) : m_renamed [d, d1, d2] S = .exc ⟨"NoName", none⟩ S := by
  have sp := space_ok rd v ⟨hn.1, by omega⟩
  have ne := need_wrong (S := S) (s := s) h1 h2 (by omega) hr
  refine runA_exc rfl ?_
  show b_renamed [.val d, .val d1, .val d2, .no, .no, .no, .no, .no, .no, .no, .no, .no, .no] S = _
  unfold b_renamed
  refine seq_ok (r1 := [.val (.trn (tellT n s)), .val d1, .val d2, .no, .no, .no, .no, .no, .no, .no, .no, .no, .no]) (S1 := S) (mnx_ok (set_val (i := 0) (d := .trn (tellT n s)) ?_)) (seq_exc ?_)
  · simp only [p_eA, p_aC, p_eV, p_aN, List.getElem?_cons_succ, List.getElem?_cons_zero, bind_ok, sp]
  · have la : lNx (aC (eV 0) (aC (eV 1) (aC (eV 2) aN))) [.val (.trn (tellT n s)), .val d1, .val d2, .no, .no, .no, .no, .no, .no, .no, .no, .no, .no] S = .ok [.trn (tellT n s), d1, d2] S := rfl
    rw [p_drop, p_eA, la, bind_ok, ne]
    rfl
end
end LW

end

section
/-! The law's look at names. -/
namespace LW
open PySem BR
theorem lenSet_ok {S : Store} {d : BR.D} {os : List Nat} (h : Vn d (oD os)) (hl : os.length ≤ 60) : dLenSet d S = .ok (.int (uniqI (os.map fun i : Nat => (i : Int))).length) S := by
  unfold dLenSet
  rw [(h.vw (S := S)).seq, Option.bind_some, ints_map]
  simp only [List.length_map, if_pos hl]
section
variable {S : Store} {n : Nat} {d1 d2 : BR.D}
theorem eIf_no {t : TM} {a b : EM} {r : BR.Env} {S S1 : Store} {x : Res BR.D} (h : t r S = .ok false S1) (h2 : b r S1 = x) : eIf t a b r S = x := by rw [p_eIf, h, bind_ok, if_neg (by decide), h2]
theorem eIf_yes {t : TM} {a b : EM} {r : BR.Env} {S S1 : Store} {x : Res BR.D} (h : t r S = .ok true S1) (h2 : a r S1 = x) : eIf t a b r S = x := by rw [p_eIf, h, bind_ok, if_pos rfl, h2]
/-- the last part: the turns -/
theorem right3 (h : TurD d2) : dIsi ["list", "tuple"] d2 S = .ok (.bl true) S → ∃ b, eIf (tE (BR.e2 dEq (BR.e1 dLen (eB 2)) (eB 0))) (BR.e1 dAll (eFrz (lLc (iSeq (eB 2)) (gN 3) tYes (eA m__law_is_turn (aC (eV 3) aN)) [3]))) (eC (.bl false)) [.val (.int n), .val d1, .val d2, .no, .no] S = .ok (.bl b) S ∧ (b = true ↔ isTurD n d2) := fun hi => by
  rcases h with h | ⟨xs, hv, hl, ho⟩
  · rw [(nonRow_row (S := S) h).2] at hi
    cases hi
  · have hw := hv.vw (S := S)
    have l2 : dEq (.int xs.length) (.int n) S = .ok (.bl (decide ((xs.length : Int) = n))) S := by simp
    have lt := te_ok ((e2_ok (f := dEq) (r := [.val (.int n), .val d1, .val d2, .no, .no]) (b := eB 0) ((e1_ok (f := dLen) (a := eB 2) rfl).trans hw.len) rfl).trans l2)
    have c1 := hw.lc (a := eB 2) (g := gN 3) (t := tYes) (e := eA m__law_is_turn (aC (eV 3) aN)) (vs := [3]) (r := [.val (.int n), .val d1, .val d2, .no, .no]) rfl (by omega) (fun x => BR.D.bl (isT x)) (fun x hx => by
      exact ⟨_, rfl, rfl, by
        have w := (el_ok (S := S) (ho x hx)).2
        simp only [p_eA, p_aC, p_eV, p_aN, List.set_cons_succ, List.set_cons_zero, wipeE, List.getElem?_cons_succ, List.getElem?_cons_zero, bind_ok, w]⟩)
    have al := (e1_ok (f := dAll) (frz_ok c1)).trans (all_map isT xs)
    by_cases hc : xs.length = n
    · rw [decide_eq_true (show ((xs.length : Int) = n) by omega)] at lt
      refine ⟨xs.all isT, eIf_yes lt al, ⟨fun z => ?_, fun z => ?_⟩⟩
      · obtain ⟨ts, rfl, ht⟩ := turns_of z
        exact ⟨ts, hv, by simpa [tD] using hc, ht⟩
      · obtain ⟨ts, h1, h2, h3⟩ := z
        rw [hv.uni h1, tD_all h3]
    · rw [decide_eq_false (show ¬ ((xs.length : Int) = n) by omega)] at lt
      refine ⟨false, eIf_no lt rfl, ⟨fun z => (by cases z), fun z => ?_⟩⟩
      obtain ⟨ts, h1, h2, h3⟩ := z
      rw [hv.uni h1] at hc
      exact (hc (by simpa [tD] using h2)).elim
theorem right_ok (h1 : OrdD d1) (h2 : TurD d2) : ∃ b, m__law_is_right [.int n, d1, d2] S = .ok (.bl b) S ∧ (b = true ↔ isOrdD n d1 ∧ isTurD n d2) := by
  have stop : ∀ {m : SM}, m [.val (.int n), .val d1, .val d2, .no, .no] S = .ok (.rt (.bl false)) S → ∀ m2, mSeq m m2 [.val (.int n), .val d1, .val d2, .no, .no] S = .ok (.rt (.bl false)) S := fun h m2 => by rw [p_seq, h, sq_rt]
  rcases h1 with h | ⟨xs, hv, hl, ho⟩
  · refine ⟨false, runA_ok rfl (stop (ifT (S1 := S) (or_yes (tnot_ok (te_ok (b := false) ((e1_ok rfl).trans (nonRow_row (S := S) h).2)))) rfl) _), ⟨fun z => (by cases z), fun z => let ⟨⟨_, y, _⟩, _⟩ := z; (nonRow_no h y).elim⟩⟩
  · have hw := hv.vw (S := S)
    have row : tNot (tE (BR.e1 (dIsi ["list", "tuple"]) (eB 1))) [.val (.int n), .val d1, .val d2, .no, .no] S = .ok false S := tnot_ok (te_ok (b := true) ((e1_ok rfl).trans hw.isi))
    have c1 := hw.lc (a := eB 1) (g := gN 4) (t := tYes) (e := eA m__law_is_number (aC (eV 4) (aC (eV 0) aN))) (vs := [4]) (r := [.val (.int n), .val d1, .val d2, .no, .no]) rfl (by omega) (fun x => BR.D.bl (isN x n)) (fun x hx => by
      exact ⟨_, rfl, rfl, by
        have w := number_od (S := S) (m := n) (ho x hx)
        simp only [p_eA, p_aC, p_eV, p_aN, List.set_cons_succ, List.set_cons_zero, wipeE, List.getElem?_cons_succ, List.getElem?_cons_zero, bind_ok, w]⟩)
    have al := (e1_ok (f := dAll) (frz_ok c1)).trans (all_map (fun x => isN x n) xs)
    cases q : xs.all fun x => isN x n with
    | false =>
      rw [q] at al
      refine ⟨false, runA_ok rfl (stop (ifT (S1 := S) ((or_no row rfl).trans (tnot_ok (te_ok al))) rfl) _), ⟨fun z => (by cases z), fun z => ?_⟩⟩
      obtain ⟨⟨os, h3, h4⟩, _⟩ := z
      have : (xs.all fun x => isN x n) = true := by
        rw [hv.uni h3, List.all_eq_true]
        intro x hx
        obtain ⟨i, hi, rfl⟩ := List.mem_map.mp hx
        have := List.mem_range.mp (h4.mem_iff.mp hi)
        simp [isN]
        omega
      rw [q] at this
      cases this
    | true =>
      rw [q] at al
      obtain ⟨os, rfl, hlt⟩ := nums_of q
      have st1 : mIf (tOr (tNot (tE (BR.e1 (dIsi ["list", "tuple"]) (eB 1)))) (tNot (tE (BR.e1 dAll (eFrz (lLc (iSeq (eB 1)) (gN 4) tYes (eA m__law_is_number (aC (eV 4) (aC (eV 0) aN))) [4])))))) (mRet (eC (.bl false))) mNil [.val (.int n), .val d1, .val d2, .no, .no] S = .ok (.nx [.val (.int n), .val d1, .val d2, .no, .no]) S := ifF (S1 := S) ((or_no row rfl).trans (tnot_ok (te_ok al))) rfl
      have ol : (oD os).length = os.length := by unfold oD; rw [List.length_map]
      have l2 : dNe (.int (oD os).length) (.int n) S = .ok (.bl (decide (((oD os).length : Int) ≠ n))) S := by simp
      have t1 := te_ok ((e2_ok (f := dNe) (r := [.val (.int n), .val d1, .val d2, .no, .no]) (b := eB 0) ((e1_ok (f := dLen) (a := eB 1) rfl).trans hw.len) rfl).trans l2)
      have ls := lenSet_ok (S := S) hv (by omega)
      have l3 : dNe (.int (uniqI (os.map fun i : Nat => (i : Int))).length) (.int n) S = .ok (.bl (decide (((uniqI (os.map fun i : Nat => (i : Int))).length : Int) ≠ n))) S := by simp
      have t2 := te_ok ((e2_ok (f := dNe) (r := [.val (.int n), .val d1, .val d2, .no, .no]) (b := eB 0) ((e1_ok (f := dLenSet) (a := eB 1) rfl).trans ls) rfl).trans l3)
      by_cases hp : os.length = n ∧ os.Nodup
      · have pr := perm_range n os hp.2 hlt hp.1
        rw [decide_eq_false (show ¬ (((oD os).length : Int) ≠ n) by rw [ol]; omega)] at t1
        have ul : (uniqI (os.map fun i : Nat => (i : Int))).length = n := by rw [nodup_uniq (nodup_cast hp.2), List.length_map]; exact hp.1
        rw [decide_eq_false (show ¬ (((uniqI (os.map fun i : Nat => (i : Int))).length : Int) ≠ n) by rw [ul]; omega)] at t2
        rcases h2 with h2 | h2
        · refine ⟨false, runA_ok rfl (seq_ok st1 (stop (ifT (S1 := S) (((or_no t1 rfl).trans ((or_no t2 rfl).trans (tnot_ok (te_ok (b := false) ((e1_ok rfl).trans (nonRow_row (S := S) h2).2)))))) rfl) _)), ⟨fun z => (by cases z), fun z => let ⟨_, _, y, _⟩ := z; (nonRow_no h2 y).elim⟩⟩
        · have i2 : dIsi ["list", "tuple"] d2 S = .ok (.bl true) S := by
            obtain ⟨ys, hy, _⟩ := h2
            exact hy.vw.isi
          obtain ⟨b, e3, e4⟩ := right3 (n := n) (d1 := d1) (S := S) (.inr h2) i2
          refine ⟨b, runA_ok rfl (seq_ok st1 (seq_ok (r1 := [.val (.int n), .val d1, .val d2, .no, .no]) (S1 := S) (ifF (S1 := S) (((or_no t1 rfl).trans ((or_no t2 rfl).trans (tnot_ok (te_ok (b := true) ((e1_ok rfl).trans i2)))))) rfl) (ret_ok e3))), ⟨fun z => ⟨⟨os, hv, pr⟩, e4.mp z⟩, fun z => e4.mpr z.2⟩⟩
      · have no : ¬ isOrdD n d1 := fun z => by
          obtain ⟨os2, h3, h4⟩ := z
          have e := hv.uni h3
          have e' : (os.map fun i : Nat => (i : Int)) = os2.map fun i : Nat => (i : Int) := by
            have := congrArg intsD e
            rw [ints_map, ints_map] at this
            exact Option.some.inj this
          have l := congrArg List.length e'
          simp only [List.length_map] at l
          have := h4.length_eq
          simp at this
          exact hp ⟨by omega, cast_nodup (by rw [e']; exact nodup_cast (h4.symm.nodup List.nodup_range))⟩
        refine ⟨false, runA_ok rfl (seq_ok st1 (stop (ifT (S1 := S) ?_ rfl) _)), ⟨fun z => (by cases z), fun z => (no z.1).elim⟩⟩
        by_cases hn : os.length = n
        · rw [decide_eq_false (show ¬ (((oD os).length : Int) ≠ n) by rw [ol]; omega)] at t1
          have ul : (uniqI (os.map fun i : Nat => (i : Int))).length ≠ n := fun z => hp ⟨hn, cast_nodup (uniq_nodup (by rw [z, List.length_map, hn]))⟩
          rw [decide_eq_true (show (((uniqI (os.map fun i : Nat => (i : Int))).length : Int) ≠ n) by omega)] at t2
          exact (or_no t1 rfl).trans (or_yes t2)
        · rw [decide_eq_true (show (((oD os).length : Int) ≠ n) by rw [ol]; omega)] at t1
          exact or_yes t1
end
end LW

end

section
/-! A row bent; what is asked; alike. -/
namespace LW
open PySem BR
theorem aC_ok {m : EM} {l : LM} {r : BR.Env} {S S1 S2 : Store} {x : BR.D} {xs : List BR.D} (h1 : m r S = .ok x S1) (h2 : l r S1 = .ok xs S2) : aC m l r S = .ok (x :: xs) S2 := by rw [p_aC, h1, bind_ok, h2, bind_ok]
theorem eA_ok {f : List BR.D → Store → Res BR.D} {l : LM} {r : BR.Env} {S S1 : Store} {xs : List BR.D} (h : l r S = .ok xs S1) : eA f l r S = f xs S1 := by rw [p_eA, h, bind_ok]
theorem lst_ok {l : LM} {r : BR.Env} {S S1 : Store} {xs : List BR.D} (h : l r S = .ok xs S1) (hl : xs.length ≤ lim) : lLst l r S = .ok xs S1 := by rw [p_lLst, h, bind_ok, if_pos hl]
theorem trn_ok {l : LM} {r : BR.Env} {S S1 : Store} {xs : List BR.D} (h1 : l r S = .ok xs S1) (h2 : xs.length ≤ lim) : eTrn l r S = .ok (.trn xs) S1 := by rw [p_eTrn, h1, bind_ok, if_pos h2]
theorem pick {S : Store} {xs : List BR.D} {q : Int} (h : 0 ≤ q ∧ q < xs.length) : ∃ d, d ∈ xs ∧ dIdx (.lst xs) (.int q) S = .ok d S := by
  have hv : Vw S (.lst xs) xs := .inl (.inr (.inl rfl))
  have hq : q.toNat < xs.length := by omega
  refine ⟨xs[q.toNat], List.getElem_mem hq, ?_⟩
  have := hv.at (i := q.toNat) (List.getElem?_eq_getElem hq)
  rw [show ((q.toNat : Nat) : Int) = q by omega] at this
  exact this
/-- what comes of a row -/
def Bent (xs : List BR.D) (odd d : BR.D) : Prop := d ∈ nonRow ∨ ∃ ys, Vn d ys ∧ ys.length ≤ xs.length + 1 ∧ ∀ y ∈ ys, y ∈ xs ∨ y = odd
theorem bent_ok {S : Store} {c : Int} {xs : List BR.D} {odd : BR.D} (h : Rl S 0 c) (hc : c < 10000000) (hl : 0 < xs.length ∧ xs.length ≤ 12) :
    ∃ d S', m__law_bent [.ref 0, .lst xs, odd] S = .ok d S' ∧ Bent xs odd d ∧ Rl S' 0 (c + 4) ∧ But 0 S S' := by
  obtain ⟨a, S1, e1, b1, r1, u1⟩ := draw (many := (xs.length : Int) + 1) h (by omega) (by omega) (by omega)
  obtain ⟨a, rfl⟩ : ∃ a' : Nat, a = a' := ⟨a.toNat, by omega⟩
  obtain ⟨k, S2, e2, b2, r2, u2⟩ := draw (many := 5) r1 (by omega) (by decide) (by decide)
  have ln : dLen (.lst xs) S = .ok (.int xs.length) S := by simp [dLen]
  have ll : lList (.lst xs) S = .ok xs S := by simp [lList]
  have st3 : mOwn 3 (BR.l1 lList (eB 1)) [.val (.ref 0), .val (.lst xs), .val odd, .no, .no, .no] S = .ok (.nx [.val (.ref 0), .val (.lst xs), .val odd, .own (.lst xs), .no, .no]) S := by
    rw [p_own, show BR.l1 lList (eB 1) [.val (.ref 0), .val (.lst xs), .val odd, .no, .no, .no] S = .ok xs S from (l1_ok rfl).trans ll]
    rfl
  have ad : dAdd (.int xs.length) (.int 1) S = .ok (.int ((xs.length : Int) + 1)) S := by simp [dAdd]
  have st4 : mSet (gN 4) (eA m__law_draw (aC (eV 0) (aC (BR.e2 dAdd (BR.e1 dLen (eB 3)) (eC (.int 1))) aN))) [.val (.ref 0), .val (.lst xs), .val odd, .own (.lst xs), .no, .no] S = .ok (.nx [.val (.ref 0), .val (.lst xs), .val odd, .own (.lst xs), .val (.int a), .no]) S1 :=
    set_val (i := 4) ((eA_ok (aC_ok (x := .ref 0) (S1 := S) rfl (aC_ok (xs := []) (S2 := S) ((e2_ok ((e1_ok rfl).trans ln) rfl).trans ad) rfl))).trans e1)
  have st5 : mSet (gN 5) (eA m__law_draw (aC (eV 0) (aC (eC (.int 5)) aN))) [.val (.ref 0), .val (.lst xs), .val odd, .own (.lst xs), .val (.int a), .no] S1 = .ok (.nx [.val (.ref 0), .val (.lst xs), .val odd, .own (.lst xs), .val (.int a), .val (.int k)]) S2 :=
    set_val (i := 5) ((eA_ok (aC_ok (x := .ref 0) (S1 := S1) rfl (aC_ok (x := .int 5) (S1 := S1) (xs := []) (S2 := S1) rfl rfl))).trans e2)
  -- the end
  have fin : ∀ ys : List BR.D, ys.length ≤ xs.length + 1 → (∀ y ∈ ys, y ∈ xs ∨ y = odd) → ∃ d S', mFrz 3 (mRet (BR.e2 dIdx (eFrz (lLst (aC (eV 3) (aC (BR.e1 dTrn (eB 3)) aN)))) (eA m__law_draw (aC (eV 0) (aC (eC (.int 2)) aN))))) [.val (.ref 0), .val (.lst xs), .val odd, .own (.lst ys), .val (.int a), .val (.int k)] S2 = .ok (.rt d) S' ∧ Bent xs odd d ∧ Rl S' 0 (c + 4) ∧ But 0 S S' := fun ys h1 h2 => by
    obtain ⟨q, S3, e3, b3, r3, u3⟩ := draw (many := 2) r2 (by omega) (by decide) (by decide)
    have tr : dTrn (.lst ys) S2 = .ok (.trn ys) S2 := by simp [dTrn]
    obtain ⟨d, hd, hv⟩ : ∃ d, dIdx (.lst [.lst ys, .trn ys]) (.int q) S3 = .ok d S3 ∧ Vn d ys := by
      have : q = 0 ∨ q = 1 := by omega
      rcases this with rfl | rfl
      · exact ⟨_, rfl, .inr rfl⟩
      · exact ⟨_, rfl, .inl rfl⟩
    refine ⟨d, S3, ?_, .inr ⟨ys, hv, h1, h2⟩, r3.le (by omega), (u1.trans u2).trans u3⟩
    show mRet _ [.val (.ref 0), .val (.lst xs), .val odd, .val (.lst ys), .val (.int a), .val (.int k)] S2 = _
    exact ret_ok ((e2_ok (frz_ok (lst_ok (aC_ok (x := .lst ys) (S1 := S2) rfl (aC_ok (xs := []) (S2 := S2) ((e1_ok rfl).trans tr) rfl)) (by simp [lim]))) ((eA_ok (aC_ok (x := .ref 0) (S1 := S2) rfl (aC_ok (x := .int 2) (S1 := S2) (xs := []) (S2 := S2) rfl rfl))).trans e3)).trans hd)
  have kd : ∀ m : Int, tE (BR.e2 dEq (eB 5) (eC (.int m))) [.val (.ref 0), .val (.lst xs), .val odd, .own (.lst xs), .val (.int a), .val (.int k)] S2 = .ok (decide (k = m)) S2 := fun m => by simp
  have mi : BR.e2 dMin2 (eB 4) (BR.e2 dSub (BR.e1 dLen (eB 3)) (eC (.int 1))) [.val (.ref 0), .val (.lst xs), .val odd, .own (.lst xs), .val (.int a), .val (.int k)] S2 = .ok (.int ((min a (xs.length - 1) : Nat) : Int)) S2 := by
    have ln2 : dLen (.lst xs) S2 = .ok (.int xs.length) S2 := by simp [dLen]
    have sb : dSub (.int xs.length) (.int 1) S2 = .ok (.int ((xs.length : Int) - 1)) S2 := by simp [dSub]
    have mn : dMin2 (.int a) (.int ((xs.length : Int) - 1)) S2 = .ok (.int ((min a (xs.length - 1) : Nat) : Int)) S2 := by
      simp only [dMin2]
      congr 2
      split <;> omega
    exact (e2_ok rfl ((e2_ok ((e1_ok rfl).trans ln2) rfl).trans sb)).trans mn
  have mlt : min a (xs.length - 1) < xs.length := by omega
  have ixm : L2.ixN xs.length ((min a (xs.length - 1) : Nat) : Int) = some (min a (xs.length - 1)) := ixN_nat mlt
  obtain ⟨d, S', e, g1, g2, g3⟩ : ∃ d S', mSeq (mIf (tE (BR.e2 dEq (eB 5) (eC (.int 0)))) (mIns 3 (aC (eV 4) (aC (eV 2) aN))) (mIf (tE (BR.e2 dEq (eB 5) (eC (.int 1)))) (mPopI 3 (aC (BR.e2 dMin2 (eB 4) (BR.e2 dSub (BR.e1 dLen (eB 3)) (eC (.int 1)))) aN)) (mIf (tE (BR.e2 dEq (eB 5) (eC (.int 2)))) (mRet (BR.e2 dIdx (eFrz (lLst (aC (eC (.non)) (aC (eC (.int 7)) (aC (eC (.str "01")) (aC (eC (.dK [] [])) (aC (eC (.bl true)) aN))))))) (eA m__law_draw (aC (eV 0) (aC (eC (.int 5)) aN))))) (mSetV 3 (BR.e2 dMin2 (eB 4) (BR.e2 dSub (BR.e1 dLen (eB 3)) (eC (.int 1)))) (eV 2)))))
      (mFrz 3 (mRet (BR.e2 dIdx (eFrz (lLst (aC (eV 3) (aC (BR.e1 dTrn (eB 3)) aN)))) (eA m__law_draw (aC (eV 0) (aC (eC (.int 2)) aN)))))) [.val (.ref 0), .val (.lst xs), .val odd, .own (.lst xs), .val (.int a), .val (.int k)] S2 = .ok (.rt d) S' ∧ Bent xs odd d ∧ Rl S' 0 (c + 4) ∧ But 0 S S' := by
    by_cases k0 : k = 0
    · obtain ⟨d, S', e, g⟩ := fin (xs.take a ++ [odd] ++ xs.drop a) (by simp; omega) (fun y hy => by
        simp only [List.append_assoc, List.mem_append, List.mem_singleton] at hy
        rcases hy with hy | rfl | hy
        · exact .inl (List.mem_of_mem_take hy)
        · exact .inr rfl
        · exact .inl (List.mem_of_mem_drop hy))
      refine ⟨d, S', seq_ok (r1 := [.val (.ref 0), .val (.lst xs), .val odd, .own (.lst (xs.take a ++ [odd] ++ xs.drop a)), .val (.int a), .val (.int k)]) (S1 := S2) (ifT (S1 := S2) (by rw [kd, decide_eq_true k0]) ?_) e, g⟩
      have cc : xs.length < lim ∧ (0 : Int) ≤ a ∧ (a : Int) < 9223372036854775808 := by unfold lim; omega
      unfold mIns
      show (match (aC (eV 4) (aC (eV 2) aN)) [.val (.ref 0), .val (.lst xs), .val odd, .own (.lst xs), .val (.int a), .val (.int k)] S2 with | r => _) = _
      show (Res.bind (.ok [.int a, odd] S2) _) = _
      rw [bind_ok]
      show (if xs.length < lim ∧ (0 : Int) ≤ a ∧ (a : Int) < 9223372036854775808 then _ else _) = _
      rw [if_pos cc]
      rfl
    · by_cases k1 : k = 1
      · obtain ⟨d, S', e, g⟩ := fin (xs.eraseIdx (min a (xs.length - 1))) (by rw [List.length_eraseIdx]; split <;> omega) (fun y hy => .inl (List.mem_of_mem_eraseIdx hy))
        refine ⟨d, S', seq_ok (r1 := [.val (.ref 0), .val (.lst xs), .val odd, .own (.lst (xs.eraseIdx (min a (xs.length - 1)))), .val (.int a), .val (.int k)]) (S1 := S2) (ifF (S1 := S2) (by rw [kd, decide_eq_false k0]) (ifT (S1 := S2) (by rw [kd, decide_eq_true k1]) ?_)) e, g⟩
        have cc : (-9223372036854775808 : Int) ≤ ((min a (xs.length - 1) : Nat) : Int) ∧ ((min a (xs.length - 1) : Nat) : Int) < 9223372036854775808 := by omega
        have la : aC (BR.e2 dMin2 (eB 4) (BR.e2 dSub (BR.e1 dLen (eB 3)) (eC (.int 1)))) aN [.val (.ref 0), .val (.lst xs), .val odd, .own (.lst xs), .val (.int a), .val (.int k)] S2 = .ok [.int ((min a (xs.length - 1) : Nat) : Int)] S2 := aC_ok mi rfl
        unfold mPopI
        show (Res.bind (aC _ aN _ S2) _) = _
        rw [la, bind_ok]
        show (if (-9223372036854775808 : Int) ≤ ((min a (xs.length - 1) : Nat) : Int) ∧ ((min a (xs.length - 1) : Nat) : Int) < 9223372036854775808 then _ else _) = _
        rw [if_pos cc, ixm]
        show (if min a (xs.length - 1) < xs.length then _ else _) = _
        rw [if_pos mlt]
        rfl
      · by_cases k2 : k = 2
        · obtain ⟨q, S3, e3, b3, r3, u3⟩ := draw (many := 5) r2 (by omega) (by decide) (by decide)
          obtain ⟨d, hd, ed⟩ := pick (S := S3) (xs := nonRow) (q := q) (by simpa [nonRow] using b3)
          refine ⟨d, S3, ?_, .inl hd, r3.le (by omega), (u1.trans u2).trans u3⟩
          rw [p_seq]
          have st : mIf (tE (BR.e2 dEq (eB 5) (eC (.int 0)))) (mIns 3 (aC (eV 4) (aC (eV 2) aN))) (mIf (tE (BR.e2 dEq (eB 5) (eC (.int 1)))) (mPopI 3 (aC (BR.e2 dMin2 (eB 4) (BR.e2 dSub (BR.e1 dLen (eB 3)) (eC (.int 1)))) aN)) (mIf (tE (BR.e2 dEq (eB 5) (eC (.int 2)))) (mRet (BR.e2 dIdx (eFrz (lLst (aC (eC (.non)) (aC (eC (.int 7)) (aC (eC (.str "01")) (aC (eC (.dK [] [])) (aC (eC (.bl true)) aN))))))) (eA m__law_draw (aC (eV 0) (aC (eC (.int 5)) aN))))) (mSetV 3 (BR.e2 dMin2 (eB 4) (BR.e2 dSub (BR.e1 dLen (eB 3)) (eC (.int 1)))) (eV 2)))) [.val (.ref 0), .val (.lst xs), .val odd, .own (.lst xs), .val (.int a), .val (.int k)] S2 = .ok (.rt d) S3 := by
            refine ifF (S1 := S2) (by rw [kd, decide_eq_false k0]) (ifF (S1 := S2) (by rw [kd, decide_eq_false k1]) (ifT (S1 := S2) (by rw [kd, decide_eq_true k2]) (ret_ok ((e2_ok (x := .lst nonRow) (S1 := S2) ?_ ((eA_ok (aC_ok (x := .ref 0) (S1 := S2) rfl (aC_ok (x := .int 5) (S1 := S2) (xs := []) (S2 := S2) rfl rfl))).trans e3)).trans ed))))
            exact frz_ok (lst_ok rfl (by simp [lim, nonRow]))
          rw [st, sq_rt]
        · obtain ⟨d, S', e, g⟩ := fin (xs.set (min a (xs.length - 1)) odd) (by rw [List.length_set]; omega) (fun y hy => List.mem_or_eq_of_mem_set hy)
          refine ⟨d, S', seq_ok (r1 := [.val (.ref 0), .val (.lst xs), .val odd, .own (.lst (xs.set (min a (xs.length - 1)) odd)), .val (.int a), .val (.int k)]) (S1 := S2) (ifF (S1 := S2) (by rw [kd, decide_eq_false k0]) (ifF (S1 := S2) (by rw [kd, decide_eq_false k1]) (ifF (S1 := S2) (by rw [kd, decide_eq_false k2]) ?_))) e, g⟩
          unfold mSetV
          show (Res.bind (.ok odd S2) _) = _
          rw [bind_ok]
          show (Res.bind (BR.e2 _ _ _ _ S2) _) = _
          rw [mi, bind_ok]
          show (match L2.ixN xs.length ((min a (xs.length - 1) : Nat) : Int) with | some p => _ | none => _) = _
          rw [ixm]
          rfl
  exact ⟨d, S', runA_ok rfl (seq_ok st3 (seq_ok st4 (seq_ok st5 e))), g1, g2, g3⟩
end LW

end

section
/-! What is asked, what is due; alike. -/
namespace LW
open PySem BR
theorem mx_refl {k : Nat} {d : BR.D} (h : Pl k d) : Mx d d := by
  induction h with
  | non _ => exact .non
  | int _ i => exact .int i
  | trn _ ds _ _ ih => exact .trn ds ds _ rfl (fun i d e' h1 h2 => by
      rw [h1] at h2
      cases h2
      exact ih d (List.mem_of_getElem? h1)) (.inl rfl)
theorem set_g {g : GM} {e : EM} {r r' : BR.Env} {S S1 : Store} {d : BR.D} (h : e r S = .ok d S1) (h2 : g d r = some r') : mSet g e r S = .ok (.nx r') S1 := by rw [p_set, h, bind_ok, h2]
theorem kind_name {S : Store} : m__law_kind_of [.xc "NoName"] S = .ok (.str "NoName") S := by rfl
section
variable {S : Store} {a b c : BR.D}
theorem asked_yes {t : BR.D} (h : m_renamed [a, b, c] S = .ok t S) : m__law_asked [a, b, c] S = .ok (.trn [.str "none", t]) S := by
  have hb : mSet (gN 4) (eA m_renamed (lNx (aC (eV 0) (aC (eV 1) (aC (eV 2) aN))))) [.val a, .val b, .val c, .val .non, .val .non, .no] S = .ok (.nx [.val a, .val b, .val c, .val .non, .val t, .no]) S :=
    set_val (i := 4) ((eA_ok (xs := [a, b, c]) (S1 := S) rfl).trans h)
  have tr : mTryK tb_RoomError 5 3 (mSet (gN 4) (eA m_renamed (lNx (aC (eV 0) (aC (eV 1) (aC (eV 2) aN)))))) [.val a, .val b, .val c, .val .non, .val .non, .no] S = .ok (.nx [.val a, .val b, .val c, .val .non, .val t, .no]) S := by
    unfold mTryK
    have hn : noOwn [.val a, .val b, .val c, .val .non, .val .non, .no] = true ∧ (5 : Nat) ≠ 3 ∧ 5 < ([.val a, .val b, .val c, .val .non, .val .non, .no] : BR.Env).length := ⟨rfl, by decide, by simp⟩
    rw [if_pos hn, hb]
  refine runA_ok rfl (seq_ok (r1 := [.val a, .val b, .val c, .val .non, .no, .no]) (S1 := S) rfl (seq_ok (r1 := [.val a, .val b, .val c, .val .non, .val .non, .no]) (S1 := S) rfl (seq_ok tr (ret_ok (trn_ok (aC_ok (eIf_yes (S1 := S) rfl rfl) (aC_ok (x := t) (S1 := S) (xs := []) (S2 := S) rfl rfl)) (by simp [lim]))))))
theorem asked_no (h : m_renamed [a, b, c] S = .exc ⟨"NoName", none⟩ S) : m__law_asked [a, b, c] S = .ok (.trn [.str "NoName", .non]) S := by
  have hb : mSet (gN 4) (eA m_renamed (lNx (aC (eV 0) (aC (eV 1) (aC (eV 2) aN))))) [.val a, .val b, .val c, .val .non, .val .non, .no] S = .exc ⟨"NoName", none⟩ S := by
    rw [p_set, (eA_ok (f := m_renamed) (xs := [a, b, c]) (S1 := S) rfl).trans h]
    rfl
  have tr : mTryK tb_RoomError 5 3 (mSet (gN 4) (eA m_renamed (lNx (aC (eV 0) (aC (eV 1) (aC (eV 2) aN)))))) [.val a, .val b, .val c, .val .non, .val .non, .no] S = .ok (.nx [.val a, .val b, .val c, .val (.xc "NoName"), .val .non, .no]) S := by
    unfold mTryK
    have hn : noOwn [.val a, .val b, .val c, .val .non, .val .non, .no] = true ∧ (5 : Nat) ≠ 3 ∧ 5 < ([.val a, .val b, .val c, .val .non, .val .non, .no] : BR.Env).length := ⟨rfl, by decide, by simp⟩
    rw [if_pos hn, hb]
    rfl
  refine runA_ok rfl (seq_ok (r1 := [.val a, .val b, .val c, .val .non, .no, .no]) (S1 := S) rfl (seq_ok (r1 := [.val a, .val b, .val c, .val .non, .val .non, .no]) (S1 := S) rfl (seq_ok tr (ret_ok (trn_ok (aC_ok (eIf_no (S1 := S) rfl ((eA_ok (aC_ok (x := .xc "NoName") (S1 := S) (xs := []) (S2 := S) rfl rfl)).trans kind_name)) (aC_ok (x := .non) (S1 := S) (xs := []) (S2 := S) rfl rfl)) (by simp [lim]))))))
end
theorem alike_two {S : Store} {k : Nat} {x y : BR.D} (hx : m__law_alike (k + 1) [x, x] S = .ok (.bl true) S) (hy : m__law_alike (k + 1) [y, y] S = .ok (.bl true) S) : m__law_alike (k + 2) [.trn [x, y], .trn [x, y]] S = .ok (.bl true) S := by
  have lc := lcGo_map (g := gU [gN 2, gN 3]) (t := tYes) (e := eA (m__law_alike (k + 1)) (aC (eV 2) (aC (eV 3) aN))) (r := [.val (.trn [x, y]), .val (.trn [x, y]), .no, .no]) (S := S) (ds := pairsD [x, y] [x, y]) (acc := []) (fun _ => true) (fun _ => BR.D.bl true) (fun z hz => by
    obtain ⟨i, hi⟩ := List.getElem?_of_mem hz
    obtain ⟨a, b, ha, hb, rfl⟩ := pairsD_at hi
    rw [ha] at hb
    cases hb
    refine ⟨[.val (.trn [x, y]), .val (.trn [x, y]), .val a, .val a], rfl, rfl, fun _ => ?_⟩
    have hm := List.mem_of_getElem? ha
    simp only [List.mem_cons, List.not_mem_nil, or_false] at hm
    have this : m__law_alike (k + 1) [a, a] S = .ok (.bl true) S := by
      rcases hm with rfl | rfl
      · exact hx
      · exact hy
    simp only [p_eA, p_aC, p_eV, List.getElem?_cons_succ, List.getElem?_cons_zero, bind_ok, p_aN, this]) (by simp [pairsD, lim])
  have it : iZip (eV 0) (eV 1) [.val (.trn [x, y]), .val (.trn [x, y]), .no, .no] S = .ok (.fix (pairsD [x, y] [x, y])) S := rfl
  have lz := lLc_fix (vs := [2, 3]) it lc
  rw [List.nil_append, List.filter_eq_self.mpr (fun _ _ => rfl)] at lz
  have da := all_true (S := S) (ds := (pairsD [x, y] [x, y]).map fun _ => BR.D.bl true) (fun d hd => by obtain ⟨_, _, rfl⟩ := List.mem_map.mp hd; rfl)
  have i1 : dIsi ["tuple"] (.trn [x, y]) S = .ok (.bl true) S := by simp [dIsi, tyD, subTy]
  have i2 : dIsi ["list"] (.trn [x, y]) S = .ok (.bl false) S := by simp [dIsi, tyD, subTy]
  have ln : dLen (.trn [x, y]) S = .ok (.int 2) S := by simp [dLen]
  show runA 2 4 (b__law_alike (m__law_alike (k + 1))) _ _ = _
  refine runA_ok rfl ?_
  unfold b__law_alike
  rw [p_seq]
  have st : mIf (tOr (tE (e1 (dIsi ["tuple"]) (eB 1))) (tE (e1 (dIsi ["list"]) (eB 1)))) (mSeq (mIf (tOr (tE (e2 dNe (e1 (dIsi ["tuple"]) (eB 0)) (e1 (dIsi ["tuple"]) (eB 1)))) (tE (e2 dNe (e1 (dIsi ["list"]) (eB 0)) (e1 (dIsi ["list"]) (eB 1))))) (mRet (eC (.bl false))) mNil)
      (mSeq (mIf (tE (e2 dNe (e1 dLen (eB 0)) (e1 dLen (eB 1)))) (mRet (eC (.bl false))) mNil)
      (mRet (e1 dAll (eFrz (lLc (iZip (eV 0) (eV 1)) (gU [(gN 2), (gN 3)]) tYes (eA (m__law_alike (k + 1)) (aC (eV 2) (aC (eV 3) aN))) [2, 3])))))) mNil (BR.start 4 [.trn [x, y], .trn [x, y]]) S = .ok (.rt (.bl true)) S := by
    refine ifT (S1 := S) (by simp [BR.start, i1]) (seq_ok (r1 := [.val (.trn [x, y]), .val (.trn [x, y]), .no, .no]) (S1 := S) (by simp [BR.start, i1, i2, eqB]) (seq_ok (r1 := [.val (.trn [x, y]), .val (.trn [x, y]), .no, .no]) (S1 := S) (by simp [ln]) (ret_ok ((e1_ok (frz_ok lz)).trans da))))
  rw [st, sq_rt]
theorem eq_str {S : Store} {x : Str} (h : PyData.strOk x = true) : dEq (.str x) (.str x) S = .ok (.bl true) S := by
  have : okP deep (.str x) = true := h
  simp [dEq, this, eqD, toP, PyData.eqv]
theorem alike_str {S : Store} {k : Nat} {x : Str} (h : PyData.strOk x = true) : m__law_alike (k + 1) [.str x, .str x] S = .ok (.bl true) S := by
  have e := eq_str (S := S) h
  have i1 : dIsi ["tuple"] (.str x) S = .ok (.bl false) S := by simp [dIsi, tyD, subTy]
  have i2 : dIsi ["list"] (.str x) S = .ok (.bl false) S := by simp [dIsi, tyD, subTy]
  have i3 : dIsi ["bool"] (.str x) S = .ok (.bl false) S := by simp [dIsi, tyD, subTy]
  have i4 : dIsi ["str"] (.str x) S = .ok (.bl true) S := by simp [dIsi, tyD, subTy]
  have i5 : dIs (.str x) .non S = .ok (.bl false) S := by simp [dIs, isNon]
  have eb : dEq (.bl false) (.bl false) S = .ok (.bl true) S := rfl
  show runA 2 4 (b__law_alike (m__law_alike k)) _ _ = _
  simp [b__law_alike, BR.start, i1, i2, i3, i4, i5, e, eb]
theorem alike_none {S : Store} {k : Nat} : m__law_alike (k + 1) [.str "none", .str "none"] S = .ok (.bl true) S := alike_str (by decide +kernel)
theorem alike_name {S : Store} {k : Nat} : m__law_alike (k + 1) [.str "NoName", .str "NoName"] S = .ok (.bl true) S := alike_str (by decide +kernel)
theorem alike_right {S : Store} {n : Nat} (s : Spc) (hn : n ≤ 1000) : m__law_alike 8 [.trn [.str "none", .trn (tellT n s)], .trn [.str "none", .trn (tellT n s)]] S = .ok (.bl true) S :=
  alike_two (k := 6) alike_none (alike_ok 6 _ ((Pl_S s hn).mono (by decide)))
theorem alike_wrong {S : Store} : m__law_alike 8 [.trn [.str "NoName", .non], .trn [.str "NoName", .non]] S = .ok (.bl true) S :=
  alike_two (k := 6) alike_name (alike_ok 6 _ (.non _))
end LW

end

section
/-! An order and turns drawn (from PT6e). -/
namespace LW
open PySem BR
section
variable {n : Nat} {os ts : List Nat} {s : Spc}
theorem names_ok {S : Store} {kr : Nat} {c : Int} (hr : Rl S kr c) (hc : c < 10000000) (hn : 0 < n ∧ n ≤ 12) :
    ∃ os ts S', m__law_names [.ref kr, .int n] S = .ok (.trn [.lst (oD os), .lst (tD ts)]) S' ∧ Nms n os ts ∧ Rl S' kr (c + 100) ∧ Fr kr S.length S S' := by
  obtain ⟨kl, hkl⟩ : ∃ kl, kl = S.length := ⟨_, rfl⟩
  obtain ⟨S1, hS1⟩ : ∃ S1, S1 = S ++ [some (BR.D.lst (oD (List.range n)))] := ⟨_, rfl⟩
  have hkr := hr.lt
  have hne : kl ≠ kr := by omega
  have r1 : Rl S1 kr c := by rw [hS1]; exact hr.push _
  have hl : S1[kl]? = some (some (.lst (oD (List.range n)))) := by rw [hS1, hkl]; simp
  have st2 := set_new (i := 2) (l := BR.l1 lRg1 (eV 1)) (r := [.val (.ref kr), .val (.int n), .no, .no, .no]) (S := S) ((l1_ok (x := .int n) (S1 := S) rfl).trans (rg_ints (by omega)))
  rw [← hkl, ← hS1] at st2
  obtain ⟨acc, S2, e, ⟨P, Q, rfl, h1, h2, h3, h4, h5⟩, h6⟩ := lcR_inv (g := gN 4) (t := tYes) (e := ePopAt (eV 2) (eA m__law_draw (aC (eV 0) (aC (BR.e1 dLen (eB 2)) aN)))) (r := [.val (.ref kr), .val (.int n), .val (.ref kl), .no, .no]) (j0 := (n : Int)) (S := S1) (by omega) (by omega)
    (fun i acc S' => ∃ P Q : List Nat, acc = oD P ∧ S'[kl]? = some (some (.lst (oD Q))) ∧ (P ++ Q).Perm (List.range n) ∧ Rl S' kr (c + i) ∧ S'.length = S1.length ∧ ∀ j, j ≠ kr → j ≠ kl → S'[j]? = S1[j]?) (fun i acc S' hi ha h => by
      obtain ⟨P, Q, rfl, h1, h2, h3, h4, h5⟩ := h
      have hpl := h2.length_eq
      rw [List.length_append, List.length_range] at hpl
      unfold oD at ha
      rw [List.length_map] at ha
      obtain ⟨p, S2, e, hp, r2, b⟩ := draw (many := (Q.length : Int)) h3 (by omega) (by omega) (by omega)
      have hk2 : S2[kl]? = some (some (.lst (oD Q))) := by rw [b.2 kl hne]; exact h1
      have hpq : p.toNat < Q.length := by omega
      have lq : (oD Q).length = Q.length := by unfold oD; rw [List.length_map]
      have ix : L2.ixN Q.length p = some p.toNat := by unfold L2.ixN; rw [if_pos hp.1, if_pos hp.2]
      have a1 := lstAt_of h1
      have a2 := lstAt_of hk2
      have ln : dLen (.ref kl) S' = .ok (.int Q.length) S' := by simp [dLen, h1, lq]
      have big : -9223372036854775808 ≤ p ∧ p < 9223372036854775808 := by omega
      have hq : (oD Q)[p.toNat]? = some (.int (Q[p.toNat] : Nat)) := by unfold oD; rw [List.getElem?_map, List.getElem?_eq_getElem hpq]; rfl
      refine ⟨_, .int (Q[p.toNat] : Nat), S2.set kl (some (.lst (oD (Q.eraseIdx p.toNat)))), rfl, rfl, ?_, P ++ [Q[p.toNat]], Q.eraseIdx p.toNat, by simp [oD], List.getElem?_set_self (lt_of hk2), ((perm_pop hpq).trans h2), ?_, by simp [b.1, h4], fun j z1 z2 => ?_⟩
      · have em : (oD Q).eraseIdx p.toNat = oD (Q.eraseIdx p.toNat) := by
          simp [oD, List.eraseIdx_eq_take_drop_succ]
        simp [a1, ln, e, a2, lq, ix, big, hq, em]
      · exact (r2.at (List.getElem?_set_ne hne)).le (by omega)
      · rw [List.getElem?_set_ne (Ne.symm z2), b.2 j z1]
        exact h5 j z1 z2)
    ⟨[], List.range n, rfl, hl, by simp, by simpa using r1, rfl, fun _ _ _ => rfl⟩
  have hpl := h2.length_eq
  unfold oD at h6
  rw [List.length_map] at h6
  rw [List.length_append, List.length_range] at hpl
  have : Q = [] := List.length_eq_zero_iff.mp (by omega)
  subst this
  rw [List.append_nil] at h2
  have st3 := set_frz (i := 3) (lLc_fix (vs := [4]) (r := [.val (.ref kr), .val (.int n), .val (.ref kl), .no, .no]) (iR1 (a := eB 1) (S := S1) (n := (n : Int)) rfl (by simp only [big62]; omega)) e)
  obtain ⟨acc, S3, e3, ⟨T, rfl, t1, t2, t3⟩, t4⟩ := lcR_inv (g := gN 4) (t := tYes) (e := BR.e2 dIdx (eA m__law_turns aN) (eA m__law_draw (aC (eV 0) (aC (eC (.int 24)) aN)))) (r := [.val (.ref kr), .val (.int n), .val (.ref kl), .val (.lst (oD P)), .no]) (j0 := (n : Int)) (S := S2) (by omega) (by omega)
    (fun i acc S' => ∃ T : List Nat, acc = tD T ∧ (∀ t ∈ T, t < 24) ∧ Rl S' kr (c + 20 + i) ∧ But kr S2 S') (fun i acc S' hi ha h => by
      obtain ⟨T, rfl, t1, t2, t3⟩ := h
      obtain ⟨p, S4, e, hp, r2, b⟩ := draw (many := 24) t2 (by omega) (by omega) (by omega)
      obtain ⟨q, rfl⟩ : ∃ q : Nat, p = q := ⟨p.toNat, by omega⟩
      have at_ : dIdx (.lst ((List.range 24).map dT)) (.int q) S4 = .ok (dT q) S4 := by
        have hv : Vw S4 (.lst ((List.range 24).map dT)) ((List.range 24).map dT) := .inl (.inr (.inl rfl))
        exact hv.at (by rw [List.getElem?_map, List.getElem?_range (by omega)]; rfl)
      refine ⟨_, dT q, S4, rfl, rfl, ?_, T ++ [q], by simp [tD], fun t ht => ?_, r2.le (by omega), t3.trans b⟩
      · simp only [p_e2, p_eA, p_aN, bind_ok, turns_ok, p_aC, p_eV, p_gN, List.set_cons_succ, List.set_cons_zero, List.getElem?_cons_succ, List.getElem?_cons_zero, p_eC, e, at_]
      · rcases List.mem_append.mp ht with z | z
        · exact t1 t z
        · rw [List.mem_singleton.mp z]; omega)
    ⟨[], rfl, fun _ h => by simp at h, h3.le (by omega), rfl, fun _ _ => rfl⟩
  have ll := lLc_fix (vs := [4]) (r := [.val (.ref kr), .val (.int n), .val (.ref kl), .val (.lst (oD P)), .no]) (iR1 (a := eB 1) (S := S2) (n := (n : Int)) rfl (by simp only [big62]; omega)) e3
  refine ⟨P, T, S3, ?_, ⟨h2, by have := t4; unfold tD at this; rw [List.length_map] at this; omega, t1⟩, t2.le (by omega), ?_, fun j hj hk => ?_⟩
  · refine runA_ok rfl (seq_ok st2 (seq_ok st3 (ret_ok ?_)))
    have ef := frz_ok ll
    exact trn_ok (aC_ok (x := .lst (oD P)) (S1 := S2) rfl (aC_ok ef (xs := []) (S2 := S3) rfl)) (by simp [lim])
  · rw [t3.1, h4, hS1]; simp
  · rw [t3.2 j hk, h5 j hk (by omega), hS1, List.getElem?_append_left hj]
end
end LW

end

section
/-! The law's inner turn; its turn; the law. -/
namespace LW
open PySem BR
def someL : List BR.D := [.trn [.int 0, .int 1, .int 2, .int (-1)], .trn [.int 0, .int 1, .int 2, .int 2], .trn [.int 3, .int 2, .int 1, .int 0], .non, .str "0123", .lst [.int 0, .int 1, .int 2, .bl true], .trn [.int 0, .int 1, .int 2, .int 4]]
theorem someL_el : ∀ d ∈ someL, El d := by
  intro d hd
  simp only [someL, List.mem_cons, List.not_mem_nil, or_false] at hd
  rcases hd with rfl | rfl | rfl | rfl | rfl | rfl | rfl
  · exact .inr (by simp [oddS])
  · exact .inr (by simp [oddS])
  · exact .inl ⟨23, by decide, rfl⟩
  · exact .inr (by simp [oddS])
  · exact .inr (by simp [oddS])
  · exact .inr (by simp [oddS])
  · exact .inr (by simp [oddS])
def t29 : Int := 10 ^ 29
theorem ten29 {S : Store} : dPow (.int 10) (.int 29) S = .ok (.int t29) S := by rw [p_pow (by decide)]; rfl
def odL (n : Nat) : List BR.D := [.int n, .int (-1), .int 0, .int ((n : Int) - 1), .bl true, .str "0", .non, .int t29]
theorem odL_od {n : Nat} : ∀ d ∈ odL n, Od d := by
  intro d hd
  simp only [odL, List.mem_cons, List.not_mem_nil, or_false] at hd
  rcases hd with rfl | rfl | rfl | rfl | rfl | rfl | rfl | rfl <;> trivial
theorem bent_ord {n : Nat} {os ts : List Nat} {od d : BR.D} (h : Nms n os ts) (hn : n ≤ 12) (ho : Od od) (hb : Bent (oD os) od d) : OrdD d := by
  rcases hb with hb | ⟨ys, hv, hl, hy⟩
  · exact .inl hb
  · refine .inr ⟨ys, hv, ?_, fun y hm => ?_⟩
    · have : (oD os).length = os.length := by unfold oD; rw [List.length_map]
      have := h.olen
      omega
    · rcases hy y hm with z | rfl
      · obtain ⟨i, _, rfl⟩ := List.mem_map.mp z
        trivial
      · exact ho
theorem bent_tur {n : Nat} {os ts : List Nat} {od d : BR.D} (h : Nms n os ts) (hn : n ≤ 12) (ho : El od) (hb : Bent (tD ts) od d) : TurD d := by
  rcases hb with hb | ⟨ys, hv, hl, hy⟩
  · exact .inl hb
  · refine .inr ⟨ys, hv, ?_, fun y hm => ?_⟩
    · have : (tD ts).length = ts.length := by unfold tD; rw [List.length_map]
      have := h.len
      omega
    · rcases hy y hm with z | rfl
      · obtain ⟨t, ht, rfl⟩ := List.mem_map.mp z
        exact .inl ⟨t, h.lt t ht, rfl⟩
      · exact ho
section
variable {n : Nat} {s : Spc}
theorem l1_ok' {S : Store} {c : Int} {sc : BR.D} {i2 i5 x6 x7 x8 x9 x10 x11 : BR.Slot} (h : Rl S 0 c) (hc : 0 ≤ c ∧ c < 1000000) (v : Valid n s) (hn : 0 < n ∧ n ≤ 12) :
    ∃ r2 S2, l1_law [.val sc, .val (.ref 0), i2, .val (.trn (tellT n s)), .val (.int n), i5, x6, x7, x8, x9, x10, x11] S = .ok (.nx r2) S2 ∧ (∃ y6 y7 y8 y9 y10 y11, r2 = [.val sc, .val (.ref 0), i2, .val (.trn (tellT n s)), .val (.int n), i5, y6, y7, y8, y9, y10, y11]) ∧ Rl S2 0 (c + 150) := by
  obtain ⟨os0, ts0, S1, e1, nm0, r1, f1⟩ := names_ok (n := n) h (by omega) hn
  have gu : gU [gN 6, gN 7] (.trn [.lst (oD os0), .lst (tD ts0)]) [.val sc, .val (.ref 0), i2, .val (.trn (tellT n s)), .val (.int n), i5, x6, x7, x8, x9, x10, x11] = some [.val sc, .val (.ref 0), i2, .val (.trn (tellT n s)), .val (.int n), i5, .val (.lst (oD os0)), .val (.lst (tD ts0)), x8, x9, x10, x11] := rfl
  have st7 : mSet (gU [gN 6, gN 7]) (eA m__law_names (aC (eV 1) (aC (eV 4) aN))) [.val sc, .val (.ref 0), i2, .val (.trn (tellT n s)), .val (.int n), i5, x6, x7, x8, x9, x10, x11] S = .ok (.nx [.val sc, .val (.ref 0), i2, .val (.trn (tellT n s)), .val (.int n), i5, .val (.lst (oD os0)), .val (.lst (tD ts0)), x8, x9, x10, x11]) S1 :=
    set_g ((eA_ok (aC_ok (x := .ref 0) (S1 := S) rfl (aC_ok (x := .int n) (S1 := S) (xs := []) (S2 := S) rfl rfl))).trans e1) gu
  obtain ⟨q, S2, e2, b2, r2, u2⟩ := draw (many := 8) r1 (by omega) (by decide) (by decide)
  obtain ⟨od, mo, eo⟩ := pick (S := S2) (xs := odL n) (q := q) (by simpa [odL] using b2)
  have st8 : mSet (gN 8) (BR.e2 dIdx (eFrz (lLst (aC (eV 4) (aC (BR.e1 dNeg (eC (.int 1))) (aC (eC (.int 0)) (aC (BR.e2 dSub (eB 4) (eC (.int 1))) (aC (eC (.bl true)) (aC (eC (.str "0")) (aC (eC (.non)) (aC (BR.e2 dPow (eC (.int 10)) (eC (.int 29))) aN)))))))))) (eA m__law_draw (aC (eV 1) (aC (eC (.int 8)) aN)))) [.val sc, .val (.ref 0), i2, .val (.trn (tellT n s)), .val (.int n), i5, .val (.lst (oD os0)), .val (.lst (tD ts0)), x8, x9, x10, x11] S1 = .ok (.nx [.val sc, .val (.ref 0), i2, .val (.trn (tellT n s)), .val (.int n), i5, .val (.lst (oD os0)), .val (.lst (tD ts0)), .val od, x9, x10, x11]) S2 := by
    refine set_val (i := 8) ((e2_ok (x := .lst (odL n)) (S1 := S1) (frz_ok (lst_ok ?_ (by simp [lim, odL]))) ((eA_ok (aC_ok (x := .ref 0) (S1 := S1) rfl (aC_ok (x := .int 8) (S1 := S1) (xs := []) (S2 := S1) rfl rfl))).trans e2)).trans eo)
    have sb : dSub (.int n) (.int 1) S1 = .ok (.int ((n : Int) - 1)) S1 := by simp [dSub]
    exact aC_ok rfl (aC_ok rfl (aC_ok rfl (aC_ok ((e2_ok rfl rfl).trans sb) (aC_ok rfl (aC_ok rfl (aC_ok rfl (aC_ok ((e2_ok rfl rfl).trans ten29) rfl)))))))
  have st9 : mSet (gN 9) (eFrz (lLst (aC (eTrn (aC (eC (.int 0)) (aC (eC (.int 1)) (aC (eC (.int 2)) (aC (BR.e1 dNeg (eC (.int 1))) aN))))) (aC (eTrn (aC (eC (.int 0)) (aC (eC (.int 1)) (aC (eC (.int 2)) (aC (eC (.int 2)) aN))))) (aC (eTrn (aC (eC (.int 3)) (aC (eC (.int 2)) (aC (eC (.int 1)) (aC (eC (.int 0)) aN))))) (aC (eC (.non)) (aC (eC (.str "0123")) (aC (eFrz (lLst (aC (eC (.int 0)) (aC (eC (.int 1)) (aC (eC (.int 2)) (aC (eC (.bl true)) aN)))))) (aC (eTrn (aC (eC (.int 0)) (aC (eC (.int 1)) (aC (eC (.int 2)) (aC (eC (.int 4)) aN))))) aN))))))))) [.val sc, .val (.ref 0), i2, .val (.trn (tellT n s)), .val (.int n), i5, .val (.lst (oD os0)), .val (.lst (tD ts0)), .val od, x9, x10, x11] S2 = .ok (.nx [.val sc, .val (.ref 0), i2, .val (.trn (tellT n s)), .val (.int n), i5, .val (.lst (oD os0)), .val (.lst (tD ts0)), .val od, .val (.lst someL), x10, x11]) S2 := set_frz (i := 9) rfl
  obtain ⟨p, S3, e3, b3, r3, u3⟩ := draw (many := 7) r2 (by omega) (by decide) (by decide)
  obtain ⟨el, me, ee⟩ := pick (S := S3) (xs := someL) (q := p) (by simpa [someL] using b3)
  have st10 : mSet (gN 10) (BR.e2 dIdx (eB 9) (eA m__law_draw (aC (eV 1) (aC (eC (.int 7)) aN)))) [.val sc, .val (.ref 0), i2, .val (.trn (tellT n s)), .val (.int n), i5, .val (.lst (oD os0)), .val (.lst (tD ts0)), .val od, .val (.lst someL), x10, x11] S2 = .ok (.nx [.val sc, .val (.ref 0), i2, .val (.trn (tellT n s)), .val (.int n), i5, .val (.lst (oD os0)), .val (.lst (tD ts0)), .val od, .val (.lst someL), .val el, x11]) S3 :=
    set_val (i := 10) ((e2_ok (x := .lst someL) (S1 := S2) rfl ((eA_ok (aC_ok (x := .ref 0) (S1 := S2) rfl (aC_ok (x := .int 7) (S1 := S2) (xs := []) (S2 := S2) rfl rfl))).trans e3)).trans ee)
  have ol : (oD os0).length = n := by unfold oD; rw [List.length_map, nm0.olen]
  have tl : (tD ts0).length = n := by unfold tD; rw [List.length_map, nm0.len]
  obtain ⟨d, S4, e4, bt, r4, u4⟩ := bent_ok (xs := oD os0) (odd := od) r3 (by omega) (by omega)
  obtain ⟨w, S5, e5, b5, r5, u5⟩ := draw (many := 2) r4 (by omega) (by decide) (by decide)
  obtain ⟨d6, ed, h6⟩ : ∃ d6, dIdx (.lst [.lst (oD os0), d]) (.int w) S5 = .ok d6 S5 ∧ OrdD d6 := by
    have : w = 0 ∨ w = 1 := by omega
    rcases this with rfl | rfl
    · exact ⟨_, rfl, ordD_of nm0 hn.2 (.inr rfl)⟩
    · exact ⟨_, rfl, bent_ord nm0 hn.2 (odL_od od mo) bt⟩
  have st6 : mSet (gN 6) (BR.e2 dIdx (eFrz (lLst (aC (eV 6) (aC (eA m__law_bent (aC (eV 1) (aC (eV 6) (aC (eV 8) aN)))) aN)))) (eA m__law_draw (aC (eV 1) (aC (eC (.int 2)) aN)))) [.val sc, .val (.ref 0), i2, .val (.trn (tellT n s)), .val (.int n), i5, .val (.lst (oD os0)), .val (.lst (tD ts0)), .val od, .val (.lst someL), .val el, x11] S3 = .ok (.nx [.val sc, .val (.ref 0), i2, .val (.trn (tellT n s)), .val (.int n), i5, .val d6, .val (.lst (tD ts0)), .val od, .val (.lst someL), .val el, x11]) S5 :=
    set_val (i := 6) ((e2_ok (x := .lst [.lst (oD os0), d]) (S1 := S4) (frz_ok (lst_ok (aC_ok (x := .lst (oD os0)) (S1 := S3) rfl (aC_ok (xs := []) (S2 := S4) ((eA_ok (aC_ok (x := .ref 0) (S1 := S3) rfl (aC_ok (x := .lst (oD os0)) (S1 := S3) rfl (aC_ok (x := od) (S1 := S3) (xs := []) (S2 := S3) rfl rfl)))).trans e4) rfl)) (by simp [lim]))) ((eA_ok (aC_ok (x := .ref 0) (S1 := S4) rfl (aC_ok (x := .int 2) (S1 := S4) (xs := []) (S2 := S4) rfl rfl))).trans e5)).trans ed)
  obtain ⟨d', S6, e6, bt', r6, u6⟩ := bent_ok (xs := tD ts0) (odd := el) r5 (by omega) (by omega)
  obtain ⟨w', S7, e7, b7, r7, u7⟩ := draw (many := 3) r6 (by omega) (by decide) (by decide)
  obtain ⟨d7, ed', h7⟩ : ∃ d7, dIdx (.lst [.lst (tD ts0), .lst (tD ts0), d']) (.int w') S7 = .ok d7 S7 ∧ TurD d7 := by
    have : w' = 0 ∨ w' = 1 ∨ w' = 2 := by omega
    rcases this with rfl | rfl | rfl
    · exact ⟨_, rfl, turD_of nm0 hn.2 (.inr rfl)⟩
    · exact ⟨_, rfl, turD_of nm0 hn.2 (.inr rfl)⟩
    · exact ⟨_, rfl, bent_tur nm0 hn.2 (someL_el el me) bt'⟩
  have st7b : mSet (gN 7) (BR.e2 dIdx (eFrz (lLst (aC (eV 7) (aC (eV 7) (aC (eA m__law_bent (aC (eV 1) (aC (eV 7) (aC (eV 10) aN)))) aN))))) (eA m__law_draw (aC (eV 1) (aC (eC (.int 3)) aN)))) [.val sc, .val (.ref 0), i2, .val (.trn (tellT n s)), .val (.int n), i5, .val d6, .val (.lst (tD ts0)), .val od, .val (.lst someL), .val el, x11] S5 = .ok (.nx [.val sc, .val (.ref 0), i2, .val (.trn (tellT n s)), .val (.int n), i5, .val d6, .val d7, .val od, .val (.lst someL), .val el, x11]) S7 :=
    set_val (i := 7) ((e2_ok (x := .lst [.lst (tD ts0), .lst (tD ts0), d']) (S1 := S6) (frz_ok (lst_ok (aC_ok (x := .lst (tD ts0)) (S1 := S5) rfl (aC_ok (x := .lst (tD ts0)) (S1 := S5) rfl (aC_ok (xs := []) (S2 := S6) ((eA_ok (aC_ok (x := .ref 0) (S1 := S5) rfl (aC_ok (x := .lst (tD ts0)) (S1 := S5) rfl (aC_ok (x := el) (S1 := S5) (xs := []) (S2 := S5) rfl rfl)))).trans e6) rfl))) (by simp [lim]))) ((eA_ok (aC_ok (x := .ref 0) (S1 := S6) rfl (aC_ok (x := .int 3) (S1 := S6) (xs := []) (S2 := S6) rfl rfl))).trans e7)).trans ed')
  have st11 : mSet (gN 11) (eTrn (aC (eC (.str "NoName")) (aC (eC (.non)) aN))) [.val sc, .val (.ref 0), i2, .val (.trn (tellT n s)), .val (.int n), i5, .val d6, .val d7, .val od, .val (.lst someL), .val el, x11] S7 = .ok (.nx [.val sc, .val (.ref 0), i2, .val (.trn (tellT n s)), .val (.int n), i5, .val d6, .val d7, .val od, .val (.lst someL), .val el, .val (.trn [.str "NoName", .non])]) S7 := set_val (i := 11) rfl
  obtain ⟨b, er, br⟩ := right_ok (S := S7) (n := n) h6 h7
  have te : (tE (eA m__law_is_right (aC (eV 4) (aC (eV 6) (aC (eV 7) aN))))) [.val sc, .val (.ref 0), i2, .val (.trn (tellT n s)), .val (.int n), i5, .val d6, .val d7, .val od, .val (.lst someL), .val el, .val (.trn [.str "NoName", .non])] S7 = .ok b S7 := te_ok ((eA_ok (aC_ok (x := .int n) (S1 := S7) rfl (aC_ok (x := d6) (S1 := S7) rfl (aC_ok (x := d7) (S1 := S7) (xs := []) (S2 := S7) rfl rfl)))).trans er)
  have rd : ∀ S : Store, SpRd S (.trn (tellT n s)) n s := fun S => mx_space (mx_refl (Pl_S s (by omega)))
  cases b with
  | true =>
    obtain ⟨⟨os, v1, pm⟩, ⟨ts, v2, tl2, tlt⟩⟩ := br.mp rfl
    have nm : Nms n os ts := ⟨pm, tl2, tlt⟩
    obtain ⟨S8, e8, l8, f8⟩ := lawren_okV (S := S7) v1 v2 nm v hn
    have as := asked_yes (renamed_ok (S := S8) (rd S8) nm v v1 v2 hn)
    have r8 := r7.at (f8 0 r7.lt)
    refine ⟨[.val sc, .val (.ref 0), i2, .val (.trn (tellT n s)), .val (.int n), i5, .val d6, .val d7, .val od, .val (.lst someL), .val el, .val (.trn [.str "none", .trn (tellT n (rnS s os ts))])], S8, ?_, ⟨_, _, _, _, _, _, rfl⟩, r8.le (by omega)⟩
    refine seq_ok st7 (seq_ok st8 (seq_ok st9 (seq_ok st10 (seq_ok st6 (seq_ok st7b (seq_ok st11 (seq_ok (r1 := [.val sc, .val (.ref 0), i2, .val (.trn (tellT n s)), .val (.int n), i5, .val d6, .val d7, .val od, .val (.lst someL), .val el, .val (.trn [.str "none", .trn (tellT n (rnS s os ts))])]) (S1 := S8) (ifT te (set_val (i := 11) (trn_ok (aC_ok (x := .str "none") (S1 := S7) rfl (aC_ok (xs := []) (S2 := S8) ((eA_ok (aC_ok (x := .trn (tellT n s)) (S1 := S7) rfl (aC_ok (x := d6) (S1 := S7) rfl (aC_ok (x := d7) (S1 := S7) (xs := []) (S2 := S7) rfl rfl)))).trans e8) rfl)) (by simp [lim])))) (ifF (S1 := S8) (tnot_ok (te_ok (b := true) ((eA_ok (aC_ok ((eA_ok (aC_ok (x := .trn (tellT n s)) (S1 := S8) rfl (aC_ok (x := d6) (S1 := S8) rfl (aC_ok (x := d7) (S1 := S8) (xs := []) (S2 := S8) rfl rfl)))).trans as) (aC_ok (x := .trn [.str "none", .trn (tellT n (rnS s os ts))]) (S1 := S8) (xs := []) (S2 := S8) rfl rfl))).trans (alike_right _ (by omega))))) rfl))))))))
  | false =>
    have as := asked_no (renamed_no (S := S7) (rd S7) v h6 h7 hn (fun z => by have := br.mpr z; cases this))
    refine ⟨[.val sc, .val (.ref 0), i2, .val (.trn (tellT n s)), .val (.int n), i5, .val d6, .val d7, .val od, .val (.lst someL), .val el, .val (.trn [.str "NoName", .non])], S7, ?_, ⟨_, _, _, _, _, _, rfl⟩, r7.le (by omega)⟩
    refine seq_ok st7 (seq_ok st8 (seq_ok st9 (seq_ok st10 (seq_ok st6 (seq_ok st7b (seq_ok st11 (seq_ok (r1 := [.val sc, .val (.ref 0), i2, .val (.trn (tellT n s)), .val (.int n), i5, .val d6, .val d7, .val od, .val (.lst someL), .val el, .val (.trn [.str "NoName", .non])]) (S1 := S7) (ifF te rfl) (ifF (S1 := S7) (tnot_ok (te_ok (b := true) ((eA_ok (aC_ok ((eA_ok (aC_ok (x := .trn (tellT n s)) (S1 := S7) rfl (aC_ok (x := d6) (S1 := S7) rfl (aC_ok (x := d7) (S1 := S7) (xs := []) (S2 := S7) rfl rfl)))).trans as) (aC_ok (x := .trn [.str "NoName", .non]) (S1 := S7) (xs := []) (S2 := S7) rfl rfl))).trans alike_wrong))) rfl))))))))
end
theorem lawturn_ok {S : Store} {c : Int} {sc : BR.D} {i2 x3 x4 x5 x6 x7 x8 x9 x10 x11 : BR.Slot} (h : Rl S 0 c) (hc : 0 ≤ c ∧ c < 900000) :
    ∃ r2 S2, l2_law [.val sc, .val (.ref 0), i2, x3, x4, x5, x6, x7, x8, x9, x10, x11] S = .ok (.nx r2) S2 ∧ (∃ y3 y4 y5 y6 y7 y8 y9 y10 y11, r2 = [.val sc, .val (.ref 0), i2, y3, y4, y5, y6, y7, y8, y9, y10, y11]) ∧ Rl S2 0 (c + 10000) := by
  obtain ⟨n, kb, ks, s, S2, e2', hn, sp, v, r2, f2⟩ := blocks_ok (most := 5) h (by omega) (by decide)
  have hn12 : 0 < n ∧ n ≤ 12 := by omega
  have sh := shut_ok sp (by omega)
  have st3 : mSet (gN 3) (eA m__law_shut (aC (eA m__law_blocks (aC (eV 1) (aC (eC (.int 5)) aN))) aN)) [.val sc, .val (.ref 0), i2, x3, x4, x5, x6, x7, x8, x9, x10, x11] S = .ok (.nx [.val sc, .val (.ref 0), i2, .val (.trn (tellT n s)), x4, x5, x6, x7, x8, x9, x10, x11]) S2 :=
    set_val (i := 3) ((eA_ok (aC_ok (xs := []) (S2 := S2) ((eA_ok (aC_ok (x := .ref 0) (S1 := S) rfl (aC_ok (x := .int 5) (S1 := S) (xs := []) (S2 := S) rfl rfl))).trans e2') rfl)).trans sh)
  have ln : dLen (.trn (tellT n s)) S2 = .ok (.int n) S2 := by simp [dLen, tellT]
  have st4 : mSet (gN 4) (BR.e1 dLen (eB 3)) [.val sc, .val (.ref 0), i2, .val (.trn (tellT n s)), x4, x5, x6, x7, x8, x9, x10, x11] S2 = .ok (.nx [.val sc, .val (.ref 0), i2, .val (.trn (tellT n s)), .val (.int n), x5, x6, x7, x8, x9, x10, x11]) S2 :=
    set_val (i := 4) ((e1_ok rfl).trans ln)
  obtain ⟨ry, Sy, ey, y5, y6, y7, y8, y9, y10, y11, rfl, r5⟩ := range_inv (g := gN 5) (b := l1_law) (i0 := 0) (j0 := 10) (by decide)
    (fun i r S' => ∃ y5 y6 y7 y8 y9 y10 y11, r = [.val sc, .val (.ref 0), i2, .val (.trn (tellT n s)), .val (.int n), y5, y6, y7, y8, y9, y10, y11] ∧ Rl S' 0 (c + 2000 + 150 * i))
    (fun i r S' i0 i1 hI => by
      obtain ⟨y5, y6, y7, y8, y9, y10, y11, rfl, rr⟩ := hI
      obtain ⟨r2, S2, e, ⟨z6, z7, z8, z9, z10, z11, rfl⟩, rr'⟩ := l1_ok' (sc := sc) (i2 := i2) (i5 := .val (.int i)) (x6 := y6) (x7 := y7) (x8 := y8) (x9 := y9) (x10 := y10) (x11 := y11) rr (by omega) v hn12
      exact ⟨_, _, S2, rfl, .inl e, .val (.int i), z6, z7, z8, z9, z10, z11, rfl, by rw [show c + 2000 + 150 * (i + 1) = c + 2000 + 150 * i + 150 by omega]; exact rr'⟩)
    (r := [.val sc, .val (.ref 0), i2, .val (.trn (tellT n s)), .val (.int n), x5, x6, x7, x8, x9, x10, x11]) (S := S2) ⟨x5, x6, x7, x8, x9, x10, x11, rfl, r2.le (by omega)⟩
  have lp := mFor_fix (g := gN 5) (b := l1_law) (iR1 (a := eC (.int 10)) (r := [.val sc, .val (.ref 0), i2, .val (.trn (tellT n s)), .val (.int n), x5, x6, x7, x8, x9, x10, x11]) (S := S2) (n := 10) rfl (by decide)) ey
  exact ⟨_, Sy, seq_ok st3 (seq_ok st4 lp), ⟨_, _, _, _, _, _, _, _, _, rfl⟩, r5.le (by omega)⟩
theorem plain (ns : List Int) (hn : ns.length ≤ 63) : ∃ S, m_law [.scr (ns.map BR.D.int)] [] = .ok (.bl true) S := by
  obtain ⟨S0, es, r0, _⟩ := reel_ok ns hn
  have ln : dLen (.scr (ns.map BR.D.int)) S0 = .ok (.int ns.length) S0 := by simp [dLen]
  obtain ⟨m, hm⟩ : ∃ m : Int, m = 1 + (if 15 < (ns.length : Int) then 15 else (ns.length : Int)) := ⟨_, rfl⟩
  have m0 : 0 ≤ m ∧ m ≤ 16 := by subst hm; split <;> omega
  obtain ⟨r2, S2, e2, y2, y3, y4, y5, y6, y7, y8, y9, y10, y11, rfl, p2⟩ := range_inv (g := gN 2) (b := l2_law) (i0 := 0) (j0 := m) m0.1
    (fun i r S => ∃ x2 x3 x4 x5 x6 x7 x8 x9 x10 x11, r = [.val (.scr (ns.map BR.D.int)), .val (.ref 0), x2, x3, x4, x5, x6, x7, x8, x9, x10, x11] ∧ Rl S 0 (10000 * i))
    (fun i r S i0 i1 h => by
      obtain ⟨x2, x3, x4, x5, x6, x7, x8, x9, x10, x11, rfl, p⟩ := h
      obtain ⟨r2, S2, e, ⟨y3, y4, y5, y6, y7, y8, y9, y10, y11, rfl⟩, p'⟩ := lawturn_ok (sc := .scr (ns.map BR.D.int)) (i2 := .val (.int i)) (x3 := x3) (x4 := x4) (x5 := x5) (x6 := x6) (x7 := x7) (x8 := x8) (x9 := x9) (x10 := x10) (x11 := x11) p ⟨by omega, by omega⟩
      exact ⟨_, _, S2, rfl, .inl e, _, _, _, _, _, _, _, _, _, _, rfl, by rw [show 10000 * (i + 1) = 10000 * i + 10000 by omega]; exact p'⟩)
    (r := [.val (.scr (ns.map BR.D.int)), .val (.ref 0), .no, .no, .no, .no, .no, .no, .no, .no, .no, .no]) (S := S0) ⟨_, _, _, _, _, _, _, _, _, _, rfl, r0.le (by omega)⟩
  have hbig : -big62 ≤ m ∧ m < big62 := by simp only [big62]; omega
  refine ⟨S2, ?_⟩
  simp [m_law, b_law, BR.start, es, ln, ← hm, hbig, e2]
end LW

end

section
namespace LW
open PySem PySem.Spec PyProof.Rows L2 BR
/-! ### the head -/
def dd_is_whole : He.DefD := ⟨("is_whole", none), "is_whole", "is_whole", defArgs s_is_whole, defBody s_is_whole, defScope s_is_whole, [], []⟩
def dd_is_row : He.DefD := ⟨("is_row", none), "is_row", "is_row", defArgs s_is_row, defBody s_is_row, defScope s_is_row, [], []⟩
def dd_contrary : He.DefD := ⟨("contrary", none), "contrary", "contrary", defArgs s_contrary, defBody s_contrary, defScope s_contrary, [], []⟩
def dd_behind : He.DefD := ⟨("behind", none), "behind", "behind", defArgs s_behind, defBody s_behind, defScope s_behind, [], []⟩
def dd__law_reel : He.DefD := ⟨("_law_reel", none), "_law_reel", "_law_reel", defArgs s__law_reel, defBody s__law_reel, defScope s__law_reel, [], []⟩
def dd__law_draw : He.DefD := ⟨("_law_draw", none), "_law_draw", "_law_draw", defArgs s__law_draw, defBody s__law_draw, defScope s__law_draw, [], []⟩
def dd__law_turns : He.DefD := ⟨("_law_turns", none), "_law_turns", "_law_turns", defArgs s__law_turns, defBody s__law_turns, defScope s__law_turns, [], []⟩
def dd__law_back : He.DefD := ⟨("_law_back", none), "_law_back", "_law_back", defArgs s__law_back, defBody s__law_back, defScope s__law_back, [], []⟩
def dd__law_shut : He.DefD := ⟨("_law_shut", none), "_law_shut", "_law_shut", defArgs s__law_shut, defBody s__law_shut, defScope s__law_shut, [], []⟩
def dd__law_is_number : He.DefD := ⟨("_law_is_number", none), "_law_is_number", "_law_is_number", defArgs s__law_is_number, defBody s__law_is_number, defScope s__law_is_number, [], []⟩
def dd__law_kind_of : He.DefD := ⟨("_law_kind_of", none), "_law_kind_of", "_law_kind_of", defArgs s__law_kind_of, defBody s__law_kind_of, defScope s__law_kind_of, [], []⟩
def dd_is_turn : He.DefD := ⟨("is_turn", none), "is_turn", "is_turn", defArgs s_is_turn, defBody s_is_turn, defScope s_is_turn, [], []⟩
def dd_is_joined_back : He.DefD := ⟨("is_joined_back", none), "is_joined_back", "is_joined_back", defArgs s_is_joined_back, defBody s_is_joined_back, defScope s_is_joined_back, [], []⟩
def dd__law_set : He.DefD := ⟨("_law_set", none), "_law_set", "_law_set", defArgs s__law_set, defBody s__law_set, defScope s__law_set, [], []⟩
def dd__law_is_turn : He.DefD := ⟨("_law_is_turn", none), "_law_is_turn", "_law_is_turn", defArgs s__law_is_turn, defBody s__law_is_turn, defScope s__law_is_turn, [], []⟩
def dd__law_renamed : He.DefD := ⟨("_law_renamed", none), "_law_renamed", "_law_renamed", defArgs s__law_renamed, defBody s__law_renamed, defScope s__law_renamed, [], []⟩
def dd__law_names : He.DefD := ⟨("_law_names", none), "_law_names", "_law_names", defArgs s__law_names, defBody s__law_names, defScope s__law_names, [], []⟩
def dd__law_bent : He.DefD := ⟨("_law_bent", none), "_law_bent", "_law_bent", defArgs s__law_bent, defBody s__law_bent, defScope s__law_bent, [], []⟩
def dd_joining_of : He.DefD := ⟨("joining_of", none), "joining_of", "joining_of", defArgs s_joining_of, defBody s_joining_of, defScope s_joining_of, [], []⟩
def dd_need_names : He.DefD := ⟨("need_names", none), "need_names", "need_names", defArgs s_need_names, defBody s_need_names, defScope s_need_names, [], []⟩
def dd__law_any : He.DefD := ⟨("_law_any", none), "_law_any", "_law_any", defArgs s__law_any, defBody s__law_any, defScope s__law_any, [], []⟩
def dd__law_ball : He.DefD := ⟨("_law_ball", none), "_law_ball", "_law_ball", defArgs s__law_ball, defBody s__law_ball, defScope s__law_ball, [], []⟩
def dd__law_doubled : He.DefD := ⟨("_law_doubled", none), "_law_doubled", "_law_doubled", defArgs s__law_doubled, defBody s__law_doubled, defScope s__law_doubled, [], []⟩
def dd__law_is_right : He.DefD := ⟨("_law_is_right", none), "_law_is_right", "_law_is_right", defArgs s__law_is_right, defBody s__law_is_right, defScope s__law_is_right, [], []⟩
def dd_space_of : He.DefD := ⟨("space_of", none), "space_of", "space_of", defArgs s_space_of, defBody s_space_of, defScope s_space_of, [], []⟩
def dd__law_blocks : He.DefD := ⟨("_law_blocks", none), "_law_blocks", "_law_blocks", defArgs s__law_blocks, defBody s__law_blocks, defScope s__law_blocks, [], []⟩
def dd_renamed : He.DefD := ⟨("renamed", none), "renamed", "renamed", defArgs s_renamed, defBody s_renamed, defScope s_renamed, [], []⟩
def dd__law_asked : He.DefD := ⟨("_law_asked", none), "_law_asked", "_law_asked", defArgs s__law_asked, defBody s__law_asked, defScope s__law_asked, [], []⟩
def dd__law_alike : He.DefD := ⟨("_law_alike", none), "_law_alike", "_law_alike", defArgs s__law_alike, defBody s__law_alike, defScope s__law_alike, [], []⟩
def dd_law : He.DefD := ⟨("law", none), "law", "law", defArgs s_law, defBody s_law, defScope s_law, [], []⟩
def hfn : List He.DefD := [dd_is_whole, dd_is_row, dd_contrary, dd_behind, dd__law_reel, dd__law_draw, dd__law_turns, dd__law_back, dd__law_shut, dd__law_is_number, dd__law_kind_of, dd_is_turn, dd_is_joined_back, dd__law_set, dd__law_is_turn, dd__law_renamed, dd__law_names, dd__law_bent, dd_joining_of, dd_need_names, dd__law_any, dd__law_ball, dd__law_doubled, dd__law_is_right, dd_space_of, dd__law_blocks, dd_renamed, dd__law_asked, dd__law_alike, dd_law]
def hfa : List He.Fa := [.glo "is_whole", .glo "is_row", .glo "contrary", .glo "behind", .glo "_law_reel", .glo "_law_draw", .glo "_law_turns", .glo "_law_back", .glo "_law_shut", .glo "_law_is_number", .glo "_law_kind_of", .glo "is_turn", .glo "is_joined_back", .glo "_law_set", .glo "_law_is_turn", .glo "_law_renamed", .glo "_law_names", .glo "_law_bent", .glo "joining_of", .glo "need_names", .glo "_law_any", .glo "_law_ball", .glo "_law_doubled", .glo "_law_is_right", .glo "space_of", .glo "_law_blocks", .glo "renamed", .glo "_law_asked", .glo "_law_alike", .glo "law", .glo "NoCorner", .glo "NoFace", .glo "NoForm", .glo "NoLine", .glo "NoMove", .glo "NoName", .glo "NoNumbers", .glo "NoSpace", .glo "NoSurface", .glo "NoTurn", .glo "NoneYet", .glo "RoomError", .free "ValueError", .free "all", .free "bool", .free "enumerate", .free "int", .free "isinstance", .free "len", .free "list", .free "min", .free "range", .free "set", .free "sorted", .free "str", .free "tuple", .free "zip"]
def hcs : List (Str × BR.D) := [("STILL", c_STILL), (PySem.Str.ofString "NoName", .xc ""), (PySem.Str.ofString "NoName", .tup [.xc "NoNumbers", .bl false]), (PySem.Str.ofString "NoName", .tup [.xc "NoSurface", .bl false]), (PySem.Str.ofString "NoName", .tup [.xc "NoMove", .bl false]), (PySem.Str.ofString "NoName", .tup [.xc "NoForm", .bl false]), (PySem.Str.ofString "NoName", .tup [.xc "NoneYet", .bl false]), (PySem.Str.ofString "NoName", .tup [.xc "NoCorner", .bl false]), (PySem.Str.ofString "NoName", .tup [.xc "NoFace", .bl false]), (PySem.Str.ofString "NoName", .tup [.xc "NoLine", .bl false]), (PySem.Str.ofString "NoName", .tup [.xc "NoName", .bl true]), (PySem.Str.ofString "NoName", .tup [.xc "NoSpace", .bl false]), (PySem.Str.ofString "NoName", .tup [.xc "NoTurn", .bl false]), (PySem.Str.ofString "NoName", .tup [.xc "RoomError", .bl true])]
abbrev hR : PySem.W.OpenRow := PySem.W.OpenLaw.row PySem.Challenge.rw_blockrooms_k07_names_refused
abbrev hhk : PySem.W.Hook := hookB 4 hfa hfn hcs
def hob (s : PySem.W.SharedT) : He.AlD := obsBG 4 hfa hfn hcs (HandSHeadRun.getT s)
theorem hob_eq (s : PySem.W.SharedT) : hob s = hhk.obs s.abs := obsBG_eq (HandSHeadRun.getT_eq s)
def hloose : List Str := [("__name__" : Str), ("RoomError" : Str), ("NoLine" : Str), ("NoSpace" : Str), ("NoFace" : Str), ("NoTurn" : Str), ("NoName" : Str), ("NoCorner" : Str), ("NoNumbers" : Str), ("NoSurface" : Str), ("NoMove" : Str), ("NoForm" : Str), ("NoneYet" : Str), ("STILL" : Str), ("is_whole" : Str), ("is_row" : Str), ("is_turn" : Str), ("contrary" : Str), ("behind" : Str), ("joining_of" : Str), ("is_joined_back" : Str), ("space_of" : Str), ("need_names" : Str), ("renamed" : Str), ("_law_reel" : Str), ("_law_draw" : Str), ("_law_alike" : Str), ("_law_turns" : Str), ("_law_back" : Str), ("_law_set" : Str), ("_law_any" : Str), ("_law_ball" : Str), ("_law_doubled" : Str), ("_law_blocks" : Str), ("_law_shut" : Str), ("_law_is_number" : Str), ("_law_is_turn" : Str), ("_law_kind_of" : Str), ("_law_renamed" : Str), ("_law_names" : Str), ("_law_bent" : Str), ("_law_is_right" : Str), ("_law_asked" : Str)]
theorem hrun (w : World) : HandSHeadRun.RunEq hR (PySem.W.view hR.prog [45]) hhk hob 4000 hloose w := by
  intro os
  kernel_rfl
theorem hnm {K : PySem.W.Frag} {h : Heap} {mg : Str → Option Value} (X : K.In h) (G : h.Ns mainGlobals mg) (c : SaysB hfa hfn hcs K) : Nm K mg :=
  ⟨He.glo_ok X G (c.d.fact 30 (f := .glo "NoCorner") rfl),
   He.glo_ok X G (c.d.fact 31 (f := .glo "NoFace") rfl),
   He.glo_ok X G (c.d.fact 32 (f := .glo "NoForm") rfl),
   He.glo_ok X G (c.d.fact 33 (f := .glo "NoLine") rfl),
   He.glo_ok X G (c.d.fact 34 (f := .glo "NoMove") rfl),
   He.glo_ok X G (c.d.fact 35 (f := .glo "NoName") rfl),
   He.glo_ok X G (c.d.fact 36 (f := .glo "NoNumbers") rfl),
   He.glo_ok X G (c.d.fact 37 (f := .glo "NoSpace") rfl),
   He.glo_ok X G (c.d.fact 38 (f := .glo "NoSurface") rfl),
   He.glo_ok X G (c.d.fact 39 (f := .glo "NoTurn") rfl),
   He.glo_ok X G (c.d.fact 40 (f := .glo "NoneYet") rfl),
   He.glo_ok X G (c.d.fact 41 (f := .glo "RoomError") rfl),
   (excB_ok X G (c.cst 1 (q := (PySem.Str.ofString "NoName", .xc "")) rfl)),
   (fun m q h => by
    unfold tb_NoNumbers_NoSurface_NoMove_NoForm_NoneYet at h
    split at h
    · rename_i e; subst e; cases h; exact ⟨(excB_ok X G (c.cst 1 (q := (PySem.Str.ofString "NoName", .xc "")) rfl)).c, (kitAny_cons (pairB_ok (c.cst 2 (q := (PySem.Str.ofString "NoName", .tup [.xc "NoNumbers", .bl false])) rfl)).2 (fun _ => (kitAny_cons (pairB_ok (c.cst 3 (q := (PySem.Str.ofString "NoName", .tup [.xc "NoSurface", .bl false])) rfl)).2 (fun _ => (kitAny_cons (pairB_ok (c.cst 4 (q := (PySem.Str.ofString "NoName", .tup [.xc "NoMove", .bl false])) rfl)).2 (fun _ => (kitAny_cons (pairB_ok (c.cst 5 (q := (PySem.Str.ofString "NoName", .tup [.xc "NoForm", .bl false])) rfl)).2 (fun _ => (kitAny_cons (pairB_ok (c.cst 6 (q := (PySem.Str.ofString "NoName", .tup [.xc "NoneYet", .bl false])) rfl)).2 (fun _ => kitAny_nil) (fun f => by first | rfl | cases f))) (fun f => by first | rfl | cases f))) (fun f => by first | rfl | cases f))) (fun f => by first | rfl | cases f))) (fun f => by first | rfl | cases f))⟩
    · cases h),
   (fun m q h => by
    unfold tb_NoCorner at h
    split at h
    · rename_i e; subst e; cases h; exact ⟨(excB_ok X G (c.cst 1 (q := (PySem.Str.ofString "NoName", .xc "")) rfl)).c, (pairB_ok (c.cst 7 (q := (PySem.Str.ofString "NoName", .tup [.xc "NoCorner", .bl false])) rfl)).2⟩
    · cases h),
   (fun m q h => by
    unfold tb_NoFace at h
    split at h
    · rename_i e; subst e; cases h; exact ⟨(excB_ok X G (c.cst 1 (q := (PySem.Str.ofString "NoName", .xc "")) rfl)).c, (pairB_ok (c.cst 8 (q := (PySem.Str.ofString "NoName", .tup [.xc "NoFace", .bl false])) rfl)).2⟩
    · cases h),
   (fun m q h => by
    unfold tb_NoLine at h
    split at h
    · rename_i e; subst e; cases h; exact ⟨(excB_ok X G (c.cst 1 (q := (PySem.Str.ofString "NoName", .xc "")) rfl)).c, (pairB_ok (c.cst 9 (q := (PySem.Str.ofString "NoName", .tup [.xc "NoLine", .bl false])) rfl)).2⟩
    · cases h),
   (fun m q h => by
    unfold tb_NoName at h
    split at h
    · rename_i e; subst e; cases h; exact ⟨(excB_ok X G (c.cst 1 (q := (PySem.Str.ofString "NoName", .xc "")) rfl)).c, (pairB_ok (c.cst 10 (q := (PySem.Str.ofString "NoName", .tup [.xc "NoName", .bl true])) rfl)).2⟩
    · cases h),
   (fun m q h => by
    unfold tb_NoSpace at h
    split at h
    · rename_i e; subst e; cases h; exact ⟨(excB_ok X G (c.cst 1 (q := (PySem.Str.ofString "NoName", .xc "")) rfl)).c, (pairB_ok (c.cst 11 (q := (PySem.Str.ofString "NoName", .tup [.xc "NoSpace", .bl false])) rfl)).2⟩
    · cases h),
   (fun m q h => by
    unfold tb_NoTurn at h
    split at h
    · rename_i e; subst e; cases h; exact ⟨(excB_ok X G (c.cst 1 (q := (PySem.Str.ofString "NoName", .xc "")) rfl)).c, (pairB_ok (c.cst 12 (q := (PySem.Str.ofString "NoName", .tup [.xc "NoTurn", .bl false])) rfl)).2⟩
    · cases h),
   (fun m q h => by
    unfold tb_ValueError at h
    split at h
    · rename_i e; subst e; cases h; exact ⟨(excB_ok X G (c.cst 1 (q := (PySem.Str.ofString "NoName", .xc "")) rfl)).c, (excB_ok X G (c.cst 1 (q := (PySem.Str.ofString "NoName", .xc "")) rfl)).v⟩
    · cases h),
   (fun m q h => by
    unfold tb_RoomError at h
    split at h
    · rename_i e; subst e; cases h; exact (pairB_ok (c.cst 13 (q := (PySem.Str.ofString "NoName", .tup [.xc "RoomError", .bl true])) rfl)).1
    · cases h),
   mg_cst X G (c.cst 0 (q := ("STILL", c_STILL)) rfl),
   (cst_ok (c.cst 0 (q := ("STILL", c_STILL)) rfl)).2,
   He.free_ok X G (c.d.fact 42 (f := .free "ValueError") rfl),
   He.free_ok X G (c.d.fact 43 (f := .free "all") rfl),
   He.free_ok X G (c.d.fact 44 (f := .free "bool") rfl),
   He.free_ok X G (c.d.fact 45 (f := .free "enumerate") rfl),
   He.free_ok X G (c.d.fact 46 (f := .free "int") rfl),
   He.free_ok X G (c.d.fact 47 (f := .free "isinstance") rfl),
   He.free_ok X G (c.d.fact 48 (f := .free "len") rfl),
   He.free_ok X G (c.d.fact 49 (f := .free "list") rfl),
   He.free_ok X G (c.d.fact 50 (f := .free "min") rfl),
   He.free_ok X G (c.d.fact 51 (f := .free "range") rfl),
   He.free_ok X G (c.d.fact 52 (f := .free "set") rfl),
   He.free_ok X G (c.d.fact 53 (f := .free "sorted") rfl),
   He.free_ok X G (c.d.fact 54 (f := .free "str") rfl),
   He.free_ok X G (c.d.fact 55 (f := .free "tuple") rfl),
   He.free_ok X G (c.d.fact 56 (f := .free "zip") rfl)⟩
theorem hfacts {P : Program} {w : World} {K : PySem.W.Frag} {h : Heap} {mg : Str → Option Value} {f : Addr} (X : K.In h) (G : h.Ns mainGlobals mg) (hfa' : mg ("law" : Str) = some (.ref f)) (c : SaysB hfa hfn hcs K) :
    ∃ fd : FuncData, (∀ (s : Shared) (v : Value), BindsTo s fd ⟨[v], []⟩ [("script", v)]) ∧ ∀ base : Heap, K.In base → base.Ns mainGlobals mg → FnG P w K mg base CX0 10 f fd ["script"] (sp0 K 1 m_law) := by
  have nm := hnm X G c
  obtain ⟨fd, F⟩ := c.d.def_ 29 (d := dd_law) rfl
  have e := hfa'.symm.trans (He.glo_ok X G (c.d.fact 29 (f := .glo "law") rfl))
  cases e
  have b := FunD.bindsA (ps := ["script"]) F fun _ _ _ _ _ _ us hl => match us, hl with | [_], _ => rfl
  refine ⟨fd, fun s v => b s [v] rfl, fun base _ _ => ?_⟩
  have D_is_whole : DefOk P w K mg base CX0 "is_whole" 1 (sp0 K 1 m_is_whole) := defD_ok (st := s_is_whole) (c.d.def_ 0 (d := dd_is_whole) rfl) (He.glo_ok X G (c.d.fact 0 (f := .glo "is_whole") rfl)) sc_is_whole rfl rfl (fun _ _ _ _ _ _ us hl => match us, hl with | [_], _ => rfl) (d_is_whole nm )
  have D_is_row : DefOk P w K mg base CX0 "is_row" 1 (sp0 K 1 m_is_row) := defD_ok (st := s_is_row) (c.d.def_ 1 (d := dd_is_row) rfl) (He.glo_ok X G (c.d.fact 1 (f := .glo "is_row") rfl)) sc_is_row rfl rfl (fun _ _ _ _ _ _ us hl => match us, hl with | [_], _ => rfl) (d_is_row nm )
  have D_contrary : DefOk P w K mg base CX0 "contrary" 1 (sp0 K 1 m_contrary) := defD_ok (st := s_contrary) (c.d.def_ 2 (d := dd_contrary) rfl) (He.glo_ok X G (c.d.fact 2 (f := .glo "contrary") rfl)) sc_contrary rfl rfl (fun _ _ _ _ _ _ us hl => match us, hl with | [_], _ => rfl) (d_contrary nm )
  have D_behind : DefOk P w K mg base CX0 "behind" 1 (sp0 K 2 m_behind) := defD_ok (st := s_behind) (c.d.def_ 3 (d := dd_behind) rfl) (He.glo_ok X G (c.d.fact 3 (f := .glo "behind") rfl)) sc_behind rfl rfl (fun _ _ _ _ _ _ us hl => match us, hl with | [_, _], _ => rfl) (d_behind nm )
  have D__law_reel : DefOk P w K mg base CX0 "_law_reel" 1 (sp0 K 1 m__law_reel) := defD_ok (st := s__law_reel) (c.d.def_ 4 (d := dd__law_reel) rfl) (He.glo_ok X G (c.d.fact 4 (f := .glo "_law_reel") rfl)) sc__law_reel rfl rfl (fun _ _ _ _ _ _ us hl => match us, hl with | [_], _ => rfl) (d__law_reel nm )
  have D__law_draw : DefOk P w K mg base CX0 "_law_draw" 1 (sp0 K 2 m__law_draw) := defD_ok (st := s__law_draw) (c.d.def_ 5 (d := dd__law_draw) rfl) (He.glo_ok X G (c.d.fact 5 (f := .glo "_law_draw") rfl)) sc__law_draw rfl rfl (fun _ _ _ _ _ _ us hl => match us, hl with | [_, _], _ => rfl) (d__law_draw nm )
  have D__law_turns : DefOk P w K mg base CX0 "_law_turns" 1 (sp0 K 0 m__law_turns) := defD_ok (st := s__law_turns) (c.d.def_ 6 (d := dd__law_turns) rfl) (He.glo_ok X G (c.d.fact 6 (f := .glo "_law_turns") rfl)) sc__law_turns rfl rfl (fun _ _ _ _ _ _ us hl => match us, hl with | [], _ => rfl) (d__law_turns nm )
  have D__law_back : DefOk P w K mg base CX0 "_law_back" 1 (sp0 K 1 m__law_back) := defD_ok (st := s__law_back) (c.d.def_ 7 (d := dd__law_back) rfl) (He.glo_ok X G (c.d.fact 7 (f := .glo "_law_back") rfl)) sc__law_back rfl rfl (fun _ _ _ _ _ _ us hl => match us, hl with | [_], _ => rfl) (d__law_back nm )
  have D__law_shut : DefOk P w K mg base CX0 "_law_shut" 1 (sp0 K 1 m__law_shut) := defD_ok (st := s__law_shut) (c.d.def_ 8 (d := dd__law_shut) rfl) (He.glo_ok X G (c.d.fact 8 (f := .glo "_law_shut") rfl)) sc__law_shut rfl rfl (fun _ _ _ _ _ _ us hl => match us, hl with | [_], _ => rfl) (d__law_shut nm )
  have D__law_is_number : DefOk P w K mg base CX0 "_law_is_number" 1 (sp0 K 2 m__law_is_number) := defD_ok (st := s__law_is_number) (c.d.def_ 9 (d := dd__law_is_number) rfl) (He.glo_ok X G (c.d.fact 9 (f := .glo "_law_is_number") rfl)) sc__law_is_number rfl rfl (fun _ _ _ _ _ _ us hl => match us, hl with | [_, _], _ => rfl) (d__law_is_number nm )
  have D__law_kind_of : DefOk P w K mg base CX0 "_law_kind_of" 1 (sp0 K 1 m__law_kind_of) := defD_ok (st := s__law_kind_of) (c.d.def_ 10 (d := dd__law_kind_of) rfl) (He.glo_ok X G (c.d.fact 10 (f := .glo "_law_kind_of") rfl)) sc__law_kind_of rfl rfl (fun _ _ _ _ _ _ us hl => match us, hl with | [_], _ => rfl) (d__law_kind_of nm )
  have D_is_turn : DefOk P w K mg base CX0 "is_turn" 2 (sp0 K 1 m_is_turn) := defD_ok (st := s_is_turn) (c.d.def_ 11 (d := dd_is_turn) rfl) (He.glo_ok X G (c.d.fact 11 (f := .glo "is_turn") rfl)) sc_is_turn rfl rfl (fun _ _ _ _ _ _ us hl => match us, hl with | [_], _ => rfl) (d_is_turn nm D_is_row D_is_whole)
  have D_is_joined_back : DefOk P w K mg base CX0 "is_joined_back" 2 (sp0 K 3 m_is_joined_back) := defD_ok (st := s_is_joined_back) (c.d.def_ 12 (d := dd_is_joined_back) rfl) (He.glo_ok X G (c.d.fact 12 (f := .glo "is_joined_back") rfl)) sc_is_joined_back rfl rfl (fun _ _ _ _ _ _ us hl => match us, hl with | [_, _, _], _ => rfl) (d_is_joined_back nm D_contrary)
  have D__law_set : DefOk P w K mg base CX0 "_law_set" 2 (sp0 K 5 m__law_set) := defD_ok (st := s__law_set) (c.d.def_ 13 (d := dd__law_set) rfl) (He.glo_ok X G (c.d.fact 13 (f := .glo "_law_set") rfl)) sc__law_set rfl rfl (fun _ _ _ _ _ _ us hl => match us, hl with | [_, _, _, _, _], _ => rfl) (d__law_set nm D__law_back)
  have D__law_is_turn : DefOk P w K mg base CX0 "_law_is_turn" 2 (sp0 K 1 m__law_is_turn) := defD_ok (st := s__law_is_turn) (c.d.def_ 14 (d := dd__law_is_turn) rfl) (He.glo_ok X G (c.d.fact 14 (f := .glo "_law_is_turn") rfl)) sc__law_is_turn rfl rfl (fun _ _ _ _ _ _ us hl => match us, hl with | [_], _ => rfl) (d__law_is_turn nm D__law_is_number)
  have D__law_renamed : DefOk P w K mg base CX0 "_law_renamed" 2 (sp0 K 3 m__law_renamed) := defD_ok (st := s__law_renamed) (c.d.def_ 15 (d := dd__law_renamed) rfl) (He.glo_ok X G (c.d.fact 15 (f := .glo "_law_renamed") rfl)) sc__law_renamed rfl rfl (fun _ _ _ _ _ _ us hl => match us, hl with | [_, _, _], _ => rfl) (d__law_renamed nm D__law_shut)
  have D__law_names : DefOk P w K mg base CX0 "_law_names" 2 (sp0 K 2 m__law_names) := defD_ok (st := s__law_names) (c.d.def_ 16 (d := dd__law_names) rfl) (He.glo_ok X G (c.d.fact 16 (f := .glo "_law_names") rfl)) sc__law_names rfl rfl (fun _ _ _ _ _ _ us hl => match us, hl with | [_, _], _ => rfl) (d__law_names nm D__law_draw D__law_turns)
  have D__law_bent : DefOk P w K mg base CX0 "_law_bent" 2 (sp0 K 3 m__law_bent) := defD_ok (st := s__law_bent) (c.d.def_ 17 (d := dd__law_bent) rfl) (He.glo_ok X G (c.d.fact 17 (f := .glo "_law_bent") rfl)) sc__law_bent rfl rfl (fun _ _ _ _ _ _ us hl => match us, hl with | [_, _, _], _ => rfl) (d__law_bent nm D__law_draw)
  have D_joining_of : DefOk P w K mg base CX0 "joining_of" 3 (sp0 K 1 m_joining_of) := defD_ok (st := s_joining_of) (c.d.def_ 18 (d := dd_joining_of) rfl) (He.glo_ok X G (c.d.fact 18 (f := .glo "joining_of") rfl)) sc_joining_of rfl rfl (fun _ _ _ _ _ _ us hl => match us, hl with | [_], _ => rfl) (d_joining_of nm D_is_row D_is_whole D_is_turn)
  have D_need_names : DefOk P w K mg base (L2.CX P w) "need_names" 3 (spE K 3 m_need_names) := defD_okE (st := s_need_names) (c.d.def_ 19 (d := dd_need_names) rfl) (He.glo_ok X G (c.d.fact 19 (f := .glo "need_names") rfl)) sc_need_names rfl rfl (fun _ _ _ _ _ _ us hl => match us, hl with | [_, _, _], _ => rfl) (d_need_names nm D_is_row D_is_whole D_is_turn)
  have D__law_any : DefOk P w K mg base CX0 "_law_any" 3 (sp0 K 2 m__law_any) := defD_ok (st := s__law_any) (c.d.def_ 20 (d := dd__law_any) rfl) (He.glo_ok X G (c.d.fact 20 (f := .glo "_law_any") rfl)) sc__law_any rfl rfl (fun _ _ _ _ _ _ us hl => match us, hl with | [_, _], _ => rfl) (d__law_any nm D__law_draw D__law_turns D__law_set)
  have D__law_ball : DefOk P w K mg base CX0 "_law_ball" 3 (sp0 K 2 m__law_ball) := defD_ok (st := s__law_ball) (c.d.def_ 21 (d := dd__law_ball) rfl) (He.glo_ok X G (c.d.fact 21 (f := .glo "_law_ball") rfl)) sc__law_ball rfl rfl (fun _ _ _ _ _ _ us hl => match us, hl with | [_, _], _ => rfl) (d__law_ball nm D__law_draw D__law_set D__law_turns)
  have D__law_doubled : DefOk P w K mg base CX0 "_law_doubled" 3 (sp0 K 1 m__law_doubled) := defD_ok (st := s__law_doubled) (c.d.def_ 22 (d := dd__law_doubled) rfl) (He.glo_ok X G (c.d.fact 22 (f := .glo "_law_doubled") rfl)) sc__law_doubled rfl rfl (fun _ _ _ _ _ _ us hl => match us, hl with | [_], _ => rfl) (d__law_doubled nm D__law_set)
  have D__law_is_right : DefOk P w K mg base CX0 "_law_is_right" 3 (sp0 K 3 m__law_is_right) := defD_ok (st := s__law_is_right) (c.d.def_ 23 (d := dd__law_is_right) rfl) (He.glo_ok X G (c.d.fact 23 (f := .glo "_law_is_right") rfl)) sc__law_is_right rfl rfl (fun _ _ _ _ _ _ us hl => match us, hl with | [_, _, _], _ => rfl) (d__law_is_right nm D__law_is_number D__law_is_turn)
  have D_space_of : DefOk P w K mg base CX0 "space_of" 4 (sp0 K 1 m_space_of) := defD_ok (st := s_space_of) (c.d.def_ 24 (d := dd_space_of) rfl) (He.glo_ok X G (c.d.fact 24 (f := .glo "space_of") rfl)) sc_space_of rfl rfl (fun _ _ _ _ _ _ us hl => match us, hl with | [_], _ => rfl) (d_space_of nm D_is_row D_joining_of D_is_joined_back)
  have D__law_blocks : DefOk P w K mg base CX0 "_law_blocks" 4 (sp0 K 2 m__law_blocks) := defD_ok (st := s__law_blocks) (c.d.def_ 25 (d := dd__law_blocks) rfl) (He.glo_ok X G (c.d.fact 25 (f := .glo "_law_blocks") rfl)) sc__law_blocks rfl rfl (fun _ _ _ _ _ _ us hl => match us, hl with | [_, _], _ => rfl) (d__law_blocks nm D__law_draw D__law_doubled D__law_ball D__law_any)
  have D_renamed : DefOk P w K mg base (L2.CX P w) "renamed" 5 (spE K 3 m_renamed) := defD_okE (st := s_renamed) (c.d.def_ 26 (d := dd_renamed) rfl) (He.glo_ok X G (c.d.fact 26 (f := .glo "renamed") rfl)) sc_renamed rfl rfl (fun _ _ _ _ _ _ us hl => match us, hl with | [_, _, _], _ => rfl) (d_renamed nm D_space_of D_need_names D_behind D_contrary)
  have D__law_asked : DefOk P w K mg base CX0 "_law_asked" 6 (sp0 K 3 m__law_asked) := defD_ok (st := s__law_asked) (c.d.def_ 27 (d := dd__law_asked) rfl) (He.glo_ok X G (c.d.fact 27 (f := .glo "_law_asked") rfl)) sc__law_asked rfl rfl (fun _ _ _ _ _ _ us hl => match us, hl with | [_, _, _], _ => rfl) (d__law_asked nm D_renamed D__law_kind_of)
  have D__law_alike : ∀ k, DefOk P w K mg base CX0 "_law_alike" (1 + k) (sp0 K 2 (m__law_alike k)) := by
    intro k
    have FF := c.d.def_ 28 (d := dd__law_alike) rfl
    have gg := He.glo_ok X G (c.d.fact 28 (f := .glo "_law_alike") rfl)
    induction k with
    | zero => exact defD_bad (st := s__law_alike) (ps := ["found", "due"]) FF gg rfl (fun _ _ => rfl) (fun _ _ _ _ _ _ us hl => match us, hl with | [_, _], _ => rfl)
    | succ k ih => exact defD_ok (st := s__law_alike) FF gg sc__law_alike rfl rfl (fun _ _ _ _ _ _ us hl => match us, hl with | [_, _], _ => rfl) (d__law_alike nm  k (m__law_alike k) (mb__law_alike k) ih)
  exact fnG_body F sc_law rfl rfl (d_law nm D__law_reel D__law_shut D__law_blocks D__law_names D__law_draw D__law_bent D__law_is_right D__law_renamed (D__law_alike 8) D__law_asked)
end LW
end

/-! ### the law -/
open PySem PySem.W PySem.Calls PyProof.Rows
theorem PySem.Challenge.cw_blockrooms_k07_names_refused_holds : PySem.Challenge.rw_blockrooms_k07_names_refused.Holds := by
  w_on; o_law
  refine HandSHeadRun.head_any (r := OpenLaw.row PySem.Challenge.rw_blockrooms_k07_names_refused) (q := view (OpenLaw.row PySem.Challenge.rw_blockrooms_k07_names_refused).prog [45]) (H := LW.hhk) (ob := LW.hob) (M := 4000) (loose := LW.hloose) (d := HandSHeadRun.topDef (OpenLaw.row PySem.Challenge.rw_blockrooms_k07_names_refused).prog 45) (kwd := []) LW.hob_eq
    (by kernel_rfl) (fun s => by kernel_rfl) LW.hrun (by kernel_rfl) (by kernel_rfl) (by kernel_rfl) (by rfl) (by first | assumption | decide +kernel) (by decide +kernel) ⟨rfl, rfl, rfl, rfl, rfl, by decide +kernel⟩ ?hw ?hc
  case hw => w_witness2
  case hc =>
    refine BR.walk_ofG (l := PySem.Challenge.rw_blockrooms_k07_names_refused) (k := 10) (m := LW.m_law) rfl (by kernel_rfl) ⟨⟨rfl, by decide, by decide⟩, rfl⟩ LW.plain ?F
    intro w mg fa h Y G hmg0
    obtain ⟨K, KX, c⟩ := Y
    have hmg : mg ("law" : PySem.Str) = some (.ref fa) := by
      have e : (HandSHeadRun.topDef (OpenLaw.row PySem.Challenge.rw_blockrooms_k07_names_refused).prog 45).name = ("law" : PySem.Str) := by kernel_rfl
      rw [← e]
      exact hmg0
    obtain ⟨fd, hb, hF⟩ := LW.hfacts (P := (PySem.Challenge.rw_blockrooms_k07_names_refused).prog) (w := w) KX G hmg c
    exact ⟨K, fd, KX, hb, hF⟩
