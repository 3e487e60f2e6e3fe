import PyProof.Rows.All
import Wide.All
import OpenK.AllK
import Wide.FinOn
import PySem.Challenge.RW_blockrooms_k29_arcs_told
import HandS.Base
import HandS.Call
import HandS.List
import HandS.Words
import HandS.Comp
import HandS.Wide
import HandS.Deep
import HandS.IsInst
import HandS.Conv
import HandS.TupAny
import HandS.Strs
import HandS.Text
import PyProof.ReprRoads
import HandS.Ends
import HandS.Defaults
import HandS.HeadHook1
import HandS.HeadHook2
import HandS.Head0
import HandS.Head1
import HandS.Head2
import HandS.HeadEnd
import KE.KStateDown
set_option Elab.async false
set_option linter.all false
set_option maxRecDepth 100000
set_option maxHeartbeats 0
/-! The machine that the mirrors run on: data trees, a store of shared cells, slots; total functions, no program in sight. -/
namespace BR
open PySem

inductive D where
  | non
  | bl (b : Bool)
  | int (i : Int)
  | str (s : PySem.Str)
  | ty (n : String)
  | tup (xs : List D)
  | trn (xs : List D)
  | lst (xs : List D)
  | scr (xs : List D)
  | dK (ks : List L2.Key) (vs : List D)
  | dT (ks : List (List L2.Key)) (vs : List D)
  | ref (k : Nat)
  deriving Inhabited

abbrev Store := List (Option D)
structure Exc where
  cls : String
  arg : Option D
inductive Res (α : Type) where
  | ok (a : α) (S : Store)
  | exc (e : Exc) (S : Store)
  | bad
def Res.bind {α β : Type} (r : Res α) (f : α → Store → Res β) : Res β := match r with
  | .ok a S => f a S
  | .exc e S => .exc e S
  | .bad => .bad
@[simp] theorem bind_ok {α β : Type} (a : α) (S : Store) (f : α → Store → Res β) : (Res.ok a S).bind f = f a S := rfl
@[simp] theorem bind_exc {α β : Type} (e : Exc) (S : Store) (f : α → Store → Res β) : (Res.exc e S).bind f = .exc e S := rfl
@[simp] theorem bind_bad {α β : Type} (f : α → Store → Res β) : (Res.bad : Res α).bind f = .bad := rfl

inductive Slot where
  | no
  | val (d : D)
  | own (d : D)
  deriving Inhabited
abbrev Env := List Slot
abbrev EM := Env → Store → Res D
abbrev TM := Env → Store → Res Bool
abbrev LM := Env → Store → Res (List D)
inductive Out where
  | nx (r : Env)
  | rt (d : D)
  | bk (r : Env)
  | ct (r : Env)
abbrev SM := Env → Store → Res Out
abbrev FM := List D → Store → Res D

/-! ### expressions -/
def eC (d : D) : EM := fun _ S => .ok d S
/-- a slot's value, to be kept -/
def eV (i : Nat) : EM := fun r S => match r[i]? with
  | some (.val d) => .ok d S
  | _ => .bad
/-- a slot's value, to be read -/
def eB (i : Nat) : EM := fun r S => match r[i]? with
  | some (.val d) => .ok d S
  | some (.own d) => .ok d S
  | _ => .bad
def e1 (f : D → Store → Res D) (a : EM) : EM := fun r S => (a r S).bind f
def e2 (f : D → D → Store → Res D) (a b : EM) : EM := fun r S => (a r S).bind fun x S1 => (b r S1).bind fun y S2 => f x y S2
def aN : LM := fun _ S => .ok [] S
def aC (a : EM) (b : LM) : LM := fun r S => (a r S).bind fun x S1 => (b r S1).bind fun xs S2 => .ok (x :: xs) S2
def lim : Nat := 16777216
def eTup (a : LM) : EM := fun r S => (a r S).bind fun xs S1 => if xs.length ≤ lim then .ok (.tup xs) S1 else .bad
def eTrn (a : LM) : EM := fun r S => (a r S).bind fun xs S1 => if xs.length ≤ lim then .ok (.trn xs) S1 else .bad
def eA (f : List D → Store → Res D) (a : LM) : EM := fun r S => (a r S).bind f
/-- a fresh list that is never changed again -/
def eFrz (a : LM) : EM := fun r S => (a r S).bind fun xs S1 => .ok (.lst xs) S1
/-- a fresh list that is shared: a new cell -/
def eNew (a : LM) : EM := fun r S => (a r S).bind fun xs S1 => .ok (.ref S1.length) (S1 ++ [some (.lst xs)])
def eIf (t : TM) (a b : EM) : EM := fun r S => (t r S).bind fun c S1 => if c = true then a r S1 else b r S1
def eT (t : TM) : EM := fun r S => (t r S).bind fun c S1 => .ok (.bl c) S1

/-! ### tests -/
def tE (a : EM) : TM := fun r S => (a r S).bind fun x S1 => match x with
  | .bl b => .ok b S1
  | _ => .bad
def tNot (a : TM) : TM := fun r S => (a r S).bind fun c S1 => .ok (!c) S1
def tAnd (a b : TM) : TM := fun r S => (a r S).bind fun c S1 => if c = true then b r S1 else .ok false S1
def tOr (a b : TM) : TM := fun r S => (a r S).bind fun c S1 => if c = true then .ok true S1 else b r S1
def tYes : TM := fun _ S => .ok true S

/-! ### fresh lists -/
def lLst (a : LM) : LM := fun r S => (a r S).bind fun xs S1 => if xs.length ≤ lim then .ok xs S1 else .bad
def l1 (f : D → Store → Res (List D)) (a : EM) : LM := fun r S => (a r S).bind f
def l2 (f : D → D → Store → Res (List D)) (a b : EM) : LM := fun r S => (a r S).bind fun x S1 => (b r S1).bind fun y S2 => f x y S2
/-- targets -/
abbrev GM := D → Env → Option Env
def gN (i : Nat) : GM := fun d r => some (r.set i (.val d))
def gAll : List GM → List D → Env → Option Env
  | [], [], r => some r
  | g :: gs, d :: ds, r => (g d r).bind (gAll gs ds)
  | _, _, _ => none
def gT (gs : List GM) : GM := fun d r => match d with
  | .tup ds => gAll gs ds r
  | .trn ds => gAll gs ds r
  | _ => none
def wipeE (r : Env) : List Nat → Env
  | [] => r
  | i :: is => (wipeE r is).set i .no
/-- what is walked: these, or the cell k's list as it stands at each turn -/
inductive Src where
  | fix (ds : List D)
  | cell (k : Nat)
abbrev IM := Env → Store → Res Src
def fuel : Nat := 1000000000
def lstAt (S : Store) (k : Nat) : Option (List D) := match S[k]? with
  | some (some (.lst xs)) => some xs
  | _ => none
def lcGo (g : GM) (t : TM) (e : EM) (r : Env) : List D → List D → Store → Res (List D)
  | [], acc, S => .ok acc S
  | d :: ds, acc, S => match g d r with
    | none => .bad
    | some r1 => (t r1 S).bind fun c S1 => if c = true then (e r1 S1).bind fun y S2 => if acc.length < lim then lcGo g t e r ds (acc ++ [y]) S2 else .bad else lcGo g t e r ds acc S1
/-- [e for g in it if t] -/
def lcGoV (k : Nat) (g : GM) (t : TM) (e : EM) (r : Env) : Nat → Nat → List D → Store → Res (List D)
  | 0, _, _, _ => .bad
  | m + 1, i, acc, S => match lstAt S k with
    | none => .bad
    | some ds => match ds[i]? with
      | none => .ok acc S
      | some d => match g d r with
        | none => .bad
        | some r1 => (t r1 S).bind fun c S1 => if c = true then (e r1 S1).bind fun y S2 => if acc.length < lim then lcGoV k g t e r m (i + 1) (acc ++ [y]) S2 else .bad else lcGoV k g t e r m (i + 1) acc S1
def lLc (it : IM) (g : GM) (t : TM) (e : EM) (vs : List Nat) : LM := fun r S => (it r S).bind fun src S1 => match src with
  | .fix ds => lcGo g t e (wipeE r vs) ds [] S1
  | .cell k => lcGoV k g t e (wipeE r vs) fuel 0 [] S1

/-! ### what is walked -/
def big62 : Int := 4611686018427387904
def rangeD (i j : Int) : List D := (List.range (j - i).toNat).map fun (k : Nat) => D.int (i + (k : Int))
def iRange1 (a : EM) : IM := fun r S => (a r S).bind fun x S1 => match x with
  | .int j => if -big62 ≤ j ∧ j < big62 then .ok (.fix (rangeD 0 j)) S1 else .bad
  | _ => .bad
def iRange2 (a b : EM) : IM := fun r S => (a r S).bind fun x S1 => (b r S1).bind fun y S2 => match x, y with
  | .int i, .int j => if -big62 ≤ i ∧ i < big62 ∧ -big62 ≤ j ∧ j < big62 then .ok (.fix (rangeD i j)) S2 else .bad
  | _, _ => .bad
/-! ### statements -/
def mNil : SM := fun r S => .ok (.nx r) S
def mSeq (a b : SM) : SM := fun r S => match a r S with
  | .ok (.nx r1) S1 => b r1 S1
  | x => x
def mSet (g : GM) (e : EM) : SM := fun r S => (e r S).bind fun d S1 => match g d r with
  | some r1 => .ok (.nx r1) S1
  | none => .bad
/-- name = a fresh list of one's own -/
def mOwn (i : Nat) (a : LM) : SM := fun r S => (a r S).bind fun xs S1 => .ok (.nx (r.set i (.own (.lst xs)))) S1
/-- name = {} -/
def mOwnD (i : Nat) (d : D) : SM := fun r S => .ok (.nx (r.set i (.own d))) S
/-- a slot's own list is changed no more -/
def mFrz (i : Nat) (a : SM) : SM := fun r S => match r[i]? with
  | some (.own d) => a (r.set i (.val d)) S
  | _ => a r S
def mIf (t : TM) (a b : SM) : SM := fun r S => (t r S).bind fun c S1 => if c = true then a r S1 else b r S1
def mRet (e : EM) : SM := fun r S => (e r S).bind fun d S1 => .ok (.rt d) S1
def mRetN : SM := fun _ S => .ok (.rt .non) S
def mDrop (e : EM) : SM := fun r S => (e r S).bind fun _ S1 => .ok (.nx r) S1
def mBreak : SM := fun r S => .ok (.bk r) S
def mCont : SM := fun r S => .ok (.ct r) S
def mBad : SM := fun _ _ => .bad
def forGo (g : GM) (b : SM) : List D → SM
  | [], r, S => .ok (.nx r) S
  | d :: ds, r, S => match g d r with
    | none => .bad
    | some r1 => match b r1 S with
      | .ok (.nx r2) S2 => forGo g b ds r2 S2
      | .ok (.ct r2) S2 => forGo g b ds r2 S2
      | .ok (.bk r2) S2 => .ok (.nx r2) S2
      | x => x
def forGoV (k : Nat) (g : GM) (b : SM) : Nat → Nat → SM
  | 0, _, _, _ => .bad
  | m + 1, i, r, S => match lstAt S k with
    | none => .bad
    | some ds => match ds[i]? with
      | none => .ok (.nx r) S
      | some d => match g d r with
        | none => .bad
        | some r1 => match b r1 S with
          | .ok (.nx r2) S2 => forGoV k g b m (i + 1) r2 S2
          | .ok (.ct r2) S2 => forGoV k g b m (i + 1) r2 S2
          | .ok (.bk r2) S2 => .ok (.nx r2) S2
          | x => x
def mFor (it : IM) (g : GM) (b : SM) : SM := fun r S => (it r S).bind fun src S1 => match src with
  | .fix ds => forGo g b ds r S1
  | .cell k => forGoV k g b fuel 0 r S1
def whileGo (t : TM) (b : SM) : Nat → SM
  | 0, _, _ => .bad
  | n + 1, r, S => (t r S).bind fun c S1 => if c = true then (match b r S1 with
      | .ok (.nx r2) S2 => whileGo t b n r2 S2
      | .ok (.ct r2) S2 => whileGo t b n r2 S2
      | .ok (.bk r2) S2 => .ok (.nx r2) S2
      | x => x) else .ok (.nx r) S1
def mWhile (t : TM) (b : SM) : SM := fun r S => whileGo t b fuel r S
/-- name.append(e): the name's own list, or a shared one -/
def mApp (i : Nat) (e : EM) : SM := fun r S => match r[i]? with
  | some (.own (.lst xs)) => (e r S).bind fun d S1 => if xs.length < lim then .ok (.nx (r.set i (.own (.lst (xs ++ [d]))))) S1 else .bad
  | some (.val (.ref k)) => (match lstAt S k with
    | some _ => (e r S).bind fun d S1 => (match lstAt S1 k with
      | some xs => if xs.length < lim then .ok (.nx r) (S1.set k (some (.lst (xs ++ [d])))) else .bad
      | none => .bad)
    | none => .bad)
  | _ => .bad
/-- name.extend(e) of the name's own list -/
def mExt (i : Nat) (e : EM) : SM := fun r S => match r[i]? with
  | some (.own (.lst xs)) => (e r S).bind fun d S1 => match d with
    | .lst ys => if xs.length + ys.length ≤ lim then .ok (.nx (r.set i (.own (.lst (xs ++ ys))))) S1 else .bad
    | _ => .bad
  | _ => .bad
/-- target = name.pop() of the name's own list -/
def mPop (g : GM) (i : Nat) : SM := fun r S => match r[i]? with
  | some (.own (.lst xs)) => (match xs[xs.length - 1]? with
    | some y => (match g y (r.set i (.own (.lst xs.dropLast))) with
      | some r1 => .ok (.nx r1) S
      | none => .bad)
    | none => .bad)
  | _ => .bad
def start (n : Nat) (ds : List D) : Env := ds.map Slot.val ++ List.replicate (n - ds.length) Slot.no
def runF (n : Nat) (m : SM) : FM := fun ds S => match m (start n ds) S with
  | .ok (.rt d) S1 => .ok d S1
  | .ok (.nx _) S1 => .ok .non S1
  | .ok _ _ => .bad
  | .exc e S1 => .exc e S1
  | .bad => .bad

/-! ### operations on values -/
def okI (c : Bool) (d : D) (S : Store) : Res D := if c = true then .ok d S else .bad
@[simp] theorem okI_true (d : D) (S : Store) : okI true d S = .ok d S := rfl
/-- what stands at a value: a cell's content, else itself -/
def vw (S : Store) : D → Option D
  | .ref k => match S[k]? with
    | some (some c) => some c
    | _ => none
  | d => some d
def seqD : D → Option (List D)
  | .tup xs => some xs
  | .trn xs => some xs
  | .lst xs => some xs
  | .scr xs => some xs
  | _ => none
def seqS (S : Store) (d : D) : Option (List D) := (vw S d).bind seqD
def iSeq (a : EM) : IM := fun r S => (a r S).bind fun x S1 => match x with
  | .ref k => (match lstAt S1 k with
    | some _ => .ok (.cell k) S1
    | none => .bad)
  | x => (match seqD x with
    | some xs => .ok (.fix xs) S1
    | none => .bad)
def dAdd : D → D → Store → Res D
  | .int i, .int j, S => .ok (.int (i + j)) S
  | .str x, .str y, S => okI (decide (x.length + y.length ≤ lim)) (.str (x ++ y)) S
  | .tup xs, .tup ys, S => okI (decide (xs.length + ys.length ≤ lim)) (.tup (xs ++ ys)) S
  | .lst xs, .lst ys, S => okI (decide (xs.length + ys.length ≤ lim)) (.lst (xs ++ ys)) S
  | _, _, _ => .bad
def dSub : D → D → Store → Res D
  | .int i, .int j, S => .ok (.int (i - j)) S
  | _, _, _ => .bad
def okRep (n : Nat) (k : Int) : Bool := decide (-9223372036854775808 ≤ k ∧ k < 9223372036854775808 ∧ n * k.toNat ≤ lim)
def dMul : D → D → Store → Res D
  | .int i, .int j, S => okI (decide (i.natAbs.log2 + j.natAbs.log2 < 1000000)) (.int (i * j)) S
  | .lst xs, .int k, S => okI (okRep xs.length k) (.lst (List.replicate k.toNat xs).flatten) S
  | _, _, _ => .bad
def dFdiv : D → D → Store → Res D
  | .int i, .int j, S => okI (decide (0 < j ∧ j.natAbs.log2 < 9000)) (.int (i / j)) S
  | _, _, _ => .bad
def dMod : D → D → Store → Res D
  | .int i, .int j, S => okI (decide (0 < j)) (.int (i % j)) S
  | _, _, _ => .bad
def dPow : D → D → Store → Res D
  | .int i, .int j, S => okI (decide (0 ≤ j ∧ j ≤ 1000000 ∧ i.natAbs < 18446744073709551616)) (.int (i ^ j.toNat)) S
  | _, _, _ => .bad
def dNeg : D → Store → Res D
  | .int i, S => .ok (.int (-i)) S
  | _, _ => .bad
def dLt : D → D → Store → Res D
  | .int i, .int j, S => .ok (.bl (decide (i < j))) S
  | _, _, _ => .bad
def dLe : D → D → Store → Res D
  | .int i, .int j, S => .ok (.bl (decide (i ≤ j))) S
  | _, _, _ => .bad
def dGt : D → D → Store → Res D
  | .int i, .int j, S => .ok (.bl (decide (j < i))) S
  | _, _, _ => .bad
def dGe : D → D → Store → Res D
  | .int i, .int j, S => .ok (.bl (decide (j ≤ i))) S
  | _, _, _ => .bad
def isNon : D → Bool
  | .non => true
  | _ => false
def dIs : D → D → Store → Res D
  | x, .non, S => .ok (.bl (isNon x)) S
  | _, _, _ => .bad
def dIsNot : D → D → Store → Res D
  | x, .non, S => .ok (.bl (!isNon x)) S
  | _, _, _ => .bad
/-! == -/
def flatD : D → Bool
  | .non | .bl _ | .int _ | .str _ => true
  | _ => false
def eqF : D → D → Bool
  | .non, .non => true
  | .bl a, .bl b => a == b
  | .bl a, .int b => (if a then 1 else 0) == b
  | .int a, .bl b => a == (if b then 1 else 0)
  | .int a, .int b => a == b
  | .str a, .str b => a == b
  | _, _ => false
mutual
def toP : D → PyData
  | .bl b => .bool b
  | .int i => .int i
  | .str s => .str s
  | .tup ds => .tuple (toPs ds)
  | .trn ds => .tuple (toPs ds)
  | .lst ds => .list (toPs ds)
  | .scr ds => .list (toPs ds)
  | .non | .ty _ | .dK _ _ | .dT _ _ | .ref _ => .none
def toPs : List D → List PyData
  | [] => []
  | d :: ds => toP d :: toPs ds
end
/-- of a depth of less than k, without cells -/
def okP : Nat → D → Bool
  | 0, _ => false
  | k + 1, d => match d with
    | .non | .bl _ | .int _ => true
    | .str s => PyData.strOk s
    | .tup ds => ds.all (okP k)
    | .trn ds => ds.all (okP k)
    | .lst ds => ds.all (okP k)
    | .scr ds => ds.all (okP k)
    | .ty _ | .dK _ _ | .dT _ _ | .ref _ => false
def eqD (x y : D) : Bool := PyData.eqv (toP x) (toP y)
def deep : Nat := 60
def dEq (x y : D) (S : Store) : Res D := match vw S x, vw S y with
  | some a, some b => okI (okP deep a && okP deep b) (.bl (eqD a b)) S
  | _, _ => .bad
def dNe (x y : D) (S : Store) : Res D := match vw S x, vw S y with
  | some a, some b => okI (okP deep a && okP deep b) (.bl (!eqD a b)) S
  | _, _ => .bad
/-- x in y -/
def inD (x y : D) (S : Store) : Option Bool := match vw S y with
  | some (.tup ds) => if (flatD x && ds.all flatD) = true then some (ds.any fun z => eqF z x) else none
  | some (.trn ds) => if (flatD x && ds.all flatD) = true then some (ds.any fun z => eqF z x) else none
  | some (.lst ds) => if (okP deep x && okP deep (.lst ds)) = true then some (ds.any fun z => eqD z x) else none
  | some (.scr ds) => if (okP deep x && okP deep (.scr ds)) = true then some (ds.any fun z => eqD z x) else none
  | _ => none
def dIn (x y : D) (S : Store) : Res D := match inD x y S with
  | some b => .ok (.bl b) S
  | none => .bad
def dNotIn (x y : D) (S : Store) : Res D := match inD x y S with
  | some b => .ok (.bl (!b)) S
  | none => .bad
def dLen (d : D) (S : Store) : Res D := match vw S d with
  | some (.str x) => okI (decide (x.length ≤ lim)) (.int x.length) S
  | some c => (match seqD c with
    | some xs => .ok (.int xs.length) S
    | none => .bad)
  | none => .bad
/-- xs[i] -/
def dIdx (d i : D) (S : Store) : Res D := match i with
  | .int j => (match seqS S d with
    | some xs => (match L2.atI xs j with
      | some x => .ok x S
      | none => .bad)
    | none => .bad)
  | _ => .bad
/-- list(x), tuple(x) -/
def lList (d : D) (S : Store) : Res (List D) := match seqS S d with
  | some xs => .ok xs S
  | none => .bad
def dTuple (d : D) (S : Store) : Res D := match vw S d with
  | some (.tup xs) => .ok (.tup xs) S
  | some (.trn xs) => .ok (.trn xs) S
  | some (.lst xs) => .ok (.tup xs) S
  | some (.scr xs) => .ok (.tup xs) S
  | _ => .bad
def dTrn (d : D) (S : Store) : Res D := match vw S d with
  | some (.tup xs) => .ok (.tup xs) S
  | some (.trn xs) => .ok (.trn xs) S
  | some (.lst xs) => .ok (.trn xs) S
  | some (.scr xs) => .ok (.trn xs) S
  | _ => .bad
def blsD : List D → Option (List Bool)
  | [] => some []
  | .bl b :: ds => (blsD ds).map (b :: ·)
  | _ => none
def intsD : List D → Option (List Int)
  | [] => some []
  | .int i :: ds => (intsD ds).map (i :: ·)
  | _ => none
def lstD : D → Option (List D)
  | .lst xs => some xs
  | .scr xs => some xs
  | _ => none
def lstS (S : Store) (d : D) : Option (List D) := (vw S d).bind lstD
def dAll (d : D) (S : Store) : Res D := match (lstS S d).bind blsD with
  | some bs => .ok (.bl (bs.all id)) S
  | none => .bad
def dAny (d : D) (S : Store) : Res D := match (lstS S d).bind blsD with
  | some bs => .ok (.bl (bs.any id)) S
  | none => .bad
def dSum (d : D) (S : Store) : Res D := match (lstS S d).bind intsD with
  | some is => .ok (.int is.sum) S
  | none => .bad
def dMax2 : D → D → Store → Res D
  | .int i, .int j, S => .ok (.int (if j > i then j else i)) S
  | _, _, _ => .bad
def dMin2 : D → D → Store → Res D
  | .int i, .int j, S => .ok (.int (if j < i then j else i)) S
  | _, _, _ => .bad
def dAbs : D → Store → Res D
  | .int i, S => .ok (.int (if i < 0 then -i else i)) S
  | _, _ => .bad
def dInt : D → Store → Res D
  | .int i, S => .ok (.int i) S
  | .bl b, S => .ok (.int (if b then 1 else 0)) S
  | _, _ => .bad
/-- a value's built-in type -/
def tyD : D → String
  | .non => "NoneType"
  | .bl _ => "bool"
  | .int _ => "int"
  | .str _ => "str"
  | .ty _ => "type"
  | .tup _ | .trn _ => "tuple"
  | .lst _ | .scr _ => "list"
  | .dK _ _ | .dT _ _ => "dict"
  | .ref _ => "object"
def subTy (t c : String) : Bool := t == c || (t == "bool" && c == "int")
def dIsi (c : List String) (d : D) (S : Store) : Res D := match vw S d with
  | some (.ty _) => .bad
  | some (.ref _) => .bad
  | some x => .ok (.bl (c.any fun t => subTy (tyD x) t)) S
  | none => .bad
/-- xs[a:b] of a list: new -/
def cutD (xs : List D) (lo hi : Option Int) : List D := (xs.drop (HT.sIx xs.length 0 lo)).take (HT.sIx xs.length xs.length hi - HT.sIx xs.length 0 lo)
def partD : Option D → Option (Option Int)
  | none => some none
  | some (.int i) => some (some i)
  | some _ => none
abbrev PM := Env → Store → Res (Option Int)
def pNo : PM := fun _ S => .ok none S
def pSo (a : EM) : PM := fun r S => (a r S).bind fun x S1 => match x with
  | .int i => .ok (some i) S1
  | _ => .bad
def cutT (z : PySem.Str) (lo hi : Option Int) : PySem.Str := ⟨((z.cps.toList.drop (HT.sIx z.length 0 lo)).take (HT.sIx z.length z.length hi - HT.sIx z.length 0 lo)).toArray⟩
def lSl (a : EM) (lo hi : PM) : LM := fun r S => (a r S).bind fun x S1 => (lo r S1).bind fun i S2 => (hi r S2).bind fun j S3 => match (vw S3 x).bind lstD with
  | some xs => .ok (cutD xs i j) S3
  | none => .bad
def eSl (a : EM) (lo hi : PM) : EM := fun r S => (a r S).bind fun x S1 => (lo r S1).bind fun i S2 => (hi r S2).bind fun j S3 => match vw S3 x with
  | some (.lst xs) => .ok (.lst (cutD xs i j)) S3
  | some (.scr xs) => .ok (.lst (cutD xs i j)) S3
  | some (.tup xs) => .ok (.tup (cutD xs i j)) S3
  | some (.str x) => okI (decide (x.length ≤ lim)) (.str (cutT x i j)) S3
  | _ => .bad
/-- repr -/
def dRepr (d : D) (S : Store) : Res D := match vw S d with
  | some c => okI (okP deep c && (toP c).showable && decide ((toP c).shown.length ≤ lim)) (.str (toP c).shown) S
  | none => .bad
/-- name[i] = e, o[i] = e -/
def mSetV (x : Nat) (i e : EM) : SM := fun r S => (e r S).bind fun v S1 => match r[x]? with
  | some (.own (.lst xs)) => (i r S1).bind fun j S2 => (match j with
    | .int n => (match L2.ixN xs.length n with
      | some p => .ok (.nx (r.set x (.own (.lst (xs.set p v))))) S2
      | none => .bad)
    | _ => .bad)
  | _ => .bad
def mSetE (o i e : EM) : SM := fun r S => (e r S).bind fun v S1 => (o r S1).bind fun x S2 => (i r S2).bind fun j S3 => match x, j with
  | .ref k, .int n => (match lstAt S3 k with
    | some xs => (match L2.ixN xs.length n with
      | some p => .ok (.nx r) (S3.set k (some (.lst (xs.set p v))))
      | none => .bad)
    | none => .bad)
  | _, _ => .bad
/-- o.append(e), o.pop(i), o.pop() of a shared list -/
def mAppE (o e : EM) : SM := fun r S => (o r S).bind fun x S1 => match x with
  | .ref k => (match lstAt S1 k with
    | some _ => (e r S1).bind fun v S2 => (match lstAt S2 k with
      | some xs => if xs.length < lim then .ok (.nx r) (S2.set k (some (.lst (xs ++ [v])))) else .bad
      | none => .bad)
    | none => .bad)
  | _ => .bad
def ePopAt (o i : EM) : EM := fun r S => (o r S).bind fun x S1 => match x with
  | .ref k => (match lstAt S1 k with
    | some _ => (i r S1).bind fun j S2 => (match lstAt S2 k, j with
      | some xs, .int n => if -9223372036854775808 ≤ n ∧ n < 9223372036854775808 then (match L2.ixN xs.length n with
        | some p => (match xs[p]? with
          | some y => .ok y (S2.set k (some (.lst (xs.eraseIdx p))))
          | none => .bad)
        | none => .bad) else .bad
      | _, _ => .bad)
    | none => .bad)
  | _ => .bad
def ePop (o : EM) : EM := fun r S => (o r S).bind fun x S1 => match x with
  | .ref k => (match lstAt S1 k with
    | some xs => (match xs[xs.length - 1]? with
      | some y => .ok y (S1.set k (some (.lst xs.dropLast)))
      | none => .bad)
    | none => .bad)
  | _ => .bad
/-- the first place of an equal flat one -/
def idxOf (x : D) : List D → Nat → Option Nat
  | [], _ => none
  | d :: ds, k => if eqF d x = true then some k else idxOf x ds (k + 1)
def dIndexL (xs x : D) (S : Store) : Res D := match lstS S xs with
  | some ds => if (flatD x && ds.all flatD) = true then (match idxOf x ds 0 with
    | some k => .ok (.int k) S
    | none => .bad) else .bad
  | none => .bad
def dIndexT (xs x : D) (S : Store) : Res D := match xs with
  | .trn ds => if (flatD x && ds.all flatD) = true then (match idxOf x ds 0 with
    | some k => .ok (.int k) S
    | none => .bad) else .bad
  | _ => .bad
def eIndexL (o i : EM) : EM := fun r S => (o r S).bind fun x S1 => match lstS S1 x with
  | some _ => (i r S1).bind fun y S2 => dIndexL x y S2
  | none => .bad
def eIndexT (o i : EM) : EM := fun r S => (o r S).bind fun x S1 => match x with
  | .trn ds => (i r S1).bind fun y S2 => dIndexT (.trn ds) y S2
  | _ => .bad
end BR

/-! The machine against the hand layer: what stands for what, and what an evaluation may change. -/
namespace BR
open PySem PySem.Spec PyProof.Rows L2

/-- a tuple without a dict of its own -/
def TrN (K : PySem.W.Frag) (G : Hp) (a : Addr) (vs : List V) : Prop := (∃ o, G a = some (.frz o (.tup vs)) ∧ o.dict = none) ∨
  ∃ (o : Obj) (its : Array Value) (n : Nat), K.lookup a = some o ∧ o.cls = .type "tuple" ∧ o.dict = none ∧ o.data = .seq its n ∧ its.size ≤ sizeLine ∧ Vals vs its.toList
theorem TrN.sq {K : PySem.W.Frag} {G : Hp} {a : Addr} {vs : List V} (h : TrN K G a vs) : SqT K G a vs := by
  rcases h with ⟨o, h, _⟩ | ⟨o, its, n, h1, h2, _, h4, h5, h6⟩
  · exact .inl (.inr ⟨o, h⟩)
  · exact .inr ⟨o, its, n, h1, h2, h4, h5, h6⟩
mutual
def Rel (K : PySem.W.Frag) (G : Hp) (n : List Addr) : D → V → Prop
  | .non, v => v = .non
  | .bl b, v => v = .bl b
  | .int i, v => v = .int i
  | .str s, v => v = .str s
  | .ty t, v => v = .ty t
  | .tup ds, v => ∃ a vs, v = .ref a ∧ SqT K G a vs ∧ RelL K G n ds vs
  | .trn ds, v => ∃ a vs, v = .ref a ∧ TrN K G a vs ∧ RelL K G n ds vs
  | .lst ds, v => ∃ a vs, v = .ref a ∧ G a = some (.lst vs) ∧ RelL K G n ds vs
  | .scr ds, v => ∃ a vs, v = .ref a ∧ SqL K G a vs ∧ RelL K G n ds vs
  | .dK ks ds, v => ∃ a kvs, v = .ref a ∧ G a = some (.dK kvs) ∧ ks = kvs.map (·.1) ∧ RelL K G n ds (kvs.map (·.2))
  | .dT ks ds, v => ∃ a kvs, v = .ref a ∧ G a = some (.dT kvs) ∧ ks = kvs.map (·.1) ∧ RelL K G n ds (kvs.map (·.2))
  | .ref k, v => ∃ a, v = .ref a ∧ n[k]? = some a
def RelL (K : PySem.W.Frag) (G : Hp) (n : List Addr) : List D → List V → Prop
  | [], vs => vs = []
  | d :: ds, vs => ∃ v r, vs = v :: r ∧ Rel K G n d v ∧ RelL K G n ds r
end
/-- what stands at a changing object -/
def HoR (K : PySem.W.Frag) (G : Hp) (n : List Addr) : D → HO → Prop
  | .lst ds, o => ∃ vs, o = .lst vs ∧ RelL K G n ds vs
  | .dK ks ds, o => ∃ kvs, o = .dK kvs ∧ ks = kvs.map (·.1) ∧ RelL K G n ds (kvs.map (·.2))
  | .dT ks ds, o => ∃ kvs, o = .dT kvs ∧ ks = kvs.map (·.1) ∧ RelL K G n ds (kvs.map (·.2))
  | _, _ => False
def Sub (G G' : Hp) : Prop := ∀ a o, G a = some o → G' a = some o
theorem Sub.refl (G : Hp) : Sub G G := fun _ _ h => h
theorem Sub.trans {A B C : Hp} (x : Sub A B) (y : Sub B C) : Sub A C := fun a o h => y a o (x a o h)
theorem Sub.rd {G G' : Hp} (h : Sub G G') {a : Addr} {u : HO} (r : Rd G a u) : Rd G' a u := by
  rcases r with r | ⟨o, r⟩
  · exact .inl (h _ _ r)
  · exact .inr ⟨o, h _ _ r⟩
theorem Sub.sl {K : PySem.W.Frag} {G G' : Hp} (h : Sub G G') {a : Addr} {xs : List V} (r : SqL K G a xs) : SqL K G' a xs := by
  rcases r with r | r
  · exact .inl (h.rd r)
  · exact .inr r
theorem Sub.st {K : PySem.W.Frag} {G G' : Hp} (h : Sub G G') {a : Addr} {xs : List V} (r : SqT K G a xs) : SqT K G' a xs := by
  rcases r with r | r
  · exact .inl (h.rd r)
  · exact .inr r
theorem Sub.tn {K : PySem.W.Frag} {G G' : Hp} (h : Sub G G') {a : Addr} {xs : List V} (r : TrN K G a xs) : TrN K G' a xs := by
  rcases r with ⟨o, r, z⟩ | r
  · exact .inl ⟨o, h _ _ r, z⟩
  · exact .inr r
def Pre (n n' : List Addr) : Prop := ∃ t, n' = n ++ t
theorem Pre.refl (n : List Addr) : Pre n n := ⟨[], by simp⟩
theorem Pre.trans {a b c : List Addr} (x : Pre a b) (y : Pre b c) : Pre a c := by
  obtain ⟨s, rfl⟩ := x
  obtain ⟨t, rfl⟩ := y
  exact ⟨s ++ t, by simp⟩
theorem Pre.get {n n' : List Addr} (h : Pre n n') {k : Nat} {a : Addr} (e : n[k]? = some a) : n'[k]? = some a := by
  obtain ⟨t, rfl⟩ := h
  have hk : k < n.length := (List.getElem?_eq_some_iff.mp e).1
  rw [List.getElem?_append_left hk]
  exact e
theorem Pre.len {n n' : List Addr} (h : Pre n n') : n.length ≤ n'.length := by
  obtain ⟨t, rfl⟩ := h
  simp
theorem Pre.back {n n' : List Addr} (h : Pre n n') {k : Nat} {a : Addr} (e : n'[k]? = some a) (hk : k < n.length) : n[k]? = some a := by
  obtain ⟨t, rfl⟩ := h
  rw [List.getElem?_append_left hk] at e
  exact e

section
variable {K : PySem.W.Frag} {G G' : Hp} {n n' : List Addr}
mutual
theorem Rel.mono (hs : Sub G G') (hp : Pre n n') : ∀ (d : D) (v : V), Rel K G n d v → Rel K G' n' d v
  | .non, _, h | .bl _, _, h | .int _, _, h | .str _, _, h | .ty _, _, h => by
    simpa only [Rel] using h
  | .tup ds, v, h => by
    simp only [Rel] at h ⊢
    obtain ⟨a, vs, e, s, r⟩ := h
    exact ⟨a, vs, e, hs.st s, RelL.mono hs hp ds vs r⟩
  | .trn ds, v, h => by
    simp only [Rel] at h ⊢
    obtain ⟨a, vs, e, s, r⟩ := h
    exact ⟨a, vs, e, hs.tn s, RelL.mono hs hp ds vs r⟩
  | .lst ds, v, h => by
    simp only [Rel] at h ⊢
    obtain ⟨a, vs, e, s, r⟩ := h
    exact ⟨a, vs, e, hs _ _ s, RelL.mono hs hp ds vs r⟩
  | .scr ds, v, h => by
    simp only [Rel] at h ⊢
    obtain ⟨a, vs, e, s, r⟩ := h
    exact ⟨a, vs, e, hs.sl s, RelL.mono hs hp ds vs r⟩
  | .dK ks ds, v, h => by
    simp only [Rel] at h ⊢
    obtain ⟨a, kvs, e, s, ek, r⟩ := h
    exact ⟨a, kvs, e, hs _ _ s, ek, RelL.mono hs hp ds _ r⟩
  | .dT ks ds, v, h => by
    simp only [Rel] at h ⊢
    obtain ⟨a, kvs, e, s, ek, r⟩ := h
    exact ⟨a, kvs, e, hs _ _ s, ek, RelL.mono hs hp ds _ r⟩
  | .ref k, v, h => by
    simp only [Rel] at h ⊢
    obtain ⟨a, e, s⟩ := h
    exact ⟨a, e, hp.get s⟩
theorem RelL.mono (hs : Sub G G') (hp : Pre n n') : ∀ (ds : List D) (vs : List V), RelL K G n ds vs → RelL K G' n' ds vs
  | [], vs, h => by simpa only [RelL] using h
  | d :: ds, vs, h => by
    simp only [RelL] at h ⊢
    obtain ⟨v, r, e, h1, h2⟩ := h
    exact ⟨v, r, e, Rel.mono hs hp d v h1, RelL.mono hs hp ds r h2⟩
end
theorem HoR.mono (hs : Sub G G') (hp : Pre n n') : ∀ (d : D) (o : HO), HoR K G n d o → HoR K G' n' d o
  | .lst ds, o, ⟨vs, e, r⟩ => ⟨vs, e, RelL.mono hs hp _ _ r⟩
  | .dK ks ds, o, ⟨kvs, e, ek, r⟩ => ⟨kvs, e, ek, RelL.mono hs hp _ _ r⟩
  | .dT ks ds, o, ⟨kvs, e, ek, r⟩ => ⟨kvs, e, ek, RelL.mono hs hp _ _ r⟩
  | .non, _, h | .bl _, _, h | .int _, _, h | .str _, _, h | .ty _, _, h | .tup _, _, h | .trn _, _, h | .scr _, _, h | .ref _, _, h => h.elim
theorem RelL.len : ∀ {ds : List D} {vs : List V}, RelL K G n ds vs → ds.length = vs.length
  | [], vs, h => by simp only [RelL] at h; subst h; rfl
  | d :: ds, vs, h => by
    simp only [RelL] at h
    obtain ⟨v, r, e, _, h2⟩ := h
    subst e
    simp [h2.len]
theorem RelL.cons {d : D} {ds : List D} {v : V} {vs : List V} (h : Rel K G n d v) (hr : RelL K G n ds vs) : RelL K G n (d :: ds) (v :: vs) := by
  simp only [RelL]
  exact ⟨v, vs, rfl, h, hr⟩
theorem RelL.nil : RelL K G n [] [] := by simp only [RelL]
theorem RelL.append : ∀ {ds es : List D} {vs ws : List V}, RelL K G n ds vs → RelL K G n es ws → RelL K G n (ds ++ es) (vs ++ ws)
  | [], es, vs, ws, h, h2 => by simp only [RelL] at h; subst h; exact h2
  | d :: ds, es, vs, ws, h, h2 => by
    simp only [RelL] at h
    obtain ⟨v, r, e, h3, h4⟩ := h
    subst e
    exact .cons h3 (RelL.append h4 h2)
theorem RelL.get : ∀ {ds : List D} {vs : List V} {i : Nat} {d : D}, RelL K G n ds vs → ds[i]? = some d → ∃ v, vs[i]? = some v ∧ Rel K G n d v
  | [], _, _, _, _, e => by simp at e
  | d :: ds, vs, i, x, h, e => by
    simp only [RelL] at h
    obtain ⟨v, r, ev, h3, h4⟩ := h
    subst ev
    cases i with
    | zero => simp at e; subst e; exact ⟨v, rfl, h3⟩
    | succ i => simpa using RelL.get (i := i) h4 (by simpa using e)
theorem RelL.set : ∀ {ds : List D} {vs : List V} (i : Nat) {d : D} {v : V}, RelL K G n ds vs → Rel K G n d v → RelL K G n (ds.set i d) (vs.set i v)
  | [], _, _, _, _, h, _ => by simp only [RelL] at h; subst h; exact .nil
  | d :: ds, vs, i, x, y, h, hx => by
    simp only [RelL] at h
    obtain ⟨v, r, ev, h3, h4⟩ := h
    subst ev
    cases i with
    | zero => exact .cons hx h4
    | succ i => exact .cons h3 (RelL.set i h4 hx)
theorem RelL.take : ∀ {ds : List D} {vs : List V} (k : Nat), RelL K G n ds vs → RelL K G n (ds.take k) (vs.take k)
  | [], _, k, h => by simp only [RelL] at h; subst h; simp; exact .nil
  | d :: ds, vs, k, h => by
    simp only [RelL] at h
    obtain ⟨v, r, ev, h3, h4⟩ := h
    subst ev
    cases k with
    | zero => exact .nil
    | succ k => exact .cons h3 (h4.take k)
theorem RelL.drop : ∀ {ds : List D} {vs : List V} (k : Nat), RelL K G n ds vs → RelL K G n (ds.drop k) (vs.drop k)
  | [], _, k, h => by simp only [RelL] at h; subst h; simp; exact .nil
  | d :: ds, vs, k, h => by
    have h0 := h
    simp only [RelL] at h
    obtain ⟨v, r, ev, h3, h4⟩ := h
    subst ev
    cases k with
    | zero => exact h0
    | succ k => exact h4.drop k
theorem RelL.erase : ∀ {ds : List D} {vs : List V} (k : Nat), RelL K G n ds vs → RelL K G n (ds.eraseIdx k) (vs.eraseIdx k)
  | [], _, k, h => by simp only [RelL] at h; subst h; exact .nil
  | d :: ds, vs, k, h => by
    simp only [RelL] at h
    obtain ⟨v, r, ev, h3, h4⟩ := h
    subst ev
    cases k with
    | zero => exact h4
    | succ k => exact .cons h3 (h4.erase k)
end

/-! ### states -/
def Live (n : List Addr) (S : Store) (a : Addr) : Prop := ∃ (k : Nat) (d : D), n[k]? = some a ∧ S[k]? = some (some d)
structure SR (K : PySem.W.Frag) (G : Hp) (n : List Addr) (S : Store) (H : Hp) : Prop where
  sub : Sub G H
  len : n.length = S.length
  cell : ∀ (k : Nat) (a : Addr) (d : D), n[k]? = some a → S[k]? = some (some d) → G a = none ∧ ∃ o, H a = some o ∧ HoR K G n d o
  inj : ∀ (j k : Nat) (a : Addr) (d e : D), n[j]? = some a → S[j]? = some (some d) → n[k]? = some a → S[k]? = some (some e) → j = k
theorem SR.live {K : PySem.W.Frag} {G : Hp} {n : List Addr} {S : Store} {H : Hp} (h : SR K G n S H) {a : Addr} (l : Live n S a) : G a = none ∧ ∃ o, H a = some o := by
  obtain ⟨k, d, e1, e2⟩ := l
  obtain ⟨g, o, ho, _⟩ := h.cell k a d e1 e2
  exact ⟨g, o, ho⟩
structure ER (K : PySem.W.Frag) (G : Hp) (n : List Addr) (S : Store) (H : Hp) (r : Env) (σ : L2.St) : Prop where
  len : r.length = σ.length
  val : ∀ (i : Nat) (d : D), r[i]? = some (.val d) → ∃ v, σ[i]? = some (some v) ∧ Rel K G n d v
  own : ∀ (i : Nat) (d : D), r[i]? = some (.own d) → ∃ a o, σ[i]? = some (some (.ref a)) ∧ G a = none ∧ ¬ Live n S a ∧ H a = some o ∧ HoR K G n d o
  inj : ∀ (i j : Nat) (a : Addr) (d e : D), r[i]? = some (.own d) → σ[i]? = some (some (.ref a)) → r[j]? = some (.own e) → σ[j]? = some (some (.ref a)) → i = j
def Own (r : Env) (σ : L2.St) (a : Addr) : Prop := ∃ (i : Nat) (d : D), r[i]? = some (.own d) ∧ σ[i]? = some (some (.ref a))
def NoO : Addr → Prop := fun _ => False
structure Post (K : PySem.W.Frag) (O : Addr → Prop) (G : Hp) (n : List Addr) (S : Store) (H : Hp) (G' : Hp) (n' : List Addr) (S' : Store) (H' : Hp) : Prop where
  sr0 : SR K G n S H
  sr : SR K G' n' S' H'
  sub : Sub G G'
  eta : Pre n n'
  frame : ∀ a o, H a = some o → ¬ Live n S a → ¬ O a → H' a = some o
  there : ∀ a o, H a = some o → ∃ o', H' a = some o'
  newc : ∀ (k : Nat) (a : Addr), n.length ≤ k → n'[k]? = some a → H a = none
  dead : ∀ k : Nat, S[k]? = some none → S'[k]? = some none
  gnew : ∀ a o, G' a = some o → G a = some o ∨ H a = none ∨ Live n S a ∨ O a
section
variable {K : PySem.W.Frag} {O O1 O2 : Addr → Prop} {G G1 G2 G' : Hp} {n n1 n2 n' : List Addr} {S S1 S2 S' : Store} {H H1 H2 H' : Hp} {r : Env} {σ : L2.St}
theorem Post.refl (h : SR K G n S H) : Post K O G n S H G n S H :=
  ⟨h, h, Sub.refl _, Pre.refl _, fun _ _ e _ _ => e, fun _ o e => ⟨o, e⟩, fun k a hk e => by
    have : k < n.length := (List.getElem?_eq_some_iff.mp e).1
    omega, fun _ e => e, fun _ _ e => .inl e⟩
theorem Post.back (p : Post K O G n S H G' n' S' H') {a : Addr} (e : H' a = none) : H a = none := by
  cases q : H a with
  | none => rfl
  | some o =>
    obtain ⟨o', q'⟩ := p.there a o q
    rw [e] at q'; cases q'
theorem Post.live (p : Post K O G n S H G' n' S' H') {a : Addr} (l : Live n' S' a) : Live n S a ∨ H a = none := by
  obtain ⟨k, d, e1, e2⟩ := l
  by_cases hk : k < n.length
  · have e3 := p.eta.back e1 hk
    have hS : k < S.length := by rw [← p.sr0.len]; exact hk
    cases q : S[k]? with
    | none => exact absurd (List.getElem?_eq_none_iff.mp q) (by omega)
    | some c =>
      cases c with
      | none =>
        have := p.dead k q
        rw [e2] at this; cases this
      | some d' => exact .inl ⟨k, d', e3, q⟩
  · exact .inr (p.newc k a (by omega) e1)
theorem Post.trans (p : Post K O1 G n S H G1 n1 S1 H1) (q : Post K O2 G1 n1 S1 H1 G2 n2 S2 H2) (ho : ∀ a, O2 a → O1 a ∨ H a = none) : Post K O1 G n S H G2 n2 S2 H2 := by
  refine ⟨p.sr0, q.sr, p.sub.trans q.sub, p.eta.trans q.eta, fun a o e nl no => ?_, fun a o e => ?_, fun k a hk e => ?_, fun k e => q.dead k (p.dead k e), fun a o e => ?_⟩
  · refine q.frame a o (p.frame a o e nl no) (fun l => ?_) fun x => ?_
    · rcases p.live l with l | l
      · exact nl l
      · rw [e] at l; cases l
    · rcases ho a x with x | x
      · exact no x
      · rw [e] at x; cases x
  · obtain ⟨o1, e1⟩ := p.there a o e
    exact q.there a o1 e1
  · by_cases h : k < n1.length
    · exact p.newc k a hk (q.eta.back e h)
    · exact p.back (q.newc k a (by omega) e)
  · rcases q.gnew a o e with x | x | x | x
    · exact p.gnew a o x
    · exact .inr (.inl (p.back x))
    · rcases p.live x with l | l
      · exact .inr (.inr (.inl l))
      · exact .inr (.inl l)
    · rcases ho a x with x | x
      · exact .inr (.inr (.inr x))
      · exact .inr (.inl x)
theorem Post.tr (p : Post K O G n S H G1 n1 S1 H1) (q : Post K NoO G1 n1 S1 H1 G2 n2 S2 H2) : Post K O G n S H G2 n2 S2 H2 := p.trans q fun _ x => x.elim
theorem Post.mono (p : Post K O1 G n S H G' n' S' H') (h : ∀ a, O1 a → O2 a) : Post K O2 G n S H G' n' S' H' :=
  ⟨p.sr0, p.sr, p.sub, p.eta, fun a o e nl no => p.frame a o e nl fun x => no (h a x), p.there, p.newc, p.dead, fun a o e => by
    rcases p.gnew a o e with x | x | x | x
    · exact .inl x
    · exact .inr (.inl x)
    · exact .inr (.inr (.inl x))
    · exact .inr (.inr (.inr (h a x)))⟩
theorem ER.post (e : ER K G n S H r σ) (p : Post K NoO G n S H G' n' S' H') : ER K G' n' S' H' r σ := by
  refine ⟨e.len, fun i d h => ?_, fun i d h => ?_, e.inj⟩
  · obtain ⟨v, h1, h2⟩ := e.val i d h
    exact ⟨v, h1, Rel.mono p.sub p.eta _ _ h2⟩
  · obtain ⟨a, o, h1, h2, h3, h4, h5⟩ := e.own i d h
    refine ⟨a, o, h1, ?_, fun l => ?_, p.frame a o h4 h3 (fun x => x), HoR.mono p.sub p.eta _ _ h5⟩
    · cases q : G' a with
      | none => rfl
      | some u =>
        rcases p.gnew a u q with x | x | x | x
        · rw [h2] at x; cases x
        · rw [h4] at x; cases x
        · exact absurd x h3
        · exact x.elim
    · rcases p.live l with l | l
      · exact h3 l
      · rw [h4] at l; cases l
/-- a new object that will not change -/
theorem Post.frz {p : Addr} {o : HO} (h : SR K G n S H) (hp : H p = none) : Post K NoO G n S H (upd G p o) n S (upd H p o) := by
  have gp : G p = none := by
    cases q : G p with
    | none => rfl
    | some u => rw [h.sub p u q] at hp; cases hp
  have s1 : Sub G (upd G p o) := fun a u e => by
    by_cases x : a = p
    · subst x; rw [gp] at e; cases e
    · rw [upd_ne x]; exact e
  have nl : ∀ a, Live n S a → a ≠ p := fun a l x => by
    obtain ⟨_, u, e⟩ := h.live l
    rw [x, hp] at e; cases e
  refine ⟨h, ⟨fun a u e => ?_, h.len, fun k a d e1 e2 => ?_, h.inj⟩, s1, Pre.refl _, fun a u e _ _ => ?_, fun a u e => ?_, fun k a hk e => ?_, fun _ e => e, fun a u e => ?_⟩
  · by_cases x : a = p
    · subst x; rw [upd_same] at e ⊢; exact e
    · rw [upd_ne x] at e ⊢; exact h.sub a u e
  · obtain ⟨g1, u, g2, g3⟩ := h.cell k a d e1 e2
    have x := nl a ⟨k, d, e1, e2⟩
    exact ⟨by rw [upd_ne x]; exact g1, u, by rw [upd_ne x]; exact g2, HoR.mono s1 (Pre.refl _) _ _ g3⟩
  · have x : a ≠ p := fun x => by rw [x, hp] at e; cases e
    rw [upd_ne x]; exact e
  · have x : a ≠ p := fun x => by rw [x, hp] at e; cases e
    exact ⟨u, by rw [upd_ne x]; exact e⟩
  · have : k < n.length := (List.getElem?_eq_some_iff.mp e).1
    omega
  · by_cases x : a = p
    · subst x; exact .inr (.inl hp)
    · rw [upd_ne x] at e; exact .inl e
/-- a new object, hidden -/
theorem Post.hid {p : Addr} {o : HO} (h : SR K G n S H) (hp : H p = none) : Post K NoO G n S H G n S (upd H p o) := by
  have nl : ∀ a, Live n S a → a ≠ p := fun a l x => by
    obtain ⟨_, u, e⟩ := h.live l
    rw [x, hp] at e; cases e
  refine ⟨h, ⟨fun a u e => ?_, h.len, fun k a d e1 e2 => ?_, h.inj⟩, Sub.refl _, Pre.refl _, fun a u e _ _ => ?_, fun a u e => ?_, fun k a hk e => ?_, fun _ e => e, fun a u e => .inl e⟩
  · have e' := h.sub a u e
    have x : a ≠ p := fun x => by rw [x, hp] at e'; cases e'
    rw [upd_ne x]; exact e'
  · obtain ⟨g1, u, g2, g3⟩ := h.cell k a d e1 e2
    exact ⟨g1, u, by rw [upd_ne (nl a ⟨k, d, e1, e2⟩)]; exact g2, g3⟩
  · have x : a ≠ p := fun x => by rw [x, hp] at e; cases e
    rw [upd_ne x]; exact e
  · have x : a ≠ p := fun x => by rw [x, hp] at e; cases e
    exact ⟨u, by rw [upd_ne x]; exact e⟩
  · have : k < n.length := (List.getElem?_eq_some_iff.mp e).1
    omega
/-- a hidden object (not among the cells, not kept) changes -/
theorem Post.hidW {p : Addr} {o u0 : HO} (h : SR K G n S H) (hp : H p = some u0) (hg : G p = none) (hl : ¬ Live n S p) (ho : O p) : Post K O G n S H G n S (upd H p o) := by
  refine ⟨h, ⟨fun a u e => ?_, h.len, fun k a d e1 e2 => ?_, h.inj⟩, Sub.refl _, Pre.refl _, fun a u e _ no => ?_, fun a u e => ?_, fun k a hk e => ?_, fun _ e => e, fun a u e => .inl e⟩
  · have x : a ≠ p := fun x => by rw [x, hg] at e; cases e
    rw [upd_ne x]; exact h.sub a u e
  · obtain ⟨g1, u, g2, g3⟩ := h.cell k a d e1 e2
    have x : a ≠ p := fun x => hl (x ▸ ⟨k, d, e1, e2⟩)
    exact ⟨g1, u, by rw [upd_ne x]; exact g2, g3⟩
  · have x : a ≠ p := fun x => no (x ▸ ho)
    rw [upd_ne x]; exact e
  · by_cases x : a = p
    · exact ⟨o, by rw [x, upd_same]⟩
    · exact ⟨u, by rw [upd_ne x]; exact e⟩
  · have : k < n.length := (List.getElem?_eq_some_iff.mp e).1
    omega
/-- a hidden object is kept from now on -/
theorem Post.keep {p : Addr} {o : HO} (h : SR K G n S H) (hp : H p = some o) (hg : G p = none) (hl : ¬ Live n S p) (ho : O p) : Post K O G n S H (upd G p o) n S H := by
  have s1 : Sub G (upd G p o) := fun a u e => by
    by_cases x : a = p
    · subst x; rw [hg] at e; cases e
    · rw [upd_ne x]; exact e
  refine ⟨h, ⟨fun a u e => ?_, h.len, fun k a d e1 e2 => ?_, h.inj⟩, s1, Pre.refl _, fun a u e _ _ => e, fun a u e => ⟨u, e⟩, fun k a hk e => ?_, fun _ e => e, fun a u e => ?_⟩
  · by_cases x : a = p
    · subst x; rw [upd_same] at e; cases e; exact hp
    · rw [upd_ne x] at e; exact h.sub a u e
  · obtain ⟨g1, u, g2, g3⟩ := h.cell k a d e1 e2
    have x : a ≠ p := fun x => hl (x ▸ ⟨k, d, e1, e2⟩)
    exact ⟨by rw [upd_ne x]; exact g1, u, g2, HoR.mono s1 (Pre.refl _) _ _ g3⟩
  · have : k < n.length := (List.getElem?_eq_some_iff.mp e).1
    omega
  · by_cases x : a = p
    · subst x; exact .inr (.inr (.inr ho))
    · rw [upd_ne x] at e; exact .inl e
/-- a hidden object becomes a cell -/
theorem Post.newCell {p : Addr} {o : HO} {d : D} (h : SR K G n S H) (hp : H p = none) (hd : HoR K G n d o) : Post K NoO G n S H G (n ++ [p]) (S ++ [some d]) (upd H p o) := by
  have old : ∀ {k : Nat} {a : Addr} {c : D}, (n ++ [p])[k]? = some a → (S ++ [some d])[k]? = some (some c) → (n[k]? = some a ∧ S[k]? = some (some c)) ∨ (k = n.length ∧ a = p ∧ c = d) := fun {k a c} e1 e2 => by
    by_cases hk : k < n.length
    · rw [List.getElem?_append_left hk] at e1
      rw [List.getElem?_append_left (by rw [← h.len]; exact hk)] at e2
      exact .inl ⟨e1, e2⟩
    · have hk' : k = n.length := by
        have := (List.getElem?_eq_some_iff.mp e1).1
        simp at this; omega
      subst hk'
      rw [List.getElem?_append_right (Nat.le_refl _)] at e1
      have e3 : (S ++ [some d])[n.length]? = some (some d) := by
        rw [h.len, List.getElem?_append_right (Nat.le_refl _)]; simp
      rw [e3] at e2
      simp at e1 e2
      exact .inr ⟨rfl, e1.symm, e2.symm⟩
  have pl : ∀ k, n[k]? = some p → ∀ c, S[k]? = some (some c) → False := fun k e c ec => by
    obtain ⟨_, u, q⟩ := h.live ⟨k, c, e, ec⟩
    rw [hp] at q; cases q
  have gp : G p = none := by
    cases q : G p with
    | none => rfl
    | some u => rw [h.sub p u q] at hp; cases hp
  have pre : Pre n (n ++ [p]) := ⟨[p], rfl⟩
  refine ⟨h, ⟨fun a u e => ?_, by simp [h.len], fun k a c e1 e2 => ?_, fun j k a c e e1 e2 e3 e4 => ?_⟩, Sub.refl _, pre, fun a u e _ _ => ?_, fun a u e => ?_, fun k a hk e => ?_, fun k e => ?_, fun a u e => .inl e⟩
  · have e' := h.sub a u e
    have x : a ≠ p := fun x => by rw [x, hp] at e'; cases e'
    rw [upd_ne x]; exact e'
  · rcases old e1 e2 with ⟨f1, f2⟩ | ⟨f1, f2, f3⟩
    · obtain ⟨g1, u, g2, g3⟩ := h.cell k a c f1 f2
      have x : a ≠ p := fun x => by rw [x, hp] at g2; cases g2
      exact ⟨g1, u, by rw [upd_ne x]; exact g2, HoR.mono (Sub.refl _) pre _ _ g3⟩
    · subst f2 f3
      exact ⟨gp, o, upd_same, HoR.mono (Sub.refl _) pre _ _ hd⟩
  · rcases old e1 e2 with ⟨f1, f2⟩ | ⟨f1, f2, _⟩
    · rcases old e3 e4 with ⟨g1, g2⟩ | ⟨g1, g2, _⟩
      · exact h.inj j k a c e f1 f2 g1 g2
      · subst g2; exact (pl j f1 c f2).elim
    · rcases old e3 e4 with ⟨g1, g2⟩ | ⟨g1, _, _⟩
      · subst f2; exact (pl k g1 e g2).elim
      · omega
  · have x : a ≠ p := fun x => by rw [x, hp] at e; cases e
    rw [upd_ne x]; exact e
  · have x : a ≠ p := fun x => by rw [x, hp] at e; cases e
    exact ⟨u, by rw [upd_ne x]; exact e⟩
  · have hk' : k = n.length := by
      have := (List.getElem?_eq_some_iff.mp e).1
      simp at this; omega
    subst hk'
    rw [List.getElem?_append_right (Nat.le_refl _)] at e
    simp at e; subst e; exact hp
  · rw [List.getElem?_append_left (List.getElem?_eq_some_iff.mp e).1]
    exact e
/-- a hidden object becomes a cell -/
theorem Post.addCell {p : Addr} {o : HO} {d : D} (q : Post K NoO G n S H G1 n1 S1 H1) (hn : H p = none) (hp : H1 p = some o) (hg : G1 p = none) (hl : ¬ Live n1 S1 p) (hd : HoR K G1 n1 d o) : Post K NoO G n S H G1 (n1 ++ [p]) (S1 ++ [some d]) H1 := by
  have h := q.sr
  have pre : Pre n1 (n1 ++ [p]) := ⟨[p], rfl⟩
  have old : ∀ {k : Nat} {a : Addr} {c : D}, (n1 ++ [p])[k]? = some a → (S1 ++ [some d])[k]? = some (some c) → (n1[k]? = some a ∧ S1[k]? = some (some c)) ∨ (k = n1.length ∧ a = p ∧ c = d) := fun {k a c} e1 e2 => by
    by_cases hk : k < n1.length
    · rw [List.getElem?_append_left hk] at e1
      rw [List.getElem?_append_left (by rw [← h.len]; exact hk)] at e2
      exact .inl ⟨e1, e2⟩
    · have hk' : k = n1.length := by
        have := (List.getElem?_eq_some_iff.mp e1).1
        simp at this; omega
      subst hk'
      rw [List.getElem?_append_right (Nat.le_refl _)] at e1
      have e3 : (S1 ++ [some d])[n1.length]? = some (some d) := by
        rw [h.len, List.getElem?_append_right (Nat.le_refl _)]; simp
      rw [e3] at e2
      simp at e1 e2
      exact .inr ⟨rfl, e1.symm, e2.symm⟩
  refine ⟨q.sr0, ⟨h.sub, by simp [h.len], fun k a c e1 e2 => ?_, fun j k a c e e1 e2 e3 e4 => ?_⟩, q.sub, q.eta.trans pre, q.frame, q.there, fun k a hk e => ?_, fun k e => ?_, q.gnew⟩
  · rcases old e1 e2 with ⟨f1, f2⟩ | ⟨f1, f2, f3⟩
    · obtain ⟨g1, u, g2, g3⟩ := h.cell k a c f1 f2
      exact ⟨g1, u, g2, HoR.mono (Sub.refl _) pre _ _ g3⟩
    · subst f2 f3
      exact ⟨hg, o, hp, HoR.mono (Sub.refl _) pre _ _ hd⟩
  · rcases old e1 e2 with ⟨f1, f2⟩ | ⟨f1, f2, _⟩
    · rcases old e3 e4 with ⟨g1, g2⟩ | ⟨g1, g2, _⟩
      · exact h.inj j k a c e f1 f2 g1 g2
      · subst g2; exact (hl ⟨j, c, f1, f2⟩).elim
    · rcases old e3 e4 with ⟨g1, g2⟩ | ⟨g1, _, _⟩
      · subst f2; exact (hl ⟨k, e, g1, g2⟩).elim
      · omega
  · by_cases hk1 : k < n1.length
    · rw [List.getElem?_append_left hk1] at e
      exact q.newc k a hk e
    · have hk' : k = n1.length := by
        have := (List.getElem?_eq_some_iff.mp e).1
        simp at this; omega
      subst hk'
      rw [List.getElem?_append_right (Nat.le_refl _)] at e
      simp at e; subst e; exact hn
  · have := q.dead k e
    rw [List.getElem?_append_left (List.getElem?_eq_some_iff.mp this).1]
    exact this
/-- a cell changes -/
theorem Post.setCell {k : Nat} {p : Addr} {o : HO} {d d' : D} (h : SR K G n S H) (e1 : n[k]? = some p) (e2 : S[k]? = some (some d)) (hd : HoR K G n d' o) : Post K NoO G n S H G n (S.set k (some d')) (upd H p o) := by
  obtain ⟨gp, u0, hp, _⟩ := h.cell k p d e1 e2
  have lp : Live n S p := ⟨k, d, e1, e2⟩
  have old : ∀ {j : Nat} {c : D}, (S.set k (some d'))[j]? = some (some c) → (j = k ∧ c = d') ∨ (j ≠ k ∧ S[j]? = some (some c)) := fun {j c} e => by
    by_cases x : j = k
    · subst x
      rw [List.getElem?_set_self (List.getElem?_eq_some_iff.mp e2).1] at e
      simp at e; exact .inl ⟨rfl, e.symm⟩
    · rw [List.getElem?_set_ne (Ne.symm x)] at e
      exact .inr ⟨x, e⟩
  have kk : ∀ {j : Nat} {c : D}, S[j]? = some (some c) → n[j]? = some p → j = k := fun {j c} e e' => h.inj j k p c d e' e e1 e2
  refine ⟨h, ⟨fun a u e => ?_, by simp [h.len], fun j a c f1 f2 => ?_, fun i j a c e f1 f2 f3 f4 => ?_⟩, Sub.refl _, Pre.refl _, fun a u e nl _ => ?_, fun a u e => ?_, fun j a hk e => ?_, fun j e => ?_, fun a u e => .inl e⟩
  · have x : a ≠ p := fun x => by rw [x, gp] at e; cases e
    rw [upd_ne x]; exact h.sub a u e
  · rcases old f2 with ⟨x, y⟩ | ⟨x, y⟩
    · subst x y
      rw [e1] at f1; cases f1
      exact ⟨gp, o, upd_same, hd⟩
    · obtain ⟨g1, u, g2, g3⟩ := h.cell j a c f1 y
      have z : a ≠ p := fun z => x (kk y (z ▸ f1))
      exact ⟨g1, u, by rw [upd_ne z]; exact g2, g3⟩
  · have lift : ∀ {j : Nat} {c : D}, (S.set k (some d'))[j]? = some (some c) → ∃ c', S[j]? = some (some c') := fun {j c} e => by
      rcases old e with ⟨x, _⟩ | ⟨_, y⟩
      · exact ⟨d, x ▸ e2⟩
      · exact ⟨c, y⟩
    obtain ⟨c1, g1⟩ := lift f2
    obtain ⟨c2, g2⟩ := lift f4
    exact h.inj i j a c1 c2 f1 g1 f3 g2
  · have x : a ≠ p := fun x => nl (x ▸ lp)
    rw [upd_ne x]; exact e
  · by_cases x : a = p
    · exact ⟨o, by rw [x, upd_same]⟩
    · exact ⟨u, by rw [upd_ne x]; exact e⟩
  · have : j < n.length := (List.getElem?_eq_some_iff.mp e).1
    omega
  · have x : j ≠ k := fun x => by rw [x, e2] at e; cases e
    rw [List.getElem?_set_ne (Ne.symm x)]
    exact e
end

/-! ### values to be read: the top stands now, what is within is kept -/
open Classical in
/-- the heap without the cells -/
noncomputable def NL (n : List Addr) (S : Store) (H : Hp) : Hp := fun a => if Live n S a then none else H a
section
variable {K : PySem.W.Frag} {O : Addr → Prop} {G G' : Hp} {n n' : List Addr} {S S' : Store} {H H' : Hp} {r : Env} {σ : L2.St}
theorem NL.sub : Sub (NL n S H) H := fun a o e => by
  unfold NL at e
  split at e
  · cases e
  · exact e
theorem NL.of {a : Addr} {o : HO} (e : H a = some o) (l : ¬ Live n S a) : NL n S H a = some o := by
  unfold NL
  rw [if_neg l]
  exact e
theorem NL.gsub (h : SR K G n S H) : Sub G (NL n S H) := fun a o e => NL.of (h.sub a o e) fun l => by
  have := (h.live l).1
  rw [e] at this; cases this
theorem NL.post (p : Post K NoO G n S H G' n' S' H') : Sub (NL n S H) (NL n' S' H') := fun a o e => by
  have l : ¬ Live n S a := fun l => by
    unfold NL at e
    rw [if_pos l] at e; cases e
  have e' := NL.sub a o e
  refine NL.of (p.frame a o e' l fun x => x) fun l' => ?_
  rcases p.live l' with x | x
  · exact l x
  · rw [e'] at x; cases x
def RelT (K : PySem.W.Frag) (G N : Hp) (n : List Addr) : D → V → Prop
  | .lst ds, v => ∃ a vs, v = .ref a ∧ N a = some (.lst vs) ∧ RelL K G n ds vs
  | .scr ds, v => ∃ a vs, v = .ref a ∧ SqL K N a vs ∧ RelL K G n ds vs
  | .dK ks ds, v => ∃ a kvs, v = .ref a ∧ N a = some (.dK kvs) ∧ ks = kvs.map (·.1) ∧ RelL K G n ds (kvs.map (·.2))
  | .dT ks ds, v => ∃ a kvs, v = .ref a ∧ N a = some (.dT kvs) ∧ ks = kvs.map (·.1) ∧ RelL K G n ds (kvs.map (·.2))
  | d, v => Rel K G n d v
theorem RelT.of {N : Hp} (hs : Sub G N) : ∀ {d : D} {v : V}, Rel K G n d v → RelT K G N n d v := by
  intro d v h
  cases d with
  | lst ds => simp only [Rel] at h; obtain ⟨a, vs, e, s, q⟩ := h; exact ⟨a, vs, e, hs _ _ s, q⟩
  | scr ds => simp only [Rel] at h; obtain ⟨a, vs, e, s, q⟩ := h; exact ⟨a, vs, e, hs.sl s, q⟩
  | dK ks ds => simp only [Rel] at h; obtain ⟨a, vs, e, s, q⟩ := h; exact ⟨a, vs, e, hs _ _ s, q⟩
  | dT ks ds => simp only [Rel] at h; obtain ⟨a, vs, e, s, q⟩ := h; exact ⟨a, vs, e, hs _ _ s, q⟩
  | _ => exact h
theorem RelT.mono {N N' : Hp} (hs : Sub G G') (hn : Sub N N') (hp : Pre n n') : ∀ {d : D} {v : V}, RelT K G N n d v → RelT K G' N' n' d v := by
  intro d v h
  cases d with
  | lst ds => obtain ⟨a, vs, e, s, q⟩ := h; exact ⟨a, vs, e, hn _ _ s, RelL.mono hs hp _ _ q⟩
  | scr ds => obtain ⟨a, vs, e, s, q⟩ := h; exact ⟨a, vs, e, hn.sl s, RelL.mono hs hp _ _ q⟩
  | dK ks ds => obtain ⟨a, vs, e, s, ek, q⟩ := h; exact ⟨a, vs, e, hn _ _ s, ek, RelL.mono hs hp _ _ q⟩
  | dT ks ds => obtain ⟨a, vs, e, s, ek, q⟩ := h; exact ⟨a, vs, e, hn _ _ s, ek, RelL.mono hs hp _ _ q⟩
  | _ => exact Rel.mono hs hp _ _ h
theorem RelT.post {d : D} {v : V} (h : RelT K G (NL n S H) n d v) (p : Post K NoO G n S H G' n' S' H') : RelT K G' (NL n' S' H') n' d v := h.mono p.sub (NL.post p) p.eta
theorem RelT.own {d : D} {a : Addr} {o : HO} (e : H a = some o) (l : ¬ Live n S a) (h : HoR K G n d o) : RelT K G (NL n S H) n d (.ref a) := by
  cases d with
  | lst ds => obtain ⟨vs, rfl, q⟩ := h; exact ⟨a, vs, rfl, NL.of e l, q⟩
  | dK ks ds => obtain ⟨vs, rfl, q⟩ := h; exact ⟨a, vs, rfl, NL.of e l, q⟩
  | dT ks ds => obtain ⟨vs, rfl, q⟩ := h; exact ⟨a, vs, rfl, NL.of e l, q⟩
  | _ => exact h.elim
end

/-! ### what an expression asks -/
def ExcR (x : Exc) (c : Value) (dd : Option Addr) (H : Hp) : Prop := True
section
variable (K : PySem.W.Frag) (EE : XK)
def WpE (x : Res D) (G : Hp) (n : List Addr) (S : Store) (H : Hp) (Q : VK) : Prop := match x with
  | .ok d S' => ∀ v G' n' H', Post K NoO G n S H G' n' S' H' → Rel K G' n' d v → Q v H'
  | .exc x S' => ∀ c dd G' n' H', Post K NoO G n S H G' n' S' H' → ExcR x c dd H' → EE c dd H'
  | .bad => False
def WpB (x : Res D) (G : Hp) (n : List Addr) (S : Store) (H : Hp) (Q : VK) : Prop := match x with
  | .ok d S' => ∀ v G' n' H', Post K NoO G n S H G' n' S' H' → RelT K G' (NL n' S' H') n' d v → Q v H'
  | .exc x S' => ∀ c dd G' n' H', Post K NoO G n S H G' n' S' H' → ExcR x c dd H' → EE c dd H'
  | .bad => False
def WpT (x : Res Bool) (G : Hp) (n : List Addr) (S : Store) (H : Hp) (Q : Bool → Hp → Prop) : Prop := match x with
  | .ok b S' => ∀ G' n' H', Post K NoO G n S H G' n' S' H' → Q b H'
  | .exc x S' => ∀ c dd G' n' H', Post K NoO G n S H G' n' S' H' → ExcR x c dd H' → EE c dd H'
  | .bad => False
def WpA (x : Res (List D)) (G : Hp) (n : List Addr) (S : Store) (H : Hp) (Q : List V → Hp → Prop) : Prop := match x with
  | .ok ds S' => ∀ vs G' n' H', Post K NoO G n S H G' n' S' H' → RelL K G' n' ds vs → Q vs H'
  | .exc x S' => ∀ c dd G' n' H', Post K NoO G n S H G' n' S' H' → ExcR x c dd H' → EE c dd H'
  | .bad => False
/-- a new object p that nothing else knows, a list -/
def WpL (x : Res (List D)) (G : Hp) (n : List Addr) (S : Store) (H : Hp) (Q : VK) : Prop := match x with
  | .ok ds S' => ∀ p vs G' n' H', Post K NoO G n S H G' n' S' H' → H p = none → G' p = none → ¬ Live n' S' p → H' p = some (.lst vs) → RelL K G' n' ds vs → Q (.ref p) H'
  | .exc x S' => ∀ c dd G' n' H', Post K NoO G n S H G' n' S' H' → ExcR x c dd H' → EE c dd H'
  | .bad => False
def SE (te : TE) (m : EM) : Prop := ∀ G n S H r σ Q, SR K G n S H → ER K G n S H r σ → WpE K EE (m r S) G n S H Q → te σ H Q
def SB (te : TE) (m : EM) : Prop := ∀ G n S H r σ Q, SR K G n S H → ER K G n S H r σ → WpB K EE (m r S) G n S H Q → te σ H Q
def ST (te : TT) (m : TM) : Prop := ∀ G n S H r σ Q, SR K G n S H → ER K G n S H r σ → WpT K EE (m r S) G n S H Q → te σ H Q
def SA (te : TA) (m : LM) : Prop := ∀ G n S H r σ Q, SR K G n S H → ER K G n S H r σ → WpA K EE (m r S) G n S H Q → te σ H Q
def SL (te : TE) (m : LM) : Prop := ∀ G n S H r σ Q, SR K G n S H → ER K G n S H r σ → WpL K EE (m r S) G n S H Q → te σ H Q
/-- an operation on values -/
def O1 (t : V → Hp → VK → Prop) (f : D → Store → Res D) : Prop := ∀ G n S H x d Q, SR K G n S H → RelT K G (NL n S H) n d x → WpE K EE (f d S) G n S H Q → t x H Q
def O2 (t : R2) (f : D → D → Store → Res D) : Prop := ∀ G n S H x y d e Q, SR K G n S H → RelT K G (NL n S H) n d x → RelT K G (NL n S H) n e y → WpE K EE (f d e S) G n S H Q → t x y H Q
end
section
variable {K : PySem.W.Frag} {EE : XK} {G G1 : Hp} {n n1 : List Addr} {S S1 : Store} {H H1 : Hp} {te ta tb : TE} {m a b : EM}
theorem WpE.at {x : Res D} {Q : VK} (p : Post K NoO G n S H G1 n1 S1 H1) (h : WpE K EE x G n S H Q) : WpE K EE x G1 n1 S1 H1 Q := by
  cases x with
  | ok d S' => exact fun v G' n' H' q => h v G' n' H' (p.tr q)
  | exc x S' => exact fun c dd G' n' H' q => h c dd G' n' H' (p.tr q)
  | bad => exact h
theorem WpB.at {x : Res D} {Q : VK} (p : Post K NoO G n S H G1 n1 S1 H1) (h : WpB K EE x G n S H Q) : WpB K EE x G1 n1 S1 H1 Q := by
  cases x with
  | ok d S' => exact fun v G' n' H' q => h v G' n' H' (p.tr q)
  | exc x S' => exact fun c dd G' n' H' q => h c dd G' n' H' (p.tr q)
  | bad => exact h
theorem WpT.at {x : Res Bool} {Q : Bool → Hp → Prop} (p : Post K NoO G n S H G1 n1 S1 H1) (h : WpT K EE x G n S H Q) : WpT K EE x G1 n1 S1 H1 Q := by
  cases x with
  | ok d S' => exact fun G' n' H' q => h G' n' H' (p.tr q)
  | exc x S' => exact fun c dd G' n' H' q => h c dd G' n' H' (p.tr q)
  | bad => exact h
theorem WpA.at {x : Res (List D)} {Q : List V → Hp → Prop} (p : Post K NoO G n S H G1 n1 S1 H1) (h : WpA K EE x G n S H Q) : WpA K EE x G1 n1 S1 H1 Q := by
  cases x with
  | ok d S' => exact fun v G' n' H' q => h v G' n' H' (p.tr q)
  | exc x S' => exact fun c dd G' n' H' q => h c dd G' n' H' (p.tr q)
  | bad => exact h
theorem WpL.at {x : Res (List D)} {Q : VK} (p : Post K NoO G n S H G1 n1 S1 H1) (h : WpL K EE x G n S H Q) : WpL K EE x G1 n1 S1 H1 Q := by
  cases x with
  | ok d S' => exact fun v vs G' n' H' q z => h v vs G' n' H' (p.tr q) (p.back z)
  | exc x S' => exact fun c dd G' n' H' q => h c dd G' n' H' (p.tr q)
  | bad => exact h
/-- the first step of two: A by a (kept values), then the rest -/
theorem SE.bind {α : Type} {x : Res D} {r : Env} {σ : L2.St} {Q : VK} {W : Res α → Hp → List Addr → Store → Hp → Prop} {f : D → Store → Res α}
    (hb : W .bad G n S H → False) (hx : ∀ e S', W (.exc e S') G n S H → WpE K EE (.exc e S' : Res D) G n S H Q)
    (h : W (x.bind f) G n S H) (hk : ∀ d S', x = .ok d S' → ∀ v G' n' H', Post K NoO G n S H G' n' S' H' → Rel K G' n' d v → Q v H') : WpE K EE x G n S H Q := by
  cases x with
  | ok d S' => exact hk d S' rfl
  | exc e S' => exact hx e S' h
  | bad => exact hb h
theorem SB.bind {α : Type} {x : Res D} {r : Env} {σ : L2.St} {Q : VK} {W : Res α → Hp → List Addr → Store → Hp → Prop} {f : D → Store → Res α}
    (hb : W .bad G n S H → False) (hx : ∀ e S', W (.exc e S') G n S H → WpB K EE (.exc e S' : Res D) G n S H Q)
    (h : W (x.bind f) G n S H) (hk : ∀ d S', x = .ok d S' → ∀ v G' n' H', Post K NoO G n S H G' n' S' H' → RelT K G' (NL n' S' H') n' d v → Q v H') : WpB K EE x G n S H Q := by
  cases x with
  | ok d S' => exact hk d S' rfl
  | exc e S' => exact hx e S' h
  | bad => exact hb h
theorem SE.bor (h : SE K EE te m) : SB K EE te m := fun G n S H r σ Q s e w => h G n S H r σ Q s e (by
  cases q : m r S with
  | ok d S' =>
    rw [q] at w
    exact fun v G' n' H' p rl => w v G' n' H' p (RelT.of (NL.gsub p.sr) rl)
  | exc x S' => rw [q] at w; exact w
  | bad => rw [q] at w; exact w)
theorem SB.op1 {t : V → Hp → VK → Prop} {f : D → Store → Res D} (ha : SB K EE ta a) (ho : O1 K EE t f) : SE K EE (tUn t ta) (e1 f a) := fun G n S H r σ Q s e w => by
  refine ha G n S H r σ _ s e ?_
  unfold e1 at w
  cases q : a r S with
  | ok d S1 =>
    rw [q] at w
    exact fun v G1 n1 H1 p rl => ho G1 n1 S1 H1 v d Q p.sr rl (WpE.at p w)
  | exc x S' => rw [q] at w; exact w
  | bad => rw [q] at w; exact w
theorem SB.op2 {t : R2} {f : D → D → Store → Res D} (ha : SB K EE ta a) (hb : SB K EE tb b) (ho : O2 K EE t f) : SE K EE (tOp t ta tb) (e2 f a b) := fun G n S H r σ Q s e w => by
  refine ha G n S H r σ _ s e ?_
  unfold e2 at w
  cases q : a r S with
  | ok d S1 =>
    rw [q] at w
    refine fun v G1 n1 H1 p rl => hb G1 n1 S1 H1 r σ _ p.sr (e.post p) ?_
    have w1 : WpE K EE ((b r S1).bind fun y S2 => f d y S2) G1 n1 S1 H1 Q := WpE.at p w
    cases q2 : b r S1 with
    | ok d2 S2 =>
      rw [q2] at w1
      exact fun v2 G2 n2 H2 p2 rl2 => ho G2 n2 S2 H2 v v2 d d2 Q p2.sr (rl.post p2) rl2 (WpE.at p2 w1)
    | exc x S' => rw [q2] at w1; exact w1
    | bad => rw [q2] at w1; exact w1
  | exc x S' => rw [q] at w; exact w
  | bad => rw [q] at w; exact w
theorem SE.c {d : D} {v : V} (h : ∀ G n, Rel K G n d v) : SE K EE (tC v) (eC d) := fun G n S H r σ Q s e w => w v G n H (Post.refl s) (h G n)
theorem SE.var (i : Nat) : SE K EE (tVar i) (eV i) := fun G n S H r σ Q s e w => by
  unfold eV at w
  cases q : r[i]? with
  | none => rw [q] at w; exact w.elim
  | some sl =>
    rw [q] at w
    cases sl with
    | val d =>
      obtain ⟨v, h1, h2⟩ := e.val i d q
      exact ⟨v, h1, w v G n H (Post.refl s) h2⟩
    | _ => exact w.elim
theorem SB.var (i : Nat) : SB K EE (tVar i) (eB i) := fun G n S H r σ Q s e w => by
  unfold eB at w
  cases q : r[i]? with
  | none => rw [q] at w; exact w.elim
  | some sl =>
    rw [q] at w
    cases sl with
    | val d =>
      obtain ⟨v, h1, h2⟩ := e.val i d q
      exact ⟨v, h1, w v G n H (Post.refl s) (RelT.of (NL.gsub s) h2)⟩
    | own d =>
      obtain ⟨a, o, h1, h2, h3, h4, h5⟩ := e.own i d q
      exact ⟨.ref a, h1, w _ G n H (Post.refl s) (RelT.own h4 h3 h5)⟩
    | no => exact w.elim
theorem SA.nil : SA K EE tNil aN := fun G n S H r σ Q s e w => w [] G n H (Post.refl s) .nil
theorem SA.cons {tr : TA} {l : LM} (ha : SE K EE ta a) (hr : SA K EE tr l) : SA K EE (tCons ta tr) (aC a l) := fun G n S H r σ Q s e w => by
  refine ha G n S H r σ _ s e ?_
  unfold aC at w
  cases q : a r S with
  | ok d S1 =>
    rw [q] at w
    refine fun v G1 n1 H1 p rl => hr G1 n1 S1 H1 r σ _ p.sr (e.post p) ?_
    have w1 : WpA K EE ((l r S1).bind fun xs S2 => .ok (d :: xs) S2) G1 n1 S1 H1 Q := WpA.at p w
    cases q2 : l r S1 with
    | ok ds S2 =>
      rw [q2] at w1
      exact fun vs G2 n2 H2 p2 rl2 => w1 (v :: vs) G2 n2 H2 p2 (.cons (Rel.mono p2.sub p2.eta _ _ rl) rl2)
    | exc x S' => rw [q2] at w1; exact w1
    | bad => rw [q2] at w1; exact w1
  | exc x S' => rw [q] at w; exact w
  | bad => rw [q] at w; exact w
theorem lim_eq : lim = sizeLine := by rw [sizeLine_eq]; rfl
theorem SE.tup {t : TA} {l : LM} (h : SA K EE t l) : SE K EE (tTup t) (eTup l) := fun G n S H r σ Q s e w => by
  refine h G n S H r σ _ s e ?_
  unfold eTup at w
  cases q : l r S with
  | ok ds S1 =>
    rw [q] at w
    refine fun vs G1 n1 H1 p rl => ?_
    have w1 : WpE K EE (if ds.length ≤ lim then .ok (.tup ds) S1 else .bad) G n S H Q := w
    by_cases hl : ds.length ≤ lim
    · rw [if_pos hl] at w1
      refine ⟨by rw [← rl.len, ← lim_eq]; exact hl, fun b hb => ?_⟩
      have p2 := Post.frz (o := .tup vs) p.sr hb
      exact w1 _ _ _ _ (p.tr p2) (by simp only [Rel]; exact ⟨b, vs, rfl, .inl (.inl upd_same), RelL.mono p2.sub p2.eta _ _ rl⟩)
    · rw [if_neg hl] at w1; exact w1.elim
  | exc x S' => rw [q] at w; exact w
  | bad => rw [q] at w; exact w
def tTrn (t : TA) : TE := fun σ H Q => t σ H fun xs H1 => xs.length ≤ sizeLine ∧ ∀ (p : Addr) (o : Obj), H1 p = none → o.dict = none → Q (.ref p) (upd H1 p (.frz o (.tup xs)))
theorem SE.trn {t : TA} {l : LM} (h : SA K EE t l) : SE K EE (tTrn t) (eTrn l) := fun G n S H r σ Q s e w => by
  refine h G n S H r σ _ s e ?_
  unfold eTrn at w
  cases q : l r S with
  | ok ds S1 =>
    rw [q] at w
    refine fun vs G1 n1 H1 p rl => ?_
    have w1 : WpE K EE (if ds.length ≤ lim then .ok (.trn ds) S1 else .bad) G n S H Q := w
    by_cases hl : ds.length ≤ lim
    · rw [if_pos hl] at w1
      refine ⟨by rw [← rl.len, ← lim_eq]; exact hl, fun b o hb ho => ?_⟩
      have p2 := Post.frz (o := .frz o (.tup vs)) p.sr hb
      exact w1 _ _ _ _ (p.tr p2) (by simp only [Rel]; exact ⟨b, vs, rfl, .inl ⟨o, upd_same, ho⟩, RelL.mono p2.sub p2.eta _ _ rl⟩)
    · rw [if_neg hl] at w1; exact w1.elim
  | exc x S' => rw [q] at w; exact w
  | bad => rw [q] at w; exact w
theorem SL.lst {t : TA} {l : LM} (h : SA K EE t l) : SL K EE (tLst t) (lLst l) := fun G n S H r σ Q s e w => by
  refine h G n S H r σ _ s e ?_
  unfold lLst at w
  cases q : l r S with
  | ok ds S1 =>
    rw [q] at w
    refine fun vs G1 n1 H1 p rl => ?_
    have w1 : WpL K EE (if ds.length ≤ lim then .ok ds S1 else .bad) G n S H Q := w
    by_cases hl : ds.length ≤ lim
    · rw [if_pos hl] at w1
      refine ⟨by rw [← rl.len, ← lim_eq]; exact hl, fun b hb => ?_⟩
      have p2 := Post.hid (o := .lst vs) p.sr hb
      refine w1 b vs _ _ _ (p.tr p2) (p.back hb) ?_ (fun l => ?_) upd_same rl
      · cases q : G1 b with
        | none => rfl
        | some u => rw [p.sr.sub b u q] at hb; cases hb
      · obtain ⟨_, u, q⟩ := p.sr.live l
        rw [hb] at q; cases q
    · rw [if_neg hl] at w1; exact w1.elim
  | exc x S' => rw [q] at w; exact w
  | bad => rw [q] at w; exact w
theorem SL.frz {l : LM} (h : SL K EE te l) : SE K EE te (eFrz l) := fun G n S H r σ Q s e w => by
  refine h G n S H r σ _ s e ?_
  unfold eFrz at w
  cases q : l r S with
  | ok ds S1 =>
    rw [q] at w
    refine fun b vs G1 n1 H1 p hn hg hl hb rl => ?_
    have p2 : Post K (fun a => a = b) G1 n1 S1 H1 (upd G1 b (.lst vs)) n1 S1 H1 := Post.keep p.sr hb hg hl rfl
    have p3 : Post K NoO G n S H (upd G1 b (.lst vs)) n1 S1 H1 := p.trans p2 fun a x => .inr (x ▸ hn)
    exact w _ _ _ _ p3 (by simp only [Rel]; exact ⟨b, vs, rfl, upd_same, RelL.mono p2.sub p2.eta _ _ rl⟩)
  | exc x S' => rw [q] at w; exact w
  | bad => rw [q] at w; exact w
theorem SE.call {t : TA} {l : LM} {sp : Sp} {f : List D → Store → Res D} (h : SA K EE t l)
    (hs : ∀ G n S H vs ds Q, SR K G n S H → RelL K G n ds vs → WpE K EE (f ds S) G n S H Q → sp vs H Q EE) : SE K EE (tCall sp [] EE t) (eA f l) := fun G n S H r σ Q s e w => by
  refine h G n S H r σ _ s e ?_
  unfold eA at w
  cases q : l r S with
  | ok ds S1 =>
    rw [q] at w
    refine fun vs G1 n1 H1 p rl => ?_
    show sp (vs ++ []) H1 Q EE
    rw [List.append_nil]
    exact hs G1 n1 S1 H1 vs ds Q p.sr rl (WpE.at p w)
  | exc x S' => rw [q] at w; exact w
  | bad => rw [q] at w; exact w
end
end BR

/-! Statements, tests, targets, walks, comprehensions, defs: the machine against the hand layer. -/
namespace BR
open PySem PySem.Spec PyProof.Rows L2

/-! ### tests -/
section
variable {K : PySem.W.Frag} {EE : XK} {te ta tb : TE} {m a b : EM} {tt tu : TT} {t u : TM}
theorem ST.of (h : SB K EE te m) : ST K EE (tTest te) (tE m) := fun G n S H r σ Q s e w => by
  refine h G n S H r σ _ s e ?_
  unfold tE at w
  cases q : m r S with
  | ok d S1 =>
    rw [q] at w
    intro v G1 n1 H1 p rl
    cases d with
    | bl c =>
      obtain rfl : v = .bl c := by simpa only [RelT, Rel] using rl
      exact ⟨c, rfl, w G1 n1 H1 p⟩
    | _ => exact w.elim
  | exc x S' => rw [q] at w; exact w
  | bad => rw [q] at w; exact w
theorem ST.not (h : ST K EE tt t) : ST K EE (L2.tNot tt) (tNot t) := fun G n S H r σ Q s e w => by
  refine h G n S H r σ _ s e ?_
  unfold tNot at w
  cases q : t r S with
  | ok d S1 => rw [q] at w; exact w
  | exc x S' => rw [q] at w; exact w
  | bad => rw [q] at w; exact w
theorem ST.and (h : ST K EE tt t) (h2 : ST K EE tu u) : ST K EE (L2.tAnd tt tu) (tAnd t u) := fun G n S H r σ Q s e w => by
  refine h G n S H r σ _ s e ?_
  unfold tAnd at w
  cases q : t r S with
  | ok d S1 =>
    rw [q] at w
    intro G1 n1 H1 p
    have w1 : WpT K EE (if d = true then u r S1 else .ok false S1) G1 n1 S1 H1 Q := WpT.at p w
    cases d with
    | true => exact h2 G1 n1 S1 H1 r σ Q p.sr (e.post p) w1
    | false => exact w1 G1 n1 H1 (Post.refl p.sr)
  | exc x S' => rw [q] at w; exact w
  | bad => rw [q] at w; exact w
theorem ST.or (h : ST K EE tt t) (h2 : ST K EE tu u) : ST K EE (L2.tOr tt tu) (tOr t u) := fun G n S H r σ Q s e w => by
  refine h G n S H r σ _ s e ?_
  unfold tOr at w
  cases q : t r S with
  | ok d S1 =>
    rw [q] at w
    intro G1 n1 H1 p
    have w1 : WpT K EE (if d = true then .ok true S1 else u r S1) G1 n1 S1 H1 Q := WpT.at p w
    cases d with
    | false => exact h2 G1 n1 S1 H1 r σ Q p.sr (e.post p) w1
    | true => exact w1 G1 n1 H1 (Post.refl p.sr)
  | exc x S' => rw [q] at w; exact w
  | bad => rw [q] at w; exact w
theorem ST.yes : ST K EE L2.tYes tYes := fun G n S H r σ Q s e w => w G n H (Post.refl s)
theorem SE.ite (h : ST K EE tt t) (ha : SE K EE ta a) (hb : SE K EE tb b) : SE K EE (tIf tt ta tb) (eIf t a b) := fun G n S H r σ Q s e w => by
  refine h G n S H r σ _ s e ?_
  unfold eIf at w
  cases q : t r S with
  | ok d S1 =>
    rw [q] at w
    intro G1 n1 H1 p
    have w1 : WpE K EE (if d = true then a r S1 else b r S1) G1 n1 S1 H1 Q := WpE.at p w
    cases d with
    | true => exact ha G1 n1 S1 H1 r σ Q p.sr (e.post p) w1
    | false => exact hb G1 n1 S1 H1 r σ Q p.sr (e.post p) w1
  | exc x S' => rw [q] at w; exact w
  | bad => rw [q] at w; exact w
/-- and, or, not as values -/
theorem SE.andV (ha : SE K EE ta a) (hb : SE K EE tb b) : SE K EE (tAndV ta tb) (eIf (tE a) b (eC (.bl false))) := fun G n S H r σ Q s e w => by
  refine ha G n S H r σ _ s e ?_
  unfold eIf tE at w
  cases q : a r S with
  | ok d S1 =>
    rw [q] at w
    intro v G1 n1 H1 p rl
    cases d with
    | bl c =>
      obtain rfl : v = .bl c := by simpa only [Rel] using rl
      refine ⟨c, rfl, ?_⟩
      have w1 : WpE K EE (if c = true then b r S1 else eC (.bl false) r S1) G1 n1 S1 H1 Q := WpE.at p w
      cases c with
      | true => exact hb G1 n1 S1 H1 r σ Q p.sr (e.post p) w1
      | false => exact w1 _ _ _ _ (Post.refl p.sr) (by simp only [Rel])
    | _ => exact w.elim
  | exc x S' => rw [q] at w; exact w
  | bad => rw [q] at w; exact w
theorem SE.orV (ha : SE K EE ta a) (hb : SE K EE tb b) : SE K EE (tOrV ta tb) (eIf (tE a) (eC (.bl true)) b) := fun G n S H r σ Q s e w => by
  refine ha G n S H r σ _ s e ?_
  unfold eIf tE at w
  cases q : a r S with
  | ok d S1 =>
    rw [q] at w
    intro v G1 n1 H1 p rl
    cases d with
    | bl c =>
      obtain rfl : v = .bl c := by simpa only [Rel] using rl
      refine ⟨c, rfl, ?_⟩
      have w1 : WpE K EE (if c = true then eC (.bl true) r S1 else b r S1) G1 n1 S1 H1 Q := WpE.at p w
      cases c with
      | false => exact hb G1 n1 S1 H1 r σ Q p.sr (e.post p) w1
      | true => exact w1 _ _ _ _ (Post.refl p.sr) (by simp only [Rel])
    | _ => exact w.elim
  | exc x S' => rw [q] at w; exact w
  | bad => rw [q] at w; exact w
theorem SE.notV (ha : SE K EE ta a) : SE K EE (tNotV ta) (eT (tNot (tE a))) := fun G n S H r σ Q s e w => by
  refine ha G n S H r σ _ s e ?_
  unfold eT tNot tE at w
  cases q : a r S with
  | ok d S1 =>
    rw [q] at w
    intro v G1 n1 H1 p rl
    cases d with
    | bl c =>
      obtain rfl : v = .bl c := by simpa only [Rel] using rl
      exact ⟨c, rfl, w _ _ _ _ p (by simp only [Rel])⟩
    | _ => exact w.elim
  | exc x S' => rw [q] at w; exact w
  | bad => rw [q] at w; exact w
end

/-! ### slots -/
def OwnSub (r : Env) (σ : L2.St) (H : Hp) (r' : Env) (σ' : L2.St) : Prop := ∀ a, Own r' σ' a → Own r σ a ∨ H a = none
section
variable {K : PySem.W.Frag} {O : Addr → Prop} {G G1 G' : Hp} {n n1 n' : List Addr} {S S1 S' : Store} {H H1 H' : Hp} {r r1 r2 : Env} {σ σ1 σ2 : L2.St}
theorem OwnSub.refl : OwnSub r σ H r σ := fun _ h => .inl h
theorem OwnSub.trans (h : OwnSub r σ H r1 σ1) (h2 : OwnSub r1 σ1 H1 r2 σ2) (hb : ∀ a, H1 a = none → H a = none) : OwnSub r σ H r2 σ2 := fun a x => by
  rcases h2 a x with y | y
  · exact h a y
  · exact .inr (hb a y)
theorem set_some {α : Type} {l : List α} {i j : Nat} {x y : α} (h : (l.set i x)[j]? = some y) : (j = i ∧ y = x) ∨ (j ≠ i ∧ l[j]? = some y) := by
  by_cases e : j = i
  · subst e
    by_cases hl : j < l.length
    · rw [List.getElem?_set_self hl] at h
      exact .inl ⟨rfl, (Option.some.inj h).symm⟩
    · have : (l.set j x)[j]? = none := List.getElem?_eq_none_iff.mpr (by simpa using hl)
      rw [this] at h; cases h
  · rw [List.getElem?_set_ne (Ne.symm e)] at h
    exact .inr ⟨e, h⟩
theorem ER.setVal (e : ER K G n S H r σ) (i : Nat) {d : D} {v : V} (h : Rel K G n d v) : ER K G n S H (r.set i (.val d)) (σ.set i (some v)) := by
  have get : ∀ {j : Nat}, j ≠ i → (σ.set i (some v))[j]? = σ[j]? := fun {j} x => List.getElem?_set_ne (Ne.symm x)
  refine ⟨by simp [e.len], fun j c h1 => ?_, fun j c h1 => ?_, fun j k a c f h1 h2 h3 h4 => ?_⟩
  · rcases set_some h1 with ⟨x, y⟩ | ⟨x, y⟩
    · subst x; cases y
      have hj : j < σ.length := by
        have := (List.getElem?_eq_some_iff.mp h1).1
        rw [← e.len]; simpa using this
      exact ⟨v, List.getElem?_set_self hj, h⟩
    · rw [get x]; exact e.val j c y
  · rcases set_some h1 with ⟨x, y⟩ | ⟨x, y⟩
    · cases y
    · rw [get x]; exact e.own j c y
  · rcases set_some h1 with ⟨x, y⟩ | ⟨x, y⟩
    · cases y
    · rcases set_some h3 with ⟨x', y'⟩ | ⟨x', y'⟩
      · cases y'
      · rw [get x] at h2; rw [get x'] at h4
        exact e.inj j k a c f y h2 y' h4
theorem OwnSub.setVal (i : Nat) {d : D} {v : V} : OwnSub r σ H (r.set i (.val d)) (σ.set i (some v)) := fun a ⟨j, c, h1, h2⟩ => by
  rcases set_some h1 with ⟨x, y⟩ | ⟨x, y⟩
  · cases y
  · rw [List.getElem?_set_ne (Ne.symm x)] at h2
    exact .inl ⟨j, c, y, h2⟩
theorem ER.setOwn (e : ER K G n S H r σ) (i : Nat) {d : D} {p : Addr} {o : HO} (hg : G p = none) (hl : ¬ Live n S p) (hp : H p = some o) (hd : HoR K G n d o) (hx : ¬ Own r σ p) : ER K G n S H (r.set i (.own d)) (σ.set i (some (.ref p))) := by
  have get : ∀ {j : Nat}, j ≠ i → (σ.set i (some (.ref p)))[j]? = σ[j]? := fun {j} x => List.getElem?_set_ne (Ne.symm x)
  refine ⟨by simp [e.len], fun j c h1 => ?_, fun j c h1 => ?_, fun j k a c f h1 h2 h3 h4 => ?_⟩
  · rcases set_some h1 with ⟨x, y⟩ | ⟨x, y⟩
    · cases y
    · rw [get x]; exact e.val j c y
  · rcases set_some h1 with ⟨x, y⟩ | ⟨x, y⟩
    · subst x; cases y
      have hj : j < σ.length := by
        have := (List.getElem?_eq_some_iff.mp h1).1
        rw [← e.len]; simpa using this
      exact ⟨p, o, List.getElem?_set_self hj, hg, hl, hp, hd⟩
    · rw [get x]; exact e.own j c y
  · have self : ∀ {k : Nat}, k = i → (σ.set i (some (V.ref p)))[k]? = some (some (.ref a)) → a = p := fun {k} x z => by
      subst x
      rcases set_some z with ⟨_, y⟩ | ⟨y, _⟩
      · cases y; rfl
      · exact absurd rfl y
    rcases set_some h1 with ⟨x, y⟩ | ⟨x, y⟩
    · rcases set_some h3 with ⟨x', y'⟩ | ⟨x', y'⟩
      · omega
      · rw [get x'] at h4
        have z := self x h2
        subst z
        exact absurd ⟨k, f, y', h4⟩ hx
    · rw [get x] at h2
      rcases set_some h3 with ⟨x', y'⟩ | ⟨x', y'⟩
      · have z := self x' h4
        subst z
        exact absurd ⟨j, c, y, h2⟩ hx
      · rw [get x'] at h4
        exact e.inj j k a c f y h2 y' h4
theorem OwnSub.setOwn (i : Nat) {d : D} {p : Addr} (hp : H p = none) : OwnSub r σ H (r.set i (.own d)) (σ.set i (some (.ref p))) := fun a ⟨j, c, h1, h2⟩ => by
  rcases set_some h1 with ⟨x, y⟩ | ⟨x, y⟩
  · rcases set_some h2 with ⟨_, z⟩ | ⟨z, _⟩
    · cases z; exact .inr hp
    · exact absurd x z
  · rw [List.getElem?_set_ne (Ne.symm x)] at h2
    exact .inl ⟨j, c, y, h2⟩
/-- a name's own object has changed -/
theorem ER.reOwn (e : ER K G n S H r σ) {i : Nat} {d d' : D} {p : Addr} {o : HO} (h1 : r[i]? = some (.own d)) (h2 : σ[i]? = some (some (.ref p))) (hd : HoR K G n d' o) : ER K G n S (upd H p o) (r.set i (.own d')) σ := by
  obtain ⟨p', u, f1, f2, f3, f4, f5⟩ := e.own i d h1
  rw [h2] at f1; cases f1
  have own : ∀ {j : Nat} {c : D}, (r.set i (.own d'))[j]? = some (.own c) → ∃ c', r[j]? = some (.own c') := fun {j c} z => by
    rcases set_some z with ⟨x, _⟩ | ⟨_, y⟩
    · exact ⟨d, x ▸ h1⟩
    · exact ⟨c, y⟩
  refine ⟨by simp [e.len], fun j c z => ?_, fun j c z => ?_, fun j k a c f z1 z2 z3 z4 => ?_⟩
  · rcases set_some z with ⟨_, y⟩ | ⟨x, y⟩
    · cases y
    · exact e.val j c y
  · rcases set_some z with ⟨x, y⟩ | ⟨x, y⟩
    · subst x; cases y
      exact ⟨p, o, h2, f2, f3, upd_same, hd⟩
    · obtain ⟨a, u', g1, g2, g3, g4, g5⟩ := e.own j c y
      have ne : a ≠ p := fun z => x (e.inj j i p c d y (z ▸ g1) h1 h2)
      exact ⟨a, u', g1, g2, g3, by rw [upd_ne ne]; exact g4, g5⟩
  · obtain ⟨c', y⟩ := own z1
    obtain ⟨f', y'⟩ := own z3
    exact e.inj j k a c' f' y z2 y' z4
theorem OwnSub.reOwn {i : Nat} {d d' : D} (h1 : r[i]? = some (.own d)) : OwnSub r σ H (r.set i (.own d')) σ := fun a ⟨j, c, z1, z2⟩ => by
  rcases set_some z1 with ⟨x, _⟩ | ⟨_, y⟩
  · exact .inl ⟨j, d, x ▸ h1, z2⟩
  · exact .inl ⟨j, c, y, z2⟩
/-- slots wiped -/
theorem wipe_get {σ : L2.St} {i : Nat} : ∀ {vs : List Nat}, i ∉ vs → (wipe σ vs)[i]? = σ[i]?
  | [], _ => rfl
  | j :: vs, h => by
    show ((wipe σ vs).set j none)[i]? = _
    rw [List.getElem?_set_ne (fun e => h (by rw [e]; exact List.mem_cons_self)), wipe_get fun z => h (List.mem_cons_of_mem _ z)]
theorem wipeE_length : ∀ vs : List Nat, (wipeE r vs).length = r.length
  | [] => rfl
  | j :: vs => by
    show ((wipeE r vs).set j .no).length = _
    rw [List.length_set, wipeE_length vs]
theorem wipeE_some {i : Nat} {x : Slot} (hx : x ≠ .no) : ∀ {vs : List Nat}, (wipeE r vs)[i]? = some x → r[i]? = some x ∧ i ∉ vs
  | [], h => ⟨h, by simp⟩
  | j :: vs, h => by
    have h' : ((wipeE r vs).set j .no)[i]? = some x := h
    rcases set_some h' with ⟨_, y⟩ | ⟨z, y⟩
    · exact absurd y hx
    · obtain ⟨h1, h2⟩ := wipeE_some hx y
      exact ⟨h1, by simp [z, h2]⟩
theorem ER.wipe (e : ER K G n S H r σ) (vs : List Nat) : ER K G n S H (wipeE r vs) (wipe σ vs) := by
  refine ⟨by rw [wipeE_length, wipe_length, e.len], fun i d h => ?_, fun i d h => ?_, fun i j a d f h1 h2 h3 h4 => ?_⟩
  · obtain ⟨h1, h2⟩ := wipeE_some (by simp) h
    rw [wipe_get h2]; exact e.val i d h1
  · obtain ⟨h1, h2⟩ := wipeE_some (by simp) h
    rw [wipe_get h2]; exact e.own i d h1
  · obtain ⟨f1, f2⟩ := wipeE_some (by simp) h1
    obtain ⟨f3, f4⟩ := wipeE_some (by simp) h3
    rw [wipe_get f2] at h2
    rw [wipe_get f4] at h4
    exact e.inj i j a d f f1 h2 f3 h4
end

/-! ### targets -/
section
variable (K : PySem.W.Frag)
def SG (g : TG) (m : GM) (is : List Nat) : Prop := ∀ G n S H r σ d v r' (Q : L2.St → Hp → Prop), SR K G n S H → ER K G n S H r σ → Rel K G n d v → m d r = some r' →
  (∀ σ', ER K G n S H r' σ' → OwnSub r σ H r' σ' → (∀ vs, (∀ i ∈ is, i ∈ vs) → wipe σ' vs = wipe σ vs) → Q σ' H) → g v σ H Q
def SGs (g : TGs) (m : List GM) (is : List Nat) : Prop := ∀ G n S H r σ ds vs r' (Q : L2.St → Hp → Prop), SR K G n S H → ER K G n S H r σ → RelL K G n ds vs → gAll m ds r = some r' →
  (∀ σ', ER K G n S H r' σ' → OwnSub r σ H r' σ' → (∀ vs, (∀ i ∈ is, i ∈ vs) → wipe σ' vs = wipe σ vs) → Q σ' H) → g vs σ H Q
end
theorem wipe_set {σ : L2.St} {i : Nat} {x : Option V} : ∀ {vs : List Nat}, i ∈ vs → wipe (σ.set i x) vs = wipe σ vs
  | [], h => absurd h (by simp)
  | j :: vs, h => by
    show (wipe (σ.set i x) vs).set j none = (wipe σ vs).set j none
    by_cases hi : i ∈ vs
    · rw [wipe_set hi]
    · have hj : i = j := by
        rcases List.mem_cons.mp h with e | e
        · exact e
        · exact absurd e hi
      subst hj
      apply List.ext_getElem?
      intro k
      by_cases hk : k = i
      · subst hk
        by_cases hl : k < σ.length
        · rw [List.getElem?_set_self (by rw [wipe_length]; simpa using hl), List.getElem?_set_self (by rw [wipe_length]; exact hl)]
        · rw [List.getElem?_eq_none_iff.mpr (by rw [List.length_set, wipe_length]; simpa using hl), List.getElem?_eq_none_iff.mpr (by rw [List.length_set, wipe_length]; simpa using hl)]
      · rw [List.getElem?_set_ne (Ne.symm hk), List.getElem?_set_ne (Ne.symm hk)]
        by_cases hv : k ∈ vs
        · have z : ∀ (τ : L2.St) (ws : List Nat), k ∈ ws → k < τ.length → (wipe τ ws)[k]? = some none := by
            intro τ ws
            induction ws with
            | nil => intro h; simp at h
            | cons w ws ih =>
              intro h hl
              show ((wipe τ ws).set w none)[k]? = _
              by_cases e : k = w
              · subst e
                rw [List.getElem?_set_self (by rw [wipe_length]; exact hl)]
              · rw [List.getElem?_set_ne (Ne.symm e)]
                rcases List.mem_cons.mp h with x | x
                · exact absurd x e
                · exact ih x hl
          by_cases hl : k < σ.length
          · rw [z _ _ hv hl, z _ _ hv (by simpa using hl)]
          · rw [List.getElem?_eq_none_iff.mpr (by rw [wipe_length]; simpa using hl), List.getElem?_eq_none_iff.mpr (by rw [wipe_length]; simpa using hl)]
        · rw [wipe_get hv, wipe_get hv, List.getElem?_set_ne (Ne.symm hk)]
section
variable {K : PySem.W.Frag}
theorem SG.name (i : Nat) : SG K (gName i) (gN i) [i] := fun G n S H r σ d v r' Q s e rl hm k => by
  cases hm
  exact k _ (e.setVal i rl) (OwnSub.setVal i) fun vs hv => wipe_set (hv i (by simp))
theorem SGs.nil : SGs K gNil [] [] := fun G n S H r σ ds vs r' Q s e rl hm k => by
  cases ds with
  | nil =>
    simp only [RelL] at rl
    subst rl
    cases hm
    exact ⟨rfl, k _ e OwnSub.refl fun _ _ => rfl⟩
  | cons d ds => cases hm
theorem SGs.cons {g : TG} {gs : TGs} {m : GM} {ms : List GM} {is js : List Nat} (h : SG K g m is) (hs : SGs K gs ms js) : SGs K (gCons g gs) (m :: ms) (is ++ js) := fun G n S H r σ ds vs r' Q s e rl hm k => by
  cases ds with
  | nil => cases hm
  | cons d ds =>
    simp only [RelL] at rl
    obtain ⟨v, w, rfl, r1, r2⟩ := rl
    have hm' : (m d r).bind (gAll ms ds) = some r' := hm
    cases q : m d r with
    | none => rw [q] at hm'; cases hm'
    | some ra =>
      rw [q] at hm'
      refine ⟨v, w, rfl, h G n S H r σ d v ra _ s e r1 q fun σ1 e1 o1 w1 => ?_⟩
      refine hs G n S H ra σ1 ds w r' Q s e1 r2 hm' fun σ2 e2 o2 w2 => ?_
      refine k σ2 e2 (o1.trans o2 fun _ z => z) fun vs hv => ?_
      rw [w2 vs fun i hi => hv i (List.mem_append_right _ hi), w1 vs fun i hi => hv i (List.mem_append_left _ hi)]
theorem SG.tup {gs : TGs} {ms : List GM} {is : List Nat} {k : Nat} (hs : SGs K gs ms is) (hk : ms.length = k) : SG K (gTup K k gs) (gT ms) is := fun G n S H r σ d v r' Q s e rl hm c => by
  have main : ∀ ds a vs, v = .ref a → SqT K G a vs → RelL K G n ds vs → gAll ms ds r = some r' → gTup K k gs v σ H Q := by
    intro ds a vs ev q rm hm
    subst ev
    have len : ∀ (ms : List GM) (ds : List D) (r r' : Env), gAll ms ds r = some r' → ms.length = ds.length := by
      intro ms
      induction ms with
      | nil => intro ds r r' h; cases ds with
        | nil => rfl
        | cons => cases h
      | cons m ms ih => intro ds r r' h; cases ds with
        | nil => cases h
        | cons d ds =>
          have h' : (m d r).bind (gAll ms ds) = some r' := h
          cases q : m d r with
          | none => rw [q] at h'; cases h'
          | some ra =>
            rw [q] at h'
            simp [ih ds ra r' h']
    have hl := len ms ds r r' hm
    exact ⟨a, vs, rfl, s.sub.st q, by rw [← rm.len, ← hl]; exact hk, hs G n S H r σ ds vs r' Q s e rm hm c⟩
  cases d with
  | tup ds =>
    simp only [Rel] at rl
    obtain ⟨a, vs, rfl, q, rl⟩ := rl
    exact main ds a vs rfl q rl hm
  | trn ds =>
    simp only [Rel] at rl
    obtain ⟨a, vs, rfl, q, rl⟩ := rl
    exact main ds a vs rfl q.sq rl hm
  | _ => cases hm
end

/-! ### statements -/
section
variable (K : PySem.W.Frag) (EE : XK)
def WpS (x : Res Out) (G : Hp) (n : List Addr) (S : Store) (H : Hp) (r : Env) (σ : L2.St) (D : Ends) : Prop := match x with
  | .ok (.nx r') S' => ∀ G' n' H' σ', Post K (Own r σ) G n S H G' n' S' H' → ER K G' n' S' H' r' σ' → OwnSub r σ H r' σ' → D.nx σ' H'
  | .ok (.bk r') S' => ∀ G' n' H' σ', Post K (Own r σ) G n S H G' n' S' H' → ER K G' n' S' H' r' σ' → OwnSub r σ H r' σ' → D.bk σ' H'
  | .ok (.ct r') S' => ∀ G' n' H' σ', Post K (Own r σ) G n S H G' n' S' H' → ER K G' n' S' H' r' σ' → OwnSub r σ H r' σ' → D.ct σ' H'
  | .ok (.rt d) S' => ∀ v G' n' H', Post K (Own r σ) G n S H G' n' S' H' → Rel K G' n' d v → D.rt v H'
  | .exc x S' => ∀ c dd G' n' H', Post K (Own r σ) G n S H G' n' S' H' → ExcR x c dd H' → EE c dd H'
  | .bad => False
def SS (ts : TS) (m : SM) : Prop := ∀ G n S H r σ D, SR K G n S H → ER K G n S H r σ → WpS K EE (m r S) G n S H r σ D → ts D σ H
end
section
variable {K : PySem.W.Frag} {EE : XK} {G G1 : Hp} {n n1 : List Addr} {S S1 : Store} {H H1 : Hp} {r r1 : Env} {σ σ1 : L2.St} {D : Ends} {ts tu : TS} {ms mu : SM} {te : TE} {m : EM} {tt : TT} {t : TM}
theorem WpS.at {x : Res Out} (p : Post K (Own r σ) G n S H G1 n1 S1 H1) (o : OwnSub r σ H r1 σ1) (h : WpS K EE x G n S H r σ D) : WpS K EE x G1 n1 S1 H1 r1 σ1 D := by
  cases x with
  | ok d S' => cases d with
    | nx r' => exact fun G' n' H' σ' q e o' => h G' n' H' σ' (p.trans q o) e (o.trans o' fun _ => p.back)
    | bk r' => exact fun G' n' H' σ' q e o' => h G' n' H' σ' (p.trans q o) e (o.trans o' fun _ => p.back)
    | ct r' => exact fun G' n' H' σ' q e o' => h G' n' H' σ' (p.trans q o) e (o.trans o' fun _ => p.back)
    | rt d => exact fun v G' n' H' q => h v G' n' H' (p.trans q o)
  | exc x S' => exact fun c dd G' n' H' q => h c dd G' n' H' (p.trans q o)
  | bad => exact h
theorem WpS.at0 {x : Res Out} (p : Post K NoO G n S H G1 n1 S1 H1) (h : WpS K EE x G n S H r σ D) : WpS K EE x G1 n1 S1 H1 r σ D := h.at (p.mono fun _ z => z.elim) OwnSub.refl
theorem Post.own (p : Post K NoO G n S H G1 n1 S1 H1) : Post K (Own r σ) G n S H G1 n1 S1 H1 := p.mono fun _ z => z.elim
theorem SS.nil : SS K EE tNext mNil := fun G n S H r σ D s e w => w G n H σ (Post.refl s) e OwnSub.refl
theorem SS.seq (h1 : SS K EE ts ms) (h2 : SS K EE tu mu) : SS K EE (tSeq ts tu) (mSeq ms mu) := fun G n S H r σ D s e w => by
  refine h1 G n S H r σ _ s e ?_
  unfold mSeq at w
  cases q : ms r S with
  | ok d S1 => cases d with
    | nx r1 =>
      rw [q] at w
      exact fun G1 n1 H1 σ1 p e1 o => h2 G1 n1 S1 H1 r1 σ1 D p.sr e1 (WpS.at p o w)
    | bk r1 => rw [q] at w; exact w
    | ct r1 => rw [q] at w; exact w
    | rt d => rw [q] at w; exact w
  | exc x S' => rw [q] at w; exact w
  | bad => rw [q] at w; exact w
theorem SS.set {g : TG} {gm : GM} {is : List Nat} (he : SE K EE te m) (hg : SG K g gm is) : SS K EE (tAsg te g) (mSet gm m) := fun G n S H r σ D s e w => by
  refine he G n S H r σ _ s e ?_
  unfold mSet at w
  cases q : m r S with
  | ok d S1 =>
    rw [q] at w
    intro v G1 n1 H1 p rl
    have w1 : WpS K EE (match gm d r with | some r1 => .ok (.nx r1) S1 | none => .bad) G n S H r σ D := w
    cases q2 : gm d r with
    | none => rw [q2] at w1; exact w1.elim
    | some r1 =>
      rw [q2] at w1
      exact hg G1 n1 S1 H1 r σ d v r1 _ p.sr (e.post p) rl q2 fun σ1 e1 o1 _ => w1 G1 n1 H1 σ1 p.own e1 fun a x => (o1 a x).imp id p.back
  | exc x S' => rw [q] at w; exact fun c dd G' n' H' p => w c dd G' n' H' p.own
  | bad => rw [q] at w; exact w
theorem SS.own {i : Nat} {l : LM} (hl : SL K EE te l) : SS K EE (tAsg te (gName i)) (mOwn i l) := fun G n S H r σ D s e w => by
  refine hl G n S H r σ _ s e ?_
  unfold mOwn at w
  cases q : l r S with
  | ok ds S1 =>
    rw [q] at w
    intro b vs G1 n1 H1 p hn hg hl hb rl
    have nx : ¬ Own r σ b := fun ⟨j, c, z1, z2⟩ => by
      obtain ⟨a, o, g1, _, _, g4, _⟩ := e.own j c z1
      rw [z2] at g1; cases g1
      rw [hn] at g4; cases g4
    exact w G1 n1 H1 _ p.own ((e.post p).setOwn i hg hl hb ⟨vs, rfl, rl⟩ nx) (OwnSub.setOwn i hn)
  | exc x S' => rw [q] at w; exact fun c dd G' n' H' p => w c dd G' n' H' p.own
  | bad => rw [q] at w; exact w
theorem SS.frz {i : Nat} (h : SS K EE ts ms) : SS K EE ts (mFrz i ms) := fun G n S H r σ D s e w => by
  unfold mFrz at w
  cases q : r[i]? with
  | none => rw [q] at w; exact h G n S H r σ D s e w
  | some sl => cases sl with
    | no => rw [q] at w; exact h G n S H r σ D s e w
    | val d => rw [q] at w; exact h G n S H r σ D s e w
    | own d =>
      rw [q] at w
      obtain ⟨a, o, h1, h2, h3, h4, h5⟩ := e.own i d q
      have ow : Own r σ a := ⟨i, d, q, h1⟩
      have p : Post K (Own r σ) G n S H (upd G a o) n S H := Post.keep s h4 h2 h3 ow
      have sub := p.sub
      have rl : Rel K (upd G a o) n d (.ref a) := by
        cases d with
        | lst ds => obtain ⟨vs, rfl, z⟩ := h5; simp only [Rel]; exact ⟨a, vs, rfl, upd_same, RelL.mono sub p.eta _ _ z⟩
        | dK ks ds => obtain ⟨kvs, rfl, ek, z⟩ := h5; simp only [Rel]; exact ⟨a, kvs, rfl, upd_same, ek, RelL.mono sub p.eta _ _ z⟩
        | dT ks ds => obtain ⟨kvs, rfl, ek, z⟩ := h5; simp only [Rel]; exact ⟨a, kvs, rfl, upd_same, ek, RelL.mono sub p.eta _ _ z⟩
        | _ => exact h5.elim
      have e1 : ER K (upd G a o) n S H (r.set i (.val d)) σ := by
        refine ⟨by simp [e.len], fun j c z => ?_, fun j c z => ?_, fun j k b c f z1 z2 z3 z4 => ?_⟩
        · rcases set_some z with ⟨x, y⟩ | ⟨x, y⟩
          · subst x; cases y; exact ⟨.ref a, h1, rl⟩
          · obtain ⟨v, g1, g2⟩ := e.val j c y
            exact ⟨v, g1, Rel.mono sub p.eta _ _ g2⟩
        · rcases set_some z with ⟨x, y⟩ | ⟨x, y⟩
          · cases y
          · obtain ⟨b, u, g1, g2, g3, g4, g5⟩ := e.own j c y
            have ne : b ≠ a := fun z => x (e.inj j i a c d y (z ▸ g1) q h1)
            exact ⟨b, u, g1, by rw [upd_ne ne]; exact g2, g3, g4, HoR.mono sub p.eta _ _ g5⟩
        · rcases set_some z1 with ⟨x, y⟩ | ⟨x, y⟩
          · cases y
          · rcases set_some z3 with ⟨x', y'⟩ | ⟨x', y'⟩
            · cases y'
            · exact e.inj j k b c f y z2 y' z4
      have o1 : OwnSub r σ H (r.set i (.val d)) σ := fun b ⟨j, c, z1, z2⟩ => by
        rcases set_some z1 with ⟨x, y⟩ | ⟨x, y⟩
        · cases y
        · exact .inl ⟨j, c, y, z2⟩
      exact h _ n S H _ σ D p.sr e1 (WpS.at p o1 w)
theorem SS.ite (h : ST K EE tt t) (h1 : SS K EE ts ms) (h2 : SS K EE tu mu) : SS K EE (tIfS tt ts tu) (mIf t ms mu) := fun G n S H r σ D s e w => by
  refine h G n S H r σ _ s e ?_
  unfold mIf at w
  cases q : t r S with
  | ok c S1 =>
    rw [q] at w
    intro G1 n1 H1 p
    have w1 : WpS K EE (if c = true then ms r S1 else mu r S1) G1 n1 S1 H1 r σ D := WpS.at0 p w
    cases c with
    | true => exact h1 G1 n1 S1 H1 r σ D p.sr (e.post p) w1
    | false => exact h2 G1 n1 S1 H1 r σ D p.sr (e.post p) w1
  | exc x S' => rw [q] at w; exact fun c dd G' n' H' p => w c dd G' n' H' p.own
  | bad => rw [q] at w; exact w
theorem SS.ret (he : SE K EE te m) : SS K EE (tRet te) (mRet m) := fun G n S H r σ D s e w => by
  refine he G n S H r σ _ s e ?_
  unfold mRet at w
  cases q : m r S with
  | ok d S1 => rw [q] at w; exact fun v G1 n1 H1 p rl => w v G1 n1 H1 p.own rl
  | exc x S' => rw [q] at w; exact fun c dd G' n' H' p => w c dd G' n' H' p.own
  | bad => rw [q] at w; exact w
theorem SS.retN : SS K EE tRetN mRetN := fun G n S H r σ D s e w => w .non G n H (Post.refl s) (by simp only [Rel])
theorem SS.drop (he : SB K EE te m) : SS K EE (tDrop te) (mDrop m) := fun G n S H r σ D s e w => by
  refine he G n S H r σ _ s e ?_
  unfold mDrop at w
  cases q : m r S with
  | ok d S1 => rw [q] at w; exact fun v G1 n1 H1 p rl => w G1 n1 H1 σ p.own (e.post p) OwnSub.refl
  | exc x S' => rw [q] at w; exact fun c dd G' n' H' p => w c dd G' n' H' p.own
  | bad => rw [q] at w; exact w
theorem SS.brk : SS K EE tBreak mBreak := fun G n S H r σ D s e w => w G n H σ (Post.refl s) e OwnSub.refl
theorem SS.cont : SS K EE tCont mCont := fun G n S H r σ D s e w => w G n H σ (Post.refl s) e OwnSub.refl
theorem SS.bad : SS K EE tNever mBad := fun G n S H r σ D s e w => w
end

/-! ### walks -/
def ItOk (K : PySem.W.Frag) (B G : Hp) (n : List Addr) (ds : List D) (J : It) : Prop := ∀ H2, Sub B H2 → (∀ i, ds.length ≤ i → J.stop i H2) ∧
  ∀ i d, ds[i]? = some d → J.go i H2 ∧ ∀ x H3, J.yld i H2 x H3 → (H3 = H2 ∧ Rel K G n d x) ∨ ∃ T vs es, H2 T = none ∧ H3 = upd H2 T (.tup vs) ∧ x = .ref T ∧ d = .tup es ∧ RelL K G n es vs
def ItOkS (K : PySem.W.Frag) (B G : Hp) (n : List Addr) (src : Src) (J : It) : Prop := match src with
  | .fix ds => ItOk K B G n ds J
  | .cell k => ∃ a, n[k]? = some a ∧ J = Itl K a
section
variable (K : PySem.W.Frag) (EE : XK)
def WpI (st : Bool) (x : Res Src) (G : Hp) (n : List Addr) (S : Store) (H : Hp) (R : It → Hp → Prop) : Prop := match x with
  | .ok ds S' => ∀ J G' n' H', Post K NoO G n S H G' n' S' H' → ItOkS K (if st = true then G' else NL n' S' H') G' n' ds J → R J H'
  | .exc x S' => ∀ c dd G' n' H', Post K NoO G n S H G' n' S' H' → ExcR x c dd H' → EE c dd H'
  | .bad => False
/-- st: what is walked is kept -/
def SI (st : Bool) (wi : TI) (m : IM) : Prop := ∀ G n S H r σ R, SR K G n S H → ER K G n S H r σ → WpI K EE st (m r S) G n S H R → wi σ H R
end
section
variable {K : PySem.W.Frag} {EE : XK} {G G1 G' : Hp} {n n1 n' : List Addr} {S S1 S' : Store} {H H1 H' : Hp} {r r1 : Env} {σ σ1 : L2.St} {D : Ends} {wi : TI} {g : TG} {gm : GM} {is : List Nat} {tb : TS} {mb : SM} {im : IM} {tt : TT} {t : TM}
theorem hidden {a : Addr} {o : HO} (p : Post K NoO G n S H G' n' S' H') (h : H a = some o) (hg : G a = none) (hl : ¬ Live n S a) : G' a = none ∧ ¬ Live n' S' a ∧ H' a = some o := by
  refine ⟨?_, fun l => ?_, p.frame a o h hl fun z => z⟩
  · cases q : G' a with
    | none => rfl
    | some u =>
      rcases p.gnew a u q with x | x | x | x
      · rw [hg] at x; cases x
      · rw [h] at x; cases x
      · exact absurd x hl
      · exact x.elim
  · rcases p.live l with x | x
    · exact hl x
    · rw [h] at x; cases x
theorem lstAt_some {k : Nat} {xs : List BR.D} (h : lstAt S k = some xs) : S[k]? = some (some (.lst xs)) := by
  unfold lstAt at h
  cases q : S[k]? with
  | none => rw [q] at h; cases h
  | some o =>
    rw [q] at h
    cases o with
    | none => cases h
    | some c => cases c <;> first | (cases h; done) | (cases h; rfl)
theorem cell_lst {k : Nat} {a : Addr} {xs : List BR.D} (s : SR K G n S H) (h : n[k]? = some a) (e : lstAt S k = some xs) : ∃ vs, H a = some (.lst vs) ∧ RelL K G n xs vs := by
  obtain ⟨_, o, ho, vs, rfl, q⟩ := s.cell k a _ h (lstAt_some e)
  exact ⟨vs, ho, q⟩
theorem drop_cons {α : Type} {l : List α} {i : Nat} {d : α} (h : l[i]? = some d) : l.drop i = d :: l.drop (i + 1) := by
  obtain ⟨h1, h2⟩ := List.getElem?_eq_some_iff.mp h
  rw [← h2]
  exact List.drop_eq_getElem_cons h1
def ForGoal (J : It) (g : TG) (tb : TS) (D : Ends) (σ : L2.St) (H : Hp) : Prop := ∃ W : Nat → Nat → L2.St → Hp → Prop, (∃ m, W 0 m σ H) ∧ ∀ i m σ H, W i m σ H →
  (J.stop i H ∧ D.nx σ H) ∨ (J.go i H ∧ ∃ N : L2.St → Hp → Prop, (∀ σ' H', N σ' H' → ∃ m', m' < m ∧ W (i + 1) m' σ' H') ∧ ∀ x H', J.yld i H x H' → g x σ H' fun σ2 H2 => tb { D with nx := N, ct := N, bk := D.nx } σ2 H2)
theorem for_core {J : It} {ds : List BR.D} (hg : SG K g gm is) (hb : SS K EE tb mb) (s1 : SR K G1 n1 S1 H1) (e1 : ER K G1 n1 S1 H1 r σ) (it : ItOk K G1 G1 n1 ds J) (w1 : WpS K EE (forGo gm mb ds r S1) G1 n1 S1 H1 r σ D) : ForGoal J g tb D σ H1 := by
  refine ⟨fun i m σ2 H2 => m = ds.length - i ∧ i ≤ ds.length ∧ ∃ G2 n2 S2 r2, Post K (Own r σ) G1 n1 S1 H1 G2 n2 S2 H2 ∧ ER K G2 n2 S2 H2 r2 σ2 ∧ OwnSub r σ H1 r2 σ2 ∧ WpS K EE (forGo gm mb (ds.drop i) r2 S2) G2 n2 S2 H2 r2 σ2 D,
    ⟨ds.length, by simp, Nat.zero_le _, G1, n1, S1, r, Post.refl s1, e1, OwnSub.refl, w1⟩, ?_⟩
  rintro i m σ2 H2 ⟨rfl, hi2, G2, n2, S2, r2, p2, e2, o2, w2⟩
  obtain ⟨stop, go⟩ := it H2 (p2.sub.trans p2.sr.sub)
  by_cases hlt : i < ds.length
  · refine .inr ?_
    have hd : ds[i]? = some ds[i] := List.getElem?_eq_getElem hlt
    obtain ⟨g1, g2⟩ := go i _ hd
    rw [drop_cons hd] at w2
    refine ⟨g1, fun σ' H' => (ds.length - (i + 1) = ds.length - (i + 1)) ∧ i + 1 ≤ ds.length ∧ ∃ G3 n3 S3 r3, Post K (Own r σ) G1 n1 S1 H1 G3 n3 S3 H' ∧ ER K G3 n3 S3 H' r3 σ' ∧ OwnSub r σ H1 r3 σ' ∧ WpS K EE (forGo gm mb (ds.drop (i + 1)) r3 S3) G3 n3 S3 H' r3 σ' D,
      fun σ' H' z => ⟨ds.length - (i + 1), by omega, z⟩, fun x H3 y => ?_⟩
    -- the item, at a state (G3, H3)
    have main : ∀ G3, Post K NoO G2 n2 S2 H2 G3 n2 S2 H3 → Rel K G3 n2 ds[i] x → g x σ2 H3 fun σ3 H4 => tb { D with nx := fun σ' H' => (ds.length - (i + 1) = ds.length - (i + 1)) ∧ i + 1 ≤ ds.length ∧ ∃ G3 n3 S3 r3, Post K (Own r σ) G1 n1 S1 H1 G3 n3 S3 H' ∧ ER K G3 n3 S3 H' r3 σ' ∧ OwnSub r σ H1 r3 σ' ∧ WpS K EE (forGo gm mb (ds.drop (i + 1)) r3 S3) G3 n3 S3 H' r3 σ' D, ct := fun σ' H' => (ds.length - (i + 1) = ds.length - (i + 1)) ∧ i + 1 ≤ ds.length ∧ ∃ G3 n3 S3 r3, Post K (Own r σ) G1 n1 S1 H1 G3 n3 S3 H' ∧ ER K G3 n3 S3 H' r3 σ' ∧ OwnSub r σ H1 r3 σ' ∧ WpS K EE (forGo gm mb (ds.drop (i + 1)) r3 S3) G3 n3 S3 H' r3 σ' D, bk := D.nx } σ3 H4 := by
      intro G3 p3 rl
      unfold forGo at w2
      cases q2 : gm ds[i] r2 with
      | none => simp only [q2] at w2; exact w2.elim
      | some r3 =>
        simp only [q2] at w2
        refine hg G3 n2 S2 H3 r2 σ2 ds[i] x r3 _ p3.sr (e2.post p3) rl q2 fun σ3 e3 o3 _ => ?_
        have pb : Post K (Own r2 σ2) G2 n2 S2 H2 G3 n2 S2 H3 := p3.own
        have ob : OwnSub r2 σ2 H2 r3 σ3 := fun a z => (o3 a z).imp id p3.back
        refine hb G3 n2 S2 H3 r3 σ3 _ p3.sr e3 ?_
        have again : ∀ {G4 : Hp} {n4 : List Addr} {S4 : Store} {H4 : Hp} {r4 : Env} {σ4 : L2.St}, Post K (Own r3 σ3) G3 n2 S2 H3 G4 n4 S4 H4 → ER K G4 n4 S4 H4 r4 σ4 → OwnSub r3 σ3 H3 r4 σ4 → WpS K EE (forGo gm mb (ds.drop (i + 1)) r4 S4) G2 n2 S2 H2 r2 σ2 D →
            ds.length - (i + 1) = ds.length - (i + 1) ∧ i + 1 ≤ ds.length ∧ ∃ G3 n3 S3 r3, Post K (Own r σ) G1 n1 S1 H1 G3 n3 S3 H4 ∧ ER K G3 n3 S3 H4 r3 σ4 ∧ OwnSub r σ H1 r3 σ4 ∧ WpS K EE (forGo gm mb (ds.drop (i + 1)) r3 S3) G3 n3 S3 H4 r3 σ4 D := by
          intro G4 n4 S4 H4 r4 σ4 p4 e4 o4 w4
          have p24 : Post K (Own r2 σ2) G2 n2 S2 H2 G4 n4 S4 H4 := pb.trans p4 ob
          have o24 : OwnSub r2 σ2 H2 r4 σ4 := ob.trans o4 fun _ => p3.back
          exact ⟨rfl, hlt, G4, n4, S4, r4, p2.trans p24 o2, e4, o2.trans o24 fun _ => p2.back, WpS.at p24 o24 w4⟩
        cases q3 : mb r3 S2 with
        | ok d S4 => cases d with
          | nx r4 => simp only [q3] at w2; exact fun G4 n4 H4 σ4 p4 e4 o4 => again p4 e4 o4 w2
          | ct r4 => simp only [q3] at w2; exact fun G4 n4 H4 σ4 p4 e4 o4 => again p4 e4 o4 w2
          | bk r4 =>
            simp only [q3] at w2
            exact fun G4 n4 H4 σ4 p4 e4 o4 => w2 G4 n4 H4 σ4 (pb.trans p4 ob) e4 (ob.trans o4 fun _ => p3.back)
          | rt d => simp only [q3] at w2; exact fun v G4 n4 H4 p4 => w2 v G4 n4 H4 (pb.trans p4 ob)
        | exc x S' => simp only [q3] at w2; exact fun c dd G4 n4 H4 p4 => w2 c dd G4 n4 H4 (pb.trans p4 ob)
        | bad => simp only [q3] at w2; exact w2
    rcases g2 x H3 y with ⟨rfl, rl⟩ | ⟨T, vs, es, hT, rfl, rfl, ed, rl⟩
    · exact main G2 (Post.refl p2.sr) (Rel.mono p2.sub p2.eta _ _ rl)
    · have p3 : Post K NoO G2 n2 S2 H2 (upd G2 T (.tup vs)) n2 S2 (upd H2 T (.tup vs)) := Post.frz p2.sr hT
      refine main _ p3 ?_
      rw [ed]
      simp only [Rel]
      exact ⟨T, vs, rfl, .inl (.inl upd_same), RelL.mono (p2.sub.trans p3.sub) (p2.eta.trans p3.eta) _ _ rl⟩
  · have hi3 : i = ds.length := by omega
    refine .inl ⟨stop i (by omega), ?_⟩
    rw [List.drop_eq_nil_of_le (by omega)] at w2
    exact w2 G2 n2 H2 σ2 (Post.refl p2.sr) e2 OwnSub.refl
theorem for_coreV {k : Nat} {a : Addr} (hg : SG K g gm is) (hb : SS K EE tb mb) (s1 : SR K G1 n1 S1 H1) (e1 : ER K G1 n1 S1 H1 r σ) (ha : n1[k]? = some a) (w1 : WpS K EE (forGoV k gm mb fuel 0 r S1) G1 n1 S1 H1 r σ D) : ForGoal (Itl K a) g tb D σ H1 := by
  refine ⟨fun i m σ2 H2 => ∃ G2 n2 S2 r2, Post K (Own r σ) G1 n1 S1 H1 G2 n2 S2 H2 ∧ ER K G2 n2 S2 H2 r2 σ2 ∧ OwnSub r σ H1 r2 σ2 ∧ WpS K EE (forGoV k gm mb m i r2 S2) G2 n2 S2 H2 r2 σ2 D,
    ⟨fuel, G1, n1, S1, r, Post.refl s1, e1, OwnSub.refl, w1⟩, ?_⟩
  rintro i m σ2 H2 ⟨G2, n2, S2, r2, p2, e2, o2, w2⟩
  cases m with
  | zero => exact w2.elim
  | succ m =>
    unfold forGoV at w2
    cases ql : lstAt S2 k with
    | none => simp only [ql] at w2; exact w2.elim
    | some ds =>
      simp only [ql] at w2
      obtain ⟨vs, hv, rl⟩ := cell_lst p2.sr (p2.eta.get ha) ql
      have sq : SqL K H2 a vs := .inl (.inl hv)
      cases qd : ds[i]? with
      | none =>
        simp only [qd] at w2
        refine .inl ⟨⟨vs, sq, by rw [← rl.len]; exact List.getElem?_eq_none_iff.mp qd⟩, w2 G2 n2 H2 σ2 (Post.refl p2.sr) e2 OwnSub.refl⟩
      | some d =>
        simp only [qd] at w2
        obtain ⟨v, e3, rv⟩ := rl.get qd
        refine .inr ⟨⟨vs, v, sq, e3⟩, fun σ' H' => ∃ G3 n3 S3 r3, Post K (Own r σ) G1 n1 S1 H1 G3 n3 S3 H' ∧ ER K G3 n3 S3 H' r3 σ' ∧ OwnSub r σ H1 r3 σ' ∧ WpS K EE (forGoV k gm mb m (i + 1) r3 S3) G3 n3 S3 H' r3 σ' D, fun σ' H' z => ⟨m, Nat.lt_succ_self m, z⟩, fun x H3 y => ?_⟩
        obtain ⟨rfl, y2⟩ := y
        have e4 := y2 vs sq
        rw [e3] at e4
        obtain rfl : v = x := Option.some.inj e4
        cases q2 : gm d r2 with
        | none => simp only [q2] at w2; exact w2.elim
        | some r3 =>
          simp only [q2] at w2
          refine hg G2 n2 S2 H3 r2 σ2 d v r3 _ p2.sr e2 rv q2 fun σ3 e3 o3 _ => ?_
          refine hb G2 n2 S2 H3 r3 σ3 _ p2.sr e3 ?_
          have again : ∀ {G4 : Hp} {n4 : List Addr} {S4 : Store} {H4 : Hp} {r4 : Env} {σ4 : L2.St}, Post K (Own r3 σ3) G2 n2 S2 H3 G4 n4 S4 H4 → ER K G4 n4 S4 H4 r4 σ4 → OwnSub r3 σ3 H3 r4 σ4 → WpS K EE (forGoV k gm mb m (i + 1) r4 S4) G2 n2 S2 H3 r2 σ2 D →
              ∃ G3 n3 S3 r3, Post K (Own r σ) G1 n1 S1 H1 G3 n3 S3 H4 ∧ ER K G3 n3 S3 H4 r3 σ4 ∧ OwnSub r σ H1 r3 σ4 ∧ WpS K EE (forGoV k gm mb m (i + 1) r3 S3) G3 n3 S3 H4 r3 σ4 D := by
            intro G4 n4 S4 H4 r4 σ4 p4 e4 o4 w4
            have p24 : Post K (Own r2 σ2) G2 n2 S2 H3 G4 n4 S4 H4 := (Post.refl p2.sr).trans p4 o3
            have o24 : OwnSub r2 σ2 H3 r4 σ4 := o3.trans o4 fun _ z => z
            exact ⟨G4, n4, S4, r4, p2.trans p24 o2, e4, o2.trans o24 fun _ => p2.back, WpS.at p24 o24 w4⟩
          have pb : Post K (Own r2 σ2) G2 n2 S2 H3 G2 n2 S2 H3 := Post.refl p2.sr
          cases q3 : mb r3 S2 with
          | ok d S4 => cases d with
            | nx r4 => simp only [q3] at w2; exact fun G4 n4 H4 σ4 p4 e4 o4 => again p4 e4 o4 w2
            | ct r4 => simp only [q3] at w2; exact fun G4 n4 H4 σ4 p4 e4 o4 => again p4 e4 o4 w2
            | bk r4 =>
              simp only [q3] at w2
              exact fun G4 n4 H4 σ4 p4 e4 o4 => w2 G4 n4 H4 σ4 (pb.trans p4 o3) e4 (o3.trans o4 fun _ z => z)
            | rt d => simp only [q3] at w2; exact fun v G4 n4 H4 p4 => w2 v G4 n4 H4 (pb.trans p4 o3)
          | exc x S' => simp only [q3] at w2; exact fun c dd G4 n4 H4 p4 => w2 c dd G4 n4 H4 (pb.trans p4 o3)
          | bad => simp only [q3] at w2; exact w2
theorem SS.for (hi : SI K EE true wi im) (hg : SG K g gm is) (hb : SS K EE tb mb) : SS K EE (tFor wi g tb) (mFor im gm mb) := fun G n S H r σ D s e w => by
  refine hi G n S H r σ _ s e ?_
  unfold mFor at w
  cases q : im r S with
  | ok src S1 =>
    rw [q] at w
    intro J G1 n1 H1 p it
    rw [if_pos rfl] at it
    simp only [bind_ok] at w
    cases src with
    | fix ds => exact for_core hg hb p.sr (e.post p) it (WpS.at0 p w)
    | cell k =>
      obtain ⟨a, ha, rfl⟩ := it
      exact for_coreV hg hb p.sr (e.post p) ha (WpS.at0 p w)
  | exc x S' => rw [q] at w; exact fun c dd G' n' H' p => w c dd G' n' H' p.own
  | bad => rw [q] at w; exact w
theorem SS.while (ht : ST K EE tt t) (hb : SS K EE tb mb) : SS K EE (tWhile tt tb) (mWhile t mb) := fun G n S H r σ D s e w => by
  refine ⟨fun m σ2 H2 => ∃ G2 n2 S2 r2, Post K (Own r σ) G n S H G2 n2 S2 H2 ∧ ER K G2 n2 S2 H2 r2 σ2 ∧ OwnSub r σ H r2 σ2 ∧ WpS K EE (whileGo t mb m r2 S2) G2 n2 S2 H2 r2 σ2 D, ⟨fuel, G, n, S, r, Post.refl s, e, OwnSub.refl, w⟩, ?_⟩
  rintro m σ2 H2 ⟨G2, n2, S2, r2, p2, e2, o2, w2⟩
  cases m with
  | zero => exact w2.elim
  | succ m =>
    refine ht G2 n2 S2 H2 r2 σ2 _ p2.sr e2 ?_
    unfold whileGo at w2
    cases q : t r2 S2 with
    | ok c S3 =>
      rw [q] at w2
      intro G3 n3 H3 p3
      have w3 := WpS.at0 p3 w2
      cases c with
      | false =>
        simp only [bind_ok, Bool.false_eq_true, if_false] at w3
        exact w3 G3 n3 H3 σ2 (Post.refl p3.sr) (e2.post p3) OwnSub.refl
      | true =>
        simp only [bind_ok, if_true] at w3
        refine ⟨fun σ' H' => ∃ G4 n4 S4 r4, Post K (Own r σ) G n S H G4 n4 S4 H' ∧ ER K G4 n4 S4 H' r4 σ' ∧ OwnSub r σ H r4 σ' ∧ WpS K EE (whileGo t mb m r4 S4) G4 n4 S4 H' r4 σ' D, fun σ' H' z => ⟨m, Nat.lt_succ_self m, z⟩, ?_⟩
        refine hb G3 n3 S3 H3 r2 σ2 _ p3.sr (e2.post p3) ?_
        have pb : Post K (Own r2 σ2) G2 n2 S2 H2 G3 n3 S3 H3 := p3.own
        have again : ∀ {G4 : Hp} {n4 : List Addr} {S4 : Store} {H4 : Hp} {r4 : Env} {σ4 : L2.St}, Post K (Own r2 σ2) G3 n3 S3 H3 G4 n4 S4 H4 → ER K G4 n4 S4 H4 r4 σ4 → OwnSub r2 σ2 H3 r4 σ4 → WpS K EE (whileGo t mb m r4 S4) G3 n3 S3 H3 r2 σ2 D →
            ∃ G4 n4 S4 r4, Post K (Own r σ) G n S H G4 n4 S4 H4 ∧ ER K G4 n4 S4 H4 r4 σ4 ∧ OwnSub r σ H r4 σ4 ∧ WpS K EE (whileGo t mb m r4 S4) G4 n4 S4 H4 r4 σ4 D := by
          intro G4 n4 S4 H4 r4 σ4 p4 e4 o4 w4
          have p24 : Post K (Own r2 σ2) G2 n2 S2 H2 G4 n4 S4 H4 := pb.trans p4 OwnSub.refl
          have o24 : OwnSub r2 σ2 H2 r4 σ4 := fun a z => (o4 a z).imp id p3.back
          exact ⟨G4, n4, S4, r4, p2.trans p24 o2, e4, o2.trans o24 fun _ => p2.back, WpS.at p4 o4 w4⟩
        cases q3 : mb r2 S3 with
        | ok d S4 => cases d with
          | nx r4 => simp only [q3] at w3; exact fun G4 n4 H4 σ4 p4 e4 o4 => again p4 e4 o4 w3
          | ct r4 => simp only [q3] at w3; exact fun G4 n4 H4 σ4 p4 e4 o4 => again p4 e4 o4 w3
          | bk r4 => simp only [q3] at w3; exact w3
          | rt d => simp only [q3] at w3; exact w3
        | exc x S' => simp only [q3] at w3; exact w3
        | bad => simp only [q3] at w3; exact w3
    | exc x S' => rw [q] at w2; exact fun c dd G' n' H' p => w2 c dd G' n' H' p.own
    | bad => rw [q] at w2; exact w2
theorem wipe_idem (σ : L2.St) (vs : List Nat) : wipe (wipe σ vs) vs = wipe σ vs := by
  have this : ∀ (us : List Nat) (τ : L2.St), (∀ k ∈ us, ∀ x, τ[k]? = some x → x = none) → wipe τ us = τ := by
    intro us
    induction us with
    | nil => intro τ _; rfl
    | cons k us ih =>
      intro τ h
      show (wipe τ us).set k none = τ
      rw [ih τ fun j hj => h j (List.mem_cons_of_mem _ hj)]
      apply List.ext_getElem?
      intro j
      by_cases e : j = k
      · subst e
        by_cases hl : j < τ.length
        · rw [List.getElem?_set_self hl, List.getElem?_eq_getElem hl, h j List.mem_cons_self _ (List.getElem?_eq_getElem hl)]
        · rw [List.getElem?_eq_none_iff.mpr (by simpa using hl), List.getElem?_eq_none_iff.mpr (by simpa using hl)]
      · rw [List.getElem?_set_ne (Ne.symm e)]
  refine this vs (wipe σ vs) fun k hk x hx => ?_
  cases x with
  | none => rfl
  | some y => exact absurd hk (wipe_some hx).2
def LcGoal (J : It) (g : TG) (tt : TT) (te : TE) (vs : List Nat) (σ : L2.St) (H : Hp) (Q : VK) : Prop := ∀ D, H D = none → ∃ W : Nat → Nat → Hp → Prop, (∃ m, W 0 m (upd H D (.lst []))) ∧ ∀ i m H, W i m H →
  (J.stop i H ∧ Q (.ref D) H) ∨ (J.go i H ∧ ∃ Nx : Hp → Prop, (∀ H', Nx H' → ∃ m', m' < m ∧ W (i + 1) m' H') ∧ ∀ x H', J.yld i H x H' → g x (wipe σ vs) H' fun σ2 H2 => wipe σ2 vs = wipe σ vs ∧ tt σ2 H2 fun b H3 =>
    if b = true then te σ2 H3 fun y H4 => ∃ acc, H4 D = some (.lst acc) ∧ acc.length < sizeLine ∧ Nx (upd H4 D (.lst (acc ++ [y]))) else Nx H3)
theorem lcm_core {te : TE} {em : EM} {vs : List Nat} {J : It} {ds : List BR.D} {Q : VK} (hg : SG K g gm is) (ht : ST K EE tt t) (he : SE K EE te em) (hv : ∀ i ∈ is, i ∈ vs) (s1 : SR K G1 n1 S1 H1) (e1 : ER K G1 n1 S1 H1 r σ) (it' : ItOk K (NL n1 S1 H1) G1 n1 ds J)
    (w1 : WpL K EE (lcGo gm t em (wipeE r vs) ds [] S1) G1 n1 S1 H1 Q) : LcGoal J g tt te vs σ H1 Q := by
  intro Dd hD
  have gD : G1 Dd = none := by
    cases q : G1 Dd with
    | none => rfl
    | some u => rw [s1.sub Dd u q] at hD; cases hD
  have lD : ¬ Live n1 S1 Dd := fun l => by
    obtain ⟨_, u, z⟩ := s1.live l
    rw [hD] at z; cases z
  refine ⟨fun i m H2 => m = ds.length - i ∧ i ≤ ds.length ∧ ∃ G2 n2 S2 acc ws, Post K NoO G1 n1 S1 H1 G2 n2 S2 H2 ∧ G2 Dd = none ∧ ¬ Live n2 S2 Dd ∧ H2 Dd = some (.lst ws) ∧ RelL K G2 n2 acc ws ∧ WpL K EE (lcGo gm t em (wipeE r vs) (ds.drop i) acc S2) G1 n1 S1 H1 Q,
    ⟨ds.length, by simp, Nat.zero_le _, G1, n1, S1, [], [], Post.hid s1 hD, gD, lD, upd_same, .nil, w1⟩, ?_⟩
  rintro i m H2 ⟨rfl, hi2, G2, n2, S2, acc, ws, p2, d1, d2, d3, d4, w2⟩
  obtain ⟨stop, go⟩ := it' H2 ((NL.post p2).trans NL.sub)
  by_cases hlt : i < ds.length
  · refine .inr ?_
    have hd : ds[i]? = some ds[i] := List.getElem?_eq_getElem hlt
    obtain ⟨g1, g2⟩ := go i _ hd
    rw [drop_cons hd] at w2
    refine ⟨g1, fun H' => (ds.length - (i + 1) = ds.length - (i + 1)) ∧ i + 1 ≤ ds.length ∧ ∃ G2 n2 S2 acc ws, Post K NoO G1 n1 S1 H1 G2 n2 S2 H' ∧ G2 Dd = none ∧ ¬ Live n2 S2 Dd ∧ H' Dd = some (.lst ws) ∧ RelL K G2 n2 acc ws ∧ WpL K EE (lcGo gm t em (wipeE r vs) (ds.drop (i + 1)) acc S2) G1 n1 S1 H1 Q,
      fun H' z => ⟨ds.length - (i + 1), by omega, z⟩, fun x H3 y => ?_⟩
    have e1 : ER K G1 n1 S1 H1 (wipeE r vs) (wipe σ vs) := e1.wipe vs
    have ne : ∀ {H : Hp} {T : Addr}, H Dd = some (.lst ws) → H T = none → T ≠ Dd := fun h1 h2 z => by rw [z, h1] at h2; cases h2
    -- the item, at a state (G3, H3)
    have main : ∀ G3, Post K NoO G2 n2 S2 H2 G3 n2 S2 H3 → Rel K G3 n2 ds[i] x → g x (wipe σ vs) H3 fun σ2 H4 => wipe σ2 vs = wipe σ vs ∧ tt σ2 H4 fun b H5 => if b = true then te σ2 H5 fun y H6 => ∃ ac, H6 Dd = some (.lst ac) ∧ ac.length < sizeLine ∧
        ((ds.length - (i + 1) = ds.length - (i + 1)) ∧ i + 1 ≤ ds.length ∧ ∃ G2 n2 S2 acc ws, Post K NoO G1 n1 S1 H1 G2 n2 S2 (upd H6 Dd (.lst (ac ++ [y]))) ∧ G2 Dd = none ∧ ¬ Live n2 S2 Dd ∧ (upd H6 Dd (.lst (ac ++ [y]))) Dd = some (.lst ws) ∧ RelL K G2 n2 acc ws ∧ WpL K EE (lcGo gm t em (wipeE r vs) (ds.drop (i + 1)) acc S2) G1 n1 S1 H1 Q)
        else ((ds.length - (i + 1) = ds.length - (i + 1)) ∧ i + 1 ≤ ds.length ∧ ∃ G2 n2 S2 acc ws, Post K NoO G1 n1 S1 H1 G2 n2 S2 H5 ∧ G2 Dd = none ∧ ¬ Live n2 S2 Dd ∧ H5 Dd = some (.lst ws) ∧ RelL K G2 n2 acc ws ∧ WpL K EE (lcGo gm t em (wipeE r vs) (ds.drop (i + 1)) acc S2) G1 n1 S1 H1 Q) := by
      intro G3 p3 rl
      obtain ⟨c1, c2, c3⟩ := hidden p3 d3 d1 d2
      have p13 := p2.tr p3
      unfold lcGo at w2
      cases q2 : gm ds[i] (wipeE r vs) with
      | none => simp only [q2] at w2; exact w2.elim
      | some r3 =>
        simp only [q2] at w2
        refine hg G3 n2 S2 H3 _ _ ds[i] x r3 _ p3.sr (e1.post p13) rl q2 fun σ3 e3 o3 wp => ?_
        refine ⟨(wp vs hv).trans (wipe_idem σ vs), ?_⟩
        refine ht G3 n2 S2 H3 r3 σ3 _ p3.sr e3 ?_
        cases q3 : t r3 S2 with
        | ok c S4 =>
          rw [q3] at w2
          intro G4 n4 H4 p4
          obtain ⟨b1, b2, b3⟩ := hidden p4 c3 c1 c2
          have p14 := p13.tr p4
          cases c with
          | false =>
            simp only [bind_ok, Bool.false_eq_true, if_false] at w2
            exact ⟨rfl, hlt, G4, n4, S4, acc, ws, p14, b1, b2, b3, RelL.mono (p3.sub.trans p4.sub) (p3.eta.trans p4.eta) _ _ d4, w2⟩
          | true =>
            simp only [bind_ok, if_true] at w2
            refine he G4 n4 S4 H4 r3 σ3 _ p4.sr (e3.post p4) ?_
            cases q4 : em r3 S4 with
            | ok y S5 =>
              rw [q4] at w2
              intro v G5 n5 H5 p5 rl5
              obtain ⟨a1, a2, a3⟩ := hidden p5 b3 b1 b2
              have p15 := p14.tr p5
              simp only [bind_ok] at w2
              by_cases hl : acc.length < lim
              · rw [if_pos hl] at w2
                have rl6 : RelL K G5 n5 acc ws := RelL.mono ((p3.sub.trans p4.sub).trans p5.sub) ((p3.eta.trans p4.eta).trans p5.eta) _ _ d4
                have p6 : Post K (fun a => a = Dd) G5 n5 S5 H5 G5 n5 S5 (upd H5 Dd (.lst (ws ++ [v]))) := Post.hidW p5.sr a3 a1 a2 rfl
                exact ⟨ws, a3, by rw [← rl6.len, ← lim_eq]; exact hl, rfl, hlt, G5, n5, S5, acc ++ [y], ws ++ [v], p15.trans p6 fun a z => .inr (z ▸ hD), a1, a2, upd_same, rl6.append (.cons rl5 .nil), w2⟩
              · rw [if_neg hl] at w2; exact w2.elim
            | exc x S' => rw [q4] at w2; exact fun c dd G' n' H' p' => w2 c dd G' n' H' (p14.tr p')
            | bad => rw [q4] at w2; exact w2.elim
        | exc x S' => rw [q3] at w2; exact fun c dd G' n' H' p' => w2 c dd G' n' H' (p13.tr p')
        | bad => rw [q3] at w2; exact w2.elim
    rcases g2 x H3 y with ⟨rfl, rl⟩ | ⟨T, us, es, hT, rfl, rfl, ed, rl⟩
    · exact main G2 (Post.refl p2.sr) (Rel.mono p2.sub p2.eta _ _ rl)
    · have p3 : Post K NoO G2 n2 S2 H2 (upd G2 T (.tup us)) n2 S2 (upd H2 T (.tup us)) := Post.frz p2.sr hT
      refine main _ p3 ?_
      rw [ed]
      simp only [Rel]
      exact ⟨T, us, rfl, .inl (.inl upd_same), RelL.mono (p2.sub.trans p3.sub) (p2.eta.trans p3.eta) _ _ rl⟩
  · refine .inl ⟨stop i (by omega), ?_⟩
    rw [List.drop_eq_nil_of_le (by omega)] at w2
    exact w2 Dd ws G2 n2 H2 p2 hD d1 d2 d3 d4
theorem lcm_coreV {te : TE} {em : EM} {vs : List Nat} {k : Nat} {a : Addr} {Q : VK} (hg : SG K g gm is) (ht : ST K EE tt t) (he : SE K EE te em) (hv : ∀ i ∈ is, i ∈ vs) (s1 : SR K G1 n1 S1 H1) (e1 : ER K G1 n1 S1 H1 r σ) (ha : n1[k]? = some a)
    (w1 : WpL K EE (lcGoV k gm t em (wipeE r vs) fuel 0 [] S1) G1 n1 S1 H1 Q) : LcGoal (Itl K a) g tt te vs σ H1 Q := by
  intro Dd hD
  have gD : G1 Dd = none := by
    cases q : G1 Dd with
    | none => rfl
    | some u => rw [s1.sub Dd u q] at hD; cases hD
  have lD : ¬ Live n1 S1 Dd := fun l => by
    obtain ⟨_, u, z⟩ := s1.live l
    rw [hD] at z; cases z
  refine ⟨fun i m H2 => ∃ G2 n2 S2 acc ws, Post K NoO G1 n1 S1 H1 G2 n2 S2 H2 ∧ G2 Dd = none ∧ ¬ Live n2 S2 Dd ∧ H2 Dd = some (.lst ws) ∧ RelL K G2 n2 acc ws ∧ WpL K EE (lcGoV k gm t em (wipeE r vs) m i acc S2) G1 n1 S1 H1 Q,
    ⟨fuel, G1, n1, S1, [], [], Post.hid s1 hD, gD, lD, upd_same, .nil, w1⟩, ?_⟩
  rintro i m H2 ⟨G2, n2, S2, acc, ws, p2, d1, d2, d3, d4, w2⟩
  cases m with
  | zero => exact w2.elim
  | succ m =>
    unfold lcGoV at w2
    cases ql : lstAt S2 k with
    | none => simp only [ql] at w2; exact w2.elim
    | some ds =>
      simp only [ql] at w2
      obtain ⟨us, hu, rl⟩ := cell_lst p2.sr (p2.eta.get ha) ql
      have sq : SqL K H2 a us := .inl (.inl hu)
      cases qd : ds[i]? with
      | none =>
        simp only [qd] at w2
        exact .inl ⟨⟨us, sq, by rw [← rl.len]; exact List.getElem?_eq_none_iff.mp qd⟩, w2 Dd ws G2 n2 H2 p2 hD d1 d2 d3 d4⟩
      | some d =>
        simp only [qd] at w2
        obtain ⟨v, e3, rv⟩ := rl.get qd
        refine .inr ⟨⟨us, v, sq, e3⟩, fun H' => ∃ G2 n2 S2 acc ws, Post K NoO G1 n1 S1 H1 G2 n2 S2 H' ∧ G2 Dd = none ∧ ¬ Live n2 S2 Dd ∧ H' Dd = some (.lst ws) ∧ RelL K G2 n2 acc ws ∧ WpL K EE (lcGoV k gm t em (wipeE r vs) m (i + 1) acc S2) G1 n1 S1 H1 Q,
          fun H' z => ⟨m, Nat.lt_succ_self m, z⟩, fun x H3 y => ?_⟩
        obtain ⟨rfl, y2⟩ := y
        have e4 := y2 us sq
        rw [e3] at e4
        obtain rfl : v = x := Option.some.inj e4
        have e1 : ER K G1 n1 S1 H1 (wipeE r vs) (wipe σ vs) := e1.wipe vs
        cases q2 : gm d (wipeE r vs) with
        | none => simp only [q2] at w2; exact w2.elim
        | some r3 =>
          simp only [q2] at w2
          refine hg G2 n2 S2 H3 _ _ d v r3 _ p2.sr (e1.post p2) rv q2 fun σ3 e3 o3 wp => ?_
          refine ⟨(wp vs hv).trans (wipe_idem σ vs), ?_⟩
          refine ht G2 n2 S2 H3 r3 σ3 _ p2.sr e3 ?_
          cases q3 : t r3 S2 with
          | ok c S4 =>
            rw [q3] at w2
            intro G4 n4 H4 p4
            obtain ⟨b1, b2, b3⟩ := hidden p4 d3 d1 d2
            have p14 := p2.tr p4
            cases c with
            | false =>
              simp only [bind_ok, Bool.false_eq_true, if_false] at w2
              exact ⟨G4, n4, S4, acc, ws, p14, b1, b2, b3, RelL.mono p4.sub p4.eta _ _ d4, w2⟩
            | true =>
              simp only [bind_ok, if_true] at w2
              refine he G4 n4 S4 H4 r3 σ3 _ p4.sr (e3.post p4) ?_
              cases q4 : em r3 S4 with
              | ok y S5 =>
                rw [q4] at w2
                intro v G5 n5 H5 p5 rl5
                obtain ⟨a1, a2, a3⟩ := hidden p5 b3 b1 b2
                have p15 := p14.tr p5
                simp only [bind_ok] at w2
                by_cases hl : acc.length < lim
                · rw [if_pos hl] at w2
                  have rl6 : RelL K G5 n5 acc ws := RelL.mono (p4.sub.trans p5.sub) (p4.eta.trans p5.eta) _ _ d4
                  have p6 : Post K (fun a => a = Dd) G5 n5 S5 H5 G5 n5 S5 (upd H5 Dd (.lst (ws ++ [v]))) := Post.hidW p5.sr a3 a1 a2 rfl
                  exact ⟨ws, a3, by rw [← rl6.len, ← lim_eq]; exact hl, G5, n5, S5, acc ++ [y], ws ++ [v], p15.trans p6 fun a z => .inr (z ▸ hD), a1, a2, upd_same, rl6.append (.cons rl5 .nil), w2⟩
                · rw [if_neg hl] at w2; exact w2.elim
              | exc x S' => rw [q4] at w2; exact fun c dd G' n' H' p' => w2 c dd G' n' H' (p14.tr p')
              | bad => rw [q4] at w2; exact w2.elim
          | exc x S' => rw [q3] at w2; exact fun c dd G' n' H' p' => w2 c dd G' n' H' (p2.tr p')
          | bad => rw [q3] at w2; exact w2.elim
/-- [e for g in it if t] -/
theorem SL.lc {st : Bool} {te : TE} {em : EM} {vs : List Nat} (hi : SI K EE st wi im) (hg : SG K g gm is) (ht : ST K EE tt t) (he : SE K EE te em) (hv : ∀ i ∈ is, i ∈ vs) : SL K EE (tLc wi g tt te vs) (lLc im gm t em vs) := fun G n S H r σ Q s e w => by
  refine hi G n S H r σ _ s e ?_
  unfold lLc at w
  cases q : im r S with
  | ok src S1 =>
    rw [q] at w
    intro J G1 n1 H1 p it
    simp only [bind_ok] at w
    cases src with
    | fix ds =>
      have it' : ItOk K (NL n1 S1 H1) G1 n1 ds J := by
        intro H2 h2
        refine it H2 ?_
        cases st with
        | true => exact (NL.gsub p.sr).trans h2
        | false => exact h2
      exact lcm_core hg ht he hv p.sr (e.post p) it' (WpL.at p w)
    | cell k =>
      obtain ⟨a, ha, rfl⟩ := it
      exact lcm_coreV hg ht he hv p.sr (e.post p) ha (WpL.at p w)
  | exc x S' => rw [q] at w; exact w
  | bad => rw [q] at w; exact w
/-! ### iterables -/
theorem SI.range1 {ta : TE} {a : EM} (ha : SB K EE ta a) : SI K EE true (iRng1 (tCons ta tNil)) (iRange1 a) := fun G n S H r σ R s e w => by
  refine ha G n S H r σ _ s e ?_
  unfold iRange1 at w
  cases q : a r S with
  | ok d S1 =>
    rw [q] at w
    intro v G1 n1 H1 p rl
    cases d with
    | int j =>
      obtain rfl : v = .int j := by simpa only [RelT, Rel] using rl
      simp only [bind_ok] at w
      by_cases hj : -big62 ≤ j ∧ j < big62
      · rw [if_pos hj] at w
        have b : big62 = 2 ^ 62 := by decide
        refine ⟨j, rfl, by rw [← b]; exact hj.1, by rw [← b]; exact hj.2, w _ G1 n1 H1 p fun H2 h2 => ?_⟩
        have hl : (rangeD 0 j).length = j.toNat := by simp [rangeD]
        refine ⟨fun i hi => ?_, fun i d hd => ?_⟩
        · show j.toNat ≤ i
          rw [hl] at hi; exact hi
        · have hi : i < j.toNat := by rw [← hl]; exact (List.getElem?_eq_some_iff.mp hd).1
          refine ⟨hi, fun x H3 y => .inl ⟨y.1, ?_⟩⟩
          rw [y.2]
          unfold rangeD at hd
          rw [List.getElem?_map, List.getElem?_range (by simpa using hi)] at hd
          cases hd
          simp only [Rel]
      · rw [if_neg hj] at w; exact w.elim
    | _ => exact w.elim
  | exc x S' => rw [q] at w; exact w
  | bad => rw [q] at w; exact w
theorem SI.range2 {ta tb : TE} {a b : EM} (ha : SB K EE ta a) (hb : SB K EE tb b) : SI K EE true (iRng2 (tCons ta (tCons tb tNil))) (iRange2 a b) := fun G n S H r σ R s e w => by
  refine ha G n S H r σ _ s e ?_
  unfold iRange2 at w
  cases q : a r S with
  | ok d S1 =>
    rw [q] at w
    intro v G1 n1 H1 p rl
    simp only [bind_ok] at w
    refine hb G1 n1 S1 H1 r σ _ p.sr (e.post p) ?_
    cases q2 : b r S1 with
    | ok d2 S2 =>
      rw [q2] at w
      intro v2 G2 n2 H2 p2 rl2
      simp only [bind_ok] at w
      cases d with
      | int i =>
        cases d2 with
        | int j =>
          obtain rfl : v = .int i := by simpa only [RelT, Rel] using rl
          obtain rfl : v2 = .int j := by simpa only [RelT, Rel] using rl2
          by_cases hj : -big62 ≤ i ∧ i < big62 ∧ -big62 ≤ j ∧ j < big62
          · simp only [if_pos hj] at w
            have b : big62 = 2 ^ 62 := by decide
            refine ⟨i, j, rfl, by rw [← b]; exact hj, w _ G2 n2 H2 (p.tr p2) fun H3 h3 => ?_⟩
            have hl : (rangeD i j).length = (j - i).toNat := by simp [rangeD]
            refine ⟨fun k hk => ?_, fun k d hd => ?_⟩
            · show (j - i).toNat ≤ k
              rw [hl] at hk; exact hk
            · have hk : k < (j - i).toNat := by rw [← hl]; exact (List.getElem?_eq_some_iff.mp hd).1
              refine ⟨hk, fun x H4 y => .inl ⟨y.1, ?_⟩⟩
              rw [y.2]
              unfold rangeD at hd
              rw [List.getElem?_map, List.getElem?_range hk] at hd
              cases hd
              simp only [Rel]
          · simp only [if_neg hj] at w; exact w.elim
        | _ => exact w.elim
      | _ => exact w.elim
    | exc x S' => rw [q2] at w; exact fun c dd G' n' H' p' => w c dd G' n' H' (p.tr p')
    | bad => rw [q2] at w; exact w
  | exc x S' => rw [q] at w; exact w
  | bad => rw [q] at w; exact w
/-- a list or a tuple -/
def iSeqV (K : PySem.W.Frag) (tl : TE) : TI := fun σ H R => tl σ H fun x H1 => ∃ a, x = .ref a ∧ (((∃ xs, SqL K H1 a xs) ∧ R (Itl K a) H1) ∨ ((∃ xs, SqT K H1 a xs) ∧ R (Itt K a) H1))
theorem itl_ok {B : Hp} {a : Addr} {vs : List V} {ds : List BR.D} (h : SqL K B a vs) (rl : RelL K G n ds vs) : ItOk K B G n ds (Itl K a) := fun H2 h2 => by
  have q := h2.sl h
  refine ⟨fun i hi => ⟨vs, q, by rw [← rl.len]; exact hi⟩, fun i d hd => ?_⟩
  obtain ⟨v, e1, e2⟩ := rl.get hd
  exact ⟨⟨vs, v, q, e1⟩, fun x H3 y => .inl ⟨y.1, by
    have := y.2 vs q
    rw [e1] at this; cases this; exact e2⟩⟩
theorem itt_ok {B : Hp} {a : Addr} {vs : List V} {ds : List BR.D} (h : SqT K B a vs) (rl : RelL K G n ds vs) : ItOk K B G n ds (Itt K a) := fun H2 h2 => by
  have q := h2.st h
  refine ⟨fun i hi => ⟨vs, q, by rw [← rl.len]; exact hi⟩, fun i d hd => ?_⟩
  obtain ⟨v, e1, e2⟩ := rl.get hd
  exact ⟨⟨vs, v, q, e1⟩, fun x H3 y => .inl ⟨y.1, by
    have := y.2 vs q
    rw [e1] at this; cases this; exact e2⟩⟩
theorem SI.seq {ta : TE} {a : EM} (ha : SE K EE ta a) : SI K EE true (iSeqV K ta) (iSeq a) := fun G n S H r σ R s e w => by
  refine ha G n S H r σ _ s e ?_
  unfold iSeq at w
  cases q : a r S with
  | ok d S1 =>
    rw [q] at w
    intro v G1 n1 H1 p rl
    cases d with
    | lst ds =>
      simp only [Rel] at rl
      obtain ⟨a, vs, rfl, h1, h2⟩ := rl
      exact ⟨a, rfl, .inl ⟨⟨vs, SqL.of (p.sr.sub _ _ h1)⟩, w _ G1 n1 H1 p (itl_ok (SqL.of h1) h2)⟩⟩
    | scr ds =>
      simp only [Rel] at rl
      obtain ⟨a, vs, rfl, h1, h2⟩ := rl
      exact ⟨a, rfl, .inl ⟨⟨vs, p.sr.sub.sl h1⟩, w _ G1 n1 H1 p (itl_ok h1 h2)⟩⟩
    | tup ds =>
      simp only [Rel] at rl
      obtain ⟨a, vs, rfl, h1, h2⟩ := rl
      exact ⟨a, rfl, .inr ⟨⟨vs, p.sr.sub.st h1⟩, w _ G1 n1 H1 p (itt_ok h1 h2)⟩⟩
    | trn ds =>
      simp only [Rel] at rl
      obtain ⟨a, vs, rfl, h1, h2⟩ := rl
      exact ⟨a, rfl, .inr ⟨⟨vs, p.sr.sub.st h1.sq⟩, w _ G1 n1 H1 p (itt_ok h1.sq h2)⟩⟩
    | ref k =>
      simp only [Rel] at rl
      obtain ⟨a, rfl, ha⟩ := rl
      simp only [bind_ok] at w
      cases ql : lstAt S1 k with
      | none => simp only [ql] at w; exact w.elim
      | some xs =>
        simp only [ql] at w
        obtain ⟨vs, hv, _⟩ := cell_lst p.sr ha ql
        exact ⟨a, rfl, .inl ⟨⟨vs, .inl (.inl hv)⟩, w (Itl K a) G1 n1 H1 p ⟨a, ha, rfl⟩⟩⟩
    | _ => exact w.elim
  | exc x S' => rw [q] at w; exact w
  | bad => rw [q] at w; exact w
theorem SI.seqB {ta : TE} {a : EM} (ha : SB K EE ta a) : SI K EE false (iSeqV K ta) (iSeq a) := fun G n S H r σ R s e w => by
  refine ha G n S H r σ _ s e ?_
  unfold iSeq at w
  cases q : a r S with
  | ok d S1 =>
    rw [q] at w
    intro v G1 n1 H1 p rl
    cases d with
    | lst ds =>
      obtain ⟨a, vs, rfl, h1, h2⟩ := rl
      exact ⟨a, rfl, .inl ⟨⟨vs, SqL.of (NL.sub _ _ h1)⟩, w _ G1 n1 H1 p (itl_ok (SqL.of h1) h2)⟩⟩
    | scr ds =>
      obtain ⟨a, vs, rfl, h1, h2⟩ := rl
      exact ⟨a, rfl, .inl ⟨⟨vs, NL.sub.sl h1⟩, w _ G1 n1 H1 p (itl_ok h1 h2)⟩⟩
    | trn ds =>
      have rl' : Rel K G1 n1 (.trn ds) v := rl
      simp only [Rel] at rl'
      obtain ⟨a, vs, rfl, h1, h2⟩ := rl'
      exact ⟨a, rfl, .inr ⟨⟨vs, p.sr.sub.st h1.sq⟩, w _ G1 n1 H1 p (itt_ok ((NL.gsub p.sr).st h1.sq) h2)⟩⟩
    | tup ds =>
      have rl' : Rel K G1 n1 (.tup ds) v := rl
      simp only [Rel] at rl'
      obtain ⟨a, vs, rfl, h1, h2⟩ := rl'
      exact ⟨a, rfl, .inr ⟨⟨vs, p.sr.sub.st h1⟩, w _ G1 n1 H1 p (itt_ok ((NL.gsub p.sr).st h1) h2)⟩⟩
    | ref k =>
      have rl : Rel K G1 n1 (.ref k) v := rl
      simp only [Rel] at rl
      obtain ⟨a, rfl, ha⟩ := rl
      simp only [bind_ok] at w
      cases ql : lstAt S1 k with
      | none => simp only [ql] at w; exact w.elim
      | some xs =>
        simp only [ql] at w
        obtain ⟨vs, hv, _⟩ := cell_lst p.sr ha ql
        exact ⟨a, rfl, .inl ⟨⟨vs, .inl (.inl hv)⟩, w (Itl K a) G1 n1 H1 p ⟨a, ha, rfl⟩⟩⟩
    | _ => exact w.elim
  | exc x S' => rw [q] at w; exact w
  | bad => rw [q] at w; exact w
/-- its walk: a list or a tuple -/
theorem pi_seqV {X : Cx} {tg l : Expr} {tl : TE} (hl : PE X l tl) : PI X tg l (iSeqV X.K tl) := by
  constructor
  intro pins s σ H R I h
  refine thn (hl.run pins s σ H _ I h) fun v s1 z => ?_
  obtain ⟨x, H1, I1, r1, a, rfl, q⟩ := z
  cases r1
  have one : ∀ b ∈ [s1.heap.objs.size], FpOk X pins H1 b := fun b hb => by
    obtain rfl := List.mem_singleton.mp hb
    exact I1.fpOk (Nat.le_refl _) I1.fresh
  rcases q with ⟨⟨xs, hq⟩, q⟩ | ⟨⟨xs, hq⟩, q⟩
  · obtain ⟨its, rv, pl, hz⟩ := I1.list hq
    exact wpAny_pyIter_list pl.isList ⟨_, _, _, _, H1, rfl, I1.kept (t' := s1.toks) (fun b o e => Heap.get?_push_of_some _ e), turn_list a _, ⟨_, Heap.get?_push_size _ rfl, rfl, rfl⟩, one, q⟩
  · obtain ⟨its, rv, pl, hz⟩ := I1.tuple hq
    exact wpAny_pyIter_tuple (show s1.heap.IsTuple a its.toArray from pl) ⟨_, _, _, _, H1, rfl, I1.kept (t' := s1.toks) (fun b o e => Heap.get?_push_of_some _ e), turn_tuple a _, ⟨_, Heap.get?_push_size _ rfl, rfl, rfl⟩, one, q⟩
end

/-! ### defs -/
def spOf (K : PySem.W.Frag) (k : Nat) (m : FM) : Sp := fun vs H Q E => vs.length = k ∧ ∃ G n S ds, SR K G n S H ∧ RelL K G n ds vs ∧ WpE K E (m ds S) G n S H Q
section
variable {K : PySem.W.Frag} {G : Hp} {n : List Addr} {S : Store} {H : Hp}
theorem start_val {k : Nat} {ds : List BR.D} {i : Nat} {d : BR.D} (h : (start k ds)[i]? = some (.val d)) : ds[i]? = some d := by
  unfold start at h
  by_cases hi : i < ds.length
  · rw [List.getElem?_append_left (by simpa using hi), List.getElem?_map] at h
    rw [List.getElem?_eq_getElem hi] at h ⊢
    simpa using h
  · rw [List.getElem?_append_right (by simpa using hi), List.getElem?_replicate] at h
    split at h <;> cases h
theorem start_own {k : Nat} {ds : List BR.D} {i : Nat} {d : BR.D} (h : (start k ds)[i]? = some (.own d)) : False := by
  unfold start at h
  by_cases hi : i < ds.length
  · rw [List.getElem?_append_left (by simpa using hi), List.getElem?_map, List.getElem?_eq_getElem hi] at h
    simp at h
  · rw [List.getElem?_append_right (by simpa using hi), List.getElem?_replicate] at h
    split at h <;> cases h
theorem ER.start {N : List Str} {k : Nat} {ds : List BR.D} {vs : List V} (hk : k = N.length) (rl : RelL K G n ds vs) : ER K G n S H (start k ds) (L2.start N vs) := by
  have hl := rl.len
  refine ⟨?_, fun i d h => ?_, fun i d h => (start_own h).elim, fun i j a d e h => (start_own h).elim⟩
  · simp [BR.start, L2.start, hk, hl]
  · have h1 := start_val h
    obtain ⟨v, h2, h3⟩ := rl.get h1
    refine ⟨v, ?_, h3⟩
    unfold L2.start
    have hi : i < vs.length := (List.getElem?_eq_some_iff.mp h2).1
    rw [List.getElem?_append_left (by simpa using hi), List.getElem?_map, h2]
    rfl
/-- a def's body -/
theorem body_ok {N : List Str} {k ar : Nat} {ts : TS} {m : SM} {vs : List V} {Q : VK} {E : XK} (h : SS K E ts m) (hk : k = N.length) (hs : spOf K ar (runF k m) vs H Q E) :
    ts { nx := fun _ H' => Q .non H', rt := Q } (L2.start N vs) H := by
  obtain ⟨_, G, n, S, ds, s, rl, w⟩ := hs
  refine h G n S H (start k ds) _ _ s (ER.start hk rl) ?_
  have no : ∀ a, Own (start k ds) (L2.start N vs) a → NoO a := fun a ⟨i, d, z, _⟩ => (start_own z).elim
  unfold runF at w
  cases q : m (start k ds) S with
  | ok o S1 => cases o with
    | nx r1 => rw [q] at w; exact fun G' n' H' σ' p _ _ => w .non G' n' H' (p.mono no) (by simp only [Rel])
    | rt d => rw [q] at w; exact fun v G' n' H' p => w v G' n' H' (p.mono no)
    | bk r1 => rw [q] at w; exact w.elim
    | ct r1 => rw [q] at w; exact w.elim
  | exc x S1 => rw [q] at w; exact fun c dd G' n' H' p => w c dd G' n' H' (p.mono no)
  | bad => rw [q] at w; exact w.elim
theorem sp_call {k : Nat} {m : FM} {EE : XK} {G : Hp} {n : List Addr} {S : Store} {H : Hp} {vs : List V} {ds : List BR.D} {Q : VK} (hk : ds.length = k) (s : SR K G n S H) (rl : RelL K G n ds vs) (w : WpE K EE (m ds S) G n S H Q) : spOf K k m vs H Q EE :=
  ⟨by rw [← rl.len]; exact hk, G, n, S, ds, s, rl, w⟩
end
end BR

/-! Operations on values: the machine against the hand layer. -/
namespace BR
open PySem PySem.Spec PyProof.Rows L2

section
variable {K : PySem.W.Frag} {EE : XK} {G G1 : Hp} {n n1 : List Addr} {S S1 : Store} {H H1 : Hp} {te ta tb : TE} {m a b : EM}
theorem vw_rel {d c : BR.D} {x : V} (s : SR K G n S H) (h : RelT K G (NL n S H) n d x) (e : vw S d = some c) : RelT K G H n c x := by
  cases d with
  | ref k =>
    have h' : Rel K G n (.ref k) x := h
    simp only [Rel] at h'
    obtain ⟨p, rfl, hk⟩ := h'
    simp only [vw] at e
    cases q : S[k]? with
    | none => rw [q] at e; cases e
    | some o =>
      rw [q] at e
      cases o with
      | none => cases e
      | some c' =>
        cases e
        obtain ⟨_, o, ho, hr⟩ := s.cell k p c hk q
        cases c with
        | lst ds => obtain ⟨vs, rfl, q⟩ := hr; exact ⟨p, vs, rfl, ho, q⟩
        | dK ks ds => obtain ⟨vs, rfl, q⟩ := hr; exact ⟨p, vs, rfl, ho, q⟩
        | dT ks ds => obtain ⟨vs, rfl, q⟩ := hr; exact ⟨p, vs, rfl, ho, q⟩
        | _ => exact hr.elim
  | _ => cases e; exact RelT.mono (Sub.refl _) NL.sub (Pre.refl _) h
theorem RelT.tup {ds : List BR.D} {x : V} {N : Hp} (h : RelT K G N n (.tup ds) x) : ∃ p vs, x = .ref p ∧ SqT K G p vs ∧ RelL K G n ds vs := by
  have h' : Rel K G n (.tup ds) x := h
  simpa only [Rel] using h'
theorem RelT.trn {ds : List BR.D} {x : V} {N : Hp} (h : RelT K G N n (.trn ds) x) : ∃ p vs, x = .ref p ∧ TrN K G p vs ∧ RelL K G n ds vs := by
  have h' : Rel K G n (.trn ds) x := h
  simpa only [Rel] using h'
theorem seq_rel {c : BR.D} {x : V} {ds : List BR.D} {N : Hp} (hs : Sub G N) (h : RelT K G N n c x) (e : seqD c = some ds) : ∃ p vs, x = .ref p ∧ (SqL K N p vs ∨ SqT K N p vs) ∧ RelL K G n ds vs := by
  cases c with
  | lst xs => cases e; obtain ⟨p, vs, rfl, h1, h2⟩ := h; exact ⟨p, vs, rfl, .inl (SqL.of h1), h2⟩
  | scr xs => cases e; obtain ⟨p, vs, rfl, h1, h2⟩ := h; exact ⟨p, vs, rfl, .inl h1, h2⟩
  | tup xs => cases e; obtain ⟨p, vs, rfl, h1, h2⟩ := h.tup; exact ⟨p, vs, rfl, .inr (hs.st h1), h2⟩
  | trn xs => cases e; obtain ⟨p, vs, rfl, h1, h2⟩ := h.trn; exact ⟨p, vs, rfl, .inr (hs.st h1.sq), h2⟩
  | _ => cases e
theorem seqS_rel {d : BR.D} {x : V} {ds : List BR.D} (s : SR K G n S H) (h : RelT K G (NL n S H) n d x) (e : seqS S d = some ds) : ∃ p vs, x = .ref p ∧ (SqL K H p vs ∨ SqT K H p vs) ∧ RelL K G n ds vs := by
  unfold seqS at e
  cases q : vw S d with
  | none => rw [q] at e; cases e
  | some c =>
    rw [q] at e
    exact seq_rel s.sub (vw_rel s h q) e
theorem okI_wp {c : Bool} {d : BR.D} {Q : VK} (w : WpE K EE (okI c d S) G n S H Q) : c = true ∧ WpE K EE (.ok d S) G n S H Q := by
  unfold okI at w
  cases c with
  | true => exact ⟨rfl, w⟩
  | false => exact w.elim
theorem WpE.now {d : BR.D} {v : V} {Q : VK} (s : SR K G n S H) (w : WpE K EE (.ok d S) G n S H Q) (h : Rel K G n d v) : Q v H := w v G n H (Post.refl s) h
theorem RelT.int {N : Hp} {i : Int} {x : V} (h : RelT K G N n (.int i) x) : x = .int i := by simpa only [RelT, Rel] using h
theorem RelT.bl {N : Hp} {i : Bool} {x : V} (h : RelT K G N n (.bl i) x) : x = .bl i := by simpa only [RelT, Rel] using h
theorem RelT.str {N : Hp} {i : Str} {x : V} (h : RelT K G N n (.str i) x) : x = .str i := by simpa only [RelT, Rel] using h
theorem RelT.non {N : Hp} {x : V} (h : RelT K G N n .non x) : x = .non := by simpa only [RelT, Rel] using h
theorem rInt {i : Int} : Rel K G n (.int i) (.int i) := by simp only [Rel]
theorem rBl {i : Bool} : Rel K G n (.bl i) (.bl i) := by simp only [Rel]
theorem rStr {i : Str} : Rel K G n (.str i) (.str i) := by simp only [Rel]
theorem rNon : Rel K G n .non .non := by simp only [Rel]

/-! ### calls of built-ins, by values -/
theorem SB.cb1 {t : List V → Hp → VK → Prop} {f : BR.D → Store → Res BR.D} (ha : SB K EE ta a)
    (ho : ∀ G n S H x d Q, SR K G n S H → RelT K G (NL n S H) n d x → WpE K EE (f d S) G n S H Q → t [x] H Q) : SE K EE (tCB t (tCons ta tNil)) (e1 f a) := fun G n S H r σ Q s e w => by
  refine ha G n S H r σ _ s e ?_
  unfold e1 at w
  cases q : a r S with
  | ok d S1 => rw [q] at w; exact fun v G1 n1 H1 p rl => ho G1 n1 S1 H1 v d Q p.sr rl (WpE.at p w)
  | exc x S' => rw [q] at w; exact w
  | bad => rw [q] at w; exact w
theorem SB.cb2 {t : List V → Hp → VK → Prop} {f : BR.D → BR.D → Store → Res BR.D} (ha : SB K EE ta a) (hb : SB K EE tb b)
    (ho : ∀ G n S H x y d e Q, SR K G n S H → RelT K G (NL n S H) n d x → RelT K G (NL n S H) n e y → WpE K EE (f d e S) G n S H Q → t [x, y] H Q) : SE K EE (tCB t (tCons ta (tCons tb tNil))) (e2 f a b) :=
  fun G n S H r σ Q s e w => SB.op2 (t := fun x y => t [x, y]) ha hb ho G n S H r σ Q s e w
/-- a fresh list by an operation of one value -/
theorem SB.l1 {t : List V → Hp → VK → Prop} {f : BR.D → Store → Res (List BR.D)} (ha : SB K EE ta a)
    (ho : ∀ G n S H x d Q, SR K G n S H → RelT K G (NL n S H) n d x → WpL K EE (f d S) G n S H Q → t [x] H Q) : SL K EE (tCB t (tCons ta tNil)) (l1 f a) := fun G n S H r σ Q s e w => by
  refine ha G n S H r σ _ s e ?_
  unfold BR.l1 at w
  cases q : a r S with
  | ok d S1 => rw [q] at w; exact fun v G1 n1 H1 p rl => ho G1 n1 S1 H1 v d Q p.sr rl (WpL.at p w)
  | exc x S' => rw [q] at w; exact w
  | bad => rw [q] at w; exact w
theorem WpL.new {ds : List BR.D} {vs : List V} {Q : VK} (s : SR K G n S H) (w : WpL K EE (.ok ds S) G n S H Q) (h : RelL K G n ds vs) : ∀ p, H p = none → Q (.ref p) (upd H p (.lst vs)) := fun p hp => by
  refine w p vs G n _ (Post.hid s hp) hp ?_ (fun l => ?_) upd_same h
  · cases q : G p with
    | none => rfl
    | some u => rw [s.sub p u q] at hp; cases hp
  · obtain ⟨_, u, q⟩ := s.live l
    rw [hp] at q; cases q
theorem WpE.newL {ds : List BR.D} {vs : List V} {Q : VK} (s : SR K G n S H) (w : WpE K EE (.ok (.lst ds) S) G n S H Q) (h : RelL K G n ds vs) : ∀ p, H p = none → Q (.ref p) (upd H p (.lst vs)) := fun p hp => by
  have p2 := Post.frz (o := .lst vs) s hp
  exact w _ _ _ _ p2 (by simp only [Rel]; exact ⟨p, vs, rfl, upd_same, RelL.mono p2.sub p2.eta _ _ h⟩)
theorem WpE.newT {ds : List BR.D} {vs : List V} {Q : VK} (s : SR K G n S H) (w : WpE K EE (.ok (.tup ds) S) G n S H Q) (h : RelL K G n ds vs) : ∀ p, H p = none → Q (.ref p) (upd H p (.tup vs)) := fun p hp => by
  have p2 := Post.frz (o := .tup vs) s hp
  exact w _ _ _ _ p2 (by simp only [Rel]; exact ⟨p, vs, rfl, .inl (.inl upd_same), RelL.mono p2.sub p2.eta _ _ h⟩)

/-! ### ints -/
theorem O2.int {C : Int → Int → Prop} {g : Int → Int → BR.D} {gv : Int → Int → V} {f : BR.D → BR.D → Store → Res BR.D} (hf : ∀ x y S Q G n H, WpE K EE (f x y S) G n S H Q → ∃ i j, x = .int i ∧ y = .int j ∧ C i j ∧ WpE K EE (.ok (g i j) S) G n S H Q)
    (hg : ∀ i j G n, Rel K G n (g i j) (gv i j)) : O2 K EE (rI C gv) f := fun G n S H x y d e Q s hx hy w => by
  obtain ⟨i, j, rfl, rfl, c, w2⟩ := hf _ _ _ _ _ _ _ w
  exact ⟨i, j, hx.int, hy.int, c, WpE.now s w2 (hg i j G n)⟩
theorem O2.int0 {g : Int → Int → BR.D} {gv : Int → Int → V} {f : BR.D → BR.D → Store → Res BR.D} (hf : ∀ x y S Q G n H, WpE K EE (f x y S) G n S H Q → ∃ i j, x = .int i ∧ y = .int j ∧ WpE K EE (.ok (g i j) S) G n S H Q)
    (hg : ∀ i j G n, Rel K G n (g i j) (gv i j)) : O2 K EE (rI0 gv) f := fun G n S H x y d e Q s hx hy w => by
  obtain ⟨i, j, rfl, rfl, w2⟩ := hf _ _ _ _ _ _ _ w
  exact ⟨i, j, hx.int, hy.int, WpE.now s w2 (hg i j G n)⟩
theorem o_sub : O2 K EE (rI0 fun i j => .int (i - j)) dSub := .int0 (fun x y S Q G n H w => by
  cases x <;> cases y <;> first | exact (w : False).elim | exact ⟨_, _, rfl, rfl, w⟩) fun _ _ _ _ => rInt
theorem o_lt : O2 K EE (rI0 fun i j => .bl (decide (i < j))) dLt := .int0 (fun x y S Q G n H w => by
  cases x <;> cases y <;> first | exact (w : False).elim | exact ⟨_, _, rfl, rfl, w⟩) fun _ _ _ _ => rBl
theorem o_le : O2 K EE (rI0 fun i j => .bl (decide (i ≤ j))) dLe := .int0 (fun x y S Q G n H w => by
  cases x <;> cases y <;> first | exact (w : False).elim | exact ⟨_, _, rfl, rfl, w⟩) fun _ _ _ _ => rBl
theorem o_gt : O2 K EE (rI0 fun i j => .bl (decide (j < i))) dGt := .int0 (fun x y S Q G n H w => by
  cases x <;> cases y <;> first | exact (w : False).elim | exact ⟨_, _, rfl, rfl, w⟩) fun _ _ _ _ => rBl
theorem o_ge : O2 K EE (rI0 fun i j => .bl (decide (j ≤ i))) dGe := .int0 (fun x y S Q G n H w => by
  cases x <;> cases y <;> first | exact (w : False).elim | exact ⟨_, _, rfl, rfl, w⟩) fun _ _ _ _ => rBl
theorem o_fdiv : O2 K EE (rI CDivW fun i j => .int (i / j)) dFdiv := .int (fun x y S Q G n H w => by
  cases x <;> cases y <;> first
    | exact (w : False).elim
    | (obtain ⟨c, w⟩ := okI_wp w
       have c := of_decide_eq_true c
       exact ⟨_, _, rfl, rfl, c, w⟩)) fun _ _ _ _ => rInt
theorem o_mod : O2 K EE (rI (fun _ j => 0 < j) fun i j => .int (i % j)) dMod := .int (fun x y S Q G n H w => by
  cases x <;> cases y <;> first
    | exact (w : False).elim
    | (obtain ⟨c, w⟩ := okI_wp w
       exact ⟨_, _, rfl, rfl, of_decide_eq_true c, w⟩)) fun _ _ _ _ => rInt
theorem o_pow : O2 K EE (rI CPow fun i j => .int (i ^ j.toNat)) dPow := .int (fun x y S Q G n H w => by
  cases x <;> cases y <;> first
    | exact (w : False).elim
    | (obtain ⟨c, w⟩ := okI_wp w
       have c := of_decide_eq_true c
       exact ⟨_, _, rfl, rfl, ⟨c.1, c.2.1, by have := c.2.2; omega⟩, w⟩)) fun _ _ _ _ => rInt
theorem o_neg : O1 K EE (rU fun i => .int (-i)) dNeg := fun G n S H x d Q s hx w => by
  cases d <;> first | exact (w : False).elim | exact ⟨_, hx.int, WpE.now s w rInt⟩
/-- + of ints, texts, tuples, lists -/
def rAddA (K : PySem.W.Frag) : R2 := fun x y H Q => rI0 (fun i j => .int (i + j)) x y H Q ∨ (∃ i j, x = .str i ∧ y = .str j ∧ i.length + j.length ≤ sizeLine ∧ Q (.str (i ++ j)) H) ∨ L2.rCatA K x y H Q ∨ rCat x y H Q
theorem o_add : O2 K EE (rAddA K) dAdd := fun G n S H x y d e Q s hx hy w => by
  have hx' := RelT.mono (Sub.refl _) NL.sub (Pre.refl _) hx
  have hy' := RelT.mono (Sub.refl _) NL.sub (Pre.refl _) hy
  cases d <;> cases e <;> first | exact (w : False).elim | skip
  case int.int i j => exact .inl ⟨i, j, hx.int, hy.int, WpE.now s w rInt⟩
  case str.str i j =>
    obtain ⟨c, w⟩ := okI_wp w
    exact .inr (.inl ⟨i, j, hx.str, hy.str, by rw [← lim_eq]; exact of_decide_eq_true c, WpE.now s w rStr⟩)
  case tup.tup xs ys =>
    obtain ⟨c, w⟩ := okI_wp w
    have c := of_decide_eq_true c
    obtain ⟨p, vs, rfl, h1, h2⟩ := hx.tup
    obtain ⟨q, us, rfl, h3, h4⟩ := hy.tup
    refine .inr (.inr (.inl ⟨p, q, vs, us, rfl, rfl, s.sub.st h1, s.sub.st h3, by rw [← h2.len, ← h4.len, ← lim_eq]; exact c, fun z => ?_, fun _ z => ?_, fun _ _ => WpE.newT s w (h2.append h4)⟩))
    · subst z
      obtain rfl : xs = [] := List.length_eq_zero_iff.mp h2.len
      exact WpE.now s w (by simp only [Rel]; exact ⟨q, us, rfl, h3, h4⟩)
    · subst z
      obtain rfl : ys = [] := List.length_eq_zero_iff.mp h4.len
      exact WpE.now s w (by simp only [Rel]; exact ⟨p, vs, rfl, h1, by rw [List.append_nil]; exact h2⟩)
  case lst.lst xs ys =>
    obtain ⟨c, w⟩ := okI_wp w
    have c := of_decide_eq_true c
    obtain ⟨p, vs, rfl, h1, h2⟩ := hx'
    obtain ⟨q, us, rfl, h3, h4⟩ := hy'
    exact .inr (.inr (.inr ⟨p, q, vs, us, rfl, rfl, h1, h3, by rw [← h2.len, ← h4.len, ← lim_eq]; exact c, WpE.newL s w (h2.append h4)⟩))
/-- * of ints, of a list and an int -/
def rMulA : R2 := fun x y H Q => rI CMulW (fun i j => .int (i * j)) x y H Q ∨ rRep x y H Q
theorem RelL.rep {ds : List BR.D} {vs : List V} (h : RelL K G n ds vs) : ∀ k : Nat, RelL K G n (List.replicate k ds).flatten (List.replicate k vs).flatten
  | 0 => RelL.nil
  | k + 1 => by
    rw [List.replicate_succ, List.replicate_succ, List.flatten_cons, List.flatten_cons]
    exact h.append (RelL.rep h k)
theorem o_mul : O2 K EE rMulA dMul := fun G n S H x y d e Q s hx hy w => by
  have hx' := RelT.mono (Sub.refl _) NL.sub (Pre.refl _) hx
  cases d <;> cases e <;> first | exact (w : False).elim | skip
  case int.int i j =>
    obtain ⟨c, w⟩ := okI_wp w
    have c := of_decide_eq_true c
    exact .inl ⟨i, j, hx.int, hy.int, c, WpE.now s w rInt⟩
  case lst.int xs k =>
    obtain ⟨c, w⟩ := okI_wp w
    have c := of_decide_eq_true c
    obtain ⟨p, vs, rfl, h1, h2⟩ := hx'
    exact .inr ⟨p, k, vs, rfl, hy.int, h1, by have := c.1; omega, by have := c.2.1; omega, by rw [← h2.len, ← lim_eq]; exact c.2.2, WpE.newL s w (h2.rep _)⟩
/-- is None, is not None -/
def rIsN : R2 := fun x y H Q => y = .non ∧ Q (.bl (decide (x = .non))) H
def rNotN : R2 := fun x y H Q => y = .non ∧ Q (.bl (!decide (x = .non))) H
theorem isNon_rel {N : Hp} {d : BR.D} {x : V} (h : RelT K G N n d x) : decide (x = .non) = isNon d := by
  cases d with
  | non => rw [h.non]; rfl
  | bl b => rw [h.bl]; rfl
  | int b => rw [h.int]; rfl
  | str b => rw [h.str]; rfl
  | ty t => obtain rfl : x = .ty t := by simpa only [RelT, Rel] using h
            rfl
  | tup ds => obtain ⟨p, vs, rfl, _⟩ := h.tup; rfl
  | trn ds => obtain ⟨p, vs, rfl, _⟩ := h.trn; rfl
  | lst ds => obtain ⟨p, vs, rfl, _⟩ := h; rfl
  | scr ds => obtain ⟨p, vs, rfl, _⟩ := h; rfl
  | dK ks ds => obtain ⟨p, vs, rfl, _⟩ := h; rfl
  | dT ks ds => obtain ⟨p, vs, rfl, _⟩ := h; rfl
  | ref k =>
    have h' : Rel K G n (.ref k) x := h
    simp only [Rel] at h'
    obtain ⟨p, rfl, _⟩ := h'; rfl
theorem o_is : O2 K EE rIsN dIs := fun G n S H x y d e Q s hx hy w => by
  cases e <;> first | (cases d <;> exact (w : False).elim) | skip
  have w' : WpE K EE (.ok (.bl (isNon d)) S) G n S H Q := by cases d <;> exact w
  exact ⟨hy.non, by rw [isNon_rel hx]; exact WpE.now s w' rBl⟩
theorem o_isNot : O2 K EE rNotN dIsNot := fun G n S H x y d e Q s hx hy w => by
  cases e <;> first | (cases d <;> exact (w : False).elim) | skip
  have w' : WpE K EE (.ok (.bl (!isNon d)) S) G n S H Q := by cases d <;> exact w
  exact ⟨hy.non, by rw [isNon_rel hx]; exact WpE.now s w' rBl⟩
/-! ### data -/
mutual
theorem dp_rel {H : Hp} (hs : Sub G H) : ∀ (k : Nat) (d : BR.D) (v : V), okP k d = true → Rel K G n d v → Dp K H v (toP d)
  | 0, _, _, h, _ => by simp [okP] at h
  | k + 1, .non, v, _, r => by simp only [Rel] at r; subst r; exact .non
  | k + 1, .bl b, v, _, r => by simp only [Rel] at r; subst r; exact .bl b
  | k + 1, .int b, v, _, r => by simp only [Rel] at r; subst r; exact .int b
  | k + 1, .str b, v, _, r => by simp only [Rel] at r; subst r; exact .str b
  | k + 1, .ty _, v, h, r => by simp [okP] at h
  | k + 1, .dK _ _, v, h, r => by simp [okP] at h
  | k + 1, .dT _ _, v, h, r => by simp [okP] at h
  | k + 1, .ref _, v, h, r => by simp [okP] at h
  | k + 1, .tup ds, v, h, r => by
    simp only [Rel] at r
    obtain ⟨a, vs, rfl, h1, h2⟩ := r
    exact .tup (hs.st h1) (dps_rel hs k ds vs (by simpa only [okP] using h) h2)
  | k + 1, .trn ds, v, h, r => by
    simp only [Rel] at r
    obtain ⟨a, vs, rfl, h1, h2⟩ := r
    exact .tup (hs.st h1.sq) (dps_rel hs k ds vs (by simpa only [okP] using h) h2)
  | k + 1, .lst ds, v, h, r => by
    simp only [Rel] at r
    obtain ⟨a, vs, rfl, h1, h2⟩ := r
    exact .lst (SqL.of (hs _ _ h1)) (dps_rel hs k ds vs (by simpa only [okP] using h) h2)
  | k + 1, .scr ds, v, h, r => by
    simp only [Rel] at r
    obtain ⟨a, vs, rfl, h1, h2⟩ := r
    exact .lst (hs.sl h1) (dps_rel hs k ds vs (by simpa only [okP] using h) h2)
theorem dps_rel {H : Hp} (hs : Sub G H) : ∀ (k : Nat) (ds : List BR.D) (vs : List V), ds.all (okP k) = true → RelL K G n ds vs → DpAll K H vs (toPs ds)
  | k, [], vs, _, r => by simp only [RelL] at r; subst r; exact .nil
  | k, d :: ds, vs, h, r => by
    simp only [RelL] at r
    obtain ⟨v, w, rfl, r1, r2⟩ := r
    rw [List.all_cons, Bool.and_eq_true] at h
    exact .cons (dp_rel hs k d v h.1 r1) (dps_rel hs k ds w h.2 r2)
end
theorem dp_relT {k : Nat} {d : BR.D} {v : V} (s : Sub G H) (h : okP k d = true) (r : RelT K G H n d v) : Dp K H v (toP d) := by
  cases k with
  | zero => simp [okP] at h
  | succ k =>
    cases d with
    | lst ds => obtain ⟨a, vs, rfl, h1, h2⟩ := r; exact .lst (SqL.of h1) (dps_rel s k ds vs (by simpa only [okP] using h) h2)
    | scr ds => obtain ⟨a, vs, rfl, h1, h2⟩ := r; exact .lst h1 (dps_rel s k ds vs (by simpa only [okP] using h) h2)
    | dK ks ds => simp [okP] at h
    | dT ks ds => simp [okP] at h
    | _ => exact dp_rel (n := n) s (k + 1) _ v h r
mutual
theorem okP_lay : ∀ (k : Nat) (d : BR.D), okP k d = true → (toP d).canLay0 = true ∧ (toP d).depth ≤ k
  | 0, _, h => by simp [okP] at h
  | k + 1, .non, _ | k + 1, .bl _, _ | k + 1, .int _, _ => by simp [toP, PyData.canLay0, PyData.depth]
  | k + 1, .str b, h => by simp only [okP] at h; simp [toP, PyData.canLay0, PyData.depth, h]
  | k + 1, .ty _, h | k + 1, .dK _ _, h | k + 1, .dT _ _, h | k + 1, .ref _, h => by simp [okP] at h
  | k + 1, .tup ds, h | k + 1, .trn ds, h | k + 1, .lst ds, h | k + 1, .scr ds, h => by
    obtain ⟨h1, h2⟩ := okPs_lay k ds (by simpa only [okP] using h)
    simp only [toP, PyData.canLay0, PyData.depth]
    exact ⟨h1, by omega⟩
theorem okPs_lay : ∀ (k : Nat) (ds : List BR.D), ds.all (okP k) = true → PyData.canLayAll0 (toPs ds) = true ∧ PyData.depthAll (toPs ds) ≤ k
  | k, [], _ => by simp [toPs, PyData.canLayAll0, PyData.depthAll]
  | k, d :: ds, h => by
    rw [List.all_cons, Bool.and_eq_true] at h
    obtain ⟨h1, h2⟩ := okP_lay k d h.1
    obtain ⟨h3, h4⟩ := okPs_lay k ds h.2
    simp only [toPs, PyData.canLayAll0, PyData.depthAll, h1, h3, Bool.and_self, true_and]
    omega
end
theorem okP_shaped {d : BR.D} (h : okP deep d = true) : SeqAt.shaped (toP d) = true := by
  obtain ⟨h1, h2⟩ := okP_lay deep d h
  unfold SeqAt.shaped
  rw [h1, decide_eq_true (by have : deep = 60 := rfl; omega)]
  rfl
theorem o_eq : O2 K EE (rEqD K) dEq := fun G n S H x y d e Q s hx hy w => by
  unfold dEq at w
  cases q : vw S d with
  | none => rw [q] at w; exact w.elim
  | some a =>
    cases q2 : vw S e with
    | none => rw [q, q2] at w; exact w.elim
    | some b =>
      rw [q, q2] at w
      obtain ⟨c, w⟩ := okI_wp w
      rw [Bool.and_eq_true] at c
      exact ⟨_, _, dp_relT s.sub c.1 (vw_rel s hx q), dp_relT s.sub c.2 (vw_rel s hy q2), okP_shaped c.1, okP_shaped c.2, WpE.now s w rBl⟩
theorem o_ne : O2 K EE (rNeD K) dNe := fun G n S H x y d e Q s hx hy w => by
  unfold dNe at w
  cases q : vw S d with
  | none => rw [q] at w; exact w.elim
  | some a =>
    cases q2 : vw S e with
    | none => rw [q, q2] at w; exact w.elim
    | some b =>
      rw [q, q2] at w
      obtain ⟨c, w⟩ := okI_wp w
      rw [Bool.and_eq_true] at c
      exact ⟨_, _, dp_relT s.sub c.1 (vw_rel s hx q), dp_relT s.sub c.2 (vw_rel s hy q2), okP_shaped c.1, okP_shaped c.2, WpE.now s w rBl⟩
/-! ### in -/
theorem flat_rel {N : Hp} {d : BR.D} {v : V} (f : flatD d = true) (h : RelT K G N n d v) : flatV v = true := by
  cases d with
  | non => rw [h.non]; rfl
  | bl b => rw [h.bl]; rfl
  | int b => rw [h.int]; rfl
  | str b => rw [h.str]; rfl
  | _ => cases f
theorem flat_rel0 {d : BR.D} {v : V} (f : flatD d = true) (h : Rel K G n d v) : flatV v = true := by
  cases d with
  | non => simp only [Rel] at h; subst h; rfl
  | bl b => simp only [Rel] at h; subst h; rfl
  | int b => simp only [Rel] at h; subst h; rfl
  | str b => simp only [Rel] at h; subst h; rfl
  | _ => cases f
theorem eqF_rel {N : Hp} {d e : BR.D} {v u : V} (f : flatD d = true) (g : flatD e = true) (h : Rel K G n d v) (h2 : RelT K G N n e u) : eqV v u = eqF d e := by
  cases d <;> first | (cases f; done) | skip
  all_goals (cases e <;> first | (cases g; done) | skip)
  all_goals (simp only [RelT, Rel] at h h2; subst h h2; rfl)
theorem flats_rel : ∀ {ds : List BR.D} {vs : List V}, ds.all flatD = true → RelL K G n ds vs → vs.all flatV = true
  | [], vs, _, r => by simp only [RelL] at r; subst r; rfl
  | d :: ds, vs, h, r => by
    simp only [RelL] at r
    obtain ⟨v, w, rfl, r1, r2⟩ := r
    rw [List.all_cons, Bool.and_eq_true] at h ⊢
    exact ⟨flat_rel0 h.1 r1, flats_rel h.2 r2⟩
theorem inV_rel {N : Hp} {e : BR.D} {u : V} (g : flatD e = true) (h2 : RelT K G N n e u) : ∀ {ds : List BR.D} {vs : List V}, ds.all flatD = true → RelL K G n ds vs → inV u vs = ds.any fun z => eqF z e
  | [], vs, _, r => by simp only [RelL] at r; subst r; rfl
  | d :: ds, vs, h, r => by
    simp only [RelL] at r
    obtain ⟨v, w, rfl, r1, r2⟩ := r
    rw [List.all_cons, Bool.and_eq_true] at h
    have := inV_rel g h2 h.2 r2
    unfold inV at this ⊢
    rw [List.any_cons, List.any_cons, this, eqF_rel h.1 g r1 h2]
theorem any_toPs {p : PyData} : ∀ ds : List BR.D, (toPs ds).any (fun z => PyData.eqv z p) = ds.any fun z => PyData.eqv (toP z) p
  | [] => rfl
  | d :: ds => by simp only [toPs, List.any_cons, any_toPs ds]
def rInA (K : PySem.W.Frag) : R2 := fun x y H Q => rIn K false x y H Q ∨ rInD K x y H Q
def rNotInA (K : PySem.W.Frag) : R2 := fun x y H Q => rIn K true x y H Q ∨ rNotInD K x y H Q
theorem inD_rel {x y : V} {d e : BR.D} {b : Bool} (s : SR K G n S H) (hx : RelT K G (NL n S H) n d x) (hy : RelT K G (NL n S H) n e y) (w : inD d e S = some b) :
    (∃ p xs, y = .ref p ∧ (SqL K H p xs ∨ SqT K H p xs) ∧ flatV x = true ∧ xs.all flatV = true ∧ inV x xs = b) ∨ ∃ d ds, Dp K H x d ∧ Dp K H y (.list ds) ∧ SeqAt.shaped d = true ∧ SeqAt.shaped (.list ds) = true ∧ (ds.any fun z => PyData.eqv z d) = b := by
  unfold inD at w
  have hx' : RelT K G H n d x := RelT.mono (Sub.refl _) NL.sub (Pre.refl _) hx
  cases q : vw S e with
  | none => rw [q] at w; cases w
  | some c =>
    have hy' := vw_rel s hy q
    rw [q] at w
    cases c with
    | tup ds =>
      simp only [] at w
      split at w
      · rename_i c
        cases w
        rw [Bool.and_eq_true] at c
        obtain ⟨p, vs, rfl, h1, h2⟩ := hy'.tup
        exact .inl ⟨p, vs, rfl, .inr (s.sub.st h1), flat_rel c.1 hx, flats_rel c.2 h2, inV_rel c.1 hx c.2 h2⟩
      · cases w
    | trn ds =>
      simp only [] at w
      split at w
      · rename_i c
        cases w
        rw [Bool.and_eq_true] at c
        obtain ⟨p, vs, rfl, h1, h2⟩ := hy'.trn
        exact .inl ⟨p, vs, rfl, .inr (s.sub.st h1.sq), flat_rel c.1 hx, flats_rel c.2 h2, inV_rel c.1 hx c.2 h2⟩
      · cases w
    | lst ds =>
      simp only [] at w
      split at w
      · rename_i c
        cases w
        rw [Bool.and_eq_true] at c
        exact .inr ⟨toP d, toPs ds, dp_relT s.sub c.1 hx', by have := dp_relT s.sub c.2 hy'; simpa only [toP] using this, okP_shaped c.1, by have := okP_shaped c.2; simpa only [toP] using this, any_toPs ds⟩
      · cases w
    | scr ds =>
      simp only [] at w
      split at w
      · rename_i c
        cases w
        rw [Bool.and_eq_true] at c
        exact .inr ⟨toP d, toPs ds, dp_relT s.sub c.1 hx', by have := dp_relT s.sub c.2 hy'; simpa only [toP] using this, okP_shaped c.1, by have := okP_shaped c.2; simpa only [toP] using this, any_toPs ds⟩
      · cases w
    | _ => cases w
theorem o_in : O2 K EE (rInA K) dIn := fun G n S H x y d e Q s hx hy w => by
  unfold dIn at w
  cases q : inD d e S with
  | none => rw [q] at w; exact w.elim
  | some b =>
    rw [q] at w
    rcases inD_rel s hx hy q with ⟨p, xs, rfl, h1, h2, h3, h4⟩ | ⟨d', ds, h1, h2, h3, h4, h5⟩
    · exact .inl ⟨p, xs, rfl, h1, h2, h3, by rw [h4]; exact WpE.now s w rBl⟩
    · exact .inr ⟨d', ds, h1, h2, h3, h4, by rw [h5]; exact WpE.now s w rBl⟩
theorem o_notIn : O2 K EE (rNotInA K) dNotIn := fun G n S H x y d e Q s hx hy w => by
  unfold dNotIn at w
  cases q : inD d e S with
  | none => rw [q] at w; exact w.elim
  | some b =>
    rw [q] at w
    rcases inD_rel s hx hy q with ⟨p, xs, rfl, h1, h2, h3, h4⟩ | ⟨d', ds, h1, h2, h3, h4, h5⟩
    · exact .inl ⟨p, xs, rfl, h1, h2, h3, by rw [h4]; exact WpE.now s w rBl⟩
    · exact .inr ⟨d', ds, h1, h2, h3, h4, by rw [h5]; exact WpE.now s w rBl⟩
/-! ### len, items, list, tuple -/
def rLenA (K : PySem.W.Frag) : List V → Hp → VK → Prop := fun xs H Q => ∃ x m, xs = [x] ∧ LenV K x H m ∧ Q (.int m) H
theorem s_len (ha : SB K EE ta a) : SE K EE (tCB (rLenA K) (tCons ta tNil)) (e1 dLen a) := ha.cb1 fun G n S H x d Q s hx w => by
  unfold dLen at w
  cases q : vw S d with
  | none => rw [q] at w; exact w.elim
  | some c =>
    have hy := vw_rel s hx q
    rw [q] at w
    have seq : ∀ ds, seqD c = some ds → WpE K EE (.ok (.int ds.length) S) G n S H Q → rLenA K [x] H Q := fun ds h w => by
      obtain ⟨p, vs, rfl, h1, h2⟩ := seq_rel s.sub hy h
      refine ⟨.ref p, ds.length, rfl, ?_, WpE.now s w rInt⟩
      rw [h2.len]
      rcases h1 with h1 | h1
      · exact .inl ⟨vs, h1, rfl⟩
      · exact .inr ⟨vs, h1, rfl⟩
    cases c with
    | str z =>
      obtain ⟨c, w⟩ := okI_wp w
      obtain rfl := hy.str
      exact ⟨.str z, z.length, rfl, ⟨by rw [← lim_eq]; exact of_decide_eq_true c, rfl⟩, WpE.now s w rInt⟩
    | lst ds => exact seq ds rfl w
    | scr ds => exact seq ds rfl w
    | tup ds => exact seq ds rfl w
    | trn ds => exact seq ds rfl w
    | _ => exact w.elim
theorem RelL.atI {ds : List BR.D} {vs : List V} {j : Int} {d : BR.D} (h : RelL K G n ds vs) (e : L2.atI ds j = some d) : ∃ v, L2.atI vs j = some v ∧ Rel K G n d v := by
  unfold L2.atI at e ⊢
  rw [← h.len]
  cases q : ixN ds.length j with
  | none => rw [q] at e; cases e
  | some k =>
    rw [q] at e
    exact h.get (i := k) e
theorem o_idx : O2 K EE (rIx K) dIdx := fun G n S H x y d e Q s hx hy w => by
  unfold dIdx at w
  cases e with
  | int j =>
    simp only [] at w
    cases q : seqS S d with
    | none => rw [q] at w; exact w.elim
    | some ds =>
      rw [q] at w
      cases q2 : L2.atI ds j with
      | none => simp only [q2] at w; exact w.elim
      | some z =>
        simp only [q2] at w
        obtain ⟨p, vs, rfl, h1, h2⟩ := seqS_rel s hx q
        obtain ⟨v, h3, h4⟩ := h2.atI q2
        rcases h1 with h1 | h1
        · exact .inl ⟨p, vs, j, v, rfl, hy.int, h1, h3, WpE.now s w h4⟩
        · exact .inr (.inl ⟨p, vs, j, v, rfl, hy.int, h1, h3, WpE.now s w h4⟩)
  | _ => exact w.elim
def rListA (K : PySem.W.Frag) : List V → Hp → VK → Prop := fun xs H Q => ∃ p ys, xs = [.ref p] ∧ (SqL K H p ys ∨ SqT K H p ys) ∧ ∀ l, H l = none → Q (.ref l) (upd H l (.lst ys))
theorem s_list (ha : SB K EE ta a) : SL K EE (tCB (rListA K) (tCons ta tNil)) (BR.l1 lList a) := ha.l1 fun G n S H x d Q s hx w => by
  unfold lList at w
  cases q : seqS S d with
  | none => rw [q] at w; exact w.elim
  | some ds =>
    rw [q] at w
    obtain ⟨p, vs, rfl, h1, h2⟩ := seqS_rel s hx q
    exact ⟨p, vs, rfl, h1, WpL.new s w h2⟩
def rTupleA (K : PySem.W.Frag) : List V → Hp → VK → Prop := fun xs H Q => ∃ p ys, xs = [.ref p] ∧ ((SqL K H p ys ∧ ∀ l, H l = none → Q (.ref l) (upd H l (.tup ys))) ∨ (SqT K H p ys ∧ Q (.ref p) H))
theorem s_tuple (ha : SB K EE ta a) : SE K EE (tCB (rTupleA K) (tCons ta tNil)) (e1 dTuple a) := ha.cb1 fun G n S H x d Q s hx w => by
  unfold dTuple at w
  cases q2 : vw S d with
  | none => rw [q2] at w; exact w.elim
  | some c =>
    rw [q2] at w
    have hy := vw_rel s hx q2
    cases c with
    | lst xs => obtain ⟨p, vs, rfl, h1, h2⟩ := hy; exact ⟨p, vs, rfl, .inl ⟨SqL.of h1, WpE.newT s w h2⟩⟩
    | scr xs => obtain ⟨p, vs, rfl, h1, h2⟩ := hy; exact ⟨p, vs, rfl, .inl ⟨h1, WpE.newT s w h2⟩⟩
    | tup xs => obtain ⟨p, vs, rfl, h1, h2⟩ := hy.tup; exact ⟨p, vs, rfl, .inr ⟨s.sub.st h1, WpE.now s w (by simp only [Rel]; exact ⟨p, vs, rfl, h1, h2⟩)⟩⟩
    | trn xs => obtain ⟨p, vs, rfl, h1, h2⟩ := hy.trn; exact ⟨p, vs, rfl, .inr ⟨s.sub.st h1.sq, WpE.now s w (by simp only [Rel]; exact ⟨p, vs, rfl, h1, h2⟩)⟩⟩
    | _ => exact w.elim
theorem WpE.newN {ds : List BR.D} {vs : List V} {Q : VK} (s : SR K G n S H) (w : WpE K EE (.ok (.trn ds) S) G n S H Q) (h : RelL K G n ds vs) : ∀ (p : Addr) (o : Obj), H p = none → o.dict = none → Q (.ref p) (upd H p (.frz o (.tup vs))) := fun p o hp ho => by
  have p2 := Post.frz (o := .frz o (.tup vs)) s hp
  exact w _ _ _ _ p2 (by simp only [Rel]; exact ⟨p, vs, rfl, .inl ⟨o, upd_same, ho⟩, RelL.mono p2.sub p2.eta _ _ h⟩)
def rTrnA (K : PySem.W.Frag) : List V → Hp → VK → Prop := fun xs H Q => ∃ p ys, xs = [.ref p] ∧ ((SqL K H p ys ∧ ∀ (l : Addr) (o : Obj), H l = none → o.dict = none → Q (.ref l) (upd H l (.frz o (.tup ys)))) ∨ (SqT K H p ys ∧ Q (.ref p) H))
theorem s_trn (ha : SB K EE ta a) : SE K EE (tCB (rTrnA K) (tCons ta tNil)) (e1 dTrn a) := ha.cb1 fun G n S H x d Q s hx w => by
  unfold dTrn at w
  cases q2 : vw S d with
  | none => rw [q2] at w; exact w.elim
  | some c =>
    rw [q2] at w
    have hy := vw_rel s hx q2
    cases c with
    | lst xs => obtain ⟨p, vs, rfl, h1, h2⟩ := hy; exact ⟨p, vs, rfl, .inl ⟨SqL.of h1, WpE.newN s w h2⟩⟩
    | scr xs => obtain ⟨p, vs, rfl, h1, h2⟩ := hy; exact ⟨p, vs, rfl, .inl ⟨h1, WpE.newN s w h2⟩⟩
    | tup xs => obtain ⟨p, vs, rfl, h1, h2⟩ := hy.tup; exact ⟨p, vs, rfl, .inr ⟨s.sub.st h1, WpE.now s w (by simp only [Rel]; exact ⟨p, vs, rfl, h1, h2⟩)⟩⟩
    | trn xs => obtain ⟨p, vs, rfl, h1, h2⟩ := hy.trn; exact ⟨p, vs, rfl, .inr ⟨s.sub.st h1.sq, WpE.now s w (by simp only [Rel]; exact ⟨p, vs, rfl, h1, h2⟩)⟩⟩
    | _ => exact w.elim
/-- tuple(..) of a list as a tuple that is known to its object -/
theorem call_trn {X : Cx} : CallR X (.type "tuple") (rTrnA X.K) := by
  intro pins s σ H xs us Q I r h
  obtain ⟨p, ys, rfl, h⟩ := h
  obtain ⟨u, rfl, rx⟩ := vals1 r
  cases rx
  rcases h with ⟨hs, q⟩ | ⟨hs, q⟩
  · obtain ⟨its, rv, pl, hz⟩ := I.list hs
    refine call_tuple_list pl.isList (fun h' hk => ?_) (by rw [List.size_toArray, ← rv.length]; exact hz)
    have I1 : Inv X pins σ H { s with heap := h' } := I.kept (t' := s.toks) hk
    exact ⟨V.ref _, _, I1.laid (t' := s.toks) (o := .frz _ (.tup ys)) (fun b o e => Heap.get?_push_of_some _ e) (Nat.le_refl _) ⟨Heap.get?_push_size _ rfl, hz, its, rv, IsTup.new _ _⟩, rfl, q _ _ (I1.hok.fresh (Nat.le_refl _)) rfl⟩
  · obtain ⟨its, rv, pl, hz⟩ := I.tuple hs
    exact call_tuple_tup pl ⟨.ref p, H, I, rfl, q⟩
/-- a written tuple, known to its object -/
theorem pe_trn {X : Cx} {es : List Expr} {t : TA} {k : Nat} {pos : Pos} (h : PA X es t) : PE X (.Tuple es k pos) (tTrn t) := by
  constructor
  intro pins s σ H Q I hq
  refine wpAny_Tuple_spliced (thn (h.run pos pins s σ H _ I hq) fun us s1 z => ?_)
  obtain ⟨xs, H1, I1, r, z, q⟩ := z
  refine ⟨by rw [← r.length]; exact z, ?_⟩
  exact ⟨V.ref _, _, I1.laid (t' := s1.toks) (o := .frz _ (.tup xs)) (fun b u e => Heap.get?_push_of_some _ e) (Nat.le_refl _) ⟨Heap.get?_push_size _ rfl, z, us, r, IsTup.new _ _⟩, rfl, q _ _ (I1.hok.fresh (Nat.le_refl _)) rfl⟩
/-- a method of such a tuple -/
def tBMT (K : PySem.W.Frag) (r : V → List V → Hp → VK → Prop) (to : TE) (t : TA) : TE := fun σ H Q => to σ H fun x H1 => (∃ a vs, x = .ref a ∧ TrN K H1 a vs) ∧ t σ H1 fun xs H2 => r x xs H2 Q
theorem trn_is {X : Cx} {pins : List (Addr × Obj)} {σ : L2.St} {H : Hp} {s : Shared} {a : Addr} {vs : List V} (I : Inv X pins σ H s) (h : TrN X.K H a vs) : s.TypeIs (.ref a) "tuple" ∧ ∃ ob, s.heap.get? a = some ob ∧ ob.dict = none := by
  rcases h with ⟨o, h, hd⟩ | ⟨o, its, n, h1, h2, h3, _⟩
  · obtain ⟨e, _, _, _, o', e', c, _⟩ := (show ObjOk X.prog X.w H s.heap a (.frz o (.tup vs)) from I.hok a _ h)
    exact ⟨⟨o', e', c⟩, o, e, hd⟩
  · exact ⟨⟨o, I.kIn a o h1, h2⟩, o, I.kIn a o h1, h3⟩
theorem pe_bmT {X : Cx} {o e : Expr} {es : List Expr} {to : TE} {t : TA} {name : Str} {apos cpos : Pos} {id : String} {r : V → List V → Hp → VK → Prop} (slot : PySem.Slot "tuple" name id) (hty : typeOf (.builtin id) = pure (.type "method_descriptor")) (hm : MtR X id r) (ho : PE X o to) (ha : PA X (e :: es) t)
    (hb : attributeBase o name X.env (eval o X.env) = eval o X.env := by rfl)
    (hf : ((backTo cpos (starEach (e :: es) X.env)).all (fun x => !x.1) && (backToKw cpos (keywordEach [] X.env)).all (fun x => x.1.isSome) && decide ((e :: es).length + ([] : List Keyword).length + (if ([] : List Keyword).isEmpty then 0 else 1) < 30)) = true := by rfl)
    (hl : (apos.endLine == cpos.line) = true := by rfl) (hs : starEach (e :: es) X.env = (false, eval e X.env) :: starEach es X.env := by rfl) (hp : (backTo cpos (starEach es X.env)).any (·.1) = false := by rfl) :
    PE X (.Call (.Attribute o name apos) (e :: es) [] cpos) (tBMT X.K r to t) := by
  constructor
  intro pins s σ H Q I h
  refine wpAny_Call_method_late hb hf hl rfl (thn (ho.run pins s σ H _ I h) fun v s1 z => ?_)
  obtain ⟨x, H1, I1, r1, ⟨a, vs, rfl, ht⟩, q1⟩ := z
  cases r1
  obtain ⟨h1, h2⟩ := trn_is I1 ht
  refine ⟨"tuple", id, PySem.F.plainAttrs_tuple, slot, hty, h1, fun b eb => by cases eb; exact h2, ?_⟩
  have hA := ha.run cpos pins s1 σ H1 _ I1 q1
  rw [hs] at hA ⊢
  refine Calls.callWith_builtin (by show (false || (backTo cpos (starEach es X.env)).any (·.1)) = false; rw [hp] <;> rfl) (Calls.evalArgs_plain (thn hA fun us s2 z => ?_))
  obtain ⟨ws, H2, I2, r2, q2⟩ := z
  exact hm pins s2 σ H2 (V.ref a) ws _ us Q I2 rfl r2 q2
/-- t.index(x), x and all items flat -/
def rIndexT (K : PySem.W.Frag) : V → List V → Hp → VK → Prop := fun x xs H Q => ∃ (a : Addr) (ys : List V) (y : V) (j : Nat) (z : V), x = .ref a ∧ xs = [y] ∧ SqT K H a ys ∧ flatV y = true ∧ ys.all flatV = true ∧ ys[j]? = some z ∧ eqV z y = true ∧
  (∀ (m : Nat) (z' : V), m < j → ys[m]? = some z' → eqV z' y = false) ∧ Q (.int (j : Nat)) H
theorem mt_indexT {X : Cx} : MtR X "tuple.index" (rIndexT X.K) := by
  intro pins s σ H x xs v us Q I rx rs h
  obtain ⟨p, ys, y, j, z, rfl, rfl, hq, fy, fs, hz, hzj, hno, q⟩ := h
  cases rx
  obtain ⟨u, rfl, ru⟩ := vals1 rs
  obtain ⟨its, r, pl, _⟩ := I.tuple hq
  obtain ⟨⟨cls, dd, dt, sl⟩, ho, hc, n, hd⟩ := pl
  simp only at hc hd
  subst hc
  subst hd
  have hl : its.toArray.size = ys.length := by rw [List.size_toArray, ← r.length]
  have hj : j < its.toArray.size := by rw [hl]; exact (List.getElem?_eq_some_iff.mp hz).1
  have at' : ∀ (m : Nat) (hm : m < its.toArray.size) (z' : V), ys[m]? = some z' → eqU y its.toArray[m] = eqV z' y := fun m hm z' hz' => by
    obtain ⟨w, hw, rw'⟩ := r.get hz'
    have e : its.toArray[m] = w := by
      have := (List.getElem?_eq_some_iff.mp hw).2
      simpa using this
    rw [e, eqU_of rw' (flat_at fs hz')]
  refine call_meets PySem.F.slot_tuple_index ⟨_, ho, rfl⟩ PySem.F.entry_tuple_index (PySem.F.args_tuple_index_2 _ _) (TI.tuple_indexAt p its.toArray n dd sl u (eqU y) j hj ?_ ?_)
    ⟨ho, fun w hw => mem_eqAt ru fy r fs w (by simpa using hw), ⟨.int (j : Nat), H, I.tok _, ⟨_, rfl⟩, q⟩⟩
  · rw [at' j hj z hz]; exact hzj
  · intro m hm hmj
    have hm' : m < ys.length := by rw [← hl]; exact hm
    rw [at' m hm _ (List.getElem?_eq_getElem hm')]
    exact hno m _ hmj (List.getElem?_eq_getElem hm')
theorem idxOf_ge {x : BR.D} : ∀ {ds : List BR.D} {k j : Nat}, idxOf x ds k = some j → k ≤ j
  | [], _, _, h => by cases h
  | d :: ds, k, j, h => by
    simp only [idxOf] at h
    split at h
    · cases h; exact Nat.le_refl _
    · have := idxOf_ge h; omega
theorem idxOf_rel {N : Hp} {x : BR.D} {y : V} (fx : flatD x = true) (hx : RelT K G N n x y) : ∀ {ds : List BR.D} {vs : List V} {k j : Nat}, ds.all flatD = true → RelL K G n ds vs → idxOf x ds k = some j →
    ∃ z, vs[j - k]? = some z ∧ eqV z y = true ∧ ∀ (m : Nat) (z' : V), m < j - k → vs[m]? = some z' → eqV z' y = false
  | [], _, _, _, _, _, h => by cases h
  | d :: ds, vs, k, j, f, r, h => by
    rw [List.all_cons, Bool.and_eq_true] at f
    simp only [RelL] at r
    obtain ⟨v, w, rfl, r1, r2⟩ := r
    have e := eqF_rel f.1 fx r1 hx
    simp only [idxOf] at h
    split at h
    · rename_i c
      cases h
      refine ⟨v, by simp, by rw [e]; exact c, fun m z' hm => by omega⟩
    · rename_i c
      have hk := idxOf_ge h
      obtain ⟨z, h1, h2, h3⟩ := idxOf_rel fx hx f.2 r2 h
      have ej : j - k = (j - (k + 1)) + 1 := by omega
      refine ⟨z, by rw [ej]; simpa using h1, h2, fun m z' hm hz => ?_⟩
      cases m with
      | zero =>
        simp at hz; subst hz
        rw [e]; simpa using c
      | succ m => exact h3 m z' (by omega) (by simpa using hz)
theorem s_indexT {to ti : TE} {o i : EM} (ho : SE K EE to o) (hi : SB K EE ti i) : SE K EE (tBMT K (rIndexT K) to (tCons ti tNil)) (eIndexT o i) := fun G n S H r σ Q s e w => by
  refine ho G n S H r σ _ s e ?_
  unfold eIndexT at w
  cases q : o r S with
  | ok x S1 =>
    rw [q] at w
    intro v G1 n1 H1 p rl
    simp only [bind_ok] at w
    cases x with
    | trn ds =>
      have rl' := rl
      simp only [Rel] at rl'
      obtain ⟨a, vs, rfl, ht, h2⟩ := rl'
      refine ⟨⟨a, vs, rfl, p.sr.sub.tn ht⟩, hi G1 n1 S1 H1 r σ _ p.sr (e.post p) ?_⟩
      simp only [] at w
      cases q2 : i r S1 with
      | ok y S2 =>
        rw [q2] at w
        intro u G2 n2 H2 p2 rl2
        simp only [bind_ok, dIndexT] at w
        by_cases f : (flatD y && ds.all flatD) = true
        · rw [if_pos f] at w
          rw [Bool.and_eq_true] at f
          cases q3 : idxOf y ds 0 with
          | none => rw [q3] at w; exact w.elim
          | some k =>
            rw [q3] at w
            have h3 := RelL.mono p2.sub p2.eta _ _ h2
            obtain ⟨z, k1, k2, k3⟩ := idxOf_rel f.1 rl2 f.2 h3 q3
            exact ⟨a, vs, u, k, z, rfl, rfl, p2.sr.sub.st (p2.sub.tn ht).sq, flat_rel f.1 rl2, flats_rel f.2 h3, k1, k2, k3, w _ _ _ _ (p.tr p2) rInt⟩
        · rw [if_neg f] at w; exact w.elim
      | exc x S' => rw [q2] at w; exact fun c dd G' n' H' p' => w c dd G' n' H' (p.tr p')
      | bad => rw [q2] at w; exact w.elim
    | _ => exact w.elim
  | exc x S' => rw [q] at w; exact w
  | bad => rw [q] at w; exact w.elim
/-! ### all, any, sum, min, max, abs, int -/
theorem bls_rel : ∀ {ds : List BR.D} {vs : List V} {bs : List Bool}, blsD ds = some bs → RelL K G n ds vs → vs = bs.map V.bl
  | [], vs, bs, h, r => by simp only [RelL] at r; subst r; cases h; rfl
  | d :: ds, vs, bs, h, r => by
    simp only [RelL] at r
    obtain ⟨v, w, rfl, r1, r2⟩ := r
    cases d <;> first | (cases h; done) | skip
    rename_i b
    simp only [blsD] at h
    cases q : blsD ds with
    | none => rw [q] at h; cases h
    | some cs =>
      rw [q] at h; cases h
      simp only [Rel] at r1; subst r1
      rw [bls_rel q r2]; rfl
theorem ints_rel : ∀ {ds : List BR.D} {vs : List V} {bs : List Int}, intsD ds = some bs → RelL K G n ds vs → vs = bs.map V.int
  | [], vs, bs, h, r => by simp only [RelL] at r; subst r; cases h; rfl
  | d :: ds, vs, bs, h, r => by
    simp only [RelL] at r
    obtain ⟨v, w, rfl, r1, r2⟩ := r
    cases d <;> first | (cases h; done) | skip
    rename_i b
    simp only [intsD] at h
    cases q : intsD ds with
    | none => rw [q] at h; cases h
    | some cs =>
      rw [q] at h; cases h
      simp only [Rel] at r1; subst r1
      rw [ints_rel q r2]; rfl
/-- the items of a list, to be read -/
theorem lstS_rel {d : BR.D} {x : V} {ds : List BR.D} (s : SR K G n S H) (h : RelT K G (NL n S H) n d x) (e : lstS S d = some ds) : ∃ p vs, x = .ref p ∧ SqL K H p vs ∧ RelL K G n ds vs := by
  unfold lstS at e
  cases q : vw S d with
  | none => rw [q] at e; cases e
  | some c =>
    rw [q] at e
    have hy := vw_rel s h q
    cases c with
    | lst xs => cases e; obtain ⟨p, vs, rfl, h1, h2⟩ := hy; exact ⟨p, vs, rfl, SqL.of h1, h2⟩
    | scr xs => cases e; obtain ⟨p, vs, rfl, h1, h2⟩ := hy; exact ⟨p, vs, rfl, h1, h2⟩
    | _ => cases e
theorem s_all (ha : SB K EE ta a) : SE K EE (tCB (rAll K) (tCons ta tNil)) (e1 dAll a) := ha.cb1 fun G n S H x d Q s hx w => by
  unfold dAll at w
  cases q : lstS S d with
  | none => rw [q] at w; exact w.elim
  | some ds =>
    rw [q] at w
    obtain ⟨p, vs, rfl, h1, h2⟩ := lstS_rel s hx q
    simp only [Option.bind_some] at w
    cases q2 : blsD ds with
    | none => simp only [q2] at w; exact w.elim
    | some bs =>
      simp only [q2] at w
      exact ⟨p, bs, rfl, by rw [← bls_rel q2 h2]; exact h1, WpE.now s w rBl⟩
theorem s_any (ha : SB K EE ta a) : SE K EE (tCB (rAny K) (tCons ta tNil)) (e1 dAny a) := ha.cb1 fun G n S H x d Q s hx w => by
  unfold dAny at w
  cases q : lstS S d with
  | none => rw [q] at w; exact w.elim
  | some ds =>
    rw [q] at w
    obtain ⟨p, vs, rfl, h1, h2⟩ := lstS_rel s hx q
    simp only [Option.bind_some] at w
    cases q2 : blsD ds with
    | none => simp only [q2] at w; exact w.elim
    | some bs =>
      simp only [q2] at w
      exact ⟨p, bs, rfl, by rw [← bls_rel q2 h2]; exact h1, WpE.now s w rBl⟩
theorem s_sum (ha : SB K EE ta a) : SE K EE (tCB (rSum K) (tCons ta tNil)) (e1 dSum a) := ha.cb1 fun G n S H x d Q s hx w => by
  unfold dSum at w
  cases q : lstS S d with
  | none => rw [q] at w; exact w.elim
  | some ds =>
    rw [q] at w
    obtain ⟨p, vs, rfl, h1, h2⟩ := lstS_rel s hx q
    simp only [Option.bind_some] at w
    cases q2 : intsD ds with
    | none => simp only [q2] at w; exact w.elim
    | some bs =>
      simp only [q2] at w
      exact ⟨p, bs, rfl, by rw [← ints_rel q2 h2]; exact h1, WpE.now s w rInt⟩
def rMax2 : List V → Hp → VK → Prop := fun xs H Q => ∃ i j, xs = [.int i, .int j] ∧ Q (.int (if j > i then j else i)) H
def rMin2 : List V → Hp → VK → Prop := fun xs H Q => ∃ i j, xs = [.int i, .int j] ∧ Q (.int (if j < i then j else i)) H
theorem s_max2 (ha : SB K EE ta a) (hb : SB K EE tb b) : SE K EE (tCB rMax2 (tCons ta (tCons tb tNil))) (e2 dMax2 a b) := ha.cb2 hb fun G n S H x y d e Q s hx hy w => by
  cases d <;> cases e <;> first | exact (w : False).elim | skip
  rename_i i j
  exact ⟨i, j, by rw [hx.int, hy.int], WpE.now s w rInt⟩
theorem s_min2 (ha : SB K EE ta a) (hb : SB K EE tb b) : SE K EE (tCB rMin2 (tCons ta (tCons tb tNil))) (e2 dMin2 a b) := ha.cb2 hb fun G n S H x y d e Q s hx hy w => by
  cases d <;> cases e <;> first | exact (w : False).elim | skip
  rename_i i j
  exact ⟨i, j, by rw [hx.int, hy.int], WpE.now s w rInt⟩
def rAbs : List V → Hp → VK → Prop := fun xs H Q => ∃ i, xs = [.int i] ∧ Q (.int (if i < 0 then -i else i)) H
theorem s_abs (ha : SB K EE ta a) : SE K EE (tCB rAbs (tCons ta tNil)) (e1 dAbs a) := ha.cb1 fun G n S H x d Q s hx w => by
  cases d <;> first | exact (w : False).elim | skip
  rename_i i
  exact ⟨i, by rw [hx.int], WpE.now s w rInt⟩
def rInt1 : List V → Hp → VK → Prop := fun xs H Q => (∃ i, xs = [.int i] ∧ Q (.int i) H) ∨ ∃ k, xs = [.bl k] ∧ Q (.int (if k then 1 else 0)) H
theorem s_int (ha : SB K EE ta a) : SE K EE (tCB rInt1 (tCons ta tNil)) (e1 dInt a) := ha.cb1 fun G n S H x d Q s hx w => by
  cases d <;> first | exact (w : False).elim | skip
  · rename_i k
    exact .inr ⟨k, by rw [hx.bl], WpE.now s w rInt⟩
  · rename_i i
    exact .inl ⟨i, by rw [hx.int], WpE.now s w rInt⟩
/-! ### isinstance -/
def tyNames : List String := ["NoneType", "bool", "int", "str", "tuple", "list", "dict"]
def clsNames : List String := ["bool", "int", "str", "tuple", "list", "dict"]
theorem kitB_all : (tyNames.all fun t => clsNames.all fun c => decide (kitB t c = some (subTy t c))) = true := by decide +kernel
theorem kitB_of {t c : String} (ht : t ∈ tyNames) (hc : c ∈ clsNames) : kitB t c = some (subTy t c) := of_decide_eq_true (List.all_eq_true.mp (List.all_eq_true.mp kitB_all t ht) c hc)
theorem tyX_rel {d c : BR.D} {x : V} (s : SR K G n S H) (h : RelT K G (NL n S H) n d x) (e : vw S d = some c) (h1 : ∀ t, c ≠ .ty t) (h2 : ∀ k, c ≠ .ref k) : TyX K H x (.type (tyD c)) ∧ tyD c ∈ tyNames := by
  have hy := vw_rel s h e
  cases c with
  | non => rw [hy.non]; exact ⟨.base .non, by simp [tyD, tyNames]⟩
  | bl b => rw [hy.bl]; exact ⟨.base (.bl b), by simp [tyD, tyNames]⟩
  | int b => rw [hy.int]; exact ⟨.base (.int b), by simp [tyD, tyNames]⟩
  | str b => rw [hy.str]; exact ⟨.base (.str b), by simp [tyD, tyNames]⟩
  | ty t => exact absurd rfl (h1 t)
  | ref k => exact absurd rfl (h2 k)
  | trn ds =>
    obtain ⟨p, vs, rfl, q, _⟩ := hy.trn
    refine ⟨?_, by simp [tyD, tyNames]⟩
    rcases q with ⟨o, q, _⟩ | ⟨o, its, m, q, c, _⟩
    · exact .fTuple (s.sub _ _ q)
    · exact .kTuple q c
  | tup ds =>
    obtain ⟨p, vs, rfl, q, _⟩ := hy.tup
    refine ⟨?_, by simp [tyD, tyNames]⟩
    rcases q with (q | ⟨o, q⟩) | ⟨o, its, m, q, c, _⟩
    · exact .base (.tup (s.sub _ _ q))
    · exact .fTuple (s.sub _ _ q)
    · exact .kTuple q c
  | lst ds => obtain ⟨p, vs, rfl, q, _⟩ := hy; exact ⟨.base (.lst q), by simp [tyD, tyNames]⟩
  | scr ds =>
    obtain ⟨p, vs, rfl, q, _⟩ := hy
    refine ⟨?_, by simp [tyD, tyNames]⟩
    rcases q with (q | ⟨o, q⟩) | ⟨o, its, m, q, c, _⟩
    · exact .base (.lst q)
    · exact .base (.frz q)
    · exact .kList q c
  | dK ks ds => obtain ⟨p, vs, rfl, q, _⟩ := hy; exact ⟨.base (.dK q), by simp [tyD, tyNames]⟩
  | dT ks ds => obtain ⟨p, vs, rfl, q, _⟩ := hy; exact ⟨.base (.dT q), by simp [tyD, tyNames]⟩
theorem isi_w {S0 : Store} {cs : List String} {d : BR.D} {Q : VK} (w : WpE K EE (dIsi cs d S) G n S0 H Q) : ∃ c, vw S d = some c ∧ (∀ t, c ≠ .ty t) ∧ (∀ k, c ≠ .ref k) ∧ WpE K EE (.ok (.bl (cs.any fun t => subTy (tyD c) t)) S) G n S0 H Q := by
  unfold dIsi at w
  cases q : vw S d with
  | none => rw [q] at w; exact w.elim
  | some c =>
    rw [q] at w
    cases c <;> first | exact (w : False).elim | exact ⟨_, rfl, by simp, by simp, w⟩
theorem s_isi {c : String} (hc : c ∈ clsNames) (ha : SB K EE ta a) : SE K EE (tCB (rIsi K) (tCons ta (tCons (tC (.ty c)) tNil))) (e1 (dIsi [c]) a) := fun G n S H r σ Q s e w => by
  refine ha G n S H r σ _ s e ?_
  unfold e1 at w
  cases q : a r S with
  | ok d S1 =>
    rw [q] at w
    intro v G1 n1 H1 p rl
    obtain ⟨x, h1, h2, h3, w2⟩ := isi_w (show WpE K EE (dIsi _ d S1) G n S H Q from w)
    obtain ⟨h4, h5⟩ := tyX_rel p.sr rl h1 h2 h3
    refine ⟨v, .ty c, _, _, subTy (tyD x) c, rfl, .ty c, h4, kit_ty (kitB_of h5 hc), ?_⟩
    have : ([c].any fun t => subTy (tyD x) t) = subTy (tyD x) c := by simp
    rw [this] at w2
    exact w2 _ _ _ _ p rBl
  | exc x S' => rw [q] at w; exact w
  | bad => rw [q] at w; exact w
theorem s_isi2 {c c' : String} (hc : c ∈ clsNames) (hc' : c' ∈ clsNames) (ha : SB K EE ta a) : SE K EE (tCB (rIsiT K) (tCons ta (tCons (tTup (tCons (tC (.ty c)) (tCons (tC (.ty c')) tNil))) tNil))) (e1 (dIsi [c, c']) a) := fun G n S H r σ Q s e w => by
  refine ha G n S H r σ _ s e ?_
  unfold e1 at w
  cases q : a r S with
  | ok d S1 =>
    rw [q] at w
    intro v G1 n1 H1 p rl
    refine ⟨by show 2 ≤ sizeLine; rw [sizeLine_eq]; decide, fun t ht => ?_⟩
    have p2 := Post.frz (o := .tup [.ty c, .ty c']) p.sr ht
    obtain ⟨x, h1, h2, h3, w2⟩ := isi_w (show WpE K EE (dIsi _ d S1) G n S H Q from w)
    obtain ⟨h4, h5⟩ := tyX_rel p2.sr (rl.post p2) h1 h2 h3
    refine ⟨v, t, [.ty c, .ty c'], _, [.type c, .type c'], ([c, c'].any fun t => subTy (tyD x) t), rfl, upd_same, .cons (.ty c) (.cons (.ty c') .nil), h4, ?_, w2 _ _ _ _ (p.tr p2) rBl⟩
    refine kitAny_cons (kit_ty (kitB_of h5 hc)) (fun f => ?_) (fun f => by simp [f])
    refine kitAny_cons (kit_ty (kitB_of h5 hc')) (fun g => ?_) (fun g => by simp [g])
    rw [kitAny_nil]; simp [f, g]
  | exc x S' => rw [q] at w; exact w
  | bad => rw [q] at w; exact w
/-! ### repr -/
def rRepr (K : PySem.W.Frag) : List V → Hp → VK → Prop := fun xs H Q => ∃ x d, xs = [x] ∧ Dp K H x d ∧ d.canLay0 = true ∧ d.depth ≤ 60 ∧ d.showable = true ∧ d.shown.length ≤ sizeLine ∧ Q (.str d.shown) H
theorem call_reprA {X : Cx} (hg : X.A.guards = some []) (hu : X.A.units + 100 < cLine) : CallR X (.builtin "repr") (rRepr X.K) := by
  intro pins s σ H xs us Q I r h
  obtain ⟨x, d, rfl, hd, hc, hp, hs, hz, q⟩ := h
  obtain ⟨u, rfl, rx⟩ := vals1 r
  have hd' := hd
  cases hd with
  | non => cases rx; exact PySem.P.repr_of_none ⟨.str _, H, I.tok _, ⟨_, rfl⟩, q⟩
  | bl b => cases rx; exact PySem.P.repr_of_bool ⟨.str _, H, I.tok _, ⟨_, rfl⟩, by cases b <;> exact q⟩
  | int i => obtain ⟨t, rfl⟩ := rx; exact PySem.P.repr_of_int (of_decide_eq_true hs) ⟨.str _, H, I.tok _, ⟨_, rfl⟩, q⟩
  | str z => obtain ⟨t, rfl⟩ := rx; exact PySem.P.repr_of_str ⟨.str _, H, I.tok _, ⟨_, rfl⟩, q⟩ hz
  | lst h1 h2 =>
    cases rx
    obtain ⟨as, h3⟩ := Dp.reads I _ _ _ hd' rfl
    exact repr_of_reads' h3 hs (PyData.noDict_hsm (PyData.hasDict_of_canLay _ hc)) hg (by omega) (fun _ _ e => e) (fun h' u tk k => ⟨.str _, H, I.kept k, ⟨_, rfl⟩, q⟩) hz
  | tup h1 h2 =>
    cases rx
    obtain ⟨as, h3⟩ := Dp.reads I _ _ _ hd' rfl
    exact repr_of_reads' h3 hs (PyData.noDict_hsm (PyData.hasDict_of_canLay _ hc)) hg (by omega) (fun _ _ e => e) (fun h' u tk k => ⟨.str _, H, I.kept k, ⟨_, rfl⟩, q⟩) hz
theorem s_repr (ha : SB K EE ta a) : SE K EE (tCB (rRepr K) (tCons ta tNil)) (e1 dRepr a) := ha.cb1 fun G n S H x d Q s hx w => by
  unfold dRepr at w
  cases q : vw S d with
  | none => rw [q] at w; exact w.elim
  | some c =>
    rw [q] at w
    obtain ⟨h, w⟩ := okI_wp w
    rw [Bool.and_eq_true, Bool.and_eq_true] at h
    obtain ⟨⟨h1, h2⟩, h3⟩ := h
    obtain ⟨h4, h5⟩ := okP_lay deep c h1
    exact ⟨x, toP c, rfl, dp_relT s.sub h1 (vw_rel s hx q), h4, h5, h2, by rw [← lim_eq]; exact of_decide_eq_true h3, WpE.now s w rStr⟩
/-! ### slices -/
def WpO (K : PySem.W.Frag) (EE : XK) (x : Res (Option Int)) (G : Hp) (n : List Addr) (S : Store) (H : Hp) (Q : Option Int → Hp → Prop) : Prop := match x with
  | .ok o S' => ∀ G' n' H', Post K NoO G n S H G' n' S' H' → Q o H'
  | .exc x S' => ∀ c dd G' n' H', Post K NoO G n S H G' n' S' H' → ExcR x c dd H' → EE c dd H'
  | .bad => False
def SO (K : PySem.W.Frag) (EE : XK) (to : TO) (m : PM) : Prop := ∀ G n S H r σ Q, SR K G n S H → ER K G n S H r σ → WpO K EE (m r S) G n S H Q → to σ H Q
theorem SO.none : SO K EE tNoPart pNo := fun G n S H r σ Q s e w => w G n H (Post.refl s)
theorem SO.some (ha : SB K EE ta a) : SO K EE (tPart ta) (pSo a) := fun G n S H r σ Q s e w => by
  refine ha G n S H r σ _ s e ?_
  unfold pSo at w
  cases q : a r S with
  | ok d S1 =>
    rw [q] at w
    intro v G1 n1 H1 p rl
    cases d with
    | int i => exact ⟨i, rl.int, w G1 n1 H1 p⟩
    | _ => exact w.elim
  | exc x S' => rw [q] at w; exact w
  | bad => rw [q] at w; exact w
theorem cut_rel {ds : List BR.D} {vs : List V} (h : RelL K G n ds vs) (lo hi : Option Int) : RelL K G n (cutD ds lo hi) (cutV vs lo hi) := by
  unfold cutD cutV
  rw [h.len]
  exact (h.drop _).take _
theorem s_lSl {tl th : TO} {lo hi : PM} (ha : SB K EE ta a) (hl : SO K EE tl lo) (hh : SO K EE th hi) : SL K EE (tSl (rSlL K) ta tl th) (lSl a lo hi) := fun G n S H r σ Q s e w => by
  refine ha G n S H r σ _ s e ?_
  unfold lSl at w
  cases q : a r S with
  | ok d S1 =>
    rw [q] at w
    intro v G1 n1 H1 p rl
    simp only [bind_ok] at w
    refine hl G1 n1 S1 H1 r σ _ p.sr (e.post p) ?_
    cases q2 : lo r S1 with
    | ok i S2 =>
      rw [q2] at w
      intro G2 n2 H2 p2
      simp only [bind_ok] at w
      refine hh G2 n2 S2 H2 r σ _ p2.sr ((e.post p).post p2) ?_
      cases q3 : hi r S2 with
      | ok j S3 =>
        rw [q3] at w
        intro G3 n3 H3 p3
        simp only [bind_ok] at w
        have rl3 := (rl.post p2).post p3
        have p13 := (p.tr p2).tr p3
        cases q4 : (vw S3 d).bind lstD with
        | none => simp only [q4] at w; exact w.elim
        | some xs =>
          simp only [q4] at w
          obtain ⟨a, vs, rfl, h1, h2⟩ := lstS_rel p3.sr rl3 q4
          exact ⟨a, vs, rfl, h1, WpL.new p3.sr (WpL.at p13 w) (cut_rel h2 i j)⟩
      | exc x S' => rw [q3] at w; exact fun c dd G' n' H' p' => w c dd G' n' H' ((p.tr p2).tr p')
      | bad => rw [q3] at w; exact w
    | exc x S' => rw [q2] at w; exact fun c dd G' n' H' p' => w c dd G' n' H' (p.tr p')
    | bad => rw [q2] at w; exact w
  | exc x S' => rw [q] at w; exact w
  | bad => rw [q] at w; exact w
def rSlAll (K : PySem.W.Frag) : V → Option Int → Option Int → Hp → VK → Prop := fun x lo hi H Q => rSlL K x lo hi H Q ∨ rSlA K x lo hi H Q ∨ rSlS x lo hi H Q
theorem s_eSl {tl th : TO} {lo hi : PM} (ha : SB K EE ta a) (hl : SO K EE tl lo) (hh : SO K EE th hi) : SE K EE (tSl (rSlAll K) ta tl th) (eSl a lo hi) := fun G n S H r σ Q s e w => by
  refine ha G n S H r σ _ s e ?_
  unfold eSl at w
  cases q : a r S with
  | ok d S1 =>
    rw [q] at w
    intro v G1 n1 H1 p rl
    simp only [bind_ok] at w
    refine hl G1 n1 S1 H1 r σ _ p.sr (e.post p) ?_
    cases q2 : lo r S1 with
    | ok i S2 =>
      rw [q2] at w
      intro G2 n2 H2 p2
      simp only [bind_ok] at w
      refine hh G2 n2 S2 H2 r σ _ p2.sr ((e.post p).post p2) ?_
      cases q3 : hi r S2 with
      | ok j S3 =>
        rw [q3] at w
        intro G3 n3 H3 p3
        simp only [bind_ok] at w
        have rl3 := (rl.post p2).post p3
        have p13 := (p.tr p2).tr p3
        cases q4 : vw S3 d with
        | none => simp only [q4] at w; exact w.elim
        | some c =>
          simp only [q4] at w
          have hy := vw_rel p3.sr rl3 q4
          cases c with
          | lst xs =>
            obtain ⟨a, vs, rfl, h1, h2⟩ := hy
            exact .inl ⟨a, vs, rfl, SqL.of h1, WpE.newL p3.sr (WpE.at p13 w) (cut_rel h2 i j)⟩
          | scr xs =>
            obtain ⟨a, vs, rfl, h1, h2⟩ := hy
            exact .inl ⟨a, vs, rfl, h1, WpE.newL p3.sr (WpE.at p13 w) (cut_rel h2 i j)⟩
          | tup xs =>
            obtain ⟨a, vs, rfl, h1, h2⟩ := hy.tup
            refine .inr (.inl ⟨a, vs, rfl, p3.sr.sub.st h1, fun z => ?_, fun _ => WpE.newT p3.sr (WpE.at p13 w) (cut_rel h2 i j)⟩)
            have w1 : WpE K EE (.ok (.tup (cutD xs i j)) S3) G3 n3 S3 H3 Q := WpE.at p13 w
            refine WpE.now p3.sr w1 ?_
            have : cutD xs i j = xs := by
              unfold cutD
              rw [h2.len, z.1, z.2, ← h2.len]
              simp
            rw [this]
            simp only [Rel]
            exact ⟨a, vs, rfl, h1, h2⟩
          | str z =>
            obtain ⟨c, w⟩ := okI_wp (WpE.at p13 w)
            exact .inr (.inr ⟨z, hy.str, by rw [← lim_eq]; exact of_decide_eq_true c, WpE.now p3.sr w rStr⟩)
          | _ => exact w.elim
      | exc x S' => rw [q3] at w; exact fun c dd G' n' H' p' => w c dd G' n' H' ((p.tr p2).tr p')
      | bad => rw [q3] at w; exact w
    | exc x S' => rw [q2] at w; exact fun c dd G' n' H' p' => w c dd G' n' H' (p.tr p')
    | bad => rw [q2] at w; exact w
  | exc x S' => rw [q] at w; exact w
  | bad => rw [q] at w; exact w

/-! ### lists that change -/
theorem ref_rel {k : Nat} {v : V} (h : Rel K G n (.ref k) v) : ∃ a, v = .ref a ∧ n[k]? = some a := by simpa only [Rel] using h
/-- name.append(e) -/
theorem s_app {i : Nat} (he : SE K EE te m) : SS K EE (tDrop (tBM K "list" rAppend (tVar i) (tCons te tNil))) (mApp i m) := fun G n S H r σ D s e w => by
  unfold mApp at w
  cases q : r[i]? with
  | none => rw [q] at w; exact w.elim
  | some sl => cases sl with
    | no => rw [q] at w; exact w.elim
    | own d => cases d with
      | lst xs =>
        rw [q] at w
        obtain ⟨a, o, h1, h2, h3, h4, vs, rfl, h5⟩ := e.own i _ q
        refine ⟨.ref a, h1, .inl ⟨rfl, _, .inl (.inl h4)⟩, he G n S H r σ _ s e ?_⟩
        simp only [] at w
        cases q2 : m r S with
        | ok d S1 =>
          rw [q2] at w
          intro v G1 n1 H1 p rl
          simp only [bind_ok] at w
          obtain ⟨g1, g2, g3⟩ := hidden p h4 h2 h3
          have rl5 := RelL.mono p.sub p.eta _ _ h5
          by_cases hl : xs.length < lim
          · rw [if_pos hl] at w
            refine ⟨a, vs, v, rfl, rfl, g3, by rw [← h5.len, ← lim_eq]; exact hl, ?_⟩
            have e1 := e.post p
            have ow : Own r σ a := ⟨i, _, q, h1⟩
            have p2 : Post K (Own r σ) G1 n1 S1 H1 G1 n1 S1 (upd H1 a (.lst (vs ++ [v]))) := Post.hidW p.sr g3 g1 g2 ow
            exact w G1 n1 _ σ (p.own.trans p2 fun b z => .inl z) (e1.reOwn q h1 ⟨_, rfl, rl5.append (.cons rl .nil)⟩) (OwnSub.reOwn q)
          · rw [if_neg hl] at w; exact w.elim
        | exc x S' => rw [q2] at w; exact fun c dd G' n' H' p => w c dd G' n' H' p.own
        | bad => rw [q2] at w; exact w.elim
      | _ => rw [q] at w; exact w.elim
    | val d => cases d with
      | ref k =>
        rw [q] at w
        obtain ⟨v0, h1, h2⟩ := e.val i _ q
        obtain ⟨a, rfl, hk⟩ := ref_rel h2
        simp only [] at w
        cases q0 : lstAt S k with
        | none => rw [q0] at w; exact w.elim
        | some xs0 =>
          rw [q0] at w
          obtain ⟨vs0, h3, _⟩ := cell_lst s hk q0
          refine ⟨.ref a, h1, .inl ⟨rfl, _, .inl (.inl h3)⟩, he G n S H r σ _ s e ?_⟩
          simp only [] at w
          cases q2 : m r S with
          | ok d S1 =>
            rw [q2] at w
            intro v G1 n1 H1 p rl
            simp only [bind_ok] at w
            cases q3 : lstAt S1 k with
            | none => simp only [q3] at w; exact w.elim
            | some xs =>
              simp only [q3] at w
              obtain ⟨vs, g1, g2⟩ := cell_lst p.sr (p.eta.get hk) q3
              by_cases hl : xs.length < lim
              · rw [if_pos hl] at w
                refine ⟨a, vs, v, rfl, rfl, g1, by rw [← g2.len, ← lim_eq]; exact hl, ?_⟩
                have p2 : Post K NoO G1 n1 S1 H1 G1 n1 (S1.set k (some (.lst (xs ++ [d])))) (upd H1 a (.lst (vs ++ [v]))) := Post.setCell p.sr (p.eta.get hk) (lstAt_some q3) ⟨_, rfl, g2.append (.cons rl .nil)⟩
                exact w G1 n1 _ σ (p.tr p2).own (e.post (p.tr p2)) OwnSub.refl
              · rw [if_neg hl] at w; exact w.elim
          | exc x S' => rw [q2] at w; exact fun c dd G' n' H' p => w c dd G' n' H' p.own
          | bad => rw [q2] at w; exact w.elim
      | _ => rw [q] at w; exact w.elim
/-- name.extend(e) -/
theorem s_ext {i : Nat} (he : SB K EE te m) : SS K EE (tDrop (tBM K "list" rExtend (tVar i) (tCons te tNil))) (mExt i m) := fun G n S H r σ D s e w => by
  unfold mExt at w
  cases q : r[i]? with
  | none => rw [q] at w; exact w.elim
  | some sl => cases sl with
    | no => rw [q] at w; exact w.elim
    | val d => rw [q] at w; exact w.elim
    | own d => cases d with
      | lst xs =>
        rw [q] at w
        obtain ⟨a, o, h1, h2, h3, h4, vs, rfl, h5⟩ := e.own i _ q
        refine ⟨.ref a, h1, .inl ⟨rfl, _, .inl (.inl h4)⟩, he G n S H r σ _ s e ?_⟩
        simp only [] at w
        cases q2 : m r S with
        | ok d S1 =>
          rw [q2] at w
          intro v G1 n1 H1 p rl
          simp only [bind_ok] at w
          obtain ⟨g1, g2, g3⟩ := hidden p h4 h2 h3
          have rl5 := RelL.mono p.sub p.eta _ _ h5
          cases d with
          | lst ys =>
            obtain ⟨b, us, rfl, k1, k2⟩ := rl
            simp only [] at w
            by_cases hl : xs.length + ys.length ≤ lim
            · rw [if_pos hl] at w
              refine ⟨a, b, vs, us, rfl, rfl, g3, NL.sub _ _ k1, by rw [← h5.len, ← k2.len, ← lim_eq]; exact hl, ?_⟩
              have e1 := e.post p
              have ow : Own r σ a := ⟨i, _, q, h1⟩
              have p2 : Post K (Own r σ) G1 n1 S1 H1 G1 n1 S1 (upd H1 a (.lst (vs ++ us))) := Post.hidW p.sr g3 g1 g2 ow
              exact w G1 n1 _ σ (p.own.trans p2 fun b z => .inl z) (e1.reOwn q h1 ⟨_, rfl, rl5.append k2⟩) (OwnSub.reOwn q)
            · rw [if_neg hl] at w; exact w.elim
          | _ => exact w.elim
        | exc x S' => rw [q2] at w; exact fun c dd G' n' H' p => w c dd G' n' H' p.own
        | bad => rw [q2] at w; exact w.elim
      | _ => rw [q] at w; exact w.elim
/-- target = name.pop() -/
theorem s_popV {i : Nat} {g : TG} {gm : GM} {is : List Nat} (hg : SG K g gm is) : SS K EE (tAsg (tBM0 K "list" rPop (tVar i)) g) (mPop gm i) := fun G n S H r σ D s e w => by
  unfold mPop at w
  cases q : r[i]? with
  | none => rw [q] at w; exact w.elim
  | some sl => cases sl with
    | no => rw [q] at w; exact w.elim
    | val d => rw [q] at w; exact w.elim
    | own d => cases d with
      | lst xs =>
        rw [q] at w
        obtain ⟨a, o, h1, h2, h3, h4, vs, rfl, h5⟩ := e.own i _ q
        simp only [] at w
        cases q2 : xs[xs.length - 1]? with
        | none => rw [q2] at w; exact w.elim
        | some y =>
          rw [q2] at w
          simp only [] at w
          obtain ⟨v, k1, k2⟩ := h5.get q2
          cases q3 : gm y (r.set i (.own (.lst xs.dropLast))) with
          | none => rw [q3] at w; exact w.elim
          | some r1 =>
            rw [q3] at w
            refine ⟨.ref a, h1, .inl ⟨rfl, _, .inl (.inl h4)⟩, a, vs, v, rfl, rfl, h4, by rw [← h5.len]; exact k1, ?_⟩
            have ow : Own r σ a := ⟨i, _, q, h1⟩
            have p2 : Post K (Own r σ) G n S H G n S (upd H a (.lst vs.dropLast)) := Post.hidW s h4 h2 h3 ow
            have dl : RelL K G n xs.dropLast vs.dropLast := by
              rw [List.dropLast_eq_take, List.dropLast_eq_take, ← h5.len]
              exact h5.take _
            have e2 := e.reOwn q h1 (d' := .lst xs.dropLast) ⟨_, rfl, dl⟩
            refine hg G n S _ _ σ y v r1 _ p2.sr e2 k2 q3 fun σ1 e3 o3 _ => ?_
            have o2 : OwnSub r σ H (r.set i (.own (.lst xs.dropLast))) σ := OwnSub.reOwn q
            exact w G n _ σ1 p2 e3 (o2.trans o3 fun b => p2.back)
      | _ => rw [q] at w; exact w.elim
/-- o.append(e) of a shared list -/
theorem s_appE {to : TE} {o : EM} (ho : SE K EE to o) (he : SE K EE te m) : SS K EE (tDrop (tBM K "list" rAppend to (tCons te tNil))) (mAppE o m) := fun G n S H r σ D s e w => by
  refine ho G n S H r σ _ s e ?_
  unfold mAppE at w
  cases q : o r S with
  | ok x S1 =>
    rw [q] at w
    intro v0 G1 n1 H1 p rl
    simp only [bind_ok] at w
    cases x with
    | ref k =>
      obtain ⟨a, rfl, hk⟩ := ref_rel rl
      simp only [] at w
      cases q0 : lstAt S1 k with
      | none => rw [q0] at w; exact w.elim
      | some xs0 =>
        rw [q0] at w
        obtain ⟨vs0, h3, _⟩ := cell_lst p.sr hk q0
        refine ⟨.inl ⟨rfl, _, .inl (.inl h3)⟩, he G1 n1 S1 H1 r σ _ p.sr (e.post p) ?_⟩
        simp only [] at w
        cases q2 : m r S1 with
        | ok d S2 =>
          rw [q2] at w
          intro v G2 n2 H2 p2 rl2
          simp only [bind_ok] at w
          cases q3 : lstAt S2 k with
          | none => simp only [q3] at w; exact w.elim
          | some xs =>
            simp only [q3] at w
            obtain ⟨vs, g1, g2⟩ := cell_lst p2.sr (p2.eta.get hk) q3
            by_cases hl : xs.length < lim
            · rw [if_pos hl] at w
              refine ⟨a, vs, v, rfl, rfl, g1, by rw [← g2.len, ← lim_eq]; exact hl, ?_⟩
              have p3 : Post K NoO G2 n2 S2 H2 G2 n2 (S2.set k (some (.lst (xs ++ [d])))) (upd H2 a (.lst (vs ++ [v]))) := Post.setCell p2.sr (p2.eta.get hk) (lstAt_some q3) ⟨_, rfl, g2.append (.cons rl2 .nil)⟩
              have p13 := (p.tr p2).tr p3
              exact w G2 n2 _ σ p13.own (e.post p13) OwnSub.refl
            · rw [if_neg hl] at w; exact w.elim
        | exc x S' => rw [q2] at w; exact fun c dd G' n' H' p' => w c dd G' n' H' (p.tr p').own
        | bad => rw [q2] at w; exact w.elim
    | _ => exact w.elim
  | exc x S' => rw [q] at w; exact fun c dd G' n' H' p' => w c dd G' n' H' p'.own
  | bad => rw [q] at w; exact w.elim
/-- o.pop(i), o.pop() of a shared list -/
theorem s_popAt {to ti : TE} {o i : EM} (ho : SE K EE to o) (hi : SB K EE ti i) : SE K EE (tBM K "list" rPopAt to (tCons ti tNil)) (ePopAt o i) := fun G n S H r σ Q s e w => by
  refine ho G n S H r σ _ s e ?_
  unfold ePopAt at w
  cases q : o r S with
  | ok x S1 =>
    rw [q] at w
    intro v0 G1 n1 H1 p rl
    simp only [bind_ok] at w
    cases x with
    | ref k =>
      obtain ⟨a, rfl, hk⟩ := ref_rel rl
      simp only [] at w
      cases q0 : lstAt S1 k with
      | none => rw [q0] at w; exact w.elim
      | some xs0 =>
        rw [q0] at w
        obtain ⟨vs0, h3, _⟩ := cell_lst p.sr hk q0
        refine ⟨.inl ⟨rfl, _, .inl (.inl h3)⟩, hi G1 n1 S1 H1 r σ _ p.sr (e.post p) ?_⟩
        simp only [] at w
        cases q2 : i r S1 with
        | ok d S2 =>
          rw [q2] at w
          intro v G2 n2 H2 p2 rl2
          simp only [bind_ok] at w
          cases q3 : lstAt S2 k with
          | none => simp only [q3] at w; exact w.elim
          | some xs =>
            cases d with
            | int j =>
              simp only [q3] at w
              obtain ⟨vs, g1, g2⟩ := cell_lst p2.sr (p2.eta.get hk) q3
              by_cases hb : -9223372036854775808 ≤ j ∧ j < 9223372036854775808
              · rw [if_pos hb] at w
                cases q4 : ixN xs.length j with
                | none => simp only [q4] at w; exact w.elim
                | some c =>
                  simp only [q4] at w
                  cases q5 : xs[c]? with
                  | none => simp only [q5] at w; exact w.elim
                  | some y =>
                    simp only [q5] at w
                    obtain ⟨u, k1, k2⟩ := g2.get q5
                    refine ⟨a, vs, j, c, u, rfl, by rw [rl2.int], g1, by have := hb.1; omega, by have := hb.2; omega, by rw [← g2.len]; exact (ixN_seq q4).1, k1, ?_⟩
                    have p3 : Post K NoO G2 n2 S2 H2 G2 n2 (S2.set k (some (.lst (xs.eraseIdx c)))) (upd H2 a (.lst (vs.eraseIdx c))) := Post.setCell p2.sr (p2.eta.get hk) (lstAt_some q3) ⟨_, rfl, g2.erase c⟩
                    exact w _ _ _ _ ((p.tr p2).tr p3) k2
              · rw [if_neg hb] at w; exact w.elim
            | _ => simp only [q3] at w; exact w.elim
        | exc x S' => rw [q2] at w; exact fun c dd G' n' H' p' => w c dd G' n' H' (p.tr p')
        | bad => rw [q2] at w; exact w.elim
    | _ => exact w.elim
  | exc x S' => rw [q] at w; exact w
  | bad => rw [q] at w; exact w.elim
theorem s_pop {to : TE} {o : EM} (ho : SE K EE to o) : SE K EE (tBM0 K "list" rPop to) (ePop o) := fun G n S H r σ Q s e w => by
  refine ho G n S H r σ _ s e ?_
  unfold ePop at w
  cases q : o r S with
  | ok x S1 =>
    rw [q] at w
    intro v0 G1 n1 H1 p rl
    simp only [bind_ok] at w
    cases x with
    | ref k =>
      obtain ⟨a, rfl, hk⟩ := ref_rel rl
      simp only [] at w
      cases q0 : lstAt S1 k with
      | none => rw [q0] at w; exact w.elim
      | some xs =>
        rw [q0] at w
        obtain ⟨vs, h3, g2⟩ := cell_lst p.sr hk q0
        simp only [] at w
        cases q5 : xs[xs.length - 1]? with
        | none => rw [q5] at w; exact w.elim
        | some y =>
          rw [q5] at w
          obtain ⟨u, k1, k2⟩ := g2.get q5
          have dl : RelL K G1 n1 xs.dropLast vs.dropLast := by
            rw [List.dropLast_eq_take, List.dropLast_eq_take, ← g2.len]
            exact g2.take _
          refine ⟨.inl ⟨rfl, _, .inl (.inl h3)⟩, a, vs, u, rfl, rfl, h3, by rw [← g2.len]; exact k1, ?_⟩
          have p3 : Post K NoO G1 n1 S1 H1 G1 n1 (S1.set k (some (.lst xs.dropLast))) (upd H1 a (.lst vs.dropLast)) := Post.setCell p.sr hk (lstAt_some q0) ⟨_, rfl, dl⟩
          exact w _ _ _ _ (p.tr p3) k2
    | _ => exact w.elim
  | exc x S' => rw [q] at w; exact w
  | bad => rw [q] at w; exact w.elim
/-- name[i] = e of the name's own list -/
theorem s_setV {x : Nat} {ti : TE} {i : EM} (he : SE K EE te m) (hi : SB K EE ti i) : SS K EE (tAsg te (gSub (tVar x) ti rSetL)) (mSetV x i m) := fun G n S H r σ D s e w => by
  refine he G n S H r σ _ s e ?_
  unfold mSetV at w
  cases q : m r S with
  | ok d S1 =>
    rw [q] at w
    intro v G1 n1 H1 p rl
    simp only [bind_ok] at w
    cases q1 : r[x]? with
    | none => rw [q1] at w; exact w.elim
    | some sl => cases sl with
      | no => rw [q1] at w; exact w.elim
      | val d => rw [q1] at w; exact w.elim
      | own d' => cases d' with
        | lst xs =>
          rw [q1] at w
          have e1 := e.post p
          obtain ⟨a, o, h1, h2, h3, h4, vs, rfl, h5⟩ := e1.own x _ q1
          refine ⟨.ref a, h1, hi G1 n1 S1 H1 r σ _ p.sr e1 ?_⟩
          simp only [] at w
          cases q2 : i r S1 with
          | ok j S2 =>
            rw [q2] at w
            intro u G2 n2 H2 p2 rl2
            simp only [bind_ok] at w
            cases j with
            | int z =>
              simp only [] at w
              cases q3 : ixN xs.length z with
              | none => rw [q3] at w; exact w.elim
              | some c =>
                rw [q3] at w
                obtain ⟨g1, g2, g3⟩ := hidden p2 h4 h2 h3
                have rl5 := RelL.mono p2.sub p2.eta _ _ h5
                refine ⟨a, vs, z, c, rfl, rl2.int, g3, by rw [← h5.len]; exact q3, ?_⟩
                have ow : Own r σ a := ⟨x, _, q1, h1⟩
                have p3 : Post K (Own r σ) G2 n2 S2 H2 G2 n2 S2 (upd H2 a (.lst (vs.set c v))) := Post.hidW p2.sr g3 g1 g2 ow
                exact w G2 n2 _ σ ((p.tr p2).own.trans p3 fun b z => .inl z) ((e1.post p2).reOwn q1 h1 ⟨_, rfl, rl5.set c (Rel.mono p2.sub p2.eta _ _ rl)⟩) (OwnSub.reOwn q1)
            | _ => exact w.elim
          | exc x S' => rw [q2] at w; exact fun c dd G' n' H' p' => w c dd G' n' H' (p.tr p').own
          | bad => rw [q2] at w; exact w.elim
        | _ => rw [q1] at w; exact w.elim
  | exc x S' => rw [q] at w; exact fun c dd G' n' H' p' => w c dd G' n' H' p'.own
  | bad => rw [q] at w; exact w.elim
/-- o[i] = e of a shared list -/
theorem s_setE {to ti : TE} {o i : EM} (he : SE K EE te m) (ho : SE K EE to o) (hi : SB K EE ti i) : SS K EE (tAsg te (gSub to ti rSetL)) (mSetE o i m) := fun G n S H r σ D s e w => by
  refine he G n S H r σ _ s e ?_
  unfold mSetE at w
  cases q : m r S with
  | ok d S1 =>
    rw [q] at w
    intro v G1 n1 H1 p rl
    simp only [bind_ok] at w
    refine ho G1 n1 S1 H1 r σ _ p.sr (e.post p) ?_
    cases q1 : o r S1 with
    | ok x S2 =>
      rw [q1] at w
      intro u G2 n2 H2 p2 rl2
      simp only [bind_ok] at w
      refine hi G2 n2 S2 H2 r σ _ p2.sr ((e.post p).post p2) ?_
      cases q2 : i r S2 with
      | ok j S3 =>
        rw [q2] at w
        intro t G3 n3 H3 p3 rl3
        simp only [bind_ok] at w
        cases x with
        | ref k =>
          cases j with
          | int z =>
            simp only [] at w
            obtain ⟨a, rfl, hk⟩ := ref_rel rl2
            cases q3 : lstAt S3 k with
            | none => rw [q3] at w; exact w.elim
            | some xs =>
              rw [q3] at w
              simp only [] at w
              obtain ⟨vs, g1, g2⟩ := cell_lst p3.sr (p3.eta.get hk) q3
              cases q4 : ixN xs.length z with
              | none => rw [q4] at w; exact w.elim
              | some c =>
                rw [q4] at w
                refine ⟨a, vs, z, c, rfl, rl3.int, g1, by rw [← g2.len]; exact q4, ?_⟩
                have p4 : Post K NoO G3 n3 S3 H3 G3 n3 (S3.set k (some (.lst (xs.set c d)))) (upd H3 a (.lst (vs.set c v))) := Post.setCell p3.sr (p3.eta.get hk) (lstAt_some q3) ⟨_, rfl, g2.set c (Rel.mono (p2.sub.trans p3.sub) (p2.eta.trans p3.eta) _ _ rl)⟩
                have p14 := ((p.tr p2).tr p3).tr p4
                exact w G3 n3 _ σ p14.own (e.post p14) OwnSub.refl
          | _ => exact w.elim
        | _ => exact w.elim
      | exc x S' => rw [q2] at w; exact fun c dd G' n' H' p' => w c dd G' n' H' ((p.tr p2).tr p').own
      | bad => rw [q2] at w; exact w.elim
    | exc x S' => rw [q1] at w; exact fun c dd G' n' H' p' => w c dd G' n' H' (p.tr p').own
    | bad => rw [q1] at w; exact w.elim
  | exc x S' => rw [q] at w; exact fun c dd G' n' H' p' => w c dd G' n' H' p'.own
  | bad => rw [q] at w; exact w.elim
/-- a fresh list that is shared from now on -/
theorem SL.new {l : LM} (h : SL K EE te l) : SE K EE te (eNew l) := fun G n S H r σ Q s e w => by
  refine h G n S H r σ _ s e ?_
  unfold eNew at w
  cases q : l r S with
  | ok ds S1 =>
    rw [q] at w
    intro b vs G1 n1 H1 p hn hg hl hb rl
    simp only [bind_ok] at w
    have p2 := Post.addCell (d := .lst ds) p hn hb hg hl ⟨vs, rfl, rl⟩
    exact w _ _ _ _ p2 (by
      simp only [Rel]
      exact ⟨b, rfl, by rw [← p.sr.len, List.getElem?_append_right (Nat.le_refl _)]; simp⟩)
  | exc x S' => rw [q] at w; exact w
  | bad => rw [q] at w; exact w.elim
/-- list.index, flat items -/
theorem s_indexL {to ti : TE} {o i : EM} (ho : SB K EE to o) (hi : SB K EE ti i) : SE K EE (tBM K "list" (rIndex K) to (tCons ti tNil)) (eIndexL o i) := fun G n S H r σ Q s e w => by
  refine ho G n S H r σ _ s e ?_
  unfold eIndexL at w
  cases q : o r S with
  | ok x S1 =>
    rw [q] at w
    intro v G1 n1 H1 p rl
    simp only [bind_ok] at w
    cases q1 : lstS S1 x with
    | none => rw [q1] at w; exact w.elim
    | some ds0 =>
      rw [q1] at w
      obtain ⟨a0, vs0, rfl, h1, _⟩ := lstS_rel p.sr rl q1
      refine ⟨.inl ⟨rfl, _, h1⟩, hi G1 n1 S1 H1 r σ _ p.sr (e.post p) ?_⟩
      simp only [] at w
      cases q2 : i r S1 with
      | ok y S2 =>
        rw [q2] at w
        intro u G2 n2 H2 p2 rl2
        simp only [bind_ok, dIndexL] at w
        cases q3 : lstS S2 x with
        | none => rw [q3] at w; exact w.elim
        | some ds =>
          rw [q3] at w
          obtain ⟨a, vs, ea, h3, h4⟩ := lstS_rel p2.sr (rl.post p2) q3
          cases ea
          simp only [] at w
          by_cases f : (flatD y && ds.all flatD) = true
          · rw [if_pos f] at w
            rw [Bool.and_eq_true] at f
            cases q5 : idxOf y ds 0 with
            | none => rw [q5] at w; exact w.elim
            | some k =>
              rw [q5] at w
              obtain ⟨z, k1, k2, k3⟩ := idxOf_rel f.1 rl2 f.2 h4 q5
              exact ⟨_, vs, u, k, z, rfl, rfl, h3, flat_rel f.1 rl2, flats_rel f.2 h4, k1, k2, k3, w _ _ _ _ (p.tr p2) rInt⟩
          · rw [if_neg f] at w; exact w.elim
      | exc x S' => rw [q2] at w; exact fun c dd G' n' H' p' => w c dd G' n' H' (p.tr p')
      | bad => rw [q2] at w; exact w.elim
  | exc x S' => rw [q] at w; exact w
  | bad => rw [q] at w; exact w.elim
end
end BR

/-! A piece of syntax with its mirror; defs; a law's end. -/
namespace BR
open PySem PySem.Spec PyProof.Rows L2

/-! ### room, with nothing that is being shown -/
structure Rm (k : Nat) (A : Around) : Prop where
  room : Room k A
  gd : A.guards = some []
theorem Rm.mono {j k : Nat} {A : Around} (r : Rm k A) (h : j ≤ k) : Rm j A := ⟨r.room.mono h, r.gd⟩
theorem Rm.deeper {k : Nat} {A : Around} (r : Rm (k + 1) A) (env : PySem.Env) : Rm k (A.deeper env) := ⟨r.room.deeper env, r.gd⟩

structure FnG (P : Program) (w : World) (K : PySem.W.Frag) (mg : Str → Option Value) (base : Heap) (CX : CXT) (k : Nat) (f : Addr) (fd : FuncData) (ps : List Str) (sp : Sp) : Prop where
  len : ∀ vs H Q E, sp vs H Q E → vs.length = ps.length
  run : ∀ (A : Around) (outer : List PySem.Env) (s : Shared) (H : Hp) (args : Args) (us : List Value) (vs : List V) (Q : VK) (E : XK), Rm k A → Env0 P w K mg base A outer s H →
    BindsTo s fd args (ps.zip us) → Vals vs us → sp vs H Q E → codeAny (model P w) A (.call (.ref f) args) (CR CX outer P w H s Q E) s
/-- what is known of a def, by its name: at level k it does as its mirror -/
structure DefOk (P : Program) (w : World) (K : PySem.W.Frag) (mg : Str → Option Value) (base : Heap) (CX : CXT) (x : Str) (k : Nat) (sp : Sp) : Prop where
  ex : ∃ (f : Addr) (fd : FuncData) (ps : List Str), FnG P w K mg base CX k f fd ps sp ∧ mg x = some (.ref f) ∧ PySem.W.keepIn K (.ref f) = true ∧ Binds K fd ps []
def sp0 (K : PySem.W.Frag) (k : Nat) (m : FM) : Sp := fun vs H Q _ => spOf K k m vs H Q E0
section
variable {X : Cx} {CX : CXT} {E : XK} {EE : XK}

/-! ### pieces of syntax -/
def XE (X : Cx) (EE : XK) (e : Expr) (t : TE) (m : EM) : Prop := PE X e t ∧ SE X.K EE t m
def XB (X : Cx) (EE : XK) (e : Expr) (t : TE) (m : EM) : Prop := PE X e t ∧ SB X.K EE t m
def XL (X : Cx) (EE : XK) (e : Expr) (t : TE) (m : LM) : Prop := PE X e t ∧ SL X.K EE t m
def XT (X : Cx) (EE : XK) (e : Expr) (t : TT) (m : TM) : Prop := PT X e t ∧ ST X.K EE t m
def XW (X : Cx) (EE : XK) (e : Expr) (t : TT) (m : TM) : Prop := PW X e t ∧ ST X.K EE t m
def XTs (X : Cx) (EE : XK) (e : List Expr) (t : TT) (m : TM) : Prop := PTs X e t ∧ ST X.K EE t m
def XA (X : Cx) (EE : XK) (e : List Expr) (t : TA) (m : LM) : Prop := PA X e t ∧ SA X.K EE t m
def XI (X : Cx) (EE : XK) (st : Bool) (tg e : Expr) (t : TI) (m : IM) : Prop := PI X tg e t ∧ SI X.K EE st t m
def XG (X : Cx) (e : Expr) (t : TG) (m : GM) (is : List Nat) : Prop := PG X e t ∧ SG X.K t m is
def XGs (X : Cx) (e : List Expr) (t : TGs) (m : List GM) (is : List Nat) : Prop := PGs X e t ∧ SGs X.K t m is
def XS (X : Cx) (EE : XK) (st : Stmt) (t : TS) (m : SM) : Prop := PS X st t ∧ SS X.K EE t m
def XSs (X : Cx) (EE : XK) (st : List Stmt) (t : TS) (m : SM) : Prop := PSs X st t ∧ SS X.K EE t m
def XO (X : Cx) (EE : XK) (e : Option Expr) (t : TO) (m : PM) : Prop := PO X e t ∧ SO X.K EE t m
variable {e a b c : Expr} {es : List Expr} {t ta tb tc : TE} {m ma mb mc : EM} {pos p : Pos} {tt tu : TT} {um un : TM} {tas : TA} {ms : LM}
theorem XE.bor (h : XE X EE e t m) : XB X EE e t m := ⟨h.1, h.2.bor⟩
theorem XL.frz (h : XL X EE e t ms) : XE X EE e t (eFrz ms) := ⟨h.1, h.2.frz⟩
theorem XL.new (h : XL X EE e t ms) : XE X EE e t (eNew ms) := ⟨h.1, h.2.new⟩
theorem XL.bor (h : XL X EE e t ms) : XB X EE e t (eFrz ms) := h.frz.bor
theorem x_v (i : Nat) {x : Str} {pos : Pos} (hN : X.N[i]? = some x := by rfl) (hv : Vis X.env.scope x := by first | exact Or.inl rfl | exact Or.inr (Or.inl rfl) | exact Or.inr (Or.inr rfl)) (hd : (x == ("__debug__" : Str)) = false := by decide)
    (hcd : (x == ("__classdict__" : Str)) = false := by decide) : XE X EE (.Name x pos) (tVar i) (eV i) := ⟨pe_var hN hv hd hcd, SE.var i⟩
theorem x_b (i : Nat) {x : Str} {pos : Pos} (hN : X.N[i]? = some x := by rfl) (hv : Vis X.env.scope x := by first | exact Or.inl rfl | exact Or.inr (Or.inl rfl) | exact Or.inr (Or.inr rfl)) (hd : (x == ("__debug__" : Str)) = false := by decide)
    (hcd : (x == ("__classdict__" : Str)) = false := by decide) : XB X EE (.Name x pos) (tVar i) (eB i) := ⟨pe_var hN hv hd hcd, SB.var i⟩
theorem x_int {i : Int} {j : Nat} : XE X EE (.Constant (.int i) j pos) (tC (.int i)) (eC (.int i)) := ⟨pe_int, SE.c fun _ _ => rInt⟩
theorem x_bl {i : Bool} {j : Nat} : XE X EE (.Constant (.bool i) j pos) (tC (.bl i)) (eC (.bl i)) := ⟨pe_bl, SE.c fun _ _ => rBl⟩
theorem x_str {i : Str} {j : Nat} : XE X EE (.Constant (.str i) j pos) (tC (.str i)) (eC (.str i)) := ⟨pe_str, SE.c fun _ _ => rStr⟩
theorem x_non {j : Nat} : XE X EE (.Constant .none j pos) (tC .non) (eC .non) := ⟨pe_non, SE.c fun _ _ => rNon⟩
theorem x_gInt {x : Str} {i : Int} {tk : Tok} (hm : X.mg x = some (.int i tk)) (hg : Gl X x := by rfl) (hd : (x == ("__debug__" : Str)) = false := by decide) : XE X EE (.Name x pos) (tC (.int i)) (eC (.int i)) :=
  ⟨pe_glob hg hm (show RelV (.int i) _ from ⟨_, rfl⟩) hd, SE.c fun _ _ => rInt⟩
theorem x_gStr {x : Str} {i : Str} {tk : Tok} (hm : X.mg x = some (.str i tk)) (hg : Gl X x := by rfl) (hd : (x == ("__debug__" : Str)) = false := by decide) : XE X EE (.Name x pos) (tC (.str i)) (eC (.str i)) :=
  ⟨pe_glob hg hm (show RelV (.str i) _ from ⟨_, rfl⟩) hd, SE.c fun _ _ => rStr⟩
/-- a module's constant, by what it stands for -/
def GVal (K : PySem.W.Frag) (mg : Str → Option Value) (x : Str) (d : BR.D) : Prop := ∃ (a : Addr), mg x = some (.ref a) ∧ ∀ G n, Rel K G n d (.ref a)
theorem x_gVal {x : Str} {a : Addr} {d : BR.D} (h : ∀ G n, Rel X.K G n d (.ref a)) (hm : X.mg x = some (.ref a)) (hg : Gl X x := by rfl) (hd : (x == ("__debug__" : Str)) = false := by decide) : XE X EE (.Name x pos) (tC (.ref a)) (eC d) :=
  ⟨pe_glob hg hm rfl hd, SE.c fun G n => h G n⟩
/-! operators -/
abbrev Rsub : R2 := rI0 fun i j => .int (i - j)
abbrev Rfdiv : R2 := rI CDivW fun i j => .int (i / j)
abbrev Rmod : R2 := rI (fun _ j => 0 < j) fun i j => .int (i % j)
abbrev Rpow : R2 := rI CPow fun i j => .int (i ^ j.toNat)
abbrev Rlt : R2 := rI0 fun i j => .bl (decide (i < j))
abbrev Rle : R2 := rI0 fun i j => .bl (decide (i ≤ j))
abbrev Rgt : R2 := rI0 fun i j => .bl (decide (j < i))
abbrev Rge : R2 := rI0 fun i j => .bl (decide (j ≤ i))
abbrev Uneg : V → Hp → VK → Prop := rU fun i => .int (-i)
theorem op_addA : OpR X (binaryOp .Add) (rAddA X.K) := OpR.or op_add (OpR.or op_add_str (OpR.or op_catA op_cat))
theorem op_mulA : OpR X (binaryOp .Mult) rMulA := OpR.or op_mulW op_rep
theorem x_add (ha : XB X EE a ta ma) (hb : XB X EE b tb mb) : XE X EE (.BinOp a .Add b pos) (tOp (rAddA X.K) ta tb) (e2 dAdd ma mb) := ⟨pe_op op_addA ha.1 hb.1, ha.2.op2 hb.2 o_add⟩
theorem x_sub (ha : XB X EE a ta ma) (hb : XB X EE b tb mb) : XE X EE (.BinOp a .Sub b pos) (tOp Rsub ta tb) (e2 dSub ma mb) := ⟨pe_op op_sub ha.1 hb.1, ha.2.op2 hb.2 o_sub⟩
theorem x_mul (ha : XB X EE a ta ma) (hb : XB X EE b tb mb) : XE X EE (.BinOp a .Mult b pos) (tOp rMulA ta tb) (e2 dMul ma mb) := ⟨pe_op op_mulA ha.1 hb.1, ha.2.op2 hb.2 o_mul⟩
theorem x_fdiv (ha : XB X EE a ta ma) (hb : XB X EE b tb mb) : XE X EE (.BinOp a .FloorDiv b pos) (tOp Rfdiv ta tb) (e2 dFdiv ma mb) := ⟨pe_op op_fdivW ha.1 hb.1, ha.2.op2 hb.2 o_fdiv⟩
theorem x_mod (ha : XB X EE a ta ma) (hb : XB X EE b tb mb) : XE X EE (.BinOp a .Mod b pos) (tOp Rmod ta tb) (e2 dMod ma mb) := ⟨pe_op op_mod ha.1 hb.1, ha.2.op2 hb.2 o_mod⟩
theorem x_pow (ha : XB X EE a ta ma) (hb : XB X EE b tb mb) : XE X EE (.BinOp a .Pow b pos) (tOp Rpow ta tb) (e2 dPow ma mb) := ⟨pe_op op_pow ha.1 hb.1, ha.2.op2 hb.2 o_pow⟩
theorem x_neg (ha : XB X EE a ta ma) : XE X EE (.UnaryOp .USub a pos) (tUn Uneg ta) (e1 dNeg ma) := ⟨pe_un un_neg ha.1, ha.2.op1 o_neg⟩
theorem x_lt (ha : XB X EE a ta ma) (hb : XB X EE b tb mb) : XE X EE (.Compare a [.Lt] [b] pos) (tOp Rlt ta tb) (e2 dLt ma mb) := ⟨pe_cmpR op_lt ha.1 hb.1 (nomark _), ha.2.op2 hb.2 o_lt⟩
theorem x_le (ha : XB X EE a ta ma) (hb : XB X EE b tb mb) : XE X EE (.Compare a [.LtE] [b] pos) (tOp Rle ta tb) (e2 dLe ma mb) := ⟨pe_cmpR op_le ha.1 hb.1 (nomark _), ha.2.op2 hb.2 o_le⟩
theorem x_gt (ha : XB X EE a ta ma) (hb : XB X EE b tb mb) : XE X EE (.Compare a [.Gt] [b] pos) (tOp Rgt ta tb) (e2 dGt ma mb) := ⟨pe_cmpR op_gt ha.1 hb.1 (nomark _), ha.2.op2 hb.2 o_gt⟩
theorem x_ge (ha : XB X EE a ta ma) (hb : XB X EE b tb mb) : XE X EE (.Compare a [.GtE] [b] pos) (tOp Rge ta tb) (e2 dGe ma mb) := ⟨pe_cmpR op_ge ha.1 hb.1 (nomark _), ha.2.op2 hb.2 o_ge⟩
theorem x_eq (hu : X.A.units + 64 < cLine) (ha : XB X EE a ta ma) (hb : XB X EE b tb mb) : XE X EE (.Compare a [.Eq] [b] pos) (tOp (rEqD X.K) ta tb) (e2 dEq ma mb) := ⟨pe_cmpR (op_eqD hu) ha.1 hb.1 (nomark _), ha.2.op2 hb.2 o_eq⟩
theorem x_ne (hu : X.A.units + 64 < cLine) (ha : XB X EE a ta ma) (hb : XB X EE b tb mb) : XE X EE (.Compare a [.NotEq] [b] pos) (tOp (rNeD X.K) ta tb) (e2 dNe ma mb) := ⟨pe_cmpR (op_neD hu) ha.1 hb.1 (nomark _), ha.2.op2 hb.2 o_ne⟩
theorem op_isNA : OpR X (compareOp .Is) rIsN := op_isN
theorem op_notNA : OpR X (compareOp .IsNot) rNotN := op_notN
theorem x_is (ha : XB X EE a ta ma) (hb : XB X EE b tb mb) : XE X EE (.Compare a [.Is] [b] pos) (tOp rIsN ta tb) (e2 dIs ma mb) := ⟨pe_cmpR op_isNA ha.1 hb.1 (nomark _), ha.2.op2 hb.2 o_is⟩
theorem x_isNot (ha : XB X EE a ta ma) (hb : XB X EE b tb mb) : XE X EE (.Compare a [.IsNot] [b] pos) (tOp rNotN ta tb) (e2 dIsNot ma mb) := ⟨pe_cmpR op_notNA ha.1 hb.1 (nomark _), ha.2.op2 hb.2 o_isNot⟩
theorem x_in (hu : X.A.units + 65 < cLine) (ha : XB X EE a ta ma) (hb : XB X EE b tb mb) (hm : behindInMarks .In b = false := by rfl) : XE X EE (.Compare a [.In] [b] pos) (tOp (rInA X.K) ta tb) (e2 dIn ma mb) := ⟨pe_cmpR (OpR.or op_in_seq (op_inD hu)) ha.1 hb.1 hm, ha.2.op2 hb.2 o_in⟩
theorem x_notIn (hu : X.A.units + 65 < cLine) (ha : XB X EE a ta ma) (hb : XB X EE b tb mb) (hm : behindInMarks .NotIn b = false := by rfl) : XE X EE (.Compare a [.NotIn] [b] pos) (tOp (rNotInA X.K) ta tb) (e2 dNotIn ma mb) := ⟨pe_cmpR (OpR.or op_notIn_seq (op_notInD hu)) ha.1 hb.1 hm, ha.2.op2 hb.2 o_notIn⟩
/-! tests -/
theorem x_tCmp {op : CmpOp} {r : R2} (ho : OpR X (compareOp op) r) (ha : XB X EE a ta ma) (hb : XB X EE b tb mb) {f : BR.D → BR.D → Store → Res BR.D} (hs : O2 X.K EE r f) (hm : behindInMarks op b = false) : XT X EE (.Compare a [op] [b] pos) (tTest (tOp r ta tb)) (tE (e2 f ma mb)) :=
  ⟨pt_cmpR ho ha.1 hb.1 hm, ST.of (ha.2.op2 hb.2 hs).bor⟩
theorem t_lt (ha : XB X EE a ta ma) (hb : XB X EE b tb mb) : XT X EE (.Compare a [.Lt] [b] pos) (tTest (tOp Rlt ta tb)) (tE (e2 dLt ma mb)) := x_tCmp op_lt ha hb o_lt (nomark _)
theorem t_le (ha : XB X EE a ta ma) (hb : XB X EE b tb mb) : XT X EE (.Compare a [.LtE] [b] pos) (tTest (tOp Rle ta tb)) (tE (e2 dLe ma mb)) := x_tCmp op_le ha hb o_le (nomark _)
theorem t_gt (ha : XB X EE a ta ma) (hb : XB X EE b tb mb) : XT X EE (.Compare a [.Gt] [b] pos) (tTest (tOp Rgt ta tb)) (tE (e2 dGt ma mb)) := x_tCmp op_gt ha hb o_gt (nomark _)
theorem t_ge (ha : XB X EE a ta ma) (hb : XB X EE b tb mb) : XT X EE (.Compare a [.GtE] [b] pos) (tTest (tOp Rge ta tb)) (tE (e2 dGe ma mb)) := x_tCmp op_ge ha hb o_ge (nomark _)
theorem t_eq (hu : X.A.units + 64 < cLine) (ha : XB X EE a ta ma) (hb : XB X EE b tb mb) : XT X EE (.Compare a [.Eq] [b] pos) (tTest (tOp (rEqD X.K) ta tb)) (tE (e2 dEq ma mb)) := x_tCmp (op_eqD hu) ha hb o_eq (nomark _)
theorem t_ne (hu : X.A.units + 64 < cLine) (ha : XB X EE a ta ma) (hb : XB X EE b tb mb) : XT X EE (.Compare a [.NotEq] [b] pos) (tTest (tOp (rNeD X.K) ta tb)) (tE (e2 dNe ma mb)) := x_tCmp (op_neD hu) ha hb o_ne (nomark _)
theorem t_is (ha : XB X EE a ta ma) (hb : XB X EE b tb mb) : XT X EE (.Compare a [.Is] [b] pos) (tTest (tOp rIsN ta tb)) (tE (e2 dIs ma mb)) := x_tCmp op_isNA ha hb o_is (nomark _)
theorem t_isNot (ha : XB X EE a ta ma) (hb : XB X EE b tb mb) : XT X EE (.Compare a [.IsNot] [b] pos) (tTest (tOp rNotN ta tb)) (tE (e2 dIsNot ma mb)) := x_tCmp op_notNA ha hb o_isNot (nomark _)
theorem t_in (hu : X.A.units + 65 < cLine) (ha : XB X EE a ta ma) (hb : XB X EE b tb mb) (hm : behindInMarks .In b = false := by rfl) : XT X EE (.Compare a [.In] [b] pos) (tTest (tOp (rInA X.K) ta tb)) (tE (e2 dIn ma mb)) := x_tCmp (OpR.or op_in_seq (op_inD hu)) ha hb o_in hm
theorem t_notIn (hu : X.A.units + 65 < cLine) (ha : XB X EE a ta ma) (hb : XB X EE b tb mb) (hm : behindInMarks .NotIn b = false := by rfl) : XT X EE (.Compare a [.NotIn] [b] pos) (tTest (tOp (rNotInA X.K) ta tb)) (tE (e2 dNotIn ma mb)) := x_tCmp (OpR.or op_notIn_seq (op_notInD hu)) ha hb o_notIn hm
/-- an expression that gives True or False -/
theorem t_val (h : XB X EE e t m) (he : ∀ whole, isTrue e X.env whole = (do let v ← whole; standAt e.pos; holding [v] (truthy v)) := by intro _; rfl) : XT X EE e (tTest t) (tE m) := ⟨pt_val h.1 he, ST.of h.2⟩
theorem t_not (h : XT X EE e tt um) : XT X EE (.UnaryOp .Not e pos) (L2.tNot tt) (tNot um) := ⟨pt_not h.1, h.2.not⟩
theorem w_and1 (h : XT X EE e tt um) : XW X EE (.BoolOp .And [e] pos) tt um := ⟨pw_and1 h.1, h.2⟩
theorem w_or1 (h : XT X EE e tt um) : XW X EE (.BoolOp .Or [e] pos) tt um := ⟨pw_or1 h.1, h.2⟩
theorem w_and (h : XT X EE a tt um) (h2 : XW X EE (.BoolOp .And (b :: es) pos) tu un) : XW X EE (.BoolOp .And (a :: b :: es) pos) (L2.tAnd tt tu) (tAnd um un) := ⟨pw_and h.1 h2.1, h.2.and h2.2⟩
theorem w_or (h : XT X EE a tt um) (h2 : XW X EE (.BoolOp .Or (b :: es) pos) tu un) : XW X EE (.BoolOp .Or (a :: b :: es) pos) (L2.tOr tt tu) (tOr um un) := ⟨pw_or h.1 h2.1, h.2.or h2.2⟩
theorem XW.tst (h : XW X EE e tt um) : XT X EE e tt um := ⟨h.1.pt, h.2⟩
/-- 0 <= a < n, as a test, as a value -/
def chainM (f g : BR.D → BR.D → Store → Res BR.D) (a b c : EM) : EM := fun r S => (a r S).bind fun x S1 => (b r S1).bind fun y S2 => (f x y S2).bind fun z S3 => match z with
  | .bl true => (c r S3).bind fun u S4 => g y u S4
  | .bl false => .ok (.bl false) S3
  | _ => .bad
theorem s_chain {K : PySem.W.Frag} {r r' : R2} {f g : BR.D → BR.D → Store → Res BR.D} (ha : SE K EE ta ma) (hb : SE K EE tb mb) (hc : SB K EE tc mc) (hf : O2 K EE r f) (hg : O2 K EE r' g) : SE K EE (tChain r r' ta tb tc) (chainM f g ma mb mc) := fun G n S H ρ σ Q s e w => by
  refine ha G n S H ρ σ _ s e ?_
  unfold chainM at w
  cases q : ma ρ S with
  | ok x S1 =>
    rw [q] at w
    intro v G1 n1 H1 p rl
    simp only [bind_ok] at w
    refine hb G1 n1 S1 H1 ρ σ _ p.sr (e.post p) ?_
    cases q2 : mb ρ S1 with
    | ok y S2 =>
      rw [q2] at w
      intro u G2 n2 H2 p2 rl2
      simp only [bind_ok] at w
      have k1 := RelT.of (NL.gsub p2.sr) (Rel.mono p2.sub p2.eta _ _ rl)
      have k2 := RelT.of (NL.gsub p2.sr) rl2
      refine hf G2 n2 S2 H2 v u x y _ p2.sr k1 k2 ?_
      cases q3 : f x y S2 with
      | ok z S3 =>
        rw [q3] at w
        intro i G3 n3 H3 p3 rl3
        simp only [bind_ok] at w
        cases z with
        | bl k =>
          obtain rfl : i = .bl k := by simpa only [Rel] using rl3
          refine ⟨k, rfl, ?_⟩
          cases k with
          | false => exact w _ _ _ _ ((p.tr p2).tr p3) rBl
          | true =>
            simp only [] at w
            refine hc G3 n3 S3 H3 ρ σ _ p3.sr (((e.post p).post p2).post p3) ?_
            cases q4 : mc ρ S3 with
            | ok o S4 =>
              rw [q4] at w
              intro j G4 n4 H4 p4 rl4
              exact hg G4 n4 S4 H4 u j y o _ p4.sr ((k2.post p3).post p4) rl4 (WpE.at (((p.tr p2).tr p3).tr p4) w)
            | exc x S' => rw [q4] at w; exact fun c dd G' n' H' p' => w c dd G' n' H' (((p.tr p2).tr p3).tr p')
            | bad => rw [q4] at w; exact w.elim
        | _ => exact w.elim
      | exc x S' => rw [q3] at w; exact fun c dd G' n' H' p' => w c dd G' n' H' ((p.tr p2).tr p')
      | bad => rw [q3] at w; exact w.elim
    | exc x S' => rw [q2] at w; exact fun c dd G' n' H' p' => w c dd G' n' H' (p.tr p')
    | bad => rw [q2] at w; exact w.elim
  | exc x S' => rw [q] at w; exact w
  | bad => rw [q] at w; exact w.elim
theorem x_chain {op op' : CmpOp} {r r' : R2} {f g : BR.D → BR.D → Store → Res BR.D} (ho : OpR X (compareOp op) r) (ho' : OpR X (compareOp op') r') (ha : XE X EE a ta ma) (hb : XE X EE b tb mb) (hc : XB X EE c tc mc) (hf : O2 X.K EE r f) (hg : O2 X.K EE r' g)
    (hm : lastMarks [op, op'] [b, c] = false := by with_unfolding_all rfl) : XE X EE (.Compare a [op, op'] [b, c] pos) (tChain r r' ta tb tc) (chainM f g ma mb mc) := ⟨pe_chain ho ho' ha.1 hb.1 hc.1 hm, s_chain ha.2 hb.2 hc.2 hf hg⟩
theorem t_chain {op op' : CmpOp} {r r' : R2} {f g : BR.D → BR.D → Store → Res BR.D} (ho : OpR X (compareOp op) r) (ho' : OpR X (compareOp op') r') (ha : XE X EE a ta ma) (hb : XE X EE b tb mb) (hc : XB X EE c tc mc) (hf : O2 X.K EE r f) (hg : O2 X.K EE r' g)
    (hm : lastMarks [op, op'] [b, c] = false := by with_unfolding_all rfl) : XT X EE (.Compare a [op, op'] [b, c] pos) (tTest (tChain r r' ta tb tc)) (tE (chainM f g ma mb mc)) := ⟨pt_chain ho ho' ha.1 hb.1 hc.1 hm, ST.of (s_chain ha.2 hb.2 hc.2 hf hg).bor⟩
theorem x_leLt (ha : XE X EE a ta ma) (hb : XE X EE b tb mb) (hc : XB X EE c tc mc) (hm : lastMarks [.LtE, .Lt] [b, c] = false := by with_unfolding_all rfl) : XE X EE (.Compare a [.LtE, .Lt] [b, c] pos) (tChain Rle Rlt ta tb tc) (chainM dLe dLt ma mb mc) := x_chain op_le op_lt ha hb hc o_le o_lt hm
theorem t_leLt (ha : XE X EE a ta ma) (hb : XE X EE b tb mb) (hc : XB X EE c tc mc) (hm : lastMarks [.LtE, .Lt] [b, c] = false := by with_unfolding_all rfl) : XT X EE (.Compare a [.LtE, .Lt] [b, c] pos) (tTest (tChain Rle Rlt ta tb tc)) (tE (chainM dLe dLt ma mb mc)) := t_chain op_le op_lt ha hb hc o_le o_lt hm
theorem x_leLe (ha : XE X EE a ta ma) (hb : XE X EE b tb mb) (hc : XB X EE c tc mc) (hm : lastMarks [.LtE, .LtE] [b, c] = false := by with_unfolding_all rfl) : XE X EE (.Compare a [.LtE, .LtE] [b, c] pos) (tChain Rle Rle ta tb tc) (chainM dLe dLe ma mb mc) := x_chain op_le op_le ha hb hc o_le o_le hm
theorem t_leLe (ha : XE X EE a ta ma) (hb : XE X EE b tb mb) (hc : XB X EE c tc mc) (hm : lastMarks [.LtE, .LtE] [b, c] = false := by with_unfolding_all rfl) : XT X EE (.Compare a [.LtE, .LtE] [b, c] pos) (tTest (tChain Rle Rle ta tb tc)) (tE (chainM dLe dLe ma mb mc)) := t_chain op_le op_le ha hb hc o_le o_le hm
/-! and, or, not as values, if else -/
theorem v_one {op : PySem.BoolOp} (h : XE X EE e t m) : XE X EE (.BoolOp op [e] pos) t m := ⟨pe_one h.1, h.2⟩
theorem v_and (h : XE X EE a ta ma) (h2 : XE X EE (.BoolOp .And (b :: es) pos) tb mb) : XE X EE (.BoolOp .And (a :: b :: es) pos) (tAndV ta tb) (eIf (tE ma) mb (eC (.bl false))) := ⟨pe_and h.1 h2.1, h.2.andV h2.2⟩
theorem v_or (h : XE X EE a ta ma) (h2 : XE X EE (.BoolOp .Or (b :: es) pos) tb mb) : XE X EE (.BoolOp .Or (a :: b :: es) pos) (tOrV ta tb) (eIf (tE ma) (eC (.bl true)) mb) := ⟨pe_or h.1 h2.1, h.2.orV h2.2⟩
theorem v_not (h : XE X EE a ta ma) : XE X EE (.UnaryOp .Not a pos) (tNotV ta) (eT (tNot (tE ma))) := ⟨pe_not h.1, h.2.notV⟩
theorem x_ifE (h : XT X EE c tt um) (ha : XE X EE a ta ma) (hb : XE X EE b tb mb) : XE X EE (.IfExp c a b pos) (tIf tt ta tb) (eIf um ma mb) := ⟨pe_ifExp h.1 ha.1 hb.1, SE.ite h.2 ha.2 hb.2⟩
/-! argument lists, displays -/
theorem a_nil : XA X EE [] tNil aN := ⟨pa_nil, SA.nil⟩
theorem a_cons (h : XE X EE e t m) (hr : XA X EE es tas ms) (hs : starEach (e :: es) X.env = (false, eval e X.env) :: starEach es X.env := by rfl) : XA X EE (e :: es) (tCons t tas) (aC m ms) := ⟨pa_cons h.1 hr.1 hs, SA.cons h.2 hr.2⟩
theorem x_tup {k : Nat} (h : XA X EE es tas ms) : XE X EE (.Tuple es k pos) (tTup tas) (eTup ms) := ⟨pe_tup h.1, SE.tup h.2⟩
theorem x_trn {k : Nat} (h : XA X EE es tas ms) : XE X EE (.Tuple es k pos) (tTrn tas) (eTrn ms) := ⟨pe_trn h.1, SE.trn h.2⟩
theorem l_lst (h : XA X EE es tas ms) : XL X EE (.List es pos) (tLst tas) (lLst ms) := ⟨pe_lst h.1, SL.lst h.2⟩
/-! subscripts -/
theorem x_ix (ha : XB X EE a ta ma) (hb : XB X EE b tb mb) (hs : PlainIx b := by exact fun _ _ => rfl) : XE X EE (.Subscript a b pos) (tOp (rIx X.K) ta tb) (e2 dIdx ma mb) := ⟨pe_ix ix_seq ha.1 hb.1 hs, ha.2.op2 hb.2 o_idx⟩
theorem o_no : XO X EE none tNoPart pNo := ⟨po_none, SO.none⟩
theorem o_so (ha : XB X EE a ta ma) : XO X EE (some a) (tPart ta) (pSo ma) := ⟨po_some ha.1, SO.some ha.2⟩
theorem l_sl {lo hi : Option Expr} {tl th : TO} {ml mh : PM} {p2 : Pos} (ha : XB X EE a ta ma) (hl : XO X EE lo tl ml) (hh : XO X EE hi th mh) : XL X EE (.Subscript a (.Slice lo hi none p2) pos) (tSl (rSlL X.K) ta tl th) (lSl ma ml mh) := ⟨pe_slice sl_list ha.1 hl.1 hh.1, s_lSl ha.2 hl.2 hh.2⟩
theorem x_sl {lo hi : Option Expr} {tl th : TO} {ml mh : PM} {p2 : Pos} (ha : XB X EE a ta ma) (hl : XO X EE lo tl ml) (hh : XO X EE hi th mh) : XE X EE (.Subscript a (.Slice lo hi none p2) pos) (tSl (rSlAll X.K) ta tl th) (eSl ma ml mh) := ⟨pe_slice (SlR.or sl_list (SlR.or sl_tupA sl_str)) ha.1 hl.1 hh.1, s_eSl ha.2 hl.2 hh.2⟩
/-! built-ins by their names; gl: the name is a global one, hm: the module has none of that name -/
abbrev Free (X : Cx) (x : Str) : Prop := X.mg x = none
theorem x_len (hm : Free X "len") (ha : XB X EE a ta ma) (hg : Gl X "len" := by rfl) (he : starEach (a :: []) X.env = (false, eval a X.env) :: starEach [] X.env := by rfl) (hp : (backTo pos (starEach [] X.env)).any (·.1) = false := by rfl) : XE X EE (.Call (.Name "len" p) [a] [] pos) (tCB (rLenA X.K) (tCons ta tNil)) (e1 dLen ma) :=
  ⟨pe_callB (r := rLenA X.K) call_len hg hm PySem.boot_len (pa_cons ha.1 pa_nil he) (by decide) (by decide) he hp, s_len ha.2⟩
theorem x_all (hc : X.calm = true) (hm : Free X "all") (ha : XB X EE a ta ma) (hg : Gl X "all" := by rfl) (he : starEach (a :: []) X.env = (false, eval a X.env) :: starEach [] X.env := by rfl) (hp : (backTo pos (starEach [] X.env)).any (·.1) = false := by rfl) : XE X EE (.Call (.Name "all" p) [a] [] pos) (tCB (rAll X.K) (tCons ta tNil)) (e1 dAll ma) :=
  ⟨pe_callB (cr_all hc) hg hm (by decide +kernel) (pa_cons ha.1 pa_nil he) (by decide) (by decide) he hp, s_all ha.2⟩
theorem x_any (hc : X.calm = true) (hm : Free X "any") (ha : XB X EE a ta ma) (hg : Gl X "any" := by rfl) (he : starEach (a :: []) X.env = (false, eval a X.env) :: starEach [] X.env := by rfl) (hp : (backTo pos (starEach [] X.env)).any (·.1) = false := by rfl) : XE X EE (.Call (.Name "any" p) [a] [] pos) (tCB (rAny X.K) (tCons ta tNil)) (e1 dAny ma) :=
  ⟨pe_callB (cr_any hc) hg hm (by decide +kernel) (pa_cons ha.1 pa_nil he) (by decide) (by decide) he hp, s_any ha.2⟩
theorem x_sum (hc : X.calm = true) (hm : Free X "sum") (ha : XB X EE a ta ma) (hg : Gl X "sum" := by rfl) (he : starEach (a :: []) X.env = (false, eval a X.env) :: starEach [] X.env := by rfl) (hp : (backTo pos (starEach [] X.env)).any (·.1) = false := by rfl) : XE X EE (.Call (.Name "sum" p) [a] [] pos) (tCB (rSum X.K) (tCons ta tNil)) (e1 dSum ma) :=
  ⟨pe_callB (cr_sum hc) hg hm (by decide +kernel) (pa_cons ha.1 pa_nil he) (by decide) (by decide) he hp, s_sum ha.2⟩
theorem x_abs (hm : Free X "abs") (ha : XB X EE a ta ma) (hg : Gl X "abs" := by rfl) (he : starEach (a :: []) X.env = (false, eval a X.env) :: starEach [] X.env := by rfl) (hp : (backTo pos (starEach [] X.env)).any (·.1) = false := by rfl) : XE X EE (.Call (.Name "abs" p) [a] [] pos) (tCB rAbs (tCons ta tNil)) (e1 dAbs ma) :=
  ⟨pe_callB (r := rAbs) call_abs hg hm (by decide +kernel) (pa_cons ha.1 pa_nil he) (by decide) (by decide) he hp, s_abs ha.2⟩
theorem x_intc (hm : Free X "int") (ha : XB X EE a ta ma) (hg : Gl X "int" := by rfl) (he : starEach (a :: []) X.env = (false, eval a X.env) :: starEach [] X.env := by rfl) (hp : (backTo pos (starEach [] X.env)).any (·.1) = false := by rfl) : XE X EE (.Call (.Name "int" p) [a] [] pos) (tCB rInt1 (tCons ta tNil)) (e1 dInt ma) :=
  ⟨pe_callTy (r := rInt1) call_int1 hg hm (by decide +kernel) (pa_cons ha.1 pa_nil he) (by decide) (by decide) he hp, s_int ha.2⟩
theorem x_max2 (hc : X.calm = true) (hm : Free X "max") (ha : XB X EE a ta ma) (hb : XB X EE b tb mb) (hg : Gl X "max" := by rfl) (he : starEach (a :: [b]) X.env = (false, eval a X.env) :: starEach [b] X.env := by rfl) (he2 : starEach (b :: []) X.env = (false, eval b X.env) :: starEach [] X.env := by rfl) (hp : (backTo pos (starEach [b] X.env)).any (·.1) = false := by rfl) :
    XE X EE (.Call (.Name "max" p) [a, b] [] pos) (tCB rMax2 (tCons ta (tCons tb tNil))) (e2 dMax2 ma mb) := ⟨pe_callB (r := rMax2) (call_max2 hc) hg hm (by decide +kernel) (pa_cons ha.1 (pa_cons hb.1 pa_nil he2) he) (by decide) (by decide) he hp, s_max2 ha.2 hb.2⟩
theorem x_min2 (hc : X.calm = true) (hm : Free X "min") (ha : XB X EE a ta ma) (hb : XB X EE b tb mb) (hg : Gl X "min" := by rfl) (he : starEach (a :: [b]) X.env = (false, eval a X.env) :: starEach [b] X.env := by rfl) (he2 : starEach (b :: []) X.env = (false, eval b X.env) :: starEach [] X.env := by rfl) (hp : (backTo pos (starEach [b] X.env)).any (·.1) = false := by rfl) :
    XE X EE (.Call (.Name "min" p) [a, b] [] pos) (tCB rMin2 (tCons ta (tCons tb tNil))) (e2 dMin2 ma mb) := ⟨pe_callB (r := rMin2) (call_min2 hc) hg hm (by decide +kernel) (pa_cons ha.1 (pa_cons hb.1 pa_nil he2) he) (by decide) (by decide) he hp, s_min2 ha.2 hb.2⟩
theorem x_repr {k : Nat} (hr : Rm k X.A) (hm : Free X "repr") (ha : XB X EE a ta ma) (hg : Gl X "repr" := by rfl) (he : starEach (a :: []) X.env = (false, eval a X.env) :: starEach [] X.env := by rfl) (hp : (backTo pos (starEach [] X.env)).any (·.1) = false := by rfl) : XE X EE (.Call (.Name "repr" p) [a] [] pos) (tCB (rRepr X.K) (tCons ta tNil)) (e1 dRepr ma) :=
  ⟨pe_callB (call_reprA hr.gd (by have := hr.room.un; omega)) hg hm (by decide +kernel) (pa_cons ha.1 pa_nil he) (by decide) (by decide) he hp, s_repr ha.2⟩
theorem l_list (hm : Free X "list") (ha : XB X EE a ta ma) (hg : Gl X "list" := by rfl) (he : starEach (a :: []) X.env = (false, eval a X.env) :: starEach [] X.env := by rfl) (hp : (backTo pos (starEach [] X.env)).any (·.1) = false := by rfl) : XL X EE (.Call (.Name "list" p) [a] [] pos) (tCB (rListA X.K) (tCons ta tNil)) (l1 lList ma) :=
  ⟨pe_callTy (r := rListA X.K) call_list_of hg hm (by decide +kernel) (pa_cons ha.1 pa_nil he) (by decide) (by decide) he hp, s_list ha.2⟩
theorem x_tuple (hm : Free X "tuple") (ha : XB X EE a ta ma) (hg : Gl X "tuple" := by rfl) (he : starEach (a :: []) X.env = (false, eval a X.env) :: starEach [] X.env := by rfl) (hp : (backTo pos (starEach [] X.env)).any (·.1) = false := by rfl) : XE X EE (.Call (.Name "tuple" p) [a] [] pos) (tCB (rTupleA X.K) (tCons ta tNil)) (e1 dTuple ma) :=
  ⟨pe_callTy (r := rTupleA X.K) call_tuple_of hg hm (by decide +kernel) (pa_cons ha.1 pa_nil he) (by decide) (by decide) he hp, s_tuple ha.2⟩
theorem x_tupleN (hm : Free X "tuple") (ha : XB X EE a ta ma) (hg : Gl X "tuple" := by rfl) (he : starEach (a :: []) X.env = (false, eval a X.env) :: starEach [] X.env := by rfl) (hp : (backTo pos (starEach [] X.env)).any (·.1) = false := by rfl) : XE X EE (.Call (.Name "tuple" p) [a] [] pos) (tCB (rTrnA X.K) (tCons ta tNil)) (e1 dTrn ma) :=
  ⟨pe_callTy (r := rTrnA X.K) call_trn hg hm (by decide +kernel) (pa_cons ha.1 pa_nil he) (by decide) (by decide) he hp, s_trn ha.2⟩
theorem ty_int : bootBuiltins "int" = some (.type "int") := by decide +kernel
theorem ty_bool : bootBuiltins "bool" = some (.type "bool") := by decide +kernel
theorem ty_str : bootBuiltins "str" = some (.type "str") := by decide +kernel
theorem ty_tuple : bootBuiltins "tuple" = some (.type "tuple") := by decide +kernel
theorem ty_list : bootBuiltins "list" = some (.type "list") := by decide +kernel
theorem ty_dict : bootBuiltins "dict" = some (.type "dict") := by decide +kernel
theorem x_isi {c : String} {x : Str} {q : Pos} (hc : c ∈ clsNames) (hb : bootBuiltins x = some (.type c)) (hm : Free X "isinstance") (hm2 : X.mg x = none) (ha : XB X EE a ta ma) (hg : Gl X "isinstance" := by rfl) (hg2 : Gl X x := by rfl)
    (he : starEach (a :: [.Name x q]) X.env = (false, eval a X.env) :: starEach [.Name x q] X.env := by rfl) (he2 : starEach [Expr.Name x q] X.env = (false, eval (.Name x q) X.env) :: starEach [] X.env := by rfl) (hp : (backTo pos (starEach [Expr.Name x q] X.env)).any (·.1) = false := by rfl)
    (hn : x ≠ "__name__" := by decide) (hd : (x == ("__debug__" : Str)) = false := by decide) : XE X EE (.Call (.Name "isinstance" p) [a, .Name x q] [] pos) (tCB (rIsi X.K) (tCons ta (tCons (tC (.ty c)) tNil))) (e1 (dIsi [c]) ma) :=
  ⟨pe_callB call_isi hg hm (by decide +kernel) (pa_cons ha.1 (pa_cons (pe_bltn hg2 hm2 hb rfl hn hd) pa_nil he2) he) (by decide) (by decide) he hp, s_isi hc ha.2⟩
theorem x_isi2 {c c' : String} {x y : Str} {k : Nat} {q q2 q3 : Pos} (hc : c ∈ clsNames) (hc' : c' ∈ clsNames) (hb : bootBuiltins x = some (.type c)) (hb' : bootBuiltins y = some (.type c')) (hm : Free X "isinstance") (hm2 : X.mg x = none) (hm3 : X.mg y = none) (ha : XB X EE a ta ma)
    (hg : Gl X "isinstance" := by rfl) (hg2 : Gl X x := by rfl) (hg3 : Gl X y := by rfl)
    (he : starEach (a :: [.Tuple [.Name x q, .Name y q2] k q3]) X.env = (false, eval a X.env) :: starEach [.Tuple [.Name x q, .Name y q2] k q3] X.env := by rfl) (he2 : starEach [Expr.Tuple [.Name x q, .Name y q2] k q3] X.env = (false, eval (.Tuple [.Name x q, .Name y q2] k q3) X.env) :: starEach [] X.env := by rfl)
    (he3 : starEach [Expr.Name x q, .Name y q2] X.env = (false, eval (.Name x q) X.env) :: starEach [.Name y q2] X.env := by rfl) (he4 : starEach [Expr.Name y q2] X.env = (false, eval (.Name y q2) X.env) :: starEach [] X.env := by rfl)
    (hp : (backTo pos (starEach [Expr.Tuple [.Name x q, .Name y q2] k q3] X.env)).any (·.1) = false := by rfl) (hn : x ≠ "__name__" := by decide) (hd : (x == ("__debug__" : Str)) = false := by decide) (hn' : y ≠ "__name__" := by decide) (hd' : (y == ("__debug__" : Str)) = false := by decide) :
    XE X EE (.Call (.Name "isinstance" p) [a, .Tuple [.Name x q, .Name y q2] k q3] [] pos) (tCB (rIsiT X.K) (tCons ta (tCons (tTup (tCons (tC (.ty c)) (tCons (tC (.ty c')) tNil))) tNil))) (e1 (dIsi [c, c']) ma) :=
  ⟨pe_callB call_isiT hg hm (by decide +kernel) (pa_cons ha.1 (pa_cons (pe_tup (pa_cons (pe_bltn hg2 hm2 hb rfl hn hd) (pa_cons (pe_bltn hg3 hm3 hb' rfl hn' hd') pa_nil he4) he3)) pa_nil he2) he) (by decide) (by decide) he hp, s_isi2 hc hc' ha.2⟩
/-! methods -/
theorem x_indexT {q : Pos} (ho : XE X EE a ta ma) (hi : XB X EE b tb mb)
    (h1 : attributeBase a "index" X.env (eval a X.env) = eval a X.env := by rfl)
    (h2 : ((backTo pos (starEach [b] X.env)).all (fun x => !x.1) && (backToKw pos (keywordEach [] X.env)).all (fun x => x.1.isSome) && decide ([b].length + ([] : List Keyword).length + (if ([] : List Keyword).isEmpty then 0 else 1) < 30)) = true := by rfl)
    (h3 : (q.endLine == pos.line) = true := by rfl) (hs : starEach [b] X.env = (false, eval b X.env) :: starEach [] X.env := by rfl) (hp : (backTo pos (starEach [] X.env)).any (·.1) = false := by rfl) :
    XE X EE (.Call (.Attribute a "index" q) [b] [] pos) (tBMT X.K (rIndexT X.K) ta (tCons tb tNil)) (eIndexT ma mb) := ⟨pe_bmT PySem.F.slot_tuple_index PySem.F.type_tuple_index mt_indexT ho.1 (pa_cons hi.1 pa_nil hs) h1 h2 h3 hs hp, s_indexT ho.2 hi.2⟩
theorem x_indexL {q : Pos} (ho : XB X EE a ta ma) (hi : XB X EE b tb mb)
    (h1 : attributeBase a "index" X.env (eval a X.env) = eval a X.env := by rfl)
    (h2 : ((backTo pos (starEach [b] X.env)).all (fun x => !x.1) && (backToKw pos (keywordEach [] X.env)).all (fun x => x.1.isSome) && decide ([b].length + ([] : List Keyword).length + (if ([] : List Keyword).isEmpty then 0 else 1) < 30)) = true := by rfl)
    (h3 : (q.endLine == pos.line) = true := by rfl) (hs : starEach [b] X.env = (false, eval b X.env) :: starEach [] X.env := by rfl) (hp : (backTo pos (starEach [] X.env)).any (·.1) = false := by rfl) :
    XE X EE (.Call (.Attribute a "index" q) [b] [] pos) (tBM X.K "list" (rIndex X.K) ta (tCons tb tNil)) (eIndexL ma mb) := ⟨pe_bm PySem.F.plainAttrs_list PySem.F.slot_list_index PySem.F.type_list_index mt_index ho.1 (pa_cons hi.1 pa_nil hs) h1 h2 h3 hs hp, s_indexL ho.2 hi.2⟩
theorem x_popAt {q : Pos} (ho : XE X EE a ta ma) (hi : XB X EE b tb mb)
    (h1 : attributeBase a "pop" X.env (eval a X.env) = eval a X.env := by rfl)
    (h2 : ((backTo pos (starEach [b] X.env)).all (fun x => !x.1) && (backToKw pos (keywordEach [] X.env)).all (fun x => x.1.isSome) && decide ([b].length + ([] : List Keyword).length + (if ([] : List Keyword).isEmpty then 0 else 1) < 30)) = true := by rfl)
    (h3 : (q.endLine == pos.line) = true := by rfl) (hs : starEach [b] X.env = (false, eval b X.env) :: starEach [] X.env := by rfl) (hp : (backTo pos (starEach [] X.env)).any (·.1) = false := by rfl) :
    XE X EE (.Call (.Attribute a "pop" q) [b] [] pos) (tBM X.K "list" rPopAt ta (tCons tb tNil)) (ePopAt ma mb) := ⟨pe_bm PySem.F.plainAttrs_list PySem.F.slot_list_pop PySem.F.type_list_pop mt_popAt ho.1 (pa_cons hi.1 pa_nil hs) h1 h2 h3 hs hp, s_popAt ho.2 hi.2⟩
theorem x_pop {q : Pos} (ho : XE X EE a ta ma) (h1 : attributeBase a "pop" X.env (eval a X.env) = eval a X.env := by rfl) (h3 : (q.endLine == pos.line) = true := by rfl) :
    XE X EE (.Call (.Attribute a "pop" q) [] [] pos) (tBM0 X.K "list" rPop ta) (ePop ma) := ⟨pe_bm0 PySem.F.plainAttrs_list PySem.F.slot_list_pop PySem.F.type_list_pop mt_pop ho.1 h1 h3, s_pop ho.2⟩
/-! calls of defs -/
theorem bad_ar {k : Nat} {m : FM} (h : ∀ ds S, ds.length ≠ k → m ds S = .bad) {K : PySem.W.Frag} {G : Hp} {n : List Addr} {S : Store} {H : Hp} {Q : VK} {ds : List BR.D} (w : WpE K EE (m ds S) G n S H Q) : ds.length = k := by
  by_cases e : ds.length = k
  · exact e
  · rw [h ds S e] at w; exact w.elim
theorem run_fnG {k : Nat} {f : Addr} {fd : FuncData} {ps : List Str} {sp : Sp} {ds : List Value} {dvs : List V} {pins : List (Addr × Obj)} {σ : L2.St} {H : Hp} {s : Shared} {Q : VK} {us : List Value} {vs : List V} (F : FnG X.prog X.w X.K X.mg X.base CX k f fd ps sp) (hr : Rm k X.A) (hb : Binds X.K fd ps ds) (hd : Vals dvs ds) (hx : Passes CX X E)
    (I : Inv X pins σ H s) (r : Vals vs us) (h : sp (vs ++ dvs) H Q E) : wpAny (model X.prog X.w) X.A (call (.ref f) us) (EP X pins σ Q) X.xe s := by
  have rr : Vals (vs ++ dvs) (us ++ ds) := r.append hd
  have len : (us ++ ds).length = ps.length := by rw [← rr.length]; exact F.len _ _ _ _ h
  refine wpAny_call (codeAny_mono (F.run X.A X.stack s H ⟨us, []⟩ _ _ Q E hr I.env0 (hb s us I.kIn len) rr h) fun r s' z => ?_)
  match r, z with
  | .error e, z => exact hx pins σ H s e s' I z
  | .ok (.ret u), z => exact I.after z
theorem x_call {x : Str} {k j ar : Nat} {m : FM} {e0 : Expr} (D : DefOk X.prog X.w X.K X.mg X.base CX0 x k (sp0 X.K ar m)) (har : ∀ ds S, ds.length ≠ ar → m ds S = .bad) (hr : Rm j X.A) (hjk : k ≤ j) (ha : XA X E0 (e0 :: es) tas ms) (hg : Gl X x := by rfl) (hdb : (x == ("__debug__" : Str)) = false := by decide)
    (he : starEach (e0 :: es) X.env = (false, eval e0 X.env) :: starEach es X.env := by rfl) (hpl : (backTo pos (starEach es X.env)).any (·.1) = false := by rfl) :
    XE X E0 (.Call (.Name x p) (e0 :: es) [] pos) (tCall (sp0 X.K ar m) [] E0 tas) (eA m ms) := by
  obtain ⟨f, fd, ps, F, hm, hk, hb⟩ := D.ex
  refine ⟨⟨fun pins s σ H Q I h => wpAny_Call_Name_kw (ld_glob I hg hm ?_ hdb)⟩, SE.call ha.2 fun G n S H vs ds Q s rl w => sp_call (bad_ar har w) s rl w⟩
  refine PySem.W.callWith_K (h₀ := X.base) I.ok.mod.kin hk (thn (ha.1.run pos pins s σ H _ I h) fun us s1 z => ?_) he hpl
  obtain ⟨vs, H1, I1, r, q⟩ := z
  exact ⟨I1.kIn, run_fnG F (hr.mono hjk) hb .nil pass0 I1 r q⟩
theorem x_call0 {x : Str} {k j : Nat} {m : FM} (D : DefOk X.prog X.w X.K X.mg X.base CX0 x k (sp0 X.K 0 m)) (har : ∀ ds S, ds.length ≠ 0 → m ds S = .bad) (hr : Rm j X.A) (hjk : k ≤ j) (hg : Gl X x := by rfl) (hdb : (x == ("__debug__" : Str)) = false := by decide) :
    XE X E0 (.Call (.Name x p) [] [] pos) (tCall (sp0 X.K 0 m) [] E0 tNil) (eA m aN) := by
  obtain ⟨f, fd, ps, F, hm, hk, hb⟩ := D.ex
  refine ⟨⟨fun pins s σ H Q I h => wpAny_Call_Name_kw (ld_glob I hg hm ?_ hdb)⟩, SE.call SA.nil fun G n S H vs ds Q s rl w => sp_call (bad_ar har w) s rl w⟩
  exact PySem.W.callWith_K0 I.kIn hk (run_fnG (us := []) F (hr.mono hjk) hb .nil pass0 I .nil h)
/-! targets, walks, comprehensions -/
theorem g_n (i : Nat) {x : Str} (hN : X.N.Nodup) (hi : X.N[i]? = some x := by rfl) (hx : Loc X.env.scope x := by first | exact Or.inl rfl | exact Or.inr rfl) (hf : X.fn x = true ∨ X.env.scope.names.lookup x = some .local := by first | exact .inl rfl | exact .inr rfl) : XG X (.Name x pos) (gName i) (gN i) [i] := ⟨pg_name hN hi hx hf, SG.name i⟩
theorem gs_nil : XGs X [] gNil [] [] := ⟨pgs_nil, SGs.nil⟩
theorem gs_cons {g : TG} {gs : TGs} {gm : GM} {gms : List GM} {is js : List Nat} (h : XG X e g gm is) (hs : XGs X es gs gms js) (ha : (assignEach (e :: es) X.env).map (·.2) = assign e X.env :: (assignEach es X.env).map (·.2) := by rfl) : XGs X (e :: es) (gCons g gs) (gm :: gms) (is ++ js) := ⟨pgs_cons h.1 hs.1 ha, SGs.cons h.2 hs.2⟩
theorem g_t {k n : Nat} {gs : TGs} {gms : List GM} {is : List Nat} (hc : X.calm = true) (h : XGs X es gs gms is) (hl : gms.length = n := by rfl) (hn : (assignEach es X.env).length = n := by rfl) (hst : (assignEach es X.env).findIdx? (·.1) = none := by rfl) : XG X (.Tuple es k pos) (gTup X.K n gs) (gT gms) is := ⟨pg_tup hc h.1 hn hst, SG.tup h.2 hl⟩
variable {tg : Expr} {g : TG} {gm : GM} {is : List Nat} {wi : TI} {im : IM} {st : Bool}
theorem i_range1 (hm : Free X "range") (ha : XB X EE a ta ma) (hg : Gl X "range" := by rfl) (hs : starEach [a] X.env = [(false, eval a X.env)] := by rfl) : XI X EE true tg (.Call (.Name "range" p) [a] [] pos) (iRng1 (tCons ta tNil)) (iRange1 ma) := ⟨pi_range1 hg hm (pa_cons ha.1 pa_nil hs) hs, SI.range1 ha.2⟩
theorem i_range2 (hm : Free X "range") (ha : XB X EE a ta ma) (hb : XB X EE b tb mb) (hg : Gl X "range" := by rfl) (hs : starEach [a, b] X.env = [(false, eval a X.env), (false, eval b X.env)] := by rfl) (hs2 : starEach [b] X.env = [(false, eval b X.env)] := by rfl) : XI X EE true tg (.Call (.Name "range" p) [a, b] [] pos) (iRng2 (tCons ta (tCons tb tNil))) (iRange2 ma mb) :=
  ⟨pi_range2 hg hm (pa_cons ha.1 (pa_cons hb.1 pa_nil hs2) (hs.trans (by rw [hs2]))) hs hs2, SI.range2 ha.2 hb.2⟩
theorem i_seq (ha : XE X EE a ta ma) : XI X EE true tg a (iSeqV X.K ta) (iSeq ma) := ⟨pi_seqV ha.1, SI.seq ha.2⟩
theorem i_seqB (ha : XB X EE a ta ma) : XI X EE false tg a (iSeqV X.K ta) (iSeq ma) := ⟨pi_seqV ha.1, SI.seqB ha.2⟩
theorem ts_nil : XTs X EE [] L2.tYes tYes := ⟨pts_nil, ST.yes⟩
theorem ts_one (h : XT X EE c tt um) : XTs X EE [c] tt um := ⟨pts_one h.1, h.2⟩
/-! the strongest reading of a mirror -/
def tOfE (K : PySem.W.Frag) (EE : XK) (m : EM) : TE := fun σ H Q => ∃ G n S r, SR K G n S H ∧ ER K G n S H r σ ∧ WpE K EE (m r S) G n S H Q
def tOfT (K : PySem.W.Frag) (EE : XK) (m : TM) : TT := fun σ H Q => ∃ G n S r, SR K G n S H ∧ ER K G n S H r σ ∧ WpT K EE (m r S) G n S H Q
def tOfG (K : PySem.W.Frag) (m : GM) (is : List Nat) : TG := fun v σ H Q => ∃ G n S r d r', SR K G n S H ∧ ER K G n S H r σ ∧ Rel K G n d v ∧ m d r = some r' ∧ ∀ σ', ER K G n S H r' σ' → OwnSub r σ H r' σ' → (∀ vs, (∀ i ∈ is, i ∈ vs) → wipe σ' vs = wipe σ vs) → Q σ' H
theorem XE.canon {X : Cx} {EE : XK} {e : Expr} {m : EM} (h : ∃ t, XE X EE e t m) : PE X e (tOfE X.K EE m) := by
  obtain ⟨t, h⟩ := h
  exact ⟨fun pins s σ H Q I ⟨G, n, S, r, a, b, c⟩ => h.1.run pins s σ H Q I (h.2 G n S H r σ Q a b c)⟩
theorem XTs.canon {X : Cx} {EE : XK} {e : List Expr} {m : TM} (h : ∃ t, XTs X EE e t m) : PTs X e (tOfT X.K EE m) := by
  obtain ⟨t, h⟩ := h
  exact ⟨fun pins s σ H Q I ⟨G, n, S, r, a, b, c⟩ => h.1.run pins s σ H Q I (h.2 G n S H r σ Q a b c)⟩
theorem XG.canon {X : Cx} {e : Expr} {m : GM} {is : List Nat} (h : ∃ t, XG X e t m is) : PG X e (tOfG X.K m is) := by
  obtain ⟨t, h⟩ := h
  exact ⟨fun pins s σ H v u Q I rv ⟨G, n, S, r, d, r', a, b, c, e, f⟩ => h.1.run pins s σ H v u Q I rv (h.2 G n S H r σ d v r' Q a b c e f)⟩
theorem SE.canon {K : PySem.W.Frag} {EE : XK} {m : EM} : SE K EE (tOfE K EE m) m := fun G n S H r σ Q a b c => ⟨G, n, S, r, a, b, c⟩
theorem ST.canon {K : PySem.W.Frag} {EE : XK} {m : TM} : ST K EE (tOfT K EE m) m := fun G n S H r σ Q a b c => ⟨G, n, S, r, a, b, c⟩
theorem SG.canon {K : PySem.W.Frag} {m : GM} {is : List Nat} : SG K (tOfG K m is) m is := fun G n S H r σ d v r' Q a b c e f => ⟨G, n, S, r, d, r', a, b, c, e, f⟩
abbrev BlkX (X : Cx) (s : Shared) (H : Hp) (scope : Scope) (C : Addr) (cl : List (Str × Addr)) (fp : List Addr) : Cx := X.blk s H scope (compEnvC scope cl C X.env) fp
theorem l_lc {elt : Expr} {ifs : List Expr} {scope : Scope} {own : List (Str × Nat)} (hc : X.calm = true) (hN : X.N.Nodup) (hi : XI X E0 st tg b wi im) (ok : blkC X.N X.env.scope scope own = true)
    (hg : ∀ s H C cl fp, ∃ g, XG (BlkX X s H scope C cl fp) tg g gm is) (ht : ∀ s H C cl fp, ∃ t, XTs (BlkX X s H scope C cl fp) E0 ifs t um) (he : ∀ s H C cl fp, ∃ t, XE (BlkX X s H scope C cl fp) E0 elt t m) (hv : (is.all fun i => decide (i ∈ own.map (·.2))) = true := by rfl)
    (hs : ∀ x, foldedSetIterable b X.env x = pure x := by intro _; rfl) : XL X E0 (.ListComp elt [⟨tg, b, ifs, 0⟩] scope pos) (tLc wi (tOfG X.K gm is) (tOfT X.K E0 um) (tOfE X.K E0 m) (own.map (·.2))) (lLc im gm um m (own.map (·.2))) :=
  ⟨pe_lc hc hN hi.1 (blkOk_by ok) (fun s H C cl fp => XG.canon (hg s H C cl fp)) (fun s H C cl fp => XTs.canon (ht s H C cl fp)) (fun s H C cl fp => XE.canon (he s H C cl fp)) hs, SL.lc hi.2 SG.canon ST.canon SE.canon fun i hi => of_decide_eq_true (List.all_eq_true.mp hv i hi)⟩
/-! statements -/
variable {s1 : Stmt} {rest : List Stmt} {ts tr : TS} {m1 m2 : SM}
theorem s_nil : XSs X EE [] tNext mNil := ⟨pss_nil, SS.nil⟩
theorem s_cons (h : XS X EE s1 ts m1) (hr : XSs X EE rest tr m2) : XSs X EE (s1 :: rest) (tSeq ts tr) (mSeq m1 m2) := ⟨pss_cons h.1 hr.1, h.2.seq hr.2⟩
theorem s_one (h : XS X EE s1 ts m1) : XSs X EE [s1] ts m1 := ⟨pss_one h.1, h.2⟩
theorem s_frz (i : Nat) (h : XSs X EE rest tr m2) : XSs X EE rest tr (mFrz i m2) := ⟨h.1, SS.frz h.2⟩
theorem s_never : XSs X EE rest tNever mBad := ⟨pss_never, SS.bad⟩
theorem s_set (i : Nat) {x : Str} {p2 : Pos} (hN : X.N.Nodup) (he : XE X EE e t m) (hi : X.N[i]? = some x := by rfl) (hx : Loc X.env.scope x := by first | exact Or.inl rfl | exact Or.inr rfl) (hs : swapsWith e (some (.Name x p2)) pos.line X.env = pure false := by rfl) (hf : X.fn x = true ∨ X.env.scope.names.lookup x = some .local := by first | exact .inl rfl | exact .inr rfl) :
    XS X EE (.Assign [.Name x p2] e pos) (tAsg t (gName i)) (mSet (gN i) m) := ⟨ps_set hN hi hx he.1 hs hf, SS.set he.2 (SG.name i)⟩
theorem s_own (i : Nat) {x : Str} {p2 : Pos} (hN : X.N.Nodup) (he : XL X EE e t ms) (hi : X.N[i]? = some x := by rfl) (hx : Loc X.env.scope x := by first | exact Or.inl rfl | exact Or.inr rfl) (hs : swapsWith e (some (.Name x p2)) pos.line X.env = pure false := by rfl) (hf : X.fn x = true ∨ X.env.scope.names.lookup x = some .local := by first | exact .inl rfl | exact .inr rfl) :
    XS X EE (.Assign [.Name x p2] e pos) (tAsg t (gName i)) (mOwn i ms) := ⟨ps_set hN hi hx he.1 hs hf, SS.own he.2⟩
theorem s_asg (he : XE X EE e t m) (hg : XG X tg g gm is) (hs : swapsWithSole [tg] e pos.line X.env = pure false := by rfl) (hw : swappedStores [tg] e X.env = pure none := by rfl) (h1 : (assignEach [tg] X.env).map (·.2) = [assign tg X.env] := by rfl) : XS X EE (.Assign [tg] e pos) (tAsg t g) (mSet gm m) := ⟨ps_asg he.1 hg.1 hs hw h1, SS.set he.2 hg.2⟩
def mPar (i j : Nat) (l : LM) : SM := fun r S => (l r S).bind fun xs S1 => match xs with
  | [x, y] => .ok (.nx ((r.set i (.val x)).set j (.val y))) S1
  | _ => .bad
theorem SS.par {K : PySem.W.Frag} {i j : Nat} (h : SA K EE tas ms) : SS K EE (tPar i j tas) (mPar i j ms) := fun G n S H r σ D s e w => by
  refine h G n S H r σ _ s e ?_
  unfold mPar at w
  cases q : ms r S with
  | ok ds S1 =>
    rw [q] at w
    intro vs G1 n1 H1 p rl
    simp only [bind_ok] at w
    match ds, rl, w with
    | [], _, w => exact w.elim
    | [_], _, w => exact w.elim
    | _ :: _ :: _ :: _, _, w => exact w.elim
    | [x, y], rl, w =>
      simp only [RelL] at rl
      obtain ⟨v, r1, rfl, h1, u, r2, rfl, h2, rfl⟩ := rl
      refine ⟨v, u, rfl, w G1 n1 H1 _ p.own (((e.post p).setVal i h1).setVal j h2) ?_⟩
      exact (OwnSub.setVal (H := H) i).trans (OwnSub.setVal j) fun _ z => z
  | exc x S' => rw [q] at w; exact fun c dd G' n' H' p => w c dd G' n' H' p.own
  | bad => rw [q] at w; exact w.elim
theorem s_par (i j : Nat) {x y : Str} {px py pt : Pos} {kt k2 : Nat} {pt2 : Pos} (hc : X.calm = true) (hN : X.N.Nodup) (ha : XA X EE [a, b] tas ms) (hij : i ≠ j := by decide) (hi : X.N[i]? = some x := by rfl) (hj : X.N[j]? = some y := by rfl) (hx : X.env.scope.names.lookup x = some .local := by rfl) (hy : X.env.scope.names.lookup y = some .local := by rfl)
    (hw : swappedStores [.Tuple [.Name x px, .Name y py] kt pt] (.Tuple [a, b] k2 pt2) X.env = pure (some [x, y]) := by rfl) (hs : swapsWithSole [.Tuple [.Name x px, .Name y py] kt pt] (.Tuple [a, b] k2 pt2) pos.line X.env = pure false := by rfl) :
    XS X EE (.Assign [.Tuple [.Name x px, .Name y py] kt pt] (.Tuple [a, b] k2 pt2) pos) (tPar i j tas) (mPar i j ms) := ⟨ps_par hc hN hi hj hij hx hy ha.1 hw hs, SS.par ha.2⟩
/-- name = [.. for ..] on one row -/
theorem s_lcF (i : Nat) {y : Str} {py spos : Pos} {elt : Expr} {ifs : List Expr} {scope : Scope} {own : List (Str × Nat)} (hc : X.calm = true) (hN : X.N.Nodup) (hi : XI X E0 st tg b wi im) (ok : blkC X.N X.env.scope scope own = true)
    (hg : ∀ s H C cl fp, ∃ g, XG (BlkX X s H scope C cl fp) tg g gm is) (ht : ∀ s H C cl fp, ∃ t, XTs (BlkX X s H scope C cl fp) E0 ifs t um) (he : ∀ s H C cl fp, ∃ t, XE (BlkX X s H scope C cl fp) E0 elt t m) (hv : (is.all fun i => decide (i ∈ own.map (·.2))) = true := by rfl) (hy : X.N[i]? = some y := by rfl) (hyl : X.env.scope.names.lookup y = some .local := by rfl)
    (hsw : swapsWith (.ListComp elt [⟨tg, b, ifs, 0⟩] scope pos) (some (.Name y py)) spos.line X.env = pure true := by exact sw_true rfl rfl rfl (by decide +kernel)) (hs : ∀ x, foldedSetIterable b X.env x = pure x := by intro _; rfl) :
    XS X E0 (.Assign [.Name y py] (.ListComp elt [⟨tg, b, ifs, 0⟩] scope pos) spos) (tAsg (tLc wi (tOfG X.K gm is) (tOfT X.K E0 um) (tOfE X.K E0 m) (own.map (·.2))) (gName i)) (mSet (gN i) (eFrz (lLc im gm um m (own.map (·.2))))) :=
  ⟨ps_setLc hc hN hy hyl hsw hi.1 (blkOk_by ok) (fun s H C cl fp => XG.canon (hg s H C cl fp)) (fun s H C cl fp => XTs.canon (ht s H C cl fp)) (fun s H C cl fp => XE.canon (he s H C cl fp)) hs,
    SS.set (SL.frz (SL.lc hi.2 SG.canon ST.canon SE.canon fun i hi => of_decide_eq_true (List.all_eq_true.mp hv i hi))) (SG.name i)⟩
theorem s_lcN (i : Nat) {y : Str} {py spos : Pos} {elt : Expr} {ifs : List Expr} {scope : Scope} {own : List (Str × Nat)} (hc : X.calm = true) (hN : X.N.Nodup) (hi : XI X E0 st tg b wi im) (ok : blkC X.N X.env.scope scope own = true)
    (hg : ∀ s H C cl fp, ∃ g, XG (BlkX X s H scope C cl fp) tg g gm is) (ht : ∀ s H C cl fp, ∃ t, XTs (BlkX X s H scope C cl fp) E0 ifs t um) (he : ∀ s H C cl fp, ∃ t, XE (BlkX X s H scope C cl fp) E0 elt t m) (hv : (is.all fun i => decide (i ∈ own.map (·.2))) = true := by rfl) (hy : X.N[i]? = some y := by rfl) (hyl : X.env.scope.names.lookup y = some .local := by rfl)
    (hsw : swapsWith (.ListComp elt [⟨tg, b, ifs, 0⟩] scope pos) (some (.Name y py)) spos.line X.env = pure true := by exact sw_true rfl rfl rfl (by decide +kernel)) (hs : ∀ x, foldedSetIterable b X.env x = pure x := by intro _; rfl) :
    XS X E0 (.Assign [.Name y py] (.ListComp elt [⟨tg, b, ifs, 0⟩] scope pos) spos) (tAsg (tLc wi (tOfG X.K gm is) (tOfT X.K E0 um) (tOfE X.K E0 m) (own.map (·.2))) (gName i)) (mSet (gN i) (eNew (lLc im gm um m (own.map (·.2))))) :=
  ⟨ps_setLc hc hN hy hyl hsw hi.1 (blkOk_by ok) (fun s H C cl fp => XG.canon (hg s H C cl fp)) (fun s H C cl fp => XTs.canon (ht s H C cl fp)) (fun s H C cl fp => XE.canon (he s H C cl fp)) hs,
    SS.set (SL.new (SL.lc hi.2 SG.canon ST.canon SE.canon fun i hi => of_decide_eq_true (List.all_eq_true.mp hv i hi))) (SG.name i)⟩
theorem s_lcO (i : Nat) {y : Str} {py spos : Pos} {elt : Expr} {ifs : List Expr} {scope : Scope} {own : List (Str × Nat)} (hc : X.calm = true) (hN : X.N.Nodup) (hi : XI X E0 st tg b wi im) (ok : blkC X.N X.env.scope scope own = true)
    (hg : ∀ s H C cl fp, ∃ g, XG (BlkX X s H scope C cl fp) tg g gm is) (ht : ∀ s H C cl fp, ∃ t, XTs (BlkX X s H scope C cl fp) E0 ifs t um) (he : ∀ s H C cl fp, ∃ t, XE (BlkX X s H scope C cl fp) E0 elt t m) (hv : (is.all fun i => decide (i ∈ own.map (·.2))) = true := by rfl) (hy : X.N[i]? = some y := by rfl) (hyl : X.env.scope.names.lookup y = some .local := by rfl)
    (hsw : swapsWith (.ListComp elt [⟨tg, b, ifs, 0⟩] scope pos) (some (.Name y py)) spos.line X.env = pure true := by exact sw_true rfl rfl rfl (by decide +kernel)) (hs : ∀ x, foldedSetIterable b X.env x = pure x := by intro _; rfl) :
    XS X E0 (.Assign [.Name y py] (.ListComp elt [⟨tg, b, ifs, 0⟩] scope pos) spos) (tAsg (tLc wi (tOfG X.K gm is) (tOfT X.K E0 um) (tOfE X.K E0 m) (own.map (·.2))) (gName i)) (mOwn i (lLc im gm um m (own.map (·.2)))) :=
  ⟨ps_setLc hc hN hy hyl hsw hi.1 (blkOk_by ok) (fun s H C cl fp => XG.canon (hg s H C cl fp)) (fun s H C cl fp => XTs.canon (ht s H C cl fp)) (fun s H C cl fp => XE.canon (he s H C cl fp)) hs,
    SS.own (SL.lc hi.2 SG.canon ST.canon SE.canon fun i hi => of_decide_eq_true (List.all_eq_true.mp hv i hi))⟩
theorem s_if {x y : List Stmt} {tx ty : TS} {mx my : SM} (hc : XT X EE c tt um) (hx : XSs X EE x tx mx) (hy : XSs X EE y ty my) : XS X EE (.If c x y pos) (tIfS tt tx ty) (mIf um mx my) := ⟨ps_if hc.1 hx.1 hy.1, SS.ite hc.2 hx.2 hy.2⟩
theorem s_ret (he : XE X EE e t m) : XS X EE (.Return (some e) pos) (tRet t) (mRet m) := ⟨ps_ret he.1, SS.ret he.2⟩
theorem s_retN : XS X EE (.Return none pos) tRetN mRetN := ⟨ps_retN, SS.retN⟩
theorem s_brk : XS X EE (.Break pos) tBreak mBreak := ⟨ps_break, SS.brk⟩
theorem s_cont : XS X EE (.Continue pos) tCont mCont := ⟨ps_continue, SS.cont⟩
theorem s_bad : XS X EE s1 tNever mBad := ⟨ps_never, SS.bad⟩
theorem s_expr (he : XB X EE e t m) (hs : swapsWith e none pos.line X.env = pure false := by rfl) : XS X EE (.Expr e pos) (tDrop t) (mDrop m) := ⟨ps_expr he.1 hs, SS.drop he.2⟩
theorem s_for {body : List Stmt} {tb : TS} {mb : SM} (hp : PassesOwn (model X.prog X.w) X.A X.env X.xe) (hc : X.calm = true) (hi : XI X EE true tg b wi im) (hg : XG X tg g gm is) (hb : XSs X EE body tb mb) (hs : ∀ x, foldedSetIterable b X.env x = pure x := by intro _; rfl) : XS X EE (.For tg b body [] pos) (tFor wi g tb) (mFor im gm mb) :=
  ⟨ps_for hp hc hi.1 hg.1 hb.1 hs, SS.for hi.2 hg.2 hb.2⟩
theorem s_while {body : List Stmt} {tb : TS} {mb : SM} (hp : PassesOwn (model X.prog X.w) X.A X.env X.xe) (hc : XT X EE c tt um) (hb : XSs X EE body tb mb) : XS X EE (.While c body [] pos) (tWhile tt tb) (mWhile um mb) := ⟨ps_while hp hc.1 hb.1, SS.while hc.2 hb.2⟩
theorem s_appV (i : Nat) {x : Str} {q q2 : Pos} (he : XE X EE e t m) (hN : X.N[i]? = some x := by rfl) (hv : Vis X.env.scope x := by first | exact Or.inl rfl | exact Or.inr (Or.inl rfl) | exact Or.inr (Or.inr rfl)) (hd : (x == ("__debug__" : Str)) = false := by decide) (hcd : (x == ("__classdict__" : Str)) = false := by decide)
    (h1 : attributeBase (.Name x q2) "append" X.env (eval (.Name x q2) X.env) = eval (.Name x q2) X.env := by rfl)
    (h2 : ((backTo p (starEach [e] X.env)).all (fun x => !x.1) && (backToKw p (keywordEach [] X.env)).all (fun x => x.1.isSome) && decide ([e].length + ([] : List Keyword).length + (if ([] : List Keyword).isEmpty then 0 else 1) < 30)) = true := by rfl)
    (h3 : (q.endLine == p.line) = true := by rfl) (hs : starEach [e] X.env = (false, eval e X.env) :: starEach [] X.env := by rfl) (hp : (backTo p (starEach [] X.env)).any (·.1) = false := by rfl) (hw : swapsWith (.Call (.Attribute (.Name x q2) "append" q) [e] [] p) none pos.line X.env = pure false := by rfl) :
    XS X EE (.Expr (.Call (.Attribute (.Name x q2) "append" q) [e] [] p) pos) (tDrop (tBM X.K "list" rAppend (tVar i) (tCons t tNil))) (mApp i m) :=
  ⟨ps_expr (pe_bm PySem.F.plainAttrs_list PySem.F.slot_list_append PySem.F.type_list_append mt_append (pe_var hN hv hd hcd) (pa_cons he.1 pa_nil hs) h1 h2 h3 hs hp) hw, s_app he.2⟩
theorem s_appX {o : Expr} {to : TE} {mo : EM} {q : Pos} (ho : XE X EE o to mo) (he : XE X EE e t m)
    (h1 : attributeBase o "append" X.env (eval o X.env) = eval o X.env := by rfl)
    (h2 : ((backTo p (starEach [e] X.env)).all (fun x => !x.1) && (backToKw p (keywordEach [] X.env)).all (fun x => x.1.isSome) && decide ([e].length + ([] : List Keyword).length + (if ([] : List Keyword).isEmpty then 0 else 1) < 30)) = true := by rfl)
    (h3 : (q.endLine == p.line) = true := by rfl) (hs : starEach [e] X.env = (false, eval e X.env) :: starEach [] X.env := by rfl) (hp : (backTo p (starEach [] X.env)).any (·.1) = false := by rfl) (hw : swapsWith (.Call (.Attribute o "append" q) [e] [] p) none pos.line X.env = pure false := by rfl) :
    XS X EE (.Expr (.Call (.Attribute o "append" q) [e] [] p) pos) (tDrop (tBM X.K "list" rAppend to (tCons t tNil))) (mAppE mo m) :=
  ⟨ps_expr (pe_bm PySem.F.plainAttrs_list PySem.F.slot_list_append PySem.F.type_list_append mt_append ho.1 (pa_cons he.1 pa_nil hs) h1 h2 h3 hs hp) hw, s_appE ho.2 he.2⟩
theorem s_extV (i : Nat) {x : Str} {q q2 : Pos} (he : XB X EE e t m) (hN : X.N[i]? = some x := by rfl) (hv : Vis X.env.scope x := by first | exact Or.inl rfl | exact Or.inr (Or.inl rfl) | exact Or.inr (Or.inr rfl)) (hd : (x == ("__debug__" : Str)) = false := by decide) (hcd : (x == ("__classdict__" : Str)) = false := by decide)
    (h1 : attributeBase (.Name x q2) "extend" X.env (eval (.Name x q2) X.env) = eval (.Name x q2) X.env := by rfl)
    (h2 : ((backTo p (starEach [e] X.env)).all (fun x => !x.1) && (backToKw p (keywordEach [] X.env)).all (fun x => x.1.isSome) && decide ([e].length + ([] : List Keyword).length + (if ([] : List Keyword).isEmpty then 0 else 1) < 30)) = true := by rfl)
    (h3 : (q.endLine == p.line) = true := by rfl) (hs : starEach [e] X.env = (false, eval e X.env) :: starEach [] X.env := by rfl) (hp : (backTo p (starEach [] X.env)).any (·.1) = false := by rfl) (hw : swapsWith (.Call (.Attribute (.Name x q2) "extend" q) [e] [] p) none pos.line X.env = pure false := by rfl) :
    XS X EE (.Expr (.Call (.Attribute (.Name x q2) "extend" q) [e] [] p) pos) (tDrop (tBM X.K "list" rExtend (tVar i) (tCons t tNil))) (mExt i m) :=
  ⟨ps_expr (pe_bm PySem.F.plainAttrs_list PySem.F.slot_list_extend PySem.F.type_list_extend mt_extend (pe_var hN hv hd hcd) (pa_cons he.1 pa_nil hs) h1 h2 h3 hs hp) hw, s_ext he.2⟩
/-- name2 = name.pop() of the name's own list -/
theorem s_popN (i j : Nat) {x y : Str} {q q2 p2 : Pos} (hN0 : X.N.Nodup) (hN : X.N[i]? = some x := by rfl) (hv : Vis X.env.scope x := by first | exact Or.inl rfl | exact Or.inr (Or.inl rfl) | exact Or.inr (Or.inr rfl)) (hd : (x == ("__debug__" : Str)) = false := by decide) (hcd : (x == ("__classdict__" : Str)) = false := by decide)
    (hj : X.N[j]? = some y := by rfl) (hx : Loc X.env.scope y := by first | exact Or.inl rfl | exact Or.inr rfl) (hf : X.fn y = true ∨ X.env.scope.names.lookup y = some .local := by first | exact .inl rfl | exact .inr rfl)
    (h1 : attributeBase (.Name x q2) "pop" X.env (eval (.Name x q2) X.env) = eval (.Name x q2) X.env := by rfl) (h3 : (q.endLine == p.line) = true := by rfl) (hs : swapsWith (.Call (.Attribute (.Name x q2) "pop" q) [] [] p) (some (.Name y p2)) pos.line X.env = pure false := by rfl) :
    XS X EE (.Assign [.Name y p2] (.Call (.Attribute (.Name x q2) "pop" q) [] [] p) pos) (tAsg (tBM0 X.K "list" rPop (tVar i)) (gName j)) (mPop (gN j) i) :=
  ⟨ps_set hN0 hj hx (pe_bm0 PySem.F.plainAttrs_list PySem.F.slot_list_pop PySem.F.type_list_pop mt_pop (pe_var hN hv hd hcd) h1 h3) hs hf, s_popV (SG.name j)⟩
theorem s_setVx (x : Nat) {n : Str} {q q2 : Pos} (he : XE X EE e t m) (hi : XB X EE b tb mb) (hN : X.N[x]? = some n := by rfl) (hv : Vis X.env.scope n := by first | exact Or.inl rfl | exact Or.inr (Or.inl rfl) | exact Or.inr (Or.inr rfl)) (hd : (n == ("__debug__" : Str)) = false := by decide) (hcd : (n == ("__classdict__" : Str)) = false := by decide)
    (ha : ∀ v, assign (.Subscript (.Name n q) b q2) X.env v = (do
      let ov ← holding [v] (eval (.Name n q) X.env)
      let iv ← holding [v, ov] (eval b X.env)
      standAt q2
      holding [v, ov, iv] (setItem ov iv v)
      release [v, ov, iv] []) := by intro _; rfl)
    (hs : swapsWithSole [.Subscript (.Name n q) b q2] e pos.line X.env = pure false := by rfl) (hw : swappedStores [.Subscript (.Name n q) b q2] e X.env = pure none := by rfl) (h1 : (assignEach [.Subscript (.Name n q) b q2] X.env).map (·.2) = [assign (.Subscript (.Name n q) b q2) X.env] := by rfl) :
    XS X EE (.Assign [.Subscript (.Name n q) b q2] e pos) (tAsg t (gSub (tVar x) tb rSetL)) (mSetV x mb m) := ⟨ps_asg he.1 (pg_sub (pe_var hN hv hd hcd) hi.1 set_list ha) hs hw h1, s_setV he.2 hi.2⟩
theorem s_setX {o : Expr} {to : TE} {mo : EM} {q2 : Pos} (he : XE X EE e t m) (ho : XE X EE o to mo) (hi : XB X EE b tb mb)
    (ha : ∀ v, assign (.Subscript o b q2) X.env v = (do
      let ov ← holding [v] (eval o X.env)
      let iv ← holding [v, ov] (eval b X.env)
      standAt q2
      holding [v, ov, iv] (setItem ov iv v)
      release [v, ov, iv] []) := by intro _; rfl)
    (hs : swapsWithSole [.Subscript o b q2] e pos.line X.env = pure false := by rfl) (hw : swappedStores [.Subscript o b q2] e X.env = pure none := by rfl) (h1 : (assignEach [.Subscript o b q2] X.env).map (·.2) = [assign (.Subscript o b q2) X.env] := by rfl) :
    XS X EE (.Assign [.Subscript o b q2] e pos) (tAsg t (gSub to tb rSetL)) (mSetE mo mb m) := ⟨ps_asg he.1 (pg_sub ho.1 hi.1 set_list ha) hs hw h1, s_setE he.2 ho.2 hi.2⟩
end

/-! ### a def -/
/-- the text of a def behind the top: its arguments, body and scope, no defaults -/
def runA (ar n : Nat) (m : SM) : FM := fun ds S => if ds.length = ar then runF n m ds S else .bad
theorem runA_bad {ar n : Nat} {m : SM} : ∀ ds S, ds.length ≠ ar → runA ar n m ds S = .bad := fun ds S h => if_neg h
section
variable {P : Program} {w : World} {K : PySem.W.Frag} {mg : Str → Option Value} {base : Heap}
theorem fn_ofG {CX : CXT} {k : Nat} {f : Addr} {name qual : Str} {params : Arguments} {body : List Stmt} {scope : Scope} {dV kV doc pm cdv ct oc : Value} {an od : Option Addr} {osl : Array (Option Value)} {N ps : List Str} {sp : Sp}
    (lk : K.lookup f = some ⟨oc, od, .func (PySem.W.fnOf name qual params body scope dV kV doc pm an cdv ct), osl⟩) (hcd : PySem.W.codeIn K cdv qual = true) (S : FnScope N ps scope) (len : ∀ vs H Q E, sp vs H Q E → vs.length = ps.length)
    (hbody : ∀ (A : Around) (outer : List PySem.Env) (s : Shared) (H : Hp) (vs : List V) (Q : VK) (E : XK), Rm k (A.deeper (envOfC qual scope s.heap.objs.size f cdv)) → sp vs H Q E →
      ∃ t, PSs (cxOf CX P w K mg base N qual scope f cdv A outer s H E) body t ∧ t { nx := fun _ H' => Q .non H', rt := Q } (L2.start N vs) H) :
    FnG P w K mg base CX (k + 1) f (PySem.W.fnOf name qual params body scope dV kV doc pm an cdv ct) ps sp := by
  refine ⟨len, ?_⟩
  intro A outer s H args us vs Q E hr e0 hb r hsp
  have hl := len _ _ _ _ hsp
  have KX : K.In s.heap := e0.mod.kin.keeps fun b o z => (e0.bs b o z).1
  have lim : s.heap.NoLimit := e0.mod.nolimit.keeps fun b o z => (e0.bs b o z).1
  refine codeAny_call_function hr.room.depth (KX _ _ lk) rfl S.co S.gen rfl (PySem.W.codeRec_of KX hcd) (hb _ _ _ _ ?_)
  refine wpAny_newFunctionEnv_cells S.kind (fun y hy => ?_) fun env he s1 x => ?_
  · rcases S.par y.1 (List.of_mem_zip (show (y.1, y.2) ∈ ps.zip us from hy)).1 with q | q
    · exact .inl q
    · exact .inr ⟨q, PySem.W.cellsFrom_some _ _ _ (.inl q)⟩
  · subst he
    refine ⟨lim.keeps x.toInCall.keep, codeAny_func ?_⟩
    obtain ⟨t, ht, hq⟩ := hbody A outer s H vs Q E (hr.deeper _) hsp
    have I := inv_start (CX := CX) (P := P) (w := w) (mg := mg) (base := base) (E := E) (cd := cdv) S hr.room.hd e0 hl r x
    refine wpAny_mono (ht.run [] s1 _ H _ I hq) (fun fl s' hs => ?_) fun e s' hs => hs
    match fl, hs with
    | .ret u, hs =>
      obtain ⟨v, σ', H', J, rv, q⟩ := hs
      exact ⟨v, H', J.os, J.bare, J.base, J.hok, rv, q⟩
    | .next, hs =>
      obtain ⟨σ', H', J, q⟩ := hs
      exact ⟨V.non, H', J.os, J.bare, J.base, J.hok, rfl, q⟩
    | .brk, hs =>
      obtain ⟨_, _, _, q⟩ := hs
      exact False.elim q
    | .cont, hs =>
      obtain ⟨_, _, _, q⟩ := hs
      exact False.elim q
theorem body_okA {N : List Str} {k ar : Nat} {ts : TS} {m : SM} {vs : List V} {Q : VK} {E : XK} {H : Hp} (h : SS K E ts m) (hk : k = N.length) (hs : spOf K ar (runA ar k m) vs H Q E) :
    ts { nx := fun _ H' => Q .non H', rt := Q } (L2.start N vs) H := by
  obtain ⟨h1, G, n, S, ds, s, rl, w⟩ := hs
  refine body_ok (ar := ar) h hk ⟨h1, G, n, S, ds, s, rl, ?_⟩
  unfold runA at w
  split at w
  · exact w
  · exact w.elim
/-- the context of a def's body in which nothing is raised -/
abbrev CtxN (P : Program) (w : World) (K : PySem.W.Frag) (mg : Str → Option Value) (base : Heap) (N : List Str) (qual : Str) (st : Stmt) (f : Addr) (cdv : Value) (A : Around) (outer : List PySem.Env) (s : Shared) (H : Hp) (E : XK) : Cx :=
  (cxOf CX0 P w K mg base N qual (defScope st) f cdv A outer s H E).nox
theorem def_ok {x : Str} {st : Stmt} {f : Addr} {fd : FuncData} {N ps : List Str} {k ar n : Nat} {sm : SM} (F : Fun K x x st f fd) (hmg : mg x = some (.ref f)) (S : FnScope N ps (defScope st)) (hb : Binds K fd ps []) (har : ar = ps.length) (hn : n = N.length)
    (h : ∀ (cdv : Value) (A : Around) (outer : List PySem.Env) (s : Shared) (H : Hp) (E : XK), Rm k (A.deeper (envOfC x (defScope st) s.heap.objs.size f cdv)) → ∃ t, XSs (CtxN P w K mg base N x st f cdv A outer s H E) E0 (defBody st) t sm) :
    DefOk P w K mg base CX0 x (k + 1) (sp0 K ar (runA ar n sm)) := by
  obtain ⟨oc, od, kV, doc, pm, an, cdv, ct, osl, rfl, lk, hcd⟩ := F.ex
  refine ⟨f, _, ps, fn_ofG lk hcd S (fun vs H Q E q => by rw [q.1, har]) (fun A outer s H vs Q E hr hsp => ?_), hmg, F.kp, hb⟩
  obtain ⟨t, ht⟩ := h cdv A outer s H E hr
  exact ⟨t, ht.1.nox, body_okA ht.2 hn hsp⟩
/-! ### a law's end -/
theorem law_callG {mb : Str → Option Value} {CX : CXT} {k : Nat} {fa a : Addr} {fd : FuncData} {x : Str} {sp : Sp} {s₁ : Shared} {vs : List Value} {ns : List Int}
    (KX : K.In s₁.heap) (hns : s₁.heap.Ns mainGlobals mg) (hb : s₁.heap.Ns builtinsNs mb) (hbb : ∀ x : Str, x ≠ "__name__" → mb x = bootBuiltins x) (hlim : s₁.heap.NoLimit) (hg : s₁.gens = #[])
    (ha : s₁.heap.get? a = some { cls := .type "list", data := .seq vs.toArray }) (hi : IntsAre vs ns) (hl : ns.length ≤ sizeLine) (hr : Rm k callerA)
    (F : ∀ base : Heap, K.In base → base.Ns mainGlobals mg → FnG P w K mg base CX k fa fd [x] sp) (hbind : ∀ (s : Shared) (u : Value), BindsTo s fd ⟨[u], []⟩ [(x, u)])
    (hsp : ∀ H : Hp, SqL K H a (ns.map V.int) → sp [.ref a] H (fun v _ => v = .bl true) fun _ _ _ => False) (hCX : ∀ H e s', CX [] H s₁ (fun _ _ _ => False) e s' → False) :
    codeAny (model P w) callerA (.call (.ref fa) ⟨[.ref a], []⟩) (fun r s' => r = .ok (.ret (.bool true)) ∧ OldK s₁.heap s'.heap ∧ s'.os = s₁.os ∧ AllBare s'.gens) s₁ := by
  have rv := vals_ints hi
  have core : ∀ H : Hp, SqL K H a (ns.map V.int) → HOk P w H s₁.heap → (∀ b o, H b = some o → b = a ∧ ∃ ob, o = .frz ob (.lst (ns.map V.int))) → (∀ o, H a = some o → K.lookup a = none) →
      codeAny (model P w) callerA (.call (.ref fa) ⟨[.ref a], []⟩) (fun r s' => r = .ok (.ret (.bool true)) ∧ OldK s₁.heap s'.heap ∧ s'.os = s₁.os ∧ AllBare s'.gens) s₁ := by
    intro H hS hok hA hK
    have free : ∀ b, b ≠ a → H b = none := fun b hb => by
      cases q : H b with
      | none => rfl
      | some o => exact absurd (hA b o q).1 hb
    have ns' : ∀ {b : Addr} {m : Str → Option Value}, s₁.heap.Ns b m → (hidT s₁.heap H).Ns b m := fun {b m} z => by
      obtain ⟨o, es, ep, e, d, r⟩ := z
      refine ⟨o, es, ep, hidT_get e (free b fun q => ?_), d, r⟩
      subst q
      rw [ha] at e
      cases e
      have d' : Data.seq vs.toArray _ = Data.dict es ep := d
      cases d'
    have kb : K.In (hidT s₁.heap H) := fun b o e => by
      refine hidT_get (KX b o e) ?_
      cases q : H b with
      | none => rfl
      | some u =>
        have eb := (hA b u q).1
        subst eb
        rw [hK u q] at e
        cases e
    have md : Mod K mg (hidT s₁.heap H) := by
      refine ⟨kb, ns' hns, ⟨mb, ns' hb, hbb⟩, ?_⟩
      obtain ⟨mc, h1, h2⟩ := hlim
      exact ⟨mc, ns' h1, h2⟩
    have e0 : Env0 P w K mg (hidT s₁.heap H) callerA [] s₁ H := ⟨rfl, md, fun b o e => of_hidT e, Nat.le_of_eq (hidT_size _ _), trivial, fun b z => absurd (show b ∈ ([] : List Addr) from z) (by simp), hok, .of_eq hg⟩
    refine codeAny_mono ((F _ kb (ns' hns)).run callerA [] s₁ H ⟨[.ref a], []⟩ [.ref a] [.ref a] _ _ hr e0 (hbind s₁ (.ref a)) (.cons rfl .nil) (hsp H hS)) fun r s' z => ?_
    match r, z with
    | .error e, z => exact (hCX H e s' z).elim
    | .ok (.ret u), z =>
      obtain ⟨v, H', os, bare, un, hok', r', q⟩ := z
      obtain rfl : v = .bl true := q
      obtain rfl : u = Value.bool true := r'
      refine ⟨rfl, OldK.of_keep fun b o e => ?_, os, bare⟩
      cases q : H b with
      | none => exact un.keep b o e q (fun z => absurd (show b ∈ ([] : List Addr) from z) (by simp)) (by simp)
      | some u =>
        obtain ⟨_, ob, rfl⟩ := hA b u q
        obtain ⟨e1, _⟩ := hok b _ q
        obtain ⟨e2, _⟩ := hok' b _ (un.frzs b ob _ q)
        rw [e] at e1
        cases e1
        exact e2
  cases hk : K.lookup a with
  | some o =>
    have e := KX a o hk
    rw [ha] at e
    cases e
    exact core (fun _ => none) (.inr ⟨_, vs.toArray, _, hk, rfl, rfl, rfl, by rw [List.size_toArray, hi.length]; exact hl, by simpa using rv⟩) (fun b u z => nomatch (show (none : Option HO) = some u from z)) (fun b u z => nomatch (show (none : Option HO) = some u from z)) fun o z => nomatch (show (none : Option HO) = some o from z)
  | none =>
    refine core (fun b => if b = a then some (.frz { cls := .type "list", data := .seq vs.toArray } (.lst (ns.map V.int))) else none) (.inl (.inr ⟨_, if_pos rfl⟩)) (fun b u z => ?_) (fun b u z => ?_) fun _ _ => hk
    · by_cases q : b = a
      · subst q
        have z' := (if_pos rfl).symm.trans z
        cases z'
        exact ⟨ha, by rw [List.length_map]; exact hl, vs, _, rv, ha⟩
      · exact nomatch (if_neg q).symm.trans z
    · by_cases q : b = a
      · subst q
        have z' := (if_pos rfl).symm.trans z
        cases z'
        exact ⟨rfl, _, rfl⟩
      · exact nomatch (if_neg q).symm.trans z
end
theorem scr_rel {K : PySem.W.Frag} {H : Hp} {a : Addr} {ns : List Int} {n : List Addr} (h : SqL K H a (ns.map V.int)) : Rel K H n (.scr (ns.map D.int)) (.ref a) := by
  simp only [Rel]
  refine ⟨a, _, rfl, h, ?_⟩
  induction ns with
  | nil => exact .nil
  | cons x r ih =>
    have all : ∀ r : List Int, RelL K H n (r.map D.int) (r.map V.int) := fun r => by
      induction r with
      | nil => exact .nil
      | cons x r ih => exact .cons rInt ih
    exact all (x :: r)
theorem sp_law {K : PySem.W.Frag} {m : FM} {H : Hp} {a : Addr} {ns : List Int} (h : SqL K H a (ns.map V.int)) (hm : ∃ S, m [.scr (ns.map D.int)] [] = .ok (.bl true) S) : sp0 K 1 m [.ref a] H (fun v _ => v = .bl true) fun _ _ _ => False := by
  obtain ⟨S, e⟩ := hm
  refine ⟨rfl, H, [], [], [.scr (ns.map D.int)], ⟨Sub.refl _, rfl, fun k a d e => by simp at e, fun j k a d e h => by simp at h⟩, .cons (scr_rel h) .nil, ?_⟩
  rw [e]
  exact fun v G' n' H' _ r => by simpa only [Rel] using r
/-- the goal that a head leaves, from the law's own def -/
theorem walk_ofG {l : PySem.W.OpenLaw} {k : Nat} {q : Program} {loose : List Str} {XP : (Str → Option Value) → Heap → Prop} {YP : World → Heap → Prop} {d : DefRec} {m : FM}
    (hn : l.most = some 63) (hdf : d.params.defaults = []) (hr : Rm k callerA) (hm : ∀ ns : List Int, ns.length ≤ 63 → ∃ S, m [.scr (ns.map D.int)] [] = .ok (.bl true) S)
    (F : ∀ (w : World) (mg : Str → Option Value) (fa : Addr) (h : Heap), YP w h → h.Ns mainGlobals mg → mg d.name = some (.ref fa) →
      ∃ (K : PySem.W.Frag) (fd : FuncData), K.In h ∧ (∀ (s : Shared) (u : Value), BindsTo s fd ⟨[u], []⟩ [("script", u)]) ∧ ∀ base : Heap, K.In base → base.Ns mainGlobals mg → FnG l.prog w K mg base CX0 k fa fd ["script"] (sp0 K 1 m)) :
    PySem.W.WalkO q loose XP YP l.row.toRowW d [] (fun f vs => PySem.call f vs) := by
  refine Att.attach_call hn hdf fun w s₀ s₁ mg mb fa o pm cd doc a vs ns G Y ho hd hcd hmg hobj hints hlen hg => ?_
  obtain ⟨K, fd, KX, hb, hF⟩ := F w mg fa _ Y G.T.g hmg
  exact law_callG KX G.T.g G.T.b G.T.builtins G.T.nolimit hg hobj hints (Nat.le_trans hlen (by rw [sizeLine_eq]; decide)) hr hF hb (fun H hS => sp_law hS (hm ns hlen)) fun H e s' z => z.elim
end BR

/-! Calls with keyword-only arguments; defs by their facts; a module's constants. -/
namespace BR
open PySem PySem.Spec PyProof.Rows L2
/-- f(e, .., k = v, ..): n positional values, k by keywords, in the parameters' order -/
def eA2 (n k : Nat) (f : FM) (a b : LM) : EM := fun r S => (a r S).bind fun xs S1 => (b r S1).bind fun ys S2 => if xs.length = n ∧ ys.length = k then f (xs ++ ys) S2 else .bad
section
variable {K : PySem.W.Frag} {EE : XK}
theorem SE.callN {t tk : TA} {l lk : LM} {sp : Sp} {f : FM} {nn k : Nat} (h : SA K EE t l) (h2 : SA K EE tk lk)
    (hs : ∀ G n S H vs ds Q, SR K G n S H → RelL K G n ds vs → WpE K EE (f ds S) G n S H Q → sp vs H Q EE) : SE K EE (tCallN nn k sp (fun vs zs => vs ++ zs) EE t tk) (eA2 nn k f l lk) := fun G n S H r σ Q s e w => by
  refine h G n S H r σ _ s e ?_
  unfold eA2 at w
  cases q : l r S with
  | ok ds S1 =>
    rw [q] at w
    intro vs G1 n1 H1 p rl
    refine h2 G1 n1 S1 H1 r σ _ p.sr (e.post p) ?_
    have w1 : WpE K EE ((lk r S1).bind fun ys S2 => if ds.length = nn ∧ ys.length = k then f (ds ++ ys) S2 else .bad) G1 n1 S1 H1 Q := WpE.at p w
    cases q2 : lk r S1 with
    | ok es S2 =>
      rw [q2] at w1
      intro zs G2 n2 H2 p2 rl2
      have w2 : WpE K EE (if ds.length = nn ∧ es.length = k then f (ds ++ es) S2 else .bad) G2 n2 S2 H2 Q := WpE.at p2 w1
      by_cases c : ds.length = nn ∧ es.length = k
      · rw [if_pos c] at w2
        refine ⟨by rw [← rl.len]; exact c.1, by rw [← rl2.len]; exact c.2, hs G2 n2 S2 H2 _ _ Q p2.sr (RelL.append (RelL.mono p2.sub p2.eta _ _ rl) rl2) w2⟩
      · rw [if_neg c] at w2
        exact w2.elim
    | exc x S' => rw [q2] at w1; exact w1
    | bad => rw [q2] at w1; exact w1.elim
  | exc x S' => rw [q] at w; exact w
  | bad => rw [q] at w; exact w
end
/-- what is known of a def that is called by keywords -/
structure DefOkK (P : Program) (w : World) (K : PySem.W.Frag) (mg : Str → Option Value) (base : Heap) (CX : CXT) (x : Str) (k : Nat) (n : Nat) (ks : List Str) (sp : Sp) : Prop where
  ex : ∃ (f : Addr) (fd : FuncData) (ps : List Str), FnG P w K mg base CX k f fd ps sp ∧ mg x = some (.ref f) ∧ PySem.W.keepIn K (.ref f) = true ∧ KBn K fd ps n ks (fun us ws => us ++ ws) (fun vs zs => vs ++ zs)
section
variable {X : Cx} {CX : CXT} {E EE : XK} {e0 e : Expr} {es : List Expr} {t : TE} {m : EM} {tas tks : TA} {ms mks : LM} {p pos kpos : Pos} {kws : List Keyword} {nm : Option Str}
def XKw (X : Cx) (EE : XK) (e : List Keyword) (t : TA) (m : LM) : Prop := PK X e t ∧ SA X.K EE t m
theorem k_nil : XKw X EE [] tNil aN := ⟨pk_nil, SA.nil⟩
theorem k_cons (h : XE X EE e t m) (hr : XKw X EE kws tas ms) : XKw X EE (⟨nm, e, kpos⟩ :: kws) (tCons t tas) (aC m ms) := ⟨pk_cons h.1 hr.1, SA.cons h.2 hr.2⟩
theorem run_fnGN {k n : Nat} {f : Addr} {fd : FuncData} {ps ks : List Str} {sp : Sp} {pins : List (Addr × Obj)} {σ : L2.St} {H : Hp} {s : Shared} {Q : VK} {us ws : List Value} {vs zs : List V} {g : List Value → List Value → List Value} {gV : List V → List V → List V} (F : FnG X.prog X.w X.K X.mg X.base CX k f fd ps sp) (hr : Rm k X.A) (hb : KBn X.K fd ps n ks g gV) (hx : Passes CX X E)
    (I : Inv X pins σ H s) (r : Vals vs us) (rz : Vals zs ws) (l1 : vs.length = n) (l2 : zs.length = ks.length) (h : sp (gV vs zs) H Q E) : wpAny (model X.prog X.w) X.A (call (.ref f) us (ks.zip ws)) (EP X pins σ Q) X.xe s := by
  have r2 := hb.rel r rz
  refine wpAny_call (codeAny_mono (F.run X.A X.stack s H ⟨us, ks.zip ws⟩ (g us ws) (gV vs zs) Q E hr I.env0 (hb.to s us ws I.kIn (r.length.symm.trans l1) (rz.length.symm.trans l2)) r2 h) fun r s' hq => ?_)
  match r, hq with
  | .error e, z => exact hx pins σ H s e s' I z
  | .ok (.ret u), z => exact I.after z
theorem x_callK {x : Str} {k j ar n kn : Nat} {ks : List Str} {f : FM} (D : DefOkK X.prog X.w X.K X.mg X.base CX0 x k n ks (sp0 X.K ar f)) (har : ∀ ds S, ds.length ≠ ar → f ds S = .bad) (hr : Rm j X.A) (hjk : k ≤ j) (ha : XA X E0 (e0 :: es) tas ms) (hkw : XKw X E0 kws tks mks) (hkn : ks.length = kn := by rfl) (hg : Gl X x := by rfl) (hdb : (x == ("__debug__" : Str)) = false := by decide)
    (hall : (backToKw pos (keywordEach kws X.env)).all (·.1.isSome) = true := by rfl) (hks : (backToKw pos (keywordEach kws X.env)).filterMap (·.1) = ks := by rfl)
    (he : starEach (e0 :: es) X.env = (false, eval e0 X.env) :: starEach es X.env := by rfl) (hpl : ((backTo pos (starEach (e0 :: es) X.env)).any (·.1) || (backToKw pos (keywordEach kws X.env)).any (·.1.isNone)) = false := by rfl) :
    XE X E0 (.Call (.Name x p) (e0 :: es) kws pos) (tCallN n kn (sp0 X.K ar f) (fun vs zs => vs ++ zs) E0 tas tks) (eA2 n kn f ms mks) := by
  subst hkn
  obtain ⟨fa, fd, ps, F, hm, hk, hb⟩ := D.ex
  refine ⟨⟨fun pins s σ H Q I h => wpAny_Call_Name_kw (ld_glob I hg hm ?_ hdb)⟩, SE.callN ha.2 hkw.2 fun G n S H vs ds Q s rl w => sp_call (bad_ar har w) s rl w⟩
  refine PySem.W.callWith_KW (h₀ := X.base) I.ok.mod.kin hk hall (thn (ha.1.run pos pins s σ H _ I h) fun us s1 ⟨vs, H1, I1, r, q⟩ => ?_) hpl he
  refine thn (hkw.1.run pos pins s1 σ H1 _ I1 q) fun ws s2 ⟨zs, H2, I2, rz, l1, l2, q2⟩ => ⟨I2.kIn, ?_⟩
  rw [hks]
  exact run_fnGN F (hr.mono hjk) hb pass0 I2 r rz l1 l2 q2
end
/-! ### a def by its facts -/
abbrev FnP (K : PySem.W.Frag) (x : Str) (st : Stmt) (f : Addr) (fd : FuncData) : Prop := FunD K x x (defArgs st) (defBody st) (defScope st) [] [] f fd
section
variable {P : Program} {w : World} {K : PySem.W.Frag} {mg : Str → Option Value} {base : Heap} {x : Str} {st : Stmt} {f : Addr} {fd : FuncData}
/-- the derivation of a def's body -/
def Body (P : Program) (w : World) (K : PySem.W.Frag) (mg : Str → Option Value) (base : Heap) (N : List Str) (x : Str) (st : Stmt) (k : Nat) (sm : SM) : Prop :=
  ∀ (f : Addr) (cdv : Value) (A : Around) (outer : List PySem.Env) (s : Shared) (H : Hp) (E : XK), Rm k (A.deeper (envOfC x (defScope st) s.heap.objs.size f cdv)) → ∃ t, XSs (CtxN P w K mg base N x st f cdv A outer s H E) E0 (defBody st) t sm
theorem fnG_body {N ps : List Str} {k ar n : Nat} {sm : SM} (F : FnP K x st f fd) (S : FnScope N ps (defScope st)) (har : ar = ps.length) (hn : n = N.length) (h : Body P w K mg base N x st k sm) : FnG P w K mg base CX0 (k + 1) f fd ps (sp0 K ar (runA ar n sm)) := by
  obtain ⟨oc, od, dV, kV, doc, pm, an, cdv, ct, osl, rfl, lk, hcd, _, _⟩ := F.ex
  refine fn_ofG lk hcd S (fun vs H Q E q => by rw [q.1, har]) (fun A outer s H vs Q E hr hsp => ?_)
  obtain ⟨t, ht⟩ := h f cdv A outer s H E hr
  exact ⟨t, ht.1.nox, body_okA ht.2 hn hsp⟩
theorem defD_ok {N ps : List Str} {k ar n : Nat} {sm : SM} (F : ∃ fd, FnP K x st f fd) (hmg : mg x = some (.ref f)) (S : FnScope N ps (defScope st)) (har : ar = ps.length) (hn : n = N.length)
    (hb : ∀ (kV doc pm : Value) (an : Option Addr) (cdv ct : Value) (us : List Value), us.length = ps.length → bindArgs (PySem.W.fnOf x x (defArgs st) (defBody st) (defScope st) .none kV doc pm an cdv ct) ⟨us, []⟩ = pure (ps.zip us))
    (h : Body P w K mg base N x st k sm) : DefOk P w K mg base CX0 x (k + 1) (sp0 K ar (runA ar n sm)) := by
  obtain ⟨fd, F⟩ := F
  exact ⟨f, fd, ps, fnG_body F S har hn h, hmg, F.kp, F.bindsN hb⟩
theorem defD_okK {N ps ks : List Str} {k ar n np : Nat} {sm : SM} (F : ∃ fd, FnP K x st f fd) (hmg : mg x = some (.ref f)) (S : FnScope N ps (defScope st)) (har : ar = ps.length) (hn : n = N.length)
    (hb : ∀ (kV doc pm : Value) (an : Option Addr) (cdv ct : Value) (us ws : List Value), us.length = np → ws.length = ks.length → bindArgs (PySem.W.fnOf x x (defArgs st) (defBody st) (defScope st) .none kV doc pm an cdv ct) ⟨us, ks.zip ws⟩ = pure (ps.zip (us ++ ws)))
    (h : Body P w K mg base N x st k sm) : DefOkK P w K mg base CX0 x (k + 1) np ks (sp0 K ar (runA ar n sm)) := by
  obtain ⟨fd, F⟩ := F
  refine ⟨f, fd, ps, fnG_body F S har hn h, hmg, F.kp, ?_⟩
  obtain ⟨oc, od, dV, kV, doc, pm, an, cdv, ct, osl, rfl, lk, hcd, hD, hK⟩ := F.ex
  rcases hD with ⟨_, rfl⟩ | ⟨e, _⟩
  · exact ⟨fun s us ws _ l1 l2 => .of_eq (hb kV doc pm an cdv ct us ws l1 l2), fun r rz => r.append rz⟩
  · exact absurd rfl e
end
/-! ### a module's constants -/
def relCs (f : BR.D → Value → Bool) : List BR.D → List Value → Bool
  | [], [] => true
  | d :: ds, u :: us => f d u && relCs f ds us
  | _, _ => false
/-- the value is this, to a depth of k -/
def relC (K : PySem.W.Frag) : Nat → BR.D → Value → Bool
  | 0, _, _ => false
  | k + 1, d, u => match d, u with
    | .non, .none => true
    | .bl b, .bool c => b == c
    | .int i, .int j _ => decide (i = j)
    | .str x, .str y _ => decide (x = y)
    | .trn ds, .ref a => (match K.lookup a with
      | some ⟨.type c, none, .seq its _, _⟩ => decide (c = "tuple") && (decide (its.size ≤ sizeLine) && relCs (relC K k) ds its.toList)
      | _ => false)
    | _, _ => false
theorem relCs_ok {K : PySem.W.Frag} {f : BR.D → Value → Bool} (hf : ∀ d u, f d u = true → ∃ v, RelV v u ∧ ∀ G n, Rel K G n d v) : ∀ (ds : List BR.D) (us : List Value), relCs f ds us = true → ∃ vs, Vals vs us ∧ ∀ G n, RelL K G n ds vs
  | [], [], _ => ⟨[], .nil, fun _ _ => .nil⟩
  | d :: ds, u :: us, h => by
    obtain ⟨h1, h2⟩ := He.ba (show (f d u && relCs f ds us) = true from h)
    obtain ⟨v, r, g⟩ := hf d u h1
    obtain ⟨vs, rs, gs⟩ := relCs_ok hf ds us h2
    exact ⟨v :: vs, .cons r rs, fun G n => .cons (g G n) (gs G n)⟩
  | [], _ :: _, h => by cases h
  | _ :: _, [], h => by cases h
theorem relC_ok {K : PySem.W.Frag} : ∀ (k : Nat) (d : BR.D) (u : Value), relC K k d u = true → ∃ v, RelV v u ∧ ∀ G n, Rel K G n d v
  | 0, _, _, h => by cases h
  | k + 1, d, u, h => by
    unfold relC at h
    split at h
    · exact ⟨.non, rfl, fun _ _ => by simp only [Rel]⟩
    · rename_i b c
      exact ⟨.bl b, by rw [eq_of_beq h]; rfl, fun _ _ => rBl⟩
    · rename_i i j t
      exact ⟨.int i, ⟨t, by rw [of_decide_eq_true h]⟩, fun _ _ => rInt⟩
    · rename_i x y t
      exact ⟨.str x, ⟨t, by rw [of_decide_eq_true h]⟩, fun _ _ => rStr⟩
    · rename_i ds a
      split at h
      · rename_i c its m osl e
        obtain ⟨h1, h2⟩ := He.ba h
        obtain ⟨h3, h4⟩ := He.ba h2
        obtain ⟨vs, rs, gs⟩ := relCs_ok (relC_ok k) ds its.toList h4
        refine ⟨.ref a, rfl, fun G n => ?_⟩
        simp only [Rel]
        exact ⟨a, vs, rfl, .inr ⟨_, its, m, e, congrArg Value.type (of_decide_eq_true h1), rfl, rfl, of_decide_eq_true h3, rs⟩, gs G n⟩
      · cases h
    · cases h
def cstB (K : PySem.W.Frag) (q : Str × BR.D) : Bool := match PySem.W.nsIn K mainGlobals q.1 with
  | some (some (.ref a)) => decide (a = He.ga K q.1) && relC K 8 q.2 (.ref a)
  | _ => false
theorem cst_ok {K : PySem.W.Frag} {q : Str × BR.D} (c : cstB K q = true) : PySem.W.nsIn K mainGlobals q.1 = some (some (.ref (He.ga K q.1))) ∧ ∀ G n, Rel K G n q.2 (.ref (He.ga K q.1)) := by
  unfold cstB at c
  split at c
  · rename_i a e
    obtain ⟨h1, h2⟩ := He.ba c
    have h1 := of_decide_eq_true h1
    subst h1
    obtain ⟨v, r, g⟩ := relC_ok 8 _ _ h2
    have r' : v = .ref (He.ga K q.1) := by
      cases v with
      | ref b => cases r; rfl
      | non => cases r
      | bl b => cases r
      | ty b => cases r
      | _ => obtain ⟨_, r⟩ := r; cases r
    subst r'
    exact ⟨e, g⟩
  · cases c
/-! ### the head's hook, with constants -/
open He in
def obsB (fa : List Fa) (fn : List DefD) (cs : List (Str × BR.D)) (K : PySem.W.Frag) : AlD := ((fa.all fun f => f.ok K) && ((fn.all fun d => d.ok K) && cs.all fun q => cstB K q), fn.map fun d => fnW K d.at_)
open He in
def SaysB (fa : List Fa) (fn : List DefD) (cs : List (Str × BR.D)) (K : PySem.W.Frag) : Prop := obsB fa fn cs K = valD fn
open He in
def obsBG (n : Nat) (fa : List Fa) (fn : List DefD) (cs : List (Str × BR.D)) (g : Addr → Option Obj) : AlD := obsB fa fn cs (frG g (asD g n))
open He in
def hookB (n : Nat) (fa : List Fa) (fn : List DefD) (cs : List (Str × BR.D)) : PySem.W.Hook where
  α := AlD
  obs := fun s => obsBG n fa fn cs s.heap.get?
  val := fun _ => valD fn
  says := fun _ h => ∃ K : PySem.W.Frag, K.In h ∧ SaysB fa fn cs K
  of := fun _ _ e => ⟨_, frG_in, e⟩
  keeps := fun _ _ _ ⟨K, hK, c⟩ k => ⟨K, PySem.W.Frag.In.keeps hK k, c⟩
open He in
theorem obsBG_eq {n : Nat} {fa : List Fa} {fn : List DefD} {cs : List (Str × BR.D)} {g : Addr → Option Obj} {s : Shared} (h : ∀ a, g a = s.heap.get? a) : obsBG n fa fn cs g = (hookB n fa fn cs).obs s := by
  have e : g = s.heap.get? := funext h
  rw [e] <;> rfl
section
open He
variable {fa : List Fa} {fn : List DefD} {cs : List (Str × BR.D)} {K : PySem.W.Frag}
theorem SaysB.d (c : SaysB fa fn cs K) : SaysD fa fn K := by
  have c1 : ((fa.all fun f => f.ok K) && ((fn.all fun d => d.ok K) && cs.all fun q => cstB K q)) = true := congrArg (fun z : AlD => z.1) c
  have c2 : fn.map (fun d => fnW K d.at_) = fn.map DefD.val := congrArg (fun z : AlD => z.2) c
  obtain ⟨h1, h2⟩ := ba c1
  obtain ⟨h3, _⟩ := ba h2
  have e : ((fa.all fun f => f.ok K) && (fn.all fun d => d.ok K)) = true := by rw [h1, h3]; rfl
  exact Prod.ext e c2
theorem SaysB.cst (c : SaysB fa fn cs K) (i : Nat) {q : Str × BR.D} (h : cs[i]? = some q := by rfl) : cstB K q = true := by
  have c1 : ((fa.all fun f => f.ok K) && ((fn.all fun d => d.ok K) && cs.all fun q => cstB K q)) = true := congrArg (fun z : AlD => z.1) c
  exact List.all_eq_true.mp (ba (ba c1).2).2 q (List.mem_of_getElem? h)
end
/-- what a def's derivation asks of the module's names -/
theorem mg_cst {K : PySem.W.Frag} {h : Heap} {mg : Str → Option Value} (X : K.In h) (G : h.Ns mainGlobals mg) {q : Str × BR.D} (c : cstB K q = true) : mg q.1 = some (.ref (He.ga K q.1)) := PySem.W.mg_of X G (cst_ok c).1
end BR

/-! Reckoning with mirrors, no program in sight. -/
namespace BR
open PySem
/-! ### one step at a time -/
section
variable {a b : SM} {r : Env} {S : Store} {g : GM} {e m ma mb : EM} {t u : TM} {l : LM} {i j : Nat}
def sq (x : Res Out) (b : SM) : Res Out := match x with
  | .ok (.nx r1) S1 => b r1 S1
  | x => x
@[simp] theorem sq_nx : sq (.ok (.nx r) S) b = b r S := rfl
@[simp] theorem sq_rt {d : D} : sq (.ok (.rt d) S) b = .ok (.rt d) S := rfl
@[simp] theorem sq_bk : sq (.ok (.bk r) S) b = .ok (.bk r) S := rfl
@[simp] theorem sq_ct : sq (.ok (.ct r) S) b = .ok (.ct r) S := rfl
@[simp] theorem p_seq : mSeq a b r S = sq (a r S) b := rfl
@[simp] theorem p_nil : mNil r S = .ok (.nx r) S := rfl
@[simp] theorem p_set : mSet g e r S = (e r S).bind fun d S1 => match g d r with
  | some r1 => .ok (.nx r1) S1
  | none => .bad := rfl
@[simp] theorem p_gN {d : D} : gN i d r = some (r.set i (.val d)) := rfl
@[simp] theorem p_if : mIf t a b r S = (t r S).bind fun c S1 => if c = true then a r S1 else b r S1 := rfl
@[simp] theorem p_ret : mRet e r S = (e r S).bind fun d S1 => .ok (.rt d) S1 := rfl
@[simp] theorem p_retN : mRetN r S = .ok (.rt .non) S := rfl
@[simp] theorem p_drop : mDrop e r S = (e r S).bind fun _ S1 => .ok (.nx r) S1 := rfl
@[simp] theorem p_own : mOwn i l r S = (l r S).bind fun xs S1 => .ok (.nx (r.set i (.own (.lst xs)))) S1 := rfl
@[simp] theorem p_brk : mBreak r S = .ok (.bk r) S := rfl
@[simp] theorem p_cont : mCont r S = .ok (.ct r) S := rfl
@[simp] theorem p_eC {d : D} : eC d r S = .ok d S := rfl
@[simp] theorem p_eV : eV i r S = match r[i]? with
  | some (.val d) => .ok d S
  | _ => .bad := rfl
@[simp] theorem p_eB : eB i r S = match r[i]? with
  | some (.val d) => .ok d S
  | some (.own d) => .ok d S
  | _ => .bad := rfl
@[simp] theorem p_e1 {f : D → Store → Res D} : e1 f m r S = (m r S).bind f := rfl
@[simp] theorem p_e2 {f : D → D → Store → Res D} : e2 f ma mb r S = (ma r S).bind fun x S1 => (mb r S1).bind fun y S2 => f x y S2 := rfl
@[simp] theorem p_aN : aN r S = .ok [] S := rfl
@[simp] theorem p_aC : aC m l r S = (m r S).bind fun x S1 => (l r S1).bind fun xs S2 => .ok (x :: xs) S2 := rfl
@[simp] theorem p_eTup : eTup l r S = (l r S).bind fun xs S1 => if xs.length ≤ lim then .ok (.tup xs) S1 else .bad := rfl
@[simp] theorem p_eTrn : eTrn l r S = (l r S).bind fun xs S1 => if xs.length ≤ lim then .ok (.trn xs) S1 else .bad := rfl
@[simp] theorem p_eA {f : List D → Store → Res D} : eA f l r S = (l r S).bind f := rfl
@[simp] theorem p_eA2 {f : FM} {n k : Nat} {l2 : LM} : eA2 n k f l l2 r S = (l r S).bind fun xs S1 => (l2 r S1).bind fun ys S2 => if xs.length = n ∧ ys.length = k then f (xs ++ ys) S2 else .bad := rfl
@[simp] theorem p_eFrz : eFrz l r S = (l r S).bind fun xs S1 => .ok (.lst xs) S1 := rfl
@[simp] theorem p_eNew : eNew l r S = (l r S).bind fun xs S1 => .ok (.ref S1.length) (S1 ++ [some (.lst xs)]) := rfl
@[simp] theorem p_eIf : eIf t ma mb r S = (t r S).bind fun c S1 => if c = true then ma r S1 else mb r S1 := rfl
@[simp] theorem p_eT : eT t r S = (t r S).bind fun c S1 => .ok (.bl c) S1 := rfl
@[simp] theorem p_tE : tE m r S = (m r S).bind fun x S1 => match x with
  | .bl b => .ok b S1
  | _ => .bad := rfl
@[simp] theorem p_tNot : tNot t r S = (t r S).bind fun c S1 => .ok (!c) S1 := rfl
@[simp] theorem p_tAnd : tAnd t u r S = (t r S).bind fun c S1 => if c = true then u r S1 else .ok false S1 := rfl
@[simp] theorem p_tOr : tOr t u r S = (t r S).bind fun c S1 => if c = true then .ok true S1 else u r S1 := rfl
@[simp] theorem p_tYes : tYes r S = .ok true S := rfl
@[simp] theorem p_lLst : lLst l r S = (l r S).bind fun xs S1 => if xs.length ≤ lim then .ok xs S1 else .bad := rfl
@[simp] theorem p_l1 {f : D → Store → Res (List D)} : l1 f m r S = (m r S).bind f := rfl
@[simp] theorem p_iRange1 : iRange1 m r S = (m r S).bind fun x S1 => match x with
  | .int j => if -big62 ≤ j ∧ j < big62 then .ok (.fix (rangeD 0 j)) S1 else .bad
  | _ => .bad := rfl
@[simp] theorem p_iRange2 : iRange2 ma mb r S = (ma r S).bind fun x S1 => (mb r S1).bind fun y S2 => match x, y with
  | .int i, .int j => if -big62 ≤ i ∧ i < big62 ∧ -big62 ≤ j ∧ j < big62 then .ok (.fix (rangeD i j)) S2 else .bad
  | _, _ => .bad := rfl
@[simp] theorem p_iSeq : iSeq m r S = (m r S).bind fun x S1 => match x with
  | .ref k => (match lstAt S1 k with
    | some _ => .ok (.cell k) S1
    | none => .bad)
  | x => (match seqD x with
    | some xs => .ok (.fix xs) S1
    | none => .bad) := rfl
@[simp] theorem p_for {it : IM} : mFor it g a r S = (it r S).bind fun src S1 => match src with
  | .fix ds => forGo g a ds r S1
  | .cell k => forGoV k g a fuel 0 r S1 := rfl
@[simp] theorem p_lLc {it : IM} {vs : List Nat} : lLc it g t e vs r S = (it r S).bind fun src S1 => match src with
  | .fix ds => lcGo g t e (wipeE r vs) ds [] S1
  | .cell k => lcGoV k g t e (wipeE r vs) fuel 0 [] S1 := rfl
@[simp] theorem p_wipeN : wipeE r [] = r := rfl
@[simp] theorem p_wipeC {is : List Nat} : wipeE r (i :: is) = (wipeE r is).set i .no := rfl
@[simp] theorem p_setE {o x v : EM} : mSetE o x v r S = (v r S).bind fun w S1 => (o r S1).bind fun y S2 => (x r S2).bind fun z S3 => match y, z with
  | .ref k, .int n => (match lstAt S3 k with
    | some xs => (match L2.ixN xs.length n with
      | some p => .ok (.nx r) (S3.set k (some (.lst (xs.set p w))))
      | none => .bad)
    | none => .bad)
  | _, _ => .bad := rfl
@[simp] theorem p_app : mApp i e r S = match r[i]? with
  | some (.own (.lst xs)) => (e r S).bind fun d S1 => if xs.length < lim then .ok (.nx (r.set i (.own (.lst (xs ++ [d]))))) S1 else .bad
  | some (.val (.ref k)) => (match lstAt S k with
    | some _ => (e r S).bind fun d S1 => (match lstAt S1 k with
      | some xs => if xs.length < lim then .ok (.nx r) (S1.set k (some (.lst (xs ++ [d])))) else .bad
      | none => .bad)
    | none => .bad)
  | _ => .bad := rfl
@[simp] theorem p_frz : mFrz i a r S = match r[i]? with
  | some (.own d) => a (r.set i (.val d)) S
  | _ => a r S := rfl
@[simp] theorem p_sl {lo hi : PM} : eSl m lo hi r S = (m r S).bind fun x S1 => (lo r S1).bind fun i S2 => (hi r S2).bind fun j S3 => match vw S3 x with
  | some (.lst xs) => .ok (.lst (cutD xs i j)) S3
  | some (.scr xs) => .ok (.lst (cutD xs i j)) S3
  | some (.tup xs) => .ok (.tup (cutD xs i j)) S3
  | some (.str x) => okI (decide (x.length ≤ lim)) (.str (cutT x i j)) S3
  | _ => .bad := rfl
@[simp] theorem p_lsl {lo hi : PM} : lSl m lo hi r S = (m r S).bind fun x S1 => (lo r S1).bind fun i S2 => (hi r S2).bind fun j S3 => match (vw S3 x).bind lstD with
  | some xs => .ok (cutD xs i j) S3
  | none => .bad := rfl
@[simp] theorem p_pNo : pNo r S = .ok none S := rfl
@[simp] theorem p_pSo : pSo m r S = (m r S).bind fun x S1 => match x with
  | .int i => .ok (some i) S1
  | _ => .bad := rfl
@[simp] theorem p_runA {ar n : Nat} {ds : List D} : runA ar n a ds S = if ds.length = ar then (match a (start n ds) S with
  | .ok (.rt d) S1 => .ok d S1
  | .ok (.nx _) S1 => .ok .non S1
  | .ok _ _ => .bad
  | .exc e S1 => .exc e S1
  | .bad => .bad) else .bad := rfl
@[simp] theorem p_vwRef {k : Nat} : vw S (.ref k) = (match S[k]? with
  | some (some c) => some c
  | _ => none) := rfl
@[simp] theorem p_vwInt {x : Int} : vw S (.int x) = some (.int x) := rfl
@[simp] theorem p_vwBl {x : Bool} : vw S (.bl x) = some (.bl x) := rfl
@[simp] theorem p_vwStr {x : Str} : vw S (.str x) = some (.str x) := rfl
@[simp] theorem p_vwNon : vw S .non = some .non := rfl
@[simp] theorem p_vwLst {x : List D} : vw S (.lst x) = some (.lst x) := rfl
@[simp] theorem p_vwTup {x : List D} : vw S (.tup x) = some (.tup x) := rfl
@[simp] theorem p_vwTrn {x : List D} : vw S (.trn x) = some (.trn x) := rfl
@[simp] theorem p_vwScr {x : List D} : vw S (.scr x) = some (.scr x) := rfl
@[simp] theorem p_seqD1 {x : List D} : seqD (.lst x) = some x := rfl
@[simp] theorem p_seqD2 {x : List D} : seqD (.tup x) = some x := rfl
@[simp] theorem p_seqD3 {x : List D} : seqD (.trn x) = some x := rfl
@[simp] theorem p_seqD4 {x : List D} : seqD (.scr x) = some x := rfl
@[simp] theorem p_seqD5 {x : Int} : seqD (.int x) = none := rfl
@[simp] theorem p_seqS {d : D} : seqS S d = (vw S d).bind seqD := rfl
@[simp] theorem p_okI {c : Bool} {d : D} : okI c d S = if c = true then .ok d S else .bad := rfl
@[simp] theorem p_add {x y : Int} : dAdd (.int x) (.int y) S = .ok (.int (x + y)) S := rfl
@[simp] theorem p_sub {x y : Int} : dSub (.int x) (.int y) S = .ok (.int (x - y)) S := rfl
@[simp] theorem p_lt {x y : Int} : dLt (.int x) (.int y) S = .ok (.bl (decide (x < y))) S := rfl
@[simp] theorem p_le {x y : Int} : dLe (.int x) (.int y) S = .ok (.bl (decide (x ≤ y))) S := rfl
@[simp] theorem p_gt {x y : Int} : dGt (.int x) (.int y) S = .ok (.bl (decide (y < x))) S := rfl
@[simp] theorem p_ge {x y : Int} : dGe (.int x) (.int y) S = .ok (.bl (decide (y ≤ x))) S := rfl
@[simp] theorem p_eqI {x y : Int} : dEq (.int x) (.int y) S = .ok (.bl (decide (x = y))) S := by
  show okI _ (.bl (x == y)) S = _
  by_cases h : x = y <;> simp [h, okI, okP, deep]
@[simp] theorem p_neI {x y : Int} : dNe (.int x) (.int y) S = .ok (.bl (decide (x ≠ y))) S := by
  show okI _ (.bl (!(x == y))) S = _
  by_cases h : x = y <;> simp [h, okI, okP, deep]
theorem p_mul {x y : Int} (h : x.natAbs.log2 + y.natAbs.log2 < 1000000) : dMul (.int x) (.int y) S = .ok (.int (x * y)) S := by simp [dMul, h]
theorem p_mod {x y : Int} (h : 0 < y) : dMod (.int x) (.int y) S = .ok (.int (x % y)) S := by simp [dMod, h]
theorem p_fdiv {x y : Int} (h : 0 < y) (h2 : y.natAbs.log2 < 9000) : dFdiv (.int x) (.int y) S = .ok (.int (x / y)) S := by simp [dFdiv, h, h2]
@[simp] theorem p_abs {x : Int} : dAbs (.int x) S = .ok (.int (if x < 0 then -x else x)) S := rfl
@[simp] theorem p_max {x y : Int} : dMax2 (.int x) (.int y) S = .ok (.int (if y > x then y else x)) S := rfl
@[simp] theorem p_min {x y : Int} : dMin2 (.int x) (.int y) S = .ok (.int (if y < x then y else x)) S := rfl
end
theorem p_pow {S : Store} {x y : Int} (h : 0 ≤ y ∧ y ≤ 1000000 ∧ x.natAbs < 18446744073709551616) : dPow (.int x) (.int y) S = .ok (.int (x ^ y.toNat)) S := by simp [dPow, h]
theorem cutD_map (ns : List Int) (lo hi : Option Int) : ∃ ms : List Int, cutD (ns.map D.int) lo hi = ms.map D.int ∧ ms.length ≤ ns.length := by
  refine ⟨(ns.drop (HT.sIx (ns.map D.int).length 0 lo)).take (HT.sIx (ns.map D.int).length (ns.map D.int).length hi - HT.sIx (ns.map D.int).length 0 lo), ?_, ?_⟩
  · simp [cutD]
  · simp only [List.length_take, List.length_drop]; omega
/-! ### what the numbers come to -/
theorem log2_lt {x : Int} {k : Nat} (h : x.natAbs < 2 ^ k) (hk : 0 < k) : x.natAbs.log2 < k := by
  by_cases e : x.natAbs = 0
  · rw [e]; simpa using hk
  · exact (Nat.log2_lt e).mpr h
/-! ### reading at a place -/
theorem atI_nat {α : Type} {xs : List α} {k : Nat} (h : k < xs.length) : L2.atI xs (k : Int) = some xs[k] := by
  simp [L2.atI, L2.ixN, h]
theorem atI_int {α : Type} {xs : List α} {i : Int} (h0 : 0 ≤ i) (h : i.toNat < xs.length) : L2.atI xs i = some xs[i.toNat] := by
  obtain ⟨k, rfl⟩ := Int.eq_ofNat_of_zero_le h0
  simpa using atI_nat (by simpa using h)
theorem atI_map {α β : Type} (f : α → β) (xs : List α) (i : Int) : L2.atI (xs.map f) i = (L2.atI xs i).map f := by
  simp only [L2.atI, List.length_map, List.getElem?_map]
  cases L2.ixN xs.length i <;> rfl
/-! ### loops -/
theorem forGo_inv {g : GM} {b : SM} {ds : List D} (I : Nat → Env → Store → Prop) (hs : ∀ i d r S, ds[i]? = some d → I i r S → ∃ r1 r2 S2, g d r = some r1 ∧ (b r1 S = .ok (.nx r2) S2 ∨ b r1 S = .ok (.ct r2) S2) ∧ I (i + 1) r2 S2) {r : Env} {S : Store} (h0 : I 0 r S) :
    ∃ r2 S2, forGo g b ds r S = .ok (.nx r2) S2 ∧ I ds.length r2 S2 := by
  induction ds generalizing I r S with
  | nil => exact ⟨r, S, rfl, h0⟩
  | cons d ds ih =>
    obtain ⟨r1, r2, S2, e1, e2, h1⟩ := hs 0 d r S rfl h0
    obtain ⟨r3, S3, e3, h3⟩ := ih (fun i => I (i + 1)) (fun i d' r S e h => hs (i + 1) d' r S (by simpa using e) h) h1
    refine ⟨r3, S3, ?_, by simpa using h3⟩
    unfold forGo
    rw [e1]
    rcases e2 with e2 | e2 <;> simp only [e2] <;> exact e3
theorem rangeD_len (i j : Int) : (rangeD i j).length = (j - i).toNat := by simp [rangeD]
theorem rangeD_at {i j : Int} {k : Nat} {d : D} (h : (rangeD i j)[k]? = some d) : d = .int (i + k) ∧ i + k < j := by
  unfold rangeD at h
  rw [List.getElem?_map] at h
  by_cases hk : k < (j - i).toNat
  · rw [List.getElem?_range hk] at h
    cases h
    exact ⟨rfl, by omega⟩
  · rw [List.getElem?_eq_none_iff.mpr (by simpa using hk)] at h
    cases h
theorem range_inv {g : GM} {b : SM} {i0 j0 : Int} (hij : i0 ≤ j0) (I : Int → Env → Store → Prop) (hs : ∀ i r S, i0 ≤ i → i < j0 → I i r S → ∃ r1 r2 S2, g (.int i) r = some r1 ∧ (b r1 S = .ok (.nx r2) S2 ∨ b r1 S = .ok (.ct r2) S2) ∧ I (i + 1) r2 S2) {r : Env} {S : Store} (h0 : I i0 r S) :
    ∃ r2 S2, forGo g b (rangeD i0 j0) r S = .ok (.nx r2) S2 ∧ I j0 r2 S2 := by
  obtain ⟨r2, S2, e, h⟩ := forGo_inv (g := g) (b := b) (ds := rangeD i0 j0) (fun k => I (i0 + k)) (fun k d r S e h => by
    obtain ⟨rfl, hk⟩ := rangeD_at e
    obtain ⟨r1, r2, S2, e1, e2, h2⟩ := hs (i0 + k) r S (by omega) hk h
    exact ⟨r1, r2, S2, e1, e2, by rw [show i0 + ((k + 1 : Nat) : Int) = i0 + k + 1 by omega]; exact h2⟩) (r := r) (S := S) (by simpa using h0)
  refine ⟨r2, S2, e, ?_⟩
  rw [rangeD_len] at h
  rw [show i0 + (((j0 - i0).toNat : Nat) : Int) = j0 by omega] at h
  exact h
/-- a comprehension that changes nothing -/
theorem lcGo_map {g : GM} {t : TM} {e : EM} {r : Env} {S : Store} (p : D → Bool) (f : D → D) : ∀ {ds acc : List D}, (∀ d ∈ ds, ∃ r1, g d r = some r1 ∧ t r1 S = .ok (p d) S ∧ (p d = true → e r1 S = .ok (f d) S)) → acc.length + ds.length ≤ lim →
    lcGo g t e r ds acc S = .ok (acc ++ (ds.filter p).map f) S
  | [], acc, _, _ => by simp [lcGo]
  | d :: ds, acc, h, hl => by
    obtain ⟨r1, e1, e2, e3⟩ := h d (by simp)
    simp only [List.length_cons] at hl
    unfold lcGo
    simp only [e1, e2, bind_ok]
    by_cases c : p d = true
    · rw [if_pos c, e3 c]
      simp only [bind_ok]
      rw [if_pos (by omega), lcGo_map p f (fun d' hd => h d' (List.mem_cons_of_mem _ hd)) (by simp; omega)]
      simp [c]
    · rw [if_neg c, lcGo_map p f (fun d' hd => h d' (List.mem_cons_of_mem _ hd)) (by omega)]
      simp [c]
theorem lcGoV_map {k : Nat} {g : GM} {t : TM} {e : EM} {r : Env} {S : Store} {ds : List D} (hk : lstAt S k = some ds) (p : D → Bool) (f : D → D) (h : ∀ d ∈ ds, ∃ r1, g d r = some r1 ∧ t r1 S = .ok (p d) S ∧ (p d = true → e r1 S = .ok (f d) S)) :
    ∀ (m i : Nat) (acc : List D), ds.length - i < m → acc.length + (ds.length - i) ≤ lim → lcGoV k g t e r m i acc S = .ok (acc ++ ((ds.drop i).filter p).map f) S
  | 0, i, acc, hm, _ => absurd hm (Nat.not_lt_zero _)
  | m + 1, i, acc, hm, hl => by
    unfold lcGoV
    simp only [hk]
    by_cases hi : i < ds.length
    · have e0 : ds[i]? = some ds[i] := List.getElem?_eq_getElem hi
      obtain ⟨r1, e1, e2, e3⟩ := h ds[i] (List.getElem_mem hi)
      simp only [e0, e1, e2, bind_ok]
      have hd : (ds.drop i).filter p = if p ds[i] = true then ds[i] :: (ds.drop (i + 1)).filter p else (ds.drop (i + 1)).filter p := by
        rw [List.drop_eq_getElem_cons hi, List.filter_cons]
      rw [hd]
      by_cases c : p ds[i] = true
      · rw [if_pos c, if_pos c, e3 c]
        simp only [bind_ok]
        rw [if_pos (by omega), lcGoV_map hk p f h m (i + 1) _ (by omega) (by simp only [List.length_append, List.length_singleton]; omega), List.append_assoc, List.map_cons]
        rfl
      · rw [if_neg c, if_neg c, lcGoV_map hk p f h m (i + 1) _ (by omega) (by omega)]
    · have e0 : ds[i]? = none := List.getElem?_eq_none_iff.mpr (by omega)
      simp only [e0]
      rw [List.drop_eq_nil_of_le (by omega)]
      simp
end BR

section
namespace LW
open PySem PySem.Spec PyProof.Rows L2 BR
theorem hu {k : Nat} {A : Around} (r : Rm k A) : A.units + 64 < cLine := by have := r.room.un; omega
theorem hu65 {k : Nat} {A : Around} (r : Rm k A) : A.units + 65 < cLine := by have := r.room.un; omega
/-! ### the text, and what its names stand for -/
def top (i : Nat) : Stmt := PySem.Challenge.pw_blockrooms_k29_arcs_told.main.body.getD i (.Pass ⟨0, 0, 0, 0⟩)
def c_CORNERS : BR.D := .trn [.int 0, .int 1, .int 2, .int 3]
structure Nm (K : PySem.W.Frag) (mg : Str → Option Value) : Prop where
  g_CORNERS : mg "CORNERS" = some (.ref (He.ga K "CORNERS"))
  r_CORNERS : ∀ G n, Rel K G n c_CORNERS (.ref (He.ga K "CORNERS"))
  f_abs : mg "abs" = none
  f_all : mg "all" = none
  f_bool : mg "bool" = none
  f_int : mg "int" = none
  f_isinstance : mg "isinstance" = none
  f_len : mg "len" = none
  f_list : mg "list" = none
  f_max : mg "max" = none
  f_min : mg "min" = none
  f_range : mg "range" = none
  f_repr : mg "repr" = none
  f_tuple : mg "tuple" = none
  i_FIRST_QUAD : ∃ t, mg "FIRST_QUAD" = some (.int 4 t)
  i_SORTS : ∃ t, mg "SORTS" = some (.int 7 t)

/-! is_whole -/
abbrev s_is_whole : Stmt := top 9
abbrev N_is_whole : List Str := ["thing"]
theorem sc_is_whole : FnScope N_is_whole ["thing"] (defScope s_is_whole) := ⟨rfl, rfl, rfl, by decide +kernel, rfl, by decide +kernel, by decide +kernel⟩
def b_is_whole : SM := (mRet (eIf (tE (e1 (dIsi ["int"]) (eB 0))) (eIf (tE (eT (tNot (tE (e1 (dIsi ["bool"]) (eB 0)))))) (e2 dGe (eB 0) (eC (.int 0))) (eC (.bl false))) (eC (.bl false))))
def m_is_whole : FM := runA 1 1 b_is_whole
theorem d_is_whole {P : Program} {w : World} {K : PySem.W.Frag} {mg : Str → Option Value} {base : Heap} (nm : Nm K mg) : Body P w K mg base N_is_whole "is_whole" s_is_whole 0 b_is_whole := fun f cdv A outer s H E hr =>
  have nd := sc_is_whole.nd
  ⟨_, (s_one (s_ret (v_and (x_isi (by decide) ty_int nm.f_isinstance nm.f_int (x_b 0)) (v_and (v_not (x_isi (by decide) ty_bool nm.f_isinstance nm.f_bool (x_b 0))) (v_one (x_ge (x_b 0) (XE.bor x_int)))))))⟩
/-! quad_of -/
abbrev s_quad_of : Stmt := top 13
abbrev N_quad_of : List Str := ["one", "other"]
theorem sc_quad_of : FnScope N_quad_of ["one", "other"] (defScope s_quad_of) := ⟨rfl, rfl, rfl, by decide +kernel, rfl, by decide +kernel, by decide +kernel⟩
def b_quad_of : SM := (mSeq (mIf (tOr (tE (e2 dEq (eB 0) (eC (.int 0)))) (tE (e2 dEq (eB 1) (eC (.int 0))))) (mRet (e2 dAdd (e2 dAdd (e2 dSub (eC (.int 4)) (eC (.int 1))) (eB 0)) (eB 1))) mNil)
  (mRet (e2 dSub (e2 dSub (e2 dAdd (eC (.int 4)) (eC (.int 5))) (eB 0)) (eB 1))))
def m_quad_of : FM := runA 2 2 b_quad_of
theorem d_quad_of {P : Program} {w : World} {K : PySem.W.Frag} {mg : Str → Option Value} {base : Heap} (nm : Nm K mg) : Body P w K mg base N_quad_of "quad_of" s_quad_of 0 b_quad_of := fun f cdv A outer s H E hr =>
  have nd := sc_quad_of.nd
  ⟨_, (s_cons (s_if (XW.tst (w_or (t_eq (hu hr) (x_b 0) (XE.bor x_int)) (w_or1 (t_eq (hu hr) (x_b 1) (XE.bor x_int))))) (s_one (s_ret (x_add (XE.bor (x_add (XE.bor (x_sub (XE.bor (x_gInt nm.i_FIRST_QUAD.choose_spec)) (XE.bor x_int))) (x_b 0))) (x_b 1)))) s_nil)
  (s_one (s_ret (x_sub (XE.bor (x_sub (XE.bor (x_add (XE.bor (x_gInt nm.i_FIRST_QUAD.choose_spec)) (XE.bor x_int))) (x_b 0))) (x_b 1)))))⟩
/-! _law_spring -/
abbrev s__law_spring : Stmt := top 17
abbrev N__law_spring : List Str := ["script", "figures", "stir", "cell"]
theorem sc__law_spring : FnScope N__law_spring ["script"] (defScope s__law_spring) := ⟨rfl, rfl, rfl, by decide +kernel, rfl, by decide +kernel, by decide +kernel⟩
def l1__law_spring : SM := (mSeq (mIf (tE (e2 dGe (e1 dAbs (eB 3)) (e2 dPow (eC (.int 10)) (eC (.int 18))))) (mSet (gN 1) (e2 dAdd (e2 dMul (eB 1) (e2 dPow (eC (.int 10)) (eC (.int 60)))) (e2 dMod (e1 dAbs (eB 3)) (e2 dPow (eC (.int 10)) (eC (.int 60)))))) mNil)
  (mSet (gN 2) (e2 dMod (e2 dAdd (e2 dAdd (e2 dMul (eB 2) (eC (.int 69069))) (e2 dMod (eB 3) (eC (.int 2305843009213693921)))) (eC (.int 7))) (eC (.int 2305843009213693951)))))
def b__law_spring : SM := (mSeq (mSet (gN 1) (eC (.int 0)))
  (mSeq (mSet (gN 2) (eC (.int 88651)))
  (mSeq (mFor (iSeq (eSl (eB 0) pNo (pSo (eC (.int 63))))) (gN 3) l1__law_spring)
  (mRet (eNew (lLst (aC (eV 1) (aC (eV 2) (aC (eC (.int 0)) aN)))))))))
def m__law_spring : FM := runA 1 4 b__law_spring
theorem d__law_spring {P : Program} {w : World} {K : PySem.W.Frag} {mg : Str → Option Value} {base : Heap} (nm : Nm K mg) : Body P w K mg base N__law_spring "_law_spring" s__law_spring 0 b__law_spring := fun f cdv A outer s H E hr =>
  have nd := sc__law_spring.nd
  ⟨_, (s_cons (s_set 1 nd x_int)
  (s_cons (s_set 2 nd x_int)
  (s_cons (s_for PassesOwn.never rfl (i_seq (x_sl (x_b 0) o_no (o_so (XE.bor x_int)))) (g_n 3 nd) (s_cons (s_if (t_ge (XE.bor (x_abs nm.f_abs (x_b 3))) (XE.bor (x_pow (XE.bor x_int) (XE.bor x_int)))) (s_one (s_set 1 nd (x_add (XE.bor (x_mul (x_b 1) (XE.bor (x_pow (XE.bor x_int) (XE.bor x_int))))) (XE.bor (x_mod (XE.bor (x_abs nm.f_abs (x_b 3))) (XE.bor (x_pow (XE.bor x_int) (XE.bor x_int)))))))) s_nil)
  (s_one (s_set 2 nd (x_mod (XE.bor (x_add (XE.bor (x_add (XE.bor (x_mul (x_b 2) (XE.bor x_int))) (XE.bor (x_mod (x_b 3) (XE.bor x_int))))) (XE.bor x_int))) (XE.bor x_int))))))
  (s_one (s_ret (XL.new (l_lst (a_cons (x_v 1) (a_cons (x_v 2) (a_cons x_int a_nil))))))))))⟩
/-! _law_draw -/
abbrev s__law_draw : Stmt := top 18
abbrev N__law_draw : List Str := ["spring", "many", "found", "stir"]
theorem sc__law_draw : FnScope N__law_draw ["spring", "many"] (defScope s__law_draw) := ⟨rfl, rfl, rfl, by decide +kernel, rfl, by decide +kernel, by decide +kernel⟩
def b__law_draw : SM := (mSeq (mIf (tE (e2 dGt (e2 dIdx (eB 0) (eC (.int 0))) (eC (.int 0)))) (mSeq (mSet (gN 2) (e2 dMod (e2 dIdx (eB 0) (eC (.int 0))) (eB 1)))
  (mSeq (mSetE (eV 0) (eC (.int 0)) (e2 dFdiv (e2 dIdx (eB 0) (eC (.int 0))) (eB 1)))
  (mRet (eV 2)))) mNil)
  (mSeq (mSetE (eV 0) (eC (.int 2)) (e2 dAdd (e2 dIdx (eB 0) (eC (.int 2))) (eC (.int 1))))
  (mSeq (mSet (gN 3) (e2 dMod (e2 dMul (e2 dIdx (eB 0) (eC (.int 1))) (e2 dIdx (eB 0) (eC (.int 1)))) (eC (.int 2305843009213693951))))
  (mSeq (mSetE (eV 0) (eC (.int 1)) (e2 dMod (e2 dAdd (e2 dAdd (eB 3) (e2 dMul (e2 dMul (eC (.int 7919)) (e2 dIdx (eB 0) (eC (.int 2)))) (e2 dIdx (eB 0) (eC (.int 1))))) (eC (.int 104729))) (eC (.int 2305843009213693951))))
  (mRet (e2 dMod (e2 dFdiv (e2 dIdx (eB 0) (eC (.int 1))) (eC (.int 65537))) (eB 1)))))))
def m__law_draw : FM := runA 2 4 b__law_draw
theorem d__law_draw {P : Program} {w : World} {K : PySem.W.Frag} {mg : Str → Option Value} {base : Heap} (nm : Nm K mg) : Body P w K mg base N__law_draw "_law_draw" s__law_draw 0 b__law_draw := fun f cdv A outer s H E hr =>
  have nd := sc__law_draw.nd
  ⟨_, (s_cons (s_if (t_gt (XE.bor (x_ix (x_b 0) (XE.bor x_int))) (XE.bor x_int)) (s_cons (s_set 2 nd (x_mod (XE.bor (x_ix (x_b 0) (XE.bor x_int))) (x_b 1)))
  (s_cons (s_setX (x_fdiv (XE.bor (x_ix (x_b 0) (XE.bor x_int))) (x_b 1)) (x_v 0) (XE.bor x_int))
  (s_one (s_ret (x_v 2))))) s_nil)
  (s_cons (s_setX (x_add (XE.bor (x_ix (x_b 0) (XE.bor x_int))) (XE.bor x_int)) (x_v 0) (XE.bor x_int))
  (s_cons (s_set 3 nd (x_mod (XE.bor (x_mul (XE.bor (x_ix (x_b 0) (XE.bor x_int))) (XE.bor (x_ix (x_b 0) (XE.bor x_int))))) (XE.bor x_int)))
  (s_cons (s_setX (x_mod (XE.bor (x_add (XE.bor (x_add (x_b 3) (XE.bor (x_mul (XE.bor (x_mul (XE.bor x_int) (XE.bor (x_ix (x_b 0) (XE.bor x_int))))) (XE.bor (x_ix (x_b 0) (XE.bor x_int))))))) (XE.bor x_int))) (XE.bor x_int)) (x_v 0) (XE.bor x_int))
  (s_one (s_ret (x_mod (XE.bor (x_fdiv (XE.bor (x_ix (x_b 0) (XE.bor x_int))) (XE.bor x_int))) (x_b 1))))))))⟩
/-! _law_arcs -/
abbrev s__law_arcs : Stmt := top 19
abbrev N__law_arcs : List Str := ["sums", "cell", "side", "tip", "found", "others", "sort", "here", "one"]
theorem sc__law_arcs : FnScope N__law_arcs ["sums", "cell", "side", "tip"] (defScope s__law_arcs) := ⟨rfl, rfl, rfl, by decide +kernel, rfl, by decide +kernel, by decide +kernel⟩
def l1__law_arcs : SM := (mSeq (mSet (gN 7) (e2 dIn (eB 3) (eTrn (aC (eC (.int 0)) (aC (e2 dSub (eB 6) (eC (.int 3))) aN)))))
  (mIf (tE (e2 dEq (eFrz (lLc (iSeq (eB 5)) (gN 8) (tE (e2 dEq (e2 dIn (eB 8) (eTrn (aC (eC (.int 0)) (aC (e2 dSub (eB 6) (eC (.int 3))) aN)))) (eB 7))) (eC (.int 1)) [8])) (eFrz (lLst aN)))) (mSet (gN 4) (e2 dAdd (eB 4) (e2 dIdx (eB 0) (e2 dAdd (e2 dMul (eC (.int 7)) (eB 1)) (eB 6))))) mNil))
def b__law_arcs : SM := (mSeq (mSet (gN 4) (e2 dIdx (eB 0) (e2 dAdd (e2 dMul (eC (.int 7)) (eB 1)) (eB 3))))
  (mSeq (mSet (gN 5) (eFrz (lLc (iRange1 (eC (.int 4))) (gN 8) (tE (e2 dNotIn (eB 8) (eTrn (aC (eV 2) (aC (eV 3) aN))))) (eV 8) [8])))
  (mSeq (mFor (iRange2 (eC (.int 4)) (eC (.int 7))) (gN 6) l1__law_arcs)
  (mRet (eV 4)))))
def m__law_arcs : FM := runA 4 9 b__law_arcs
theorem d__law_arcs {P : Program} {w : World} {K : PySem.W.Frag} {mg : Str → Option Value} {base : Heap} (nm : Nm K mg) : Body P w K mg base N__law_arcs "_law_arcs" s__law_arcs 0 b__law_arcs := fun f cdv A outer s H E hr =>
  have nd := sc__law_arcs.nd
  ⟨_, (s_cons (s_set 4 nd (x_ix (x_b 0) (XE.bor (x_add (XE.bor (x_mul (XE.bor x_int) (x_b 1))) (x_b 3)))))
  (s_cons (s_lcF 5 rfl nd (own := [("one", 8)]) (i_range1 nm.f_range (XE.bor x_int)) (by rfl) (by intros; exact ⟨_, (g_n 8 nd)⟩) (by intros; exact ⟨_, (ts_one (t_notIn (hu65 hr) (x_b 8) (XE.bor (x_trn (a_cons (x_v 2) (a_cons (x_v 3) a_nil))))))⟩) (by intros; exact ⟨_, (x_v 8)⟩))
  (s_cons (s_for PassesOwn.never rfl (i_range2 nm.f_range (XE.bor x_int) (XE.bor x_int)) (g_n 6 nd) (s_cons (s_set 7 nd (x_in (hu65 hr) (x_b 3) (XE.bor (x_trn (a_cons x_int (a_cons (x_sub (x_b 6) (XE.bor x_int)) a_nil))))))
  (s_one (s_if (t_eq (hu hr) (XE.bor (XL.frz (l_lc rfl nd (own := [("one", 8)]) (i_seqB (x_b 5)) (by rfl) (by intros; exact ⟨_, (g_n 8 nd)⟩) (by intros; exact ⟨_, (ts_one (t_eq (hu hr) (XE.bor (x_in (hu65 hr) (x_b 8) (XE.bor (x_trn (a_cons x_int (a_cons (x_sub (x_b 6) (XE.bor x_int)) a_nil)))))) (x_b 7)))⟩) (by intros; exact ⟨_, x_int⟩)))) (XE.bor (XL.frz (l_lst a_nil)))) (s_one (s_set 4 nd (x_add (x_b 4) (XE.bor (x_ix (x_b 0) (XE.bor (x_add (XE.bor (x_mul (XE.bor x_int) (x_b 1))) (x_b 6)))))))) s_nil))))
  (s_one (s_ret (x_v 4))))))⟩
/-! are_numbers -/
abbrev s_are_numbers : Stmt := top 10
abbrev N_are_numbers : List Str := ["numbers", "many", "number"]
theorem sc_are_numbers : FnScope N_are_numbers ["numbers", "many"] (defScope s_are_numbers) := ⟨rfl, rfl, rfl, by decide +kernel, rfl, by decide +kernel, by decide +kernel⟩
def b_are_numbers : SM := (mSeq (mIf (tOr (tNot (tE (e1 (dIsi ["list", "tuple"]) (eB 0)))) (tE (e2 dNe (e1 dLen (eB 0)) (eB 1)))) (mRet (eC (.bl false))) mNil)
  (mRet (e1 dAll (eFrz (lLc (iSeq (eB 0)) (gN 2) tYes (eA m_is_whole (aC (eV 2) aN)) [2])))))
def m_are_numbers : FM := runA 2 3 b_are_numbers
theorem d_are_numbers {P : Program} {w : World} {K : PySem.W.Frag} {mg : Str → Option Value} {base : Heap} (nm : Nm K mg) (D_is_whole : DefOk P w K mg base CX0 "is_whole" 1 (sp0 K 1 m_is_whole)) : Body P w K mg base N_are_numbers "are_numbers" s_are_numbers 1 b_are_numbers := fun f cdv A outer s H E hr =>
  have nd := sc_are_numbers.nd
  ⟨_, (s_cons (s_if (XW.tst (w_or (t_not (t_val (XE.bor (x_isi2 (by decide) (by decide) ty_list ty_tuple nm.f_isinstance nm.f_list nm.f_tuple (x_b 0))))) (w_or1 (t_ne (hu hr) (XE.bor (x_len nm.f_len (x_b 0))) (x_b 1))))) (s_one (s_ret x_bl)) s_nil)
  (s_one (s_ret (x_all rfl nm.f_all (XE.bor (XL.frz (l_lc rfl nd (own := [("number", 2)]) (i_seqB (x_b 0)) (by rfl) (by intros; exact ⟨_, (g_n 2 nd)⟩) (by intros; exact ⟨_, ts_nil⟩) (by intros; exact ⟨_, (x_call D_is_whole runA_bad hr (by omega) (a_cons (x_v 2) a_nil))⟩))))))))⟩
/-! is_place -/
abbrev s_is_place : Stmt := top 12
abbrev N_is_place : List Str := ["thing", "many"]
theorem sc_is_place : FnScope N_is_place ["thing", "many"] (defScope s_is_place) := ⟨rfl, rfl, rfl, by decide +kernel, rfl, by decide +kernel, by decide +kernel⟩
def b_is_place : SM := (mRet (eIf (tE (eA m_is_whole (aC (eV 0) aN))) (e2 dLt (eB 0) (eB 1)) (eC (.bl false))))
def m_is_place : FM := runA 2 2 b_is_place
theorem d_is_place {P : Program} {w : World} {K : PySem.W.Frag} {mg : Str → Option Value} {base : Heap} (nm : Nm K mg) (D_is_whole : DefOk P w K mg base CX0 "is_whole" 1 (sp0 K 1 m_is_whole)) : Body P w K mg base N_is_place "is_place" s_is_place 1 b_is_place := fun f cdv A outer s H E hr =>
  have nd := sc_is_place.nd
  ⟨_, (s_one (s_ret (v_and (x_call D_is_whole runA_bad hr (by omega) (a_cons (x_v 0) a_nil)) (v_one (x_lt (x_b 0) (x_b 1))))))⟩
/-! arcs_at -/
abbrev s_arcs_at : Stmt := top 14
abbrev N_arcs_at : List Str := ["numbers", "block", "face", "corner", "at"]
theorem sc_arcs_at : FnScope N_arcs_at ["numbers", "block", "face", "corner"] (defScope s_arcs_at) := ⟨rfl, rfl, rfl, by decide +kernel, rfl, by decide +kernel, by decide +kernel⟩
def b_arcs_at : SM := (mSeq (mSet (gN 4) (e2 dMul (eC (.int 7)) (eB 1)))
  (mRet (e2 dAdd (e2 dIdx (eB 0) (e2 dAdd (eB 4) (eB 3))) (e2 dIdx (eB 0) (e2 dAdd (eB 4) (eA m_quad_of (aC (eV 3) (aC (eV 2) aN))))))))
def m_arcs_at : FM := runA 4 5 b_arcs_at
theorem d_arcs_at {P : Program} {w : World} {K : PySem.W.Frag} {mg : Str → Option Value} {base : Heap} (nm : Nm K mg) (D_quad_of : DefOk P w K mg base CX0 "quad_of" 1 (sp0 K 2 m_quad_of)) : Body P w K mg base N_arcs_at "arcs_at" s_arcs_at 1 b_arcs_at := fun f cdv A outer s H E hr =>
  have nd := sc_arcs_at.nd
  ⟨_, (s_cons (s_set 4 nd (x_mul (XE.bor (x_gInt nm.i_SORTS.choose_spec)) (x_b 1)))
  (s_one (s_ret (x_add (XE.bor (x_ix (x_b 0) (XE.bor (x_add (x_b 4) (x_b 3))))) (XE.bor (x_ix (x_b 0) (XE.bor (x_add (x_b 4) (XE.bor (x_call D_quad_of runA_bad hr (by omega) (a_cons (x_v 3) (a_cons (x_v 2) a_nil))))))))))))⟩
/-! need_numbers -/
abbrev s_need_numbers : Stmt := top 11
abbrev N_need_numbers : List Str := ["numbers", "many"]
theorem sc_need_numbers : FnScope N_need_numbers ["numbers", "many"] (defScope s_need_numbers) := ⟨rfl, rfl, rfl, by decide +kernel, rfl, by decide +kernel, by decide +kernel⟩
def b_need_numbers : SM := (mIf (tNot (tE (eA m_are_numbers (aC (eV 0) (aC (eV 1) aN))))) mBad mNil)
def m_need_numbers : FM := runA 2 2 b_need_numbers
theorem d_need_numbers {P : Program} {w : World} {K : PySem.W.Frag} {mg : Str → Option Value} {base : Heap} (nm : Nm K mg) (D_are_numbers : DefOk P w K mg base CX0 "are_numbers" 2 (sp0 K 2 m_are_numbers)) : Body P w K mg base N_need_numbers "need_numbers" s_need_numbers 2 b_need_numbers := fun f cdv A outer s H E hr =>
  have nd := sc_need_numbers.nd
  ⟨_, (s_one (s_if (t_not (t_val (XE.bor (x_call D_are_numbers runA_bad hr (by omega) (a_cons (x_v 0) (a_cons (x_v 1) a_nil)))))) (s_one s_bad) s_nil))⟩
/-! arcs -/
abbrev s_arcs : Stmt := top 15
abbrev N_arcs : List Str := ["numbers", "block", "face", "corner", "many"]
theorem sc_arcs : FnScope N_arcs ["numbers", "block", "face", "corner"] (defScope s_arcs) := ⟨rfl, rfl, rfl, by decide +kernel, rfl, by decide +kernel, by decide +kernel⟩
def b_arcs : SM := (mSeq (mSet (gN 4) (eIf (tE (e1 (dIsi ["list", "tuple"]) (eB 0))) (e2 dFdiv (e1 dLen (eB 0)) (eC (.int 7))) (eC (.int 0))))
  (mSeq (mDrop (eA m_need_numbers (aC (eV 0) (aC (e2 dMul (eC (.int 7)) (e2 dMax2 (eC (.int 1)) (eB 4))) aN))))
  (mSeq (mIf (tOr (tNot (tE (eA m_is_place (aC (eV 1) (aC (eV 4) aN))))) (tNot (tE (eA m_is_place (aC (eV 2) (aC (e1 dLen (eC c_CORNERS)) aN)))))) mBad mNil)
  (mSeq (mIf (tOr (tNot (tE (eA m_is_place (aC (eV 3) (aC (e1 dLen (eC c_CORNERS)) aN))))) (tE (e2 dEq (eB 3) (eB 2)))) mBad mNil)
  (mRet (eA m_arcs_at (aC (eV 0) (aC (eV 1) (aC (eV 2) (aC (eV 3) aN))))))))))
def m_arcs : FM := runA 4 5 b_arcs
theorem d_arcs {P : Program} {w : World} {K : PySem.W.Frag} {mg : Str → Option Value} {base : Heap} (nm : Nm K mg) (D_need_numbers : DefOk P w K mg base CX0 "need_numbers" 3 (sp0 K 2 m_need_numbers)) (D_is_place : DefOk P w K mg base CX0 "is_place" 2 (sp0 K 2 m_is_place)) (D_arcs_at : DefOk P w K mg base CX0 "arcs_at" 2 (sp0 K 4 m_arcs_at)) : Body P w K mg base N_arcs "arcs" s_arcs 3 b_arcs := fun f cdv A outer s H E hr =>
  have nd := sc_arcs.nd
  ⟨_, (s_cons (s_set 4 nd (x_ifE (t_val (XE.bor (x_isi2 (by decide) (by decide) ty_list ty_tuple nm.f_isinstance nm.f_list nm.f_tuple (x_b 0)))) (x_fdiv (XE.bor (x_len nm.f_len (x_b 0))) (XE.bor (x_gInt nm.i_SORTS.choose_spec))) x_int))
  (s_cons (s_expr (XE.bor (x_call D_need_numbers runA_bad hr (by omega) (a_cons (x_v 0) (a_cons (x_mul (XE.bor (x_gInt nm.i_SORTS.choose_spec)) (XE.bor (x_max2 rfl nm.f_max (XE.bor x_int) (x_b 4)))) a_nil)))))
  (s_cons (s_if (XW.tst (w_or (t_not (t_val (XE.bor (x_call D_is_place runA_bad hr (by omega) (a_cons (x_v 1) (a_cons (x_v 4) a_nil)))))) (w_or1 (t_not (t_val (XE.bor (x_call D_is_place runA_bad hr (by omega) (a_cons (x_v 2) (a_cons (x_len nm.f_len (XE.bor (x_gVal nm.r_CORNERS nm.g_CORNERS))) a_nil))))))))) (s_one s_bad) s_nil)
  (s_cons (s_if (XW.tst (w_or (t_not (t_val (XE.bor (x_call D_is_place runA_bad hr (by omega) (a_cons (x_v 3) (a_cons (x_len nm.f_len (XE.bor (x_gVal nm.r_CORNERS nm.g_CORNERS))) a_nil)))))) (w_or1 (t_eq (hu hr) (x_b 3) (x_b 2))))) (s_one s_bad) s_nil)
  (s_one (s_ret (x_call D_arcs_at runA_bad hr (by omega) (a_cons (x_v 0) (a_cons (x_v 1) (a_cons (x_v 2) (a_cons (x_v 3) a_nil)))))))))))⟩
/-! _law_right -/
abbrev s__law_right : Stmt := top 20
abbrev N__law_right : List Str := ["sums", "handed", "cell", "side", "tip", "found"]
theorem sc__law_right : FnScope N__law_right ["sums", "handed"] (defScope s__law_right) := ⟨rfl, rfl, rfl, by decide +kernel, rfl, by decide +kernel, by decide +kernel⟩
def l1__law_right : SM := (mIf (tE (e2 dNe (eB 4) (eB 3))) (mSeq (mSet (gN 5) (eA2 3 1 m_arcs (aC (eV 1) (aC (eV 2) (aC (eV 3) aN))) (aC (eV 4) aN)))
  (mIf (tE (e2 dNe (e1 dRepr (eB 5)) (e1 dRepr (eA m__law_arcs (aC (eV 0) (aC (eV 2) (aC (eV 3) (aC (eV 4) aN)))))))) (mRet (eC (.bl false))) mNil)) mNil)
def l2__law_right : SM := (mFor (iRange1 (eC (.int 4))) (gN 4) l1__law_right)
def l3__law_right : SM := (mFor (iRange1 (eC (.int 4))) (gN 3) l2__law_right)
def b__law_right : SM := (mSeq (mFor (iRange1 (e2 dFdiv (e1 dLen (eB 0)) (eC (.int 7)))) (gN 2) l3__law_right)
  (mRet (e2 dEq (eFrz (l1 lList (eB 1))) (eB 0))))
def m__law_right : FM := runA 2 6 b__law_right
theorem d__law_right {P : Program} {w : World} {K : PySem.W.Frag} {mg : Str → Option Value} {base : Heap} (nm : Nm K mg) (D_arcs : DefOkK P w K mg base CX0 "arcs" 4 3 ["corner"] (sp0 K 4 m_arcs)) (D__law_arcs : DefOk P w K mg base CX0 "_law_arcs" 1 (sp0 K 4 m__law_arcs)) : Body P w K mg base N__law_right "_law_right" s__law_right 4 b__law_right := fun f cdv A outer s H E hr =>
  have nd := sc__law_right.nd
  ⟨_, (s_cons (s_for PassesOwn.never rfl (i_range1 nm.f_range (XE.bor (x_fdiv (XE.bor (x_len nm.f_len (x_b 0))) (XE.bor x_int)))) (g_n 2 nd) (s_one (s_for PassesOwn.never rfl (i_range1 nm.f_range (XE.bor x_int)) (g_n 3 nd) (s_one (s_for PassesOwn.never rfl (i_range1 nm.f_range (XE.bor x_int)) (g_n 4 nd) (s_one (s_if (t_ne (hu hr) (x_b 4) (x_b 3)) (s_cons (s_set 5 nd (x_callK D_arcs runA_bad hr (by omega) (a_cons (x_v 1) (a_cons (x_v 2) (a_cons (x_v 3) a_nil))) (k_cons (x_v 4) k_nil)))
  (s_one (s_if (t_ne (hu hr) (XE.bor (x_repr hr nm.f_repr (x_b 5))) (XE.bor (x_repr hr nm.f_repr (XE.bor (x_call D__law_arcs runA_bad hr (by omega) (a_cons (x_v 0) (a_cons (x_v 2) (a_cons (x_v 3) (a_cons (x_v 4) a_nil))))))))) (s_one (s_ret x_bl)) s_nil))) s_nil)))))))
  (s_one (s_ret (x_eq (hu hr) (XE.bor (XL.frz (l_list nm.f_list (x_b 1)))) (x_b 0)))))⟩
/-! law -/
abbrev s_law : Stmt := top 21
abbrev N_law : List Str := ["script", "spring", "turn", "size", "kind", "sums", "k", "handed", "at", "side", "tip"]
theorem sc_law : FnScope N_law ["script"] (defScope s_law) := ⟨rfl, rfl, rfl, by decide +kernel, rfl, by decide +kernel, by decide +kernel⟩
def l1_law : SM := (mApp 5 (e2 dIdx (eFrz (lLst (aC (eA m__law_draw (aC (eV 1) (aC (eC (.int 3)) aN))) (aC (eA m__law_draw (aC (eV 1) (aC (eC (.int 30)) aN))) (aC (eA m__law_draw (aC (eV 1) (aC (e2 dPow (eC (.int 10)) (eC (.int 30))) aN))) aN))))) (eB 4)))
def l2_law : SM := (mSeq (mSet (gN 3) (e2 dMul (eC (.int 7)) (e2 dAdd (eC (.int 1)) (eA m__law_draw (aC (eV 1) (aC (e2 dIdx (eFrz (lLst (aC (eC (.int 3)) (aC (eC (.int 12)) aN)))) (eA m__law_draw (aC (eV 1) (aC (eC (.int 2)) aN)))) aN))))))
  (mSeq (mSet (gN 4) (eA m__law_draw (aC (eV 1) (aC (eC (.int 3)) aN))))
  (mSeq (mSet (gN 5) (eNew (lLst aN)))
  (mSeq (mFor (iRange1 (eB 3)) (gN 6) l1_law)
  (mSeq (mSet (gN 7) (eIf (tE (e2 dEq (eA m__law_draw (aC (eV 1) (aC (eC (.int 3)) aN))) (eC (.int 0)))) (e1 dTrn (eB 5)) (eNew (l1 lList (eB 5)))))
  (mSeq (mIf (tNot (tE (eA m__law_right (aC (eV 5) (aC (eV 7) aN))))) (mRet (eC (.bl false))) mNil)
  (mSeq (mIf (tE (e1 (dIsi ["list"]) (eB 7))) (mSeq (mSet (gN 8) (eA m__law_draw (aC (eV 1) (aC (eV 3) aN))))
  (mSeq (mSetE (eV 7) (eB 8) (eA m__law_draw (aC (eV 1) (aC (eC (.int 9)) aN))))
  (mSeq (mSetE (eV 5) (eB 8) (e2 dIdx (eB 7) (eB 8)))
  (mIf (tNot (tE (eA m__law_right (aC (eV 5) (aC (eV 7) aN))))) (mRet (eC (.bl false))) mNil)))) mNil)
  (mSeq (mSet (gN 9) (eA m__law_draw (aC (eV 1) (aC (eC (.int 4)) aN))))
  (mSeq (mSet (gN 10) (e2 dMod (e2 dAdd (e2 dAdd (eB 9) (eC (.int 1))) (eA m__law_draw (aC (eV 1) (aC (eC (.int 3)) aN)))) (eC (.int 4))))
  (mIf (tE (e2 dNe (eA2 3 1 m_arcs (aC (eV 7) (aC (eC (.int 0)) (aC (eV 9) aN))) (aC (eV 10) aN)) (eA m__law_arcs (aC (eV 5) (aC (eC (.int 0)) (aC (eV 9) (aC (eV 10) aN))))))) (mRet (eC (.bl false))) mNil))))))))))
def b_law : SM := (mSeq (mSet (gN 1) (eA m__law_spring (aC (eV 0) aN)))
  (mSeq (mFor (iRange1 (e2 dAdd (eC (.int 1)) (e2 dMin2 (e1 dLen (eB 0)) (eC (.int 4))))) (gN 2) l2_law)
  (mRet (eC (.bl true)))))
def m_law : FM := runA 1 11 b_law
theorem d_law {P : Program} {w : World} {K : PySem.W.Frag} {mg : Str → Option Value} {base : Heap} (nm : Nm K mg) (D__law_spring : DefOk P w K mg base CX0 "_law_spring" 1 (sp0 K 1 m__law_spring)) (D__law_draw : DefOk P w K mg base CX0 "_law_draw" 1 (sp0 K 2 m__law_draw)) (D__law_right : DefOk P w K mg base CX0 "_law_right" 5 (sp0 K 2 m__law_right)) (D_arcs : DefOkK P w K mg base CX0 "arcs" 4 3 ["corner"] (sp0 K 4 m_arcs)) (D__law_arcs : DefOk P w K mg base CX0 "_law_arcs" 1 (sp0 K 4 m__law_arcs)) : Body P w K mg base N_law "law" s_law 5 b_law := fun f cdv A outer s H E hr =>
  have nd := sc_law.nd
  ⟨_, (s_cons (s_set 1 nd (x_call D__law_spring runA_bad hr (by omega) (a_cons (x_v 0) a_nil)))
  (s_cons (s_for PassesOwn.never rfl (i_range1 nm.f_range (XE.bor (x_add (XE.bor x_int) (XE.bor (x_min2 rfl nm.f_min (XE.bor (x_len nm.f_len (x_b 0))) (XE.bor x_int)))))) (g_n 2 nd) (s_cons (s_set 3 nd (x_mul (XE.bor x_int) (XE.bor (x_add (XE.bor x_int) (XE.bor (x_call D__law_draw runA_bad hr (by omega) (a_cons (x_v 1) (a_cons (x_ix (XE.bor (XL.frz (l_lst (a_cons x_int (a_cons x_int a_nil))))) (XE.bor (x_call D__law_draw runA_bad hr (by omega) (a_cons (x_v 1) (a_cons x_int a_nil))))) a_nil))))))))
  (s_cons (s_set 4 nd (x_call D__law_draw runA_bad hr (by omega) (a_cons (x_v 1) (a_cons x_int a_nil))))
  (s_cons (s_set 5 nd (XL.new (l_lst a_nil)))
  (s_cons (s_for PassesOwn.never rfl (i_range1 nm.f_range (x_b 3)) (g_n 6 nd) (s_one (s_appV 5 (x_ix (XE.bor (XL.frz (l_lst (a_cons (x_call D__law_draw runA_bad hr (by omega) (a_cons (x_v 1) (a_cons x_int a_nil))) (a_cons (x_call D__law_draw runA_bad hr (by omega) (a_cons (x_v 1) (a_cons x_int a_nil))) (a_cons (x_call D__law_draw runA_bad hr (by omega) (a_cons (x_v 1) (a_cons (x_pow (XE.bor x_int) (XE.bor x_int)) a_nil))) a_nil)))))) (x_b 4)))))
  (s_cons (s_set 7 nd (x_ifE (t_eq (hu hr) (XE.bor (x_call D__law_draw runA_bad hr (by omega) (a_cons (x_v 1) (a_cons x_int a_nil)))) (XE.bor x_int)) (x_tupleN nm.f_tuple (x_b 5)) (XL.new (l_list nm.f_list (x_b 5)))))
  (s_cons (s_if (t_not (t_val (XE.bor (x_call D__law_right runA_bad hr (by omega) (a_cons (x_v 5) (a_cons (x_v 7) a_nil)))))) (s_one (s_ret x_bl)) s_nil)
  (s_cons (s_if (t_val (XE.bor (x_isi (by decide) ty_list nm.f_isinstance nm.f_list (x_b 7)))) (s_cons (s_set 8 nd (x_call D__law_draw runA_bad hr (by omega) (a_cons (x_v 1) (a_cons (x_v 3) a_nil))))
  (s_cons (s_setX (x_call D__law_draw runA_bad hr (by omega) (a_cons (x_v 1) (a_cons x_int a_nil))) (x_v 7) (x_b 8))
  (s_cons (s_setX (x_ix (x_b 7) (x_b 8)) (x_v 5) (x_b 8))
  (s_one (s_if (t_not (t_val (XE.bor (x_call D__law_right runA_bad hr (by omega) (a_cons (x_v 5) (a_cons (x_v 7) a_nil)))))) (s_one (s_ret x_bl)) s_nil))))) s_nil)
  (s_cons (s_set 9 nd (x_call D__law_draw runA_bad hr (by omega) (a_cons (x_v 1) (a_cons x_int a_nil))))
  (s_cons (s_set 10 nd (x_mod (XE.bor (x_add (XE.bor (x_add (x_b 9) (XE.bor x_int))) (XE.bor (x_call D__law_draw runA_bad hr (by omega) (a_cons (x_v 1) (a_cons x_int a_nil)))))) (XE.bor x_int)))
  (s_one (s_if (t_ne (hu hr) (XE.bor (x_callK D_arcs runA_bad hr (by omega) (a_cons (x_v 7) (a_cons x_int (a_cons (x_v 9) a_nil))) (k_cons (x_v 10) k_nil))) (XE.bor (x_call D__law_arcs runA_bad hr (by omega) (a_cons (x_v 5) (a_cons x_int (a_cons (x_v 9) (a_cons (x_v 10) a_nil))))))) (s_one (s_ret x_bl)) s_nil))))))))))))
  (s_one (s_ret x_bl))))⟩
end LW
end

section
namespace LW
open PySem BR
abbrev spr (a b c : Int) : Option BR.D := some (.lst [.int a, .int b, .int c])

theorem at0 {a b c : BR.D} : L2.atI [a, b, c] 0 = some a := rfl
theorem at1 {a b c : BR.D} : L2.atI [a, b, c] 1 = some b := rfl
theorem at2 {a b c : BR.D} : L2.atI [a, b, c] 2 = some c := rfl
theorem ix0 : L2.ixN 3 0 = some 0 := rfl
theorem ix1 : L2.ixN 3 1 = some 1 := rfl
theorem ix2 : L2.ixN 3 2 = some 2 := rfl
theorem lstAt_of {S : Store} {k : Nat} {xs : List BR.D} (h : S[k]? = some (some (.lst xs))) : lstAt S k = some xs := by simp [lstAt, h]
theorem draw_ok {S : Store} {k : Nat} {a b c many : Int} (h : S[k]? = some (spr a b c)) (hb : 0 ≤ b ∧ b < 2305843009213693951) (hc : 0 ≤ c ∧ c < 1000000000) (hm : 0 < many) (hm2 : many < 2 ^ 200) :
    ∃ i a' b' c', m__law_draw [.ref k, .int many] S = .ok (.int i) (S.set k (spr a' b' c')) ∧ (0 ≤ i ∧ i < many) ∧ (0 ≤ b' ∧ b' < 2305843009213693951) ∧ (0 ≤ c' ∧ c' ≤ c + 1) := by
  have hk : k < S.length := by
    by_cases q : k < S.length
    · exact q
    · rw [List.getElem?_eq_none_iff.mpr (by omega)] at h; cases h
  have hl : many.natAbs.log2 < 9000 := by
    have : many.natAbs.log2 < 200 := log2_lt (by omega) (by decide)
    omega
  have g1 : b.natAbs.log2 < 61 := log2_lt (by omega) (by decide)
  have g2 : (c + 1).natAbs.log2 < 31 := log2_lt (by omega) (by decide)
  have g3 : ((7919 : Int) * (c + 1)).natAbs.log2 < 50 := log2_lt (by omega) (by decide)
  have g4 : (7919 : Int).natAbs.log2 < 13 := by decide
  have s2 : lstAt S k = some [.int a, .int b, .int c] := lstAt_of h
  have gs : ∀ x, (S.set k x)[k]? = some x := fun x => List.getElem?_set_self hk
  by_cases ha : 0 < a
  · refine ⟨a % many, a / many, b, c, ?_, ⟨Int.emod_nonneg _ (by omega), Int.emod_lt_of_pos _ hm⟩, hb, by omega⟩
    simp [m__law_draw, b__law_draw, BR.start, dIdx, at0, h, ha, p_mod hm, p_fdiv hm hl, s2, ix0]
  · refine ⟨(b * b % 2305843009213693951 + 7919 * (c + 1) * b + 104729) % 2305843009213693951 / 65537 % many, a, (b * b % 2305843009213693951 + 7919 * (c + 1) * b + 104729) % 2305843009213693951, c + 1, ?_, ⟨Int.emod_nonneg _ (by omega), Int.emod_lt_of_pos _ hm⟩, ⟨Int.emod_nonneg _ (by decide), Int.emod_lt_of_pos _ (by decide)⟩, by omega⟩
    simp [m__law_draw, b__law_draw, BR.start, dIdx, at0, at1, at2, h, ha, s2, ix0, ix1, ix2, lstAt, gs, p_mul (show b.natAbs.log2 + b.natAbs.log2 < 1000000 by omega), p_mul (show (7919 : Int).natAbs.log2 + (c + 1).natAbs.log2 < 1000000 by omega),
      p_mul (show (7919 * (c + 1)).natAbs.log2 + b.natAbs.log2 < 1000000 by omega), p_mod hm, p_mod (show (0 : Int) < 2305843009213693951 by decide), p_fdiv (show (0 : Int) < 65537 by decide) (by decide)]
def t18 : Int := 10 ^ 18
def t30 : Int := 10 ^ 30
def t60 : Int := 10 ^ 60
theorem ten60 {S : Store} : dPow (.int 10) (.int 60) S = .ok (.int t60) S := by rw [p_pow (by decide)]; rfl
theorem ten18 {S : Store} : dPow (.int 10) (.int 18) S = .ok (.int t18) S := by rw [p_pow (by decide)]; rfl
theorem ten30 {S : Store} : dPow (.int 10) (.int 30) S = .ok (.int t30) S := by rw [p_pow (by decide)]; rfl
theorem t60_pos : 0 < t60 := by decide
theorem ten_mono {i j : Nat} (h : i ≤ j) : (10 : Int) ^ i ≤ 10 ^ j := by
  have := Nat.pow_le_pow_right (n := 10) (by decide) h
  have e : ∀ k : Nat, (10 : Int) ^ k = ((10 ^ k : Nat) : Int) := fun k => by simp
  rw [e, e]
  exact Int.ofNat_le.mpr this
theorem spring_ok (ns : List Int) (hn : ns.length ≤ 63) : ∃ a b, m__law_spring [.scr (ns.map BR.D.int)] [] = .ok (.ref 0) [spr a b 0] ∧ (0 ≤ b ∧ b < 2305843009213693951) := by
  obtain ⟨ms, e, hl⟩ := cutD_map ns none (some 63)
  have hp : ∀ i : Nat, i ≤ 64 → (10 : Int) ^ (60 * i) ≤ 10 ^ 3840 := fun i hi => ten_mono (by omega)
  obtain ⟨r2, S2, e2, f, s, x, rfl, rfl, h1, h2⟩ := forGo_inv (g := gN 3) (b := l1__law_spring) (ds := ms.map BR.D.int)
    (fun i r S => ∃ f s x, S = [] ∧ r = [.val (.scr (ns.map BR.D.int)), .val (.int f), .val (.int s), x] ∧ (0 ≤ f ∧ f < 10 ^ (60 * i)) ∧ (0 ≤ s ∧ s < 2305843009213693951)) (fun i d r S hd h => by
      obtain ⟨f, s, x, rfl, rfl, hf, hs⟩ := h
      have hi : i < 63 := by
        have := (List.getElem?_eq_some_iff.mp hd).1
        rw [List.length_map] at this
        omega
      rw [List.getElem?_map] at hd
      cases q : ms[i]? with
      | none => rw [q] at hd; cases hd
      | some z =>
        rw [q] at hd
        cases hd
        have hpi := hp i (by omega)
        have g0 : f.natAbs.log2 < 13000 := log2_lt (by
          have : (10 : Int) ^ 3840 < 2 ^ 13000 := by decide +kernel
          omega) (by decide)
        have g1 : t60.natAbs.log2 < 200 := log2_lt (by decide) (by decide)
        have g2 : s.natAbs.log2 < 61 := log2_lt (by omega) (by decide)
        have g3 : (69069 : Int).natAbs.log2 < 20 := by decide
        have hs2 : ∀ y : Int, 0 ≤ y % 2305843009213693951 ∧ y % 2305843009213693951 < 2305843009213693951 := fun y => ⟨Int.emod_nonneg _ (by decide), Int.emod_lt_of_pos _ (by decide)⟩
        have key : ∀ f' s' : Int, (0 ≤ f' ∧ f' < 10 ^ (60 * (i + 1))) → (0 ≤ s' ∧ s' < 2305843009213693951) → ∃ f s x, ([] : Store) = [] ∧ ([.val (.scr (ns.map BR.D.int)), .val (.int f'), .val (.int s'), .val (.int z)] : BR.Env) = [.val (.scr (ns.map BR.D.int)), .val (.int f), .val (.int s), x] ∧ (0 ≤ f ∧ f < 10 ^ (60 * (i + 1))) ∧ (0 ≤ s ∧ s < 2305843009213693951) := fun f' s' a b => ⟨f', s', _, rfl, rfl, a, b⟩
        have mono : (10 : Int) ^ (60 * i) ≤ 10 ^ (60 * (i + 1)) := ten_mono (by omega)
        by_cases c : t18 ≤ (if z < 0 then -z else z)
        · refine ⟨_, _, _, rfl, .inl ?_, key (f * t60 + (if z < 0 then -z else z) % t60) ((s * 69069 + z % 2305843009213693921 + 7) % 2305843009213693951) ?_ (hs2 _)⟩
          · simp [l1__law_spring, ten18, ten60, c, p_mul (show f.natAbs.log2 + t60.natAbs.log2 < 1000000 by omega), p_mod t60_pos, p_mod (show (0 : Int) < 2305843009213693921 by decide), p_mod (show (0 : Int) < 2305843009213693951 by decide), p_mul (show s.natAbs.log2 + (69069 : Int).natAbs.log2 < 1000000 by omega)]
          · have m1 : 0 ≤ (if z < 0 then -z else z) % t60 := Int.emod_nonneg _ (by decide)
            have m2 : (if z < 0 then -z else z) % t60 < t60 := Int.emod_lt_of_pos _ t60_pos
            have e3 : (10 : Int) ^ (60 * (i + 1)) = 10 ^ (60 * i) * t60 := by rw [show 60 * (i + 1) = 60 * i + 60 by omega, Int.pow_add]; rfl
            rw [e3]
            have m3 : f * t60 ≤ (10 ^ (60 * i) - 1) * t60 := Int.mul_le_mul_of_nonneg_right (by omega) (by decide)
            have m4 : 0 ≤ f * t60 := Int.mul_nonneg hf.1 (by decide)
            have m5 : (10 ^ (60 * i) - 1) * t60 = 10 ^ (60 * i) * t60 - t60 := by rw [Int.sub_mul, Int.one_mul]
            constructor <;> omega
        · refine ⟨_, _, _, rfl, .inl ?_, key f ((s * 69069 + z % 2305843009213693921 + 7) % 2305843009213693951) ⟨hf.1, by omega⟩ (hs2 _)⟩
          simp [l1__law_spring, ten18, ten60, c, p_mod (show (0 : Int) < 2305843009213693921 by decide), p_mod (show (0 : Int) < 2305843009213693951 by decide), p_mul (show s.natAbs.log2 + (69069 : Int).natAbs.log2 < 1000000 by omega)])
    (r := [.val (.scr (ns.map BR.D.int)), .val (.int 0), .val (.int 88651), .no]) (S := []) ⟨0, 88651, .no, rfl, rfl, by simp, by decide⟩
  refine ⟨f, s, ?_, h2⟩
  simp [m__law_spring, b__law_spring, BR.start, e, e2, lim]
end LW

end

section
namespace LW
open PySem BR
/-- it reads as these numbers -/
def RdI (S : Store) (d : BR.D) (xs : List Int) : Prop := d = .trn (xs.map BR.D.int) ∨ ∃ k, d = .ref k ∧ S[k]? = some (some (.lst (xs.map BR.D.int)))
def At (xs : List Int) (i : Int) : Int := (xs[i.toNat]?).getD 0
theorem RdI.at {S : Store} {d : BR.D} {xs : List Int} (h : RdI S d xs) {i : Int} (h0 : 0 ≤ i) (h1 : i < xs.length) : dIdx d (.int i) S = .ok (.int (At xs i)) S := by
  have e : L2.atI (xs.map BR.D.int) i = some (.int (At xs i)) := by
    rw [atI_map, atI_int h0 (by omega)]
    simp only [Option.map_some, At]
    rw [List.getElem?_eq_getElem (by omega)]
    rfl
  rcases h with rfl | ⟨k, rfl, h⟩
  · simp [dIdx, e]
  · simp [dIdx, h, e]
theorem RdI.len {S : Store} {d : BR.D} {xs : List Int} (h : RdI S d xs) : dLen d S = .ok (.int xs.length) S := by
  rcases h with rfl | ⟨k, rfl, h⟩
  · simp [dLen]
  · simp [dLen, h]
theorem RdI.isi {S : Store} {d : BR.D} {xs : List Int} (h : RdI S d xs) : dIsi ["list", "tuple"] d S = .ok (.bl true) S := by
  rcases h with rfl | ⟨k, rfl, h⟩
  · simp [dIsi, tyD, subTy]
  · simp [dIsi, tyD, subTy, h]
theorem whole_ok {S : Store} {x : Int} : m_is_whole [.int x] S = .ok (.bl (decide (0 ≤ x))) S := by
  simp [m_is_whole, b_is_whole, BR.start, dIsi, tyD, subTy]
theorem blsD_true (ds : List BR.D) : blsD (ds.map fun _ => BR.D.bl true) = some (ds.map fun _ => true) := by
  induction ds with
  | nil => rfl
  | cons d ds ih => simp only [List.map_cons, blsD, ih, Option.map_some]
theorem numbers_ok {S : Store} {d : BR.D} {xs : List Int} (h : RdI S d xs) (hp : ∀ x ∈ xs, 0 ≤ x) (hl : xs.length ≤ 100000) : m_are_numbers [d, .int xs.length] S = .ok (.bl true) S := by
  have step : ∀ d' ∈ xs.map BR.D.int, ∃ r1, gN 2 d' (wipeE [.val d, .val (.int xs.length), .no] [2]) = some r1 ∧ tYes r1 S = .ok ((fun _ => true) d') S ∧ ((fun _ => true) d' = true → eA m_is_whole (aC (eV 2) aN) r1 S = .ok ((fun _ => BR.D.bl true) d') S) := by
    intro d' hd
    obtain ⟨x, hx, rfl⟩ := List.mem_map.mp hd
    refine ⟨_, rfl, rfl, fun _ => ?_⟩
    have := hp x hx
    simp [whole_ok, this]
  have fin : dAll (.lst ((xs.map BR.D.int).map fun _ => BR.D.bl true)) S = .ok (.bl true) S := by
    simp [dAll, lstS, lstD, blsD_true, -List.map_map]
  have hf : (xs.map BR.D.int).filter (fun _ => true) = xs.map BR.D.int := by simp
  have hi := h.isi
  have hlen := h.len
  rcases h with rfl | ⟨k, rfl, h⟩
  · have lc := lcGo_map (acc := []) (fun _ => true) (fun _ => BR.D.bl true) step (by simp [lim]; omega)
    rw [hf, List.nil_append] at lc
    simp only [p_wipeC, p_wipeN, List.set] at lc
    simp [m_are_numbers, b_are_numbers, BR.start, hi, hlen, lc, fin, -List.map_map]
  · have hla := lstAt_of h
    have lc := lcGoV_map hla (fun _ => true) (fun _ => BR.D.bl true) step fuel 0 [] (by simp [fuel]; omega) (by simp [lim]; omega)
    rw [List.drop_zero, hf, List.nil_append] at lc
    simp only [p_wipeC, p_wipeN, List.set] at lc
    simp [m_are_numbers, b_are_numbers, BR.start, hi, hlen, hla, lc, fin, -List.map_map]
def qd (s t : Int) : Int := if t = 0 ∨ s = 0 then 3 + t + s else 9 - t - s
theorem arcs_ok {S : Store} {d : BR.D} {xs : List Int} {n c s t : Int} (h : RdI S d xs) (hp : ∀ x ∈ xs, 0 ≤ x) (hl : xs.length ≤ 100000) (hn : (xs.length : Int) = 7 * n) (hc : 0 ≤ c ∧ c < n) (hs : 0 ≤ s ∧ s < 4) (ht : 0 ≤ t ∧ t < 4) (hst : t ≠ s) :
    m_arcs [d, .int c, .int s, .int t] S = .ok (.int (At xs (7 * c + t) + At xs (7 * c + qd s t))) S := by
  have hq : 4 ≤ qd s t ∧ qd s t < 7 := by unfold qd; split <;> omega
  have l7 : (7 : Int).natAbs.log2 < 3 := by decide
  have lc : c.natAbs.log2 < 30 := log2_lt (by omega) (by decide)
  have ln : n.natAbs.log2 < 30 := log2_lt (by omega) (by decide)
  have e1 : dMul (.int 7) (.int n) S = .ok (.int xs.length) S := by rw [p_mul (by omega), hn]
  have e2 : dMul (.int 7) (.int c) S = .ok (.int (7 * c)) S := p_mul (by omega)
  have e3 : dFdiv (.int xs.length) (.int 7) S = .ok (.int n) S := by rw [p_fdiv (by decide) (by decide), hn]; congr 2; omega
  have nn : m_need_numbers [d, .int xs.length] S = .ok .non S := by
    simp [m_need_numbers, b_need_numbers, BR.start, numbers_ok h hp hl]
  have qo : m_quad_of [.int t, .int s] S = .ok (.int (qd s t)) S := by
    by_cases a : t = 0
    · subst a
      simp [m_quad_of, b_quad_of, BR.start, qd]
    · by_cases b : s = 0
      · subst b; simp [m_quad_of, b_quad_of, BR.start, qd, a]
      · simp [m_quad_of, b_quad_of, BR.start, qd, a, b]
  have at_ : m_arcs_at [d, .int c, .int s, .int t] S = .ok (.int (At xs (7 * c + t) + At xs (7 * c + qd s t))) S := by
    simp [m_arcs_at, b_arcs_at, BR.start, e2, qo, h.at (show 0 ≤ 7 * c + t by omega) (by omega), h.at (show 0 ≤ 7 * c + qd s t by omega) (by omega)]
  have pl : ∀ x m : Int, 0 ≤ x → x < m → m_is_place [.int x, .int m] S = .ok (.bl true) S := fun x m h1 h2 => by
    simp [m_is_place, b_is_place, BR.start, whole_ok, h1, h2]
  have mx : (if n > 1 then n else 1) = n := by split <;> omega
  have l4 : dLen c_CORNERS S = .ok (.int 4) S := by simp [dLen, c_CORNERS]
  simp [m_arcs, b_arcs, BR.start, h.isi, h.len, e1, e3, mx, nn, pl c n hc.1 hc.2, pl s 4 hs.1 hs.2, pl t 4 ht.1 ht.2, l4, hst, at_]
end LW

end

section
namespace LW
open PySem BR
theorem larcs_ok {S : Store} {d : BR.D} {xs : List Int} {n c s t : Int} (h : RdI S d xs) (hl : xs.length ≤ 100000) (hn : (xs.length : Int) = 7 * n) (hc : 0 ≤ c ∧ c < n) (hs : 0 ≤ s ∧ s < 4) (ht : 0 ≤ t ∧ t < 4) (hst : t ≠ s) :
    m__law_arcs [d, .int c, .int s, .int t] S = .ok (.int (At xs (7 * c + t) + At xs (7 * c + qd s t))) S := by
  have l7 : (7 : Int).natAbs.log2 < 3 := by decide
  have lc : c.natAbs.log2 < 30 := log2_lt (by omega) (by decide)
  have e2 : dMul (.int 7) (.int c) S = .ok (.int (7 * c)) S := p_mul (by omega)
  have rd : ∀ k : Int, 0 ≤ k → k < 7 → dIdx d (.int (7 * c + k)) S = .ok (.int (At xs (7 * c + k))) S := fun k h1 h2 => h.at (by omega) (by omega)
  have r0 := rd 0 (by decide) (by decide)
  have r1 := rd 1 (by decide) (by decide)
  have r2 := rd 2 (by decide) (by decide)
  have r3 := rd 3 (by decide) (by decide)
  have r4 := rd 4 (by decide) (by decide)
  have r5 := rd 5 (by decide) (by decide)
  have r6 := rd 6 (by decide) (by decide)
  have R4 : rangeD 0 4 = [.int 0, .int 1, .int 2, .int 3] := rfl
  have R7 : rangeD 4 7 = [.int 4, .int 5, .int 6] := rfl
  obtain ⟨hs0, hs1⟩ := hs
  obtain ⟨ht0, ht1⟩ := ht
  have hs' : s = 0 ∨ s = 1 ∨ s = 2 ∨ s = 3 := by omega
  have ht' : t = 0 ∨ t = 1 ∨ t = 2 ∨ t = 3 := by omega
  simp only [Int.add_zero] at r0
  rcases hs' with rfl | rfl | rfl | rfl <;> rcases ht' with rfl | rfl | rfl | rfl <;> first
    | exact absurd rfl hst
    | simp [m__law_arcs, b__law_arcs, l1__law_arcs, BR.start, e2, r0, r1, r2, r3, r4, r5, r6, R4, R7, big62, lcGo, forGo, dNotIn, dIn, inD, flatD, eqF, lim, qd, dEq, okP, deep, eqD, toP, toPs, PyData.eqv, PyData.eqvAll]
end LW

end

section
namespace LW
open PySem BR
theorem strOk_int {x : Int} (h : 0 ≤ x) : PyData.strOk (PyData.int x).shown = true := by
  obtain ⟨n, rfl⟩ := Int.eq_ofNat_of_zero_le h
  rw [PyData.shown_int]
  unfold PyData.strOk
  rw [← Array.all_toList]
  rw [List.all_eq_true]
  intro c hc
  have e := TL.tl_num n
  have hd := TL.numL_digits n
  have hc' : c ∈ TL.numL n := by rw [← e]; exact hc
  have := hd c hc'
  simp
  omega
theorem repr_int {S : Store} {x : Int} (h : x.natAbs < 10 ^ 40) : dRepr (.int x) S = .ok (.str (PyData.int x).shown) S := by
  have hl : (PyData.int x).shown.length ≤ 41 := by
    rw [PyData.shown_int, ofString_length]
    exact int_text_length_le10 (by decide) h
  have g : x.natAbs.log2 < 140 := log2_lt (by omega) (by decide)
  have : (PyData.int x).showable = true := by simp [PyData.showable]; omega
  have h3 : (PyData.int x).shown.length ≤ 16777216 := by omega
  simp [dRepr, okP, deep, toP, this, lim, h3]
theorem neS {S : Store} {x : Str} (h : PyData.strOk x = true) : dNe (.str x) (.str x) S = .ok (.bl false) S := by
  simp [dNe, okP, deep, eqD, toP, h, PyData.eqv]
theorem At_lt {xs : List Int} {B i : Int} (hB : 0 ≤ B) (hp : ∀ x ∈ xs, 0 ≤ x ∧ x ≤ B) : 0 ≤ At xs i ∧ At xs i ≤ B := by
  unfold At
  cases q : xs[i.toNat]? with
  | none => exact ⟨Int.le_refl _, hB⟩
  | some y => exact hp y (List.mem_of_getElem? q)
theorem eqInts : ∀ xs : List Int, PyData.eqvAll (toPs (xs.map BR.D.int)) (toPs (xs.map BR.D.int)) = true
  | [] => by simp [toPs, PyData.eqvAll]
  | x :: xs => by simp [toPs, toP, PyData.eqvAll, PyData.eqv, eqInts xs]
theorem okInts (xs : List Int) : ∀ k, (xs.map BR.D.int).all (okP (k + 1)) = true := fun k => by simp [List.all_eq_true, okP]
theorem list_ok {S : Store} {d : BR.D} {xs : List Int} (h : RdI S d xs) : lList d S = .ok (xs.map BR.D.int) S := by
  rcases h with rfl | ⟨k, rfl, h⟩
  · simp [lList]
  · simp [lList, h]
theorem right_ok {S : Store} {d1 d2 : BR.D} {xs : List Int} {n : Int} (h1 : ∃ k, d1 = .ref k ∧ S[k]? = some (some (.lst (xs.map BR.D.int)))) (h2 : RdI S d2 xs) (hp : ∀ x ∈ xs, 0 ≤ x ∧ x ≤ t30) (hl : xs.length ≤ 100000) (hn : (xs.length : Int) = 7 * n) :
    m__law_right [d1, d2] S = .ok (.bl true) S := by
  have r1 : RdI S d1 xs := .inr h1
  have n0 : 0 ≤ n := by omega
  have body : ∀ c s t : Int, 0 ≤ c → c < n → 0 ≤ s → s < 4 → 0 ≤ t → t < 4 → ∀ x5, ∃ y5, l1__law_right [.val d1, .val d2, .val (.int c), .val (.int s), .val (.int t), x5] S = .ok (.nx [.val d1, .val d2, .val (.int c), .val (.int s), .val (.int t), y5]) S := by
    intro c s t c0 c1 s0 s1 t0 t1 x5
    by_cases hst : t = s
    · exact ⟨x5, by simp [l1__law_right, hst]⟩
    · refine ⟨.val (.int (At xs (7 * c + t) + At xs (7 * c + qd s t))), ?_⟩
      have a := arcs_ok h2 (fun x hx => (hp x hx).1) hl hn ⟨c0, c1⟩ ⟨s0, s1⟩ ⟨t0, t1⟩ hst
      have b := larcs_ok r1 hl hn ⟨c0, c1⟩ ⟨s0, s1⟩ ⟨t0, t1⟩ hst
      have b1 := At_lt (i := 7 * c + t) (B := t30) (by decide) hp
      have b2 := At_lt (i := 7 * c + qd s t) (B := t30) (by decide) hp
      have bb : t30 + t30 < 10 ^ 40 := by decide
      have rp := repr_int (S := S) (x := At xs (7 * c + t) + At xs (7 * c + qd s t)) (by omega)
      have ne := neS (S := S) (strOk_int (x := At xs (7 * c + t) + At xs (7 * c + qd s t)) (by omega))
      simp [l1__law_right, hst, a, b, rp, ne]

  have e3 : dFdiv (.int xs.length) (.int 7) S = .ok (.int n) S := by rw [p_fdiv (by decide) (by decide), hn]; congr 2; omega
  obtain ⟨r5, S5, e5, ⟨x2, x3, x4, x5, rfl⟩, rfl⟩ := range_inv (g := gN 2) (i0 := 0) (j0 := n) (b := l3__law_right) n0
    (fun _ r S' => (∃ x2 x3 x4 x5, r = [.val d1, .val d2, x2, x3, x4, x5]) ∧ S' = S) (fun c r S' c0 c1 h => by
      obtain ⟨⟨x2, x3, x4, x5, rfl⟩, rfl⟩ := h
      obtain ⟨r5, S5, e5, ⟨x3, x4, x5, rfl⟩, rfl⟩ := range_inv (g := gN 3) (i0 := 0) (j0 := 4) (b := l2__law_right) (by decide)
        (fun _ r S'' => (∃ x3 x4 x5, r = [.val d1, .val d2, .val (.int c), x3, x4, x5]) ∧ S'' = S') (fun s r S'' s0 s1 h => by
          obtain ⟨⟨x3, x4, x5, rfl⟩, rfl⟩ := h
          obtain ⟨r5, S5, e5, ⟨x4, x5, rfl⟩, rfl⟩ := range_inv (g := gN 4) (i0 := 0) (j0 := 4) (b := l1__law_right) (by decide)
            (fun _ r S' => (∃ x4 x5, r = [.val d1, .val d2, .val (.int c), .val (.int s), x4, x5]) ∧ S' = S'') (fun t r S' t0 t1 h => by
              obtain ⟨⟨x4, x5, rfl⟩, rfl⟩ := h
              obtain ⟨y5, e⟩ := body c s t c0 c1 s0 s1 t0 t1 x5
              exact ⟨_, _, _, rfl, .inl e, ⟨_, _, rfl⟩, rfl⟩) (r := [.val d1, .val d2, .val (.int c), .val (.int s), x4, x5]) (S := S'') ⟨⟨_, _, rfl⟩, rfl⟩
          exact ⟨_, _, _, rfl, .inl (by simp [l2__law_right, big62]; exact e5), ⟨_, _, _, rfl⟩, rfl⟩) (r := [.val d1, .val d2, .val (.int c), x3, x4, x5]) (S := S') ⟨⟨_, _, _, rfl⟩, rfl⟩
      exact ⟨_, _, _, rfl, .inl (by simp [l3__law_right, big62]; exact e5), ⟨_, _, _, _, rfl⟩, rfl⟩) (r := [.val d1, .val d2, .no, .no, .no, .no]) (S := S) ⟨⟨_, _, _, _, rfl⟩, rfl⟩
  have fin : dEq (.lst (xs.map BR.D.int)) d1 S5 = .ok (.bl true) S5 := by
    obtain ⟨k, rfl, h⟩ := h1
    have ok : okP deep (.lst (xs.map BR.D.int)) = true := okInts xs 58
    simp [dEq, h, ok, eqD, toP, PyData.eqv, eqInts]
  simp [m__law_right, b__law_right, BR.start, r1.len, e3, list_ok h2]
  rw [if_pos (by simp only [big62]; omega)]
  simp [e5, list_ok h2, fin]
end LW

end

section
namespace LW
open PySem BR
def Spr (S : Store) (k : Nat) (c : Int) : Prop := ∃ a b c', S[k]? = some (spr a b c') ∧ (0 ≤ b ∧ b < 2305843009213693951) ∧ (0 ≤ c' ∧ c' ≤ c)
theorem draw {S : Store} {k : Nat} {c many : Int} (h : Spr S k c) (hc : c < 1000000000) (hm : 0 < many) (hm2 : many < 2 ^ 200) :
    ∃ i S', m__law_draw [.ref k, .int many] S = .ok (.int i) S' ∧ (0 ≤ i ∧ i < many) ∧ Spr S' k (c + 1) ∧ S'.length = S.length ∧ ∀ j, j ≠ k → S'[j]? = S[j]? := by
  obtain ⟨a, b, c', h1, h2, h3⟩ := h
  obtain ⟨i, a', b', c2, e, hi, hb, hc2⟩ := draw_ok h1 h2 ⟨h3.1, by omega⟩ hm hm2
  refine ⟨i, _, e, hi, ⟨a', b', c2, ?_, hb, hc2.1, by omega⟩, by simp, fun j hj => List.getElem?_set_ne (Ne.symm hj)⟩
  refine List.getElem?_set_self ?_
  by_cases q : k < S.length
  · exact q
  · rw [List.getElem?_eq_none_iff.mpr (by omega)] at h1; cases h1
theorem Spr.lt {S : Store} {k : Nat} {c : Int} (h : Spr S k c) : k < S.length := by
  obtain ⟨a, b, c', h1, _⟩ := h
  by_cases q : k < S.length
  · exact q
  · rw [List.getElem?_eq_none_iff.mpr (by omega)] at h1; cases h1
theorem Spr.push {S : Store} {k : Nat} {c : Int} (h : Spr S k c) (x : Option BR.D) : Spr (S ++ [x]) k c := by
  obtain ⟨a, b, c', h1, h2⟩ := h
  refine ⟨a, b, c', ?_, h2⟩
  rw [List.getElem?_append_left (Spr.lt ⟨a, b, c', h1, h2⟩)]
  exact h1
theorem Spr.put {S : Store} {k j : Nat} {c : Int} (h : Spr S k c) (hj : j ≠ k) (x : Option BR.D) : Spr (S.set j x) k c := by
  obtain ⟨a, b, c', h1, h2⟩ := h
  exact ⟨a, b, c', by rw [List.getElem?_set_ne hj]; exact h1, h2⟩
theorem Spr.le {S : Store} {k : Nat} {c d : Int} (h : Spr S k c) (hd : c ≤ d) : Spr S k d := by
  obtain ⟨a, b, c', h1, h2, h3, h4⟩ := h
  exact ⟨a, b, c', h1, h2, h3, by omega⟩
theorem t30_lt : t30 < 2 ^ 200 := by decide
/-- one number more -/
theorem more {S : Store} {K : Nat} {c kd k : Int} {sc : BR.D} {i2 x3 x6 x7 x8 x9 x10 : BR.Slot} {xs : List Int} (h : Spr S 0 c) (hc : c < 100000000) (hK : K ≠ 0) (hS : S[K]? = some (some (.lst (xs.map BR.D.int)))) (hl : xs.length < 100000) (hk : 0 ≤ kd ∧ kd < 3) :
    ∃ v S', l1_law [.val sc, .val (.ref 0), i2, x3, .val (.int kd), .val (.ref K), x6, x7, x8, x9, x10] S = .ok (.nx [.val sc, .val (.ref 0), i2, x3, .val (.int kd), .val (.ref K), x6, x7, x8, x9, x10]) S' ∧ (0 ≤ v ∧ v ≤ t30) ∧ Spr S' 0 (c + 3) ∧ S'.length = S.length ∧ S'[K]? = some (some (.lst ((xs ++ [v]).map BR.D.int))) := by
  obtain ⟨q1, S1, e1, b1, p1, N1, F1⟩ := draw (many := 3) h (by omega) (by decide) (by decide)
  obtain ⟨q2, S2, e2, b2, p2, N2, F2⟩ := draw (many := 30) p1 (by omega) (by decide) (by decide)
  obtain ⟨q3, S3, e3, b3, p3, N3, F3⟩ := draw (many := t30) p2 (by omega) (by decide) t30_lt
  have hb : 30 < t30 := by decide
  have a0 := lstAt_of hS
  have hS3 : S3[K]? = some (some (.lst (xs.map BR.D.int))) := by rw [F3 K hK, F2 K hK, F1 K hK]; exact hS
  have a3 := lstAt_of hS3
  have hK3 : K < S3.length := by
    by_cases q : K < S3.length
    · exact q
    · rw [List.getElem?_eq_none_iff.mpr (by omega)] at hS3; cases hS3
  have ll : xs.length < 16777216 := by omega
  have fin : ∀ v, (0 ≤ v ∧ v ≤ t30) → L2.atI [BR.D.int q1, .int q2, .int q3] kd = some (.int v) → ∃ v S', l1_law [.val sc, .val (.ref 0), i2, x3, .val (.int kd), .val (.ref K), x6, x7, x8, x9, x10] S = .ok (.nx [.val sc, .val (.ref 0), i2, x3, .val (.int kd), .val (.ref K), x6, x7, x8, x9, x10]) S' ∧ (0 ≤ v ∧ v ≤ t30) ∧ Spr S' 0 (c + 3) ∧ S'.length = S.length ∧ S'[K]? = some (some (.lst ((xs ++ [v]).map BR.D.int))) := by
    intro v hv e
    refine ⟨v, S3.set K (some (.lst ((xs ++ [v]).map BR.D.int))), ?_, hv, ?_, ?_, List.getElem?_set_self hK3⟩
    · simp [l1_law, a0, e1, e2, ten30, e3, dIdx, e, a3, ll, lim]
    · exact Spr.put (by have := p3; rwa [show c + 1 + 1 + 1 = c + 3 by omega] at this) hK _
    · simp [N3, N2, N1]
  have hk' : kd = 0 ∨ kd = 1 ∨ kd = 2 := by omega
  rcases hk' with rfl | rfl | rfl
  · exact fin q1 ⟨b1.1, by omega⟩ rfl
  · exact fin q2 ⟨b2.1, by omega⟩ rfl
  · exact fin q3 ⟨b3.1, by omega⟩ rfl
theorem RdI.put {S S' : Store} {d : BR.D} {xs : List Int} (h : RdI S d xs) (hF : ∀ j, d = .ref j → S'[j]? = S[j]?) : RdI S' d xs := by
  rcases h with rfl | ⟨k, rfl, h⟩
  · exact .inl rfl
  · exact .inr ⟨k, rfl, by rw [hF k rfl]; exact h⟩
theorem turn_ok {S : Store} {c : Int} {sc : BR.D} {i2 x3 x4 x5 x6 x7 x8 x9 x10 : BR.Slot} (h : Spr S 0 c) (hc : c < 1000000) :
    ∃ S' y3 y4 y5 y6 y7 y8 y9 y10, l2_law [.val sc, .val (.ref 0), i2, x3, x4, x5, x6, x7, x8, x9, x10] S = .ok (.nx [.val sc, .val (.ref 0), i2, y3, y4, y5, y6, y7, y8, y9, y10]) S' ∧ Spr S' 0 (c + 1000) := by
  obtain ⟨q1, S1, e1, b1, p1, N1, F1⟩ := draw (many := 2) h (by omega) (by decide) (by decide)
  obtain ⟨m, hm, em⟩ : ∃ m : Int, (m = 3 ∨ m = 12) ∧ L2.atI [BR.D.int 3, .int 12] q1 = some (.int m) := by
    have : q1 = 0 ∨ q1 = 1 := by omega
    rcases this with rfl | rfl
    · exact ⟨3, .inl rfl, rfl⟩
    · exact ⟨12, .inr rfl, rfl⟩
  have ei : dIdx (.lst [.int 3, .int 12]) (.int q1) S1 = .ok (.int m) S1 := by simp [dIdx, em]
  obtain ⟨q2, S2, e2, b2, p2, N2, F2⟩ := draw (many := m) p1 (by omega) (by omega) (by omega)
  have s7 : (7 : Int).natAbs.log2 < 3 := by decide
  have sl : (1 + q2).natAbs.log2 < 10 := log2_lt (by omega) (by decide)
  have em2 : dMul (.int 7) (.int (1 + q2)) S2 = .ok (.int (7 * (1 + q2))) S2 := p_mul (by omega)
  obtain ⟨kd, S3, e3, b3, p3, N3, F3⟩ := draw (many := 3) p2 (by omega) (by decide) (by decide)
  have hK : S3.length ≠ 0 := by have := p3.lt; omega
  obtain ⟨n, hn⟩ : ∃ n : Int, n = 1 + q2 := ⟨_, rfl⟩
  -- the numbers
  obtain ⟨r4, S4, e4, x6', xs, rfl, hx, hS4, hl4, hp4, p4⟩ := range_inv (g := gN 6) (b := l1_law) (i0 := 0) (j0 := 7 * (1 + q2)) (by omega)
    (fun i r S => ∃ x6 xs, r = [.val sc, .val (.ref 0), i2, .val (.int (7 * (1 + q2))), .val (.int kd), .val (.ref S3.length), x6, x7, x8, x9, x10] ∧ ((xs : List Int).length : Int) = i ∧ S[S3.length]? = some (some (.lst (xs.map BR.D.int))) ∧ S.length = S3.length + 1 ∧ (∀ x ∈ xs, 0 ≤ x ∧ x ≤ t30) ∧ Spr S 0 (c + 3 + 3 * i))
    (fun i r S i0 i1 h => by
      obtain ⟨x6, xs, rfl, hx, hS, hl, hp, p⟩ := h
      obtain ⟨v, S', e, hv, p', l', hS'⟩ := more (k := i) (x6 := .val (.int i)) (x3 := .val (.int (7 * (1 + q2)))) (i2 := i2) (sc := sc) (x7 := x7) (x8 := x8) (x9 := x9) (x10 := x10) p (by omega) hK hS (by omega) b3
      refine ⟨_, _, S', rfl, .inl e, .val (.int i), xs ++ [v], rfl, by simp; omega, hS', by omega, ?_, by rw [show c + 3 + 3 * (i + 1) = c + 3 + 3 * i + 3 by omega]; exact p'⟩
      intro x hx
      rcases List.mem_append.mp hx with hx | hx
      · exact hp x hx
      · rw [List.mem_singleton.mp hx]; exact hv)
    (r := [.val sc, .val (.ref 0), i2, .val (.int (7 * (1 + q2))), .val (.int kd), .val (.ref S3.length), x6, x7, x8, x9, x10]) (S := S3 ++ [some (.lst [])])
    ⟨x6, [], rfl, rfl, by simp, by simp, by simp, by have := p3.push (some (.lst [])); rwa [show c + 1 + 1 + 1 = c + 3 + 3 * 0 by omega] at this⟩
  have hbig : -big62 ≤ 7 * (1 + q2) ∧ 7 * (1 + q2) < big62 := by simp only [big62]; omega
  obtain ⟨q5, S5, e5, b5, p5, N5, F5⟩ := draw (many := 3) p4 (by omega) (by decide) (by decide)
  have hS5 : S5[S3.length]? = some (some (.lst (xs.map BR.D.int))) := by rw [F5 _ hK]; exact hS4
  have hxl : xs.length ≤ 100000 := by omega
  -- the end of a turn
  have tail : ∀ (S : Store) (d : BR.D) (ys : List Int), Spr S 0 (c + 500) → (S[S3.length]? = some (some (.lst (ys.map BR.D.int)))) → RdI S d ys → (∀ j, d = .ref j → j ≠ 0) → (∀ y ∈ ys, 0 ≤ y ∧ y ≤ t30) → ys.length = xs.length →
      ∃ s t v S6 S7, m__law_draw [.ref 0, .int 4] S = .ok (.int s) S6 ∧ m__law_draw [.ref 0, .int 3] S6 = .ok (.int t) S7 ∧ m_arcs [d, .int 0, .int s, .int ((s + 1 + t) % 4)] S7 = .ok (.int v) S7 ∧ m__law_arcs [.ref S3.length, .int 0, .int s, .int ((s + 1 + t) % 4)] S7 = .ok (.int v) S7 ∧ Spr S7 0 (c + 1000) := by
    intro S d ys p hS hd hj hy hl
    obtain ⟨s, S6, e6, b6, p6, N6, F6⟩ := draw (many := 4) p (by omega) (by decide) (by decide)
    obtain ⟨t, S7, e7, b7, p7, N7, F7⟩ := draw (many := 3) p6 (by omega) (by decide) (by decide)
    have hd7 : RdI S7 d ys := hd.put fun j e => by rw [F7 j (hj j e), F6 j (hj j e)]
    have hs7 : RdI S7 (.ref S3.length) ys := .inr ⟨_, rfl, by rw [F7 _ hK, F6 _ hK]; exact hS⟩
    have hst : (s + 1 + t) % 4 ≠ s := by omega
    exact ⟨s, t, _, S6, S7, e6, e7, arcs_ok hd7 (fun y h => (hy y h).1) (by omega) (n := 1 + q2) (by omega) ⟨by decide, by omega⟩ b6 ⟨by omega, by omega⟩ hst,
      larcs_ok hs7 (by omega) (n := 1 + q2) (by omega) ⟨by decide, by omega⟩ b6 ⟨by omega, by omega⟩ hst, p7.le (by omega)⟩
  by_cases h5 : q5 = 0
  · -- a tuple
    have rt : RdI S5 (.trn (xs.map BR.D.int)) xs := .inl rfl
    have ro := right_ok (n := 1 + q2) ⟨_, rfl, hS5⟩ rt hp4 hxl (by omega)
    obtain ⟨s, t, v, S6, S7, e6, e7, ea, eb, p7⟩ := tail S5 _ xs (p5.le (by omega)) hS5 rt (fun j e => by cases e) hp4 rfl
    have tr : dTrn (.ref S3.length) S5 = .ok (.trn (xs.map BR.D.int)) S5 := by simp [dTrn, hS5]
    have isi : dIsi ["list"] (.trn (xs.map BR.D.int)) S5 = .ok (.bl false) S5 := by simp [dIsi, tyD, subTy]
    have m4 : ∀ x : Int, dMod (.int x) (.int 4) S7 = .ok (.int (x % 4)) S7 := fun x => p_mod (by decide)
    refine ⟨S7, .val (.int (7 * (1 + q2))), .val (.int kd), .val (.ref S3.length), x6', .val (.trn (xs.map BR.D.int)), x8, .val (.int s), .val (.int ((s + 1 + t) % 4)), ?_, p7⟩
    simp only [l2_law, p_seq]
    simp [e1, ei, e2, em2, e3, e4, e5, h5, tr, ro, isi, e6, e7, ea, eb, m4, hbig, lim]
  · -- a list
    have hH : S5.length ≠ 0 := by have := p5.lt; omega
    have hHK : S5.length ≠ S3.length := by omega
    have hHK' : S3.length ≠ S5.length := by omega
    have sA : ∀ j, j ≠ S5.length → j < S5.length → (S5 ++ [some (.lst (xs.map BR.D.int))])[j]? = S5[j]? := fun j _ h => List.getElem?_append_left h
    have hKl : S3.length < S5.length := by omega
    have hA : (S5 ++ [some (BR.D.lst (xs.map BR.D.int))])[S5.length]? = some (some (.lst (xs.map BR.D.int))) := by simp
    have hA2 : (S5 ++ [some (BR.D.lst (xs.map BR.D.int))])[S3.length]? = some (some (.lst (xs.map BR.D.int))) := by rw [List.getElem?_append_left hKl]; exact hS5
    generalize hSA : S5 ++ [some (BR.D.lst (xs.map BR.D.int))] = SA at *
    have pA : Spr SA 0 (c + 400) := by rw [← hSA]; exact (p5.push _).le (by omega)
    have lA : SA.length = S5.length + 1 := by rw [← hSA]; simp
    have ro := right_ok (n := 1 + q2) ⟨_, rfl, hA2⟩ (.inr ⟨S5.length, rfl, hA⟩) hp4 hxl (by omega)
    have isi : dIsi ["list"] (.ref S5.length) SA = .ok (.bl true) SA := by simp [dIsi, tyD, subTy, hA]
    obtain ⟨at_, S6, e6, b6, p6, N6, F6⟩ := draw (many := 7 * (1 + q2)) pA (by omega) (by omega) (by omega)
    obtain ⟨v, S7, e7, b7, p7, N7, F7⟩ := draw (many := 9) p6 (by omega) (by decide) (by decide)
    have hH7 : S7[S5.length]? = some (some (.lst (xs.map BR.D.int))) := by rw [F7 _ hH, F6 _ hH]; exact hA
    have hK7 : S7[S3.length]? = some (some (.lst (xs.map BR.D.int))) := by rw [F7 _ hK, F6 _ hK]; exact hA2
    have ix : L2.ixN xs.length at_ = some at_.toNat := by unfold L2.ixN; rw [if_pos b6.1, if_pos (by omega)]
    obtain ⟨S8, hS8⟩ : ∃ S8, S8 = S7.set S5.length (some (.lst ((xs.set at_.toNat v).map BR.D.int))) := ⟨_, rfl⟩
    obtain ⟨S9, hS9⟩ : ∃ S9, S9 = S8.set S3.length (some (.lst ((xs.set at_.toNat v).map BR.D.int))) := ⟨_, rfl⟩
    have hH8 : S8[S5.length]? = some (some (.lst ((xs.set at_.toNat v).map BR.D.int))) := by rw [hS8, List.getElem?_set_self (by omega)]
    have hK8 : S8[S3.length]? = some (some (.lst (xs.map BR.D.int))) := by rw [hS8, List.getElem?_set_ne hHK]; exact hK7
    have hH9 : S9[S5.length]? = some (some (.lst ((xs.set at_.toNat v).map BR.D.int))) := by rw [hS9, List.getElem?_set_ne hHK']; exact hH8
    have hK9 : S9[S3.length]? = some (some (.lst ((xs.set at_.toNat v).map BR.D.int))) := by rw [hS9, List.getElem?_set_self (by rw [hS8]; simp; omega)]
    have p9 : Spr S9 0 (c + 500) := by rw [hS9, hS8]; exact ((p7.put hH _).put hK _).le (by omega)
    have hy : ∀ y ∈ xs.set at_.toNat v, 0 ≤ y ∧ y ≤ t30 := fun y hy => by
      have : (9 : Int) < t30 := by decide
      rcases List.mem_or_eq_of_mem_set hy with h | rfl
      · exact hp4 y h
      · omega
    have rd8 : dIdx (.ref S5.length) (.int at_) S8 = .ok (.int v) S8 := by
      have := RdI.at (S := S8) (d := .ref S5.length) (xs := xs.set at_.toNat v) (.inr ⟨_, rfl, hH8⟩) b6.1 (by simp; omega)
      rw [this]
      unfold At
      rw [List.getElem?_set_self (by omega)]
      rfl
    have ro9 := right_ok (n := 1 + q2) (S := S9) ⟨_, rfl, hK9⟩ (.inr ⟨S5.length, rfl, hH9⟩) hy (by simp; omega) (by simp; omega)
    obtain ⟨s, t, w, Sx, Sy, ex, ey, ea, eb, py⟩ := tail S9 (.ref S5.length) _ p9 hK9 (.inr ⟨_, rfl, hH9⟩) (fun j e => by cases e; exact hH) hy (by simp)
    have ll : lList (.ref S3.length) S5 = .ok (xs.map BR.D.int) S5 := by simp [lList, hS5]
    have m4 : ∀ x : Int, dMod (.int x) (.int 4) Sy = .ok (.int (x % 4)) Sy := fun x => p_mod (by decide)
    have w7 := lstAt_of hH7
    have w8 := lstAt_of hK8
    refine ⟨Sy, .val (.int (7 * (1 + q2))), .val (.int kd), .val (.ref S3.length), x6', .val (.ref S5.length), .val (.int at_), .val (.int s), .val (.int ((s + 1 + t) % 4)), ?_, py⟩
    have st8 : S7.set S5.length (some (.lst ((xs.map BR.D.int).set at_.toNat (.int v)))) = S8 := by rw [hS8, List.map_set]
    have st9 : S8.set S3.length (some (.lst ((xs.map BR.D.int).set at_.toNat (.int v)))) = S9 := by rw [hS9, List.map_set]
    simp only [l2_law, p_seq]
    simp [e1, ei, e2, em2, e3, e4, e5, h5, ll, hSA, ro, isi, e6, e7, w7, ix, st8, rd8, w8, st9, ro9, ex, ey, ea, eb, m4, hbig, lim]
theorem plain (ns : List Int) (hn : ns.length ≤ 63) : ∃ S, m_law [.scr (ns.map BR.D.int)] [] = .ok (.bl true) S := by
  obtain ⟨a, b, es, hb⟩ := spring_ok ns hn
  have ln : dLen (.scr (ns.map BR.D.int)) [spr a b 0] = .ok (.int ns.length) [spr a b 0] := by simp [dLen]
  obtain ⟨m, hm⟩ : ∃ m : Int, m = 1 + (if 4 < (ns.length : Int) then 4 else (ns.length : Int)) := ⟨_, rfl⟩
  have m0 : 0 ≤ m ∧ m ≤ 5 := by subst hm; split <;> omega
  obtain ⟨r2, S2, e2, y3, y4, y5, y6, y7, y8, y9, y10, y11, rfl, p2⟩ := range_inv (g := gN 2) (b := l2_law) (i0 := 0) (j0 := m) m0.1
    (fun i r S => ∃ x2 x3 x4 x5 x6 x7 x8 x9 x10, r = [.val (.scr (ns.map BR.D.int)), .val (.ref 0), x2, x3, x4, x5, x6, x7, x8, x9, x10] ∧ Spr S 0 (1000 * i))
    (fun i r S i0 i1 h => by
      obtain ⟨x2, x3, x4, x5, x6, x7, x8, x9, x10, rfl, p⟩ := h
      obtain ⟨S', y3, y4, y5, y6, y7, y8, y9, y10, e, p'⟩ := turn_ok (sc := .scr (ns.map BR.D.int)) (i2 := .val (.int i)) (x3 := x3) (x4 := x4) (x5 := x5) (x6 := x6) (x7 := x7) (x8 := x8) (x9 := x9) (x10 := x10) p (by omega)
      exact ⟨_, _, S', rfl, .inl e, _, _, _, _, _, _, _, _, _, rfl, by rw [show 1000 * (i + 1) = 1000 * i + 1000 by omega]; exact p'⟩)
    (r := [.val (.scr (ns.map BR.D.int)), .val (.ref 0), .no, .no, .no, .no, .no, .no, .no, .no, .no]) (S := [spr a b 0]) ⟨_, _, _, _, _, _, _, _, _, rfl, a, b, 0, rfl, hb, by decide⟩
  have hbig : -big62 ≤ m ∧ m < big62 := by simp only [big62]; omega
  refine ⟨S2, ?_⟩
  simp [m_law, b_law, BR.start, es, ln, ← hm, hbig, e2]
end LW

end

section
namespace LW
open PySem PySem.Spec PyProof.Rows L2 BR
/-! ### the head -/
def dd_is_whole : He.DefD := ⟨("is_whole", none), "is_whole", "is_whole", defArgs s_is_whole, defBody s_is_whole, defScope s_is_whole, [], []⟩
def dd_quad_of : He.DefD := ⟨("quad_of", none), "quad_of", "quad_of", defArgs s_quad_of, defBody s_quad_of, defScope s_quad_of, [], []⟩
def dd__law_spring : He.DefD := ⟨("_law_spring", none), "_law_spring", "_law_spring", defArgs s__law_spring, defBody s__law_spring, defScope s__law_spring, [], []⟩
def dd__law_draw : He.DefD := ⟨("_law_draw", none), "_law_draw", "_law_draw", defArgs s__law_draw, defBody s__law_draw, defScope s__law_draw, [], []⟩
def dd__law_arcs : He.DefD := ⟨("_law_arcs", none), "_law_arcs", "_law_arcs", defArgs s__law_arcs, defBody s__law_arcs, defScope s__law_arcs, [], []⟩
def dd_are_numbers : He.DefD := ⟨("are_numbers", none), "are_numbers", "are_numbers", defArgs s_are_numbers, defBody s_are_numbers, defScope s_are_numbers, [], []⟩
def dd_is_place : He.DefD := ⟨("is_place", none), "is_place", "is_place", defArgs s_is_place, defBody s_is_place, defScope s_is_place, [], []⟩
def dd_arcs_at : He.DefD := ⟨("arcs_at", none), "arcs_at", "arcs_at", defArgs s_arcs_at, defBody s_arcs_at, defScope s_arcs_at, [], []⟩
def dd_need_numbers : He.DefD := ⟨("need_numbers", none), "need_numbers", "need_numbers", defArgs s_need_numbers, defBody s_need_numbers, defScope s_need_numbers, [], []⟩
def dd_arcs : He.DefD := ⟨("arcs", none), "arcs", "arcs", defArgs s_arcs, defBody s_arcs, defScope s_arcs, [], []⟩
def dd__law_right : He.DefD := ⟨("_law_right", none), "_law_right", "_law_right", defArgs s__law_right, defBody s__law_right, defScope s__law_right, [], []⟩
def dd_law : He.DefD := ⟨("law", none), "law", "law", defArgs s_law, defBody s_law, defScope s_law, [], []⟩
def hfn : List He.DefD := [dd_is_whole, dd_quad_of, dd__law_spring, dd__law_draw, dd__law_arcs, dd_are_numbers, dd_is_place, dd_arcs_at, dd_need_numbers, dd_arcs, dd__law_right, dd_law]
def hfa : List He.Fa := [.glo "is_whole", .glo "quad_of", .glo "_law_spring", .glo "_law_draw", .glo "_law_arcs", .glo "are_numbers", .glo "is_place", .glo "arcs_at", .glo "need_numbers", .glo "arcs", .glo "_law_right", .glo "law", .free "abs", .free "all", .free "bool", .free "int", .free "isinstance", .free "len", .free "list", .free "max", .free "min", .free "range", .free "repr", .free "tuple", .int "FIRST_QUAD" 4, .int "SORTS" 7]
def hcs : List (Str × BR.D) := [("CORNERS", c_CORNERS)]
abbrev hR : PySem.W.OpenRow := PySem.W.OpenLaw.row PySem.Challenge.rw_blockrooms_k29_arcs_told
abbrev hhk : PySem.W.Hook := hookB 4 hfa hfn hcs
def hob (s : PySem.W.SharedT) : He.AlD := obsBG 4 hfa hfn hcs (HandSHeadRun.getT s)
theorem hob_eq (s : PySem.W.SharedT) : hob s = hhk.obs s.abs := obsBG_eq (HandSHeadRun.getT_eq s)
def hloose : List Str := ["__name__", "RoomError", "NoFace", "NoCorner", "NoNumbers", "SORTS", "FIRST_QUAD", "CORNERS", "is_whole", "are_numbers", "need_numbers", "is_place", "quad_of", "arcs_at", "arcs", "_law_spring", "_law_draw", "_law_arcs", "_law_right"]
theorem hrun (w : World) : HandSHeadRun.RunEq hR (PySem.W.view hR.prog [21]) hhk hob 4000 hloose w := by
  intro os
  kernel_rfl
theorem hnm {K : PySem.W.Frag} {h : Heap} {mg : Str → Option Value} (X : K.In h) (G : h.Ns mainGlobals mg) (c : SaysB hfa hfn hcs K) : Nm K mg :=
  ⟨mg_cst X G (c.cst 0 (q := ("CORNERS", c_CORNERS)) rfl),
   (cst_ok (c.cst 0 (q := ("CORNERS", c_CORNERS)) rfl)).2,
   He.free_ok X G (c.d.fact 12 (f := .free "abs") rfl),
   He.free_ok X G (c.d.fact 13 (f := .free "all") rfl),
   He.free_ok X G (c.d.fact 14 (f := .free "bool") rfl),
   He.free_ok X G (c.d.fact 15 (f := .free "int") rfl),
   He.free_ok X G (c.d.fact 16 (f := .free "isinstance") rfl),
   He.free_ok X G (c.d.fact 17 (f := .free "len") rfl),
   He.free_ok X G (c.d.fact 18 (f := .free "list") rfl),
   He.free_ok X G (c.d.fact 19 (f := .free "max") rfl),
   He.free_ok X G (c.d.fact 20 (f := .free "min") rfl),
   He.free_ok X G (c.d.fact 21 (f := .free "range") rfl),
   He.free_ok X G (c.d.fact 22 (f := .free "repr") rfl),
   He.free_ok X G (c.d.fact 23 (f := .free "tuple") rfl),
   He.int_ok X G (c.d.fact 24 (f := .int "FIRST_QUAD" 4) rfl),
   He.int_ok X G (c.d.fact 25 (f := .int "SORTS" 7) rfl)⟩
theorem hfacts {P : Program} {w : World} {K : PySem.W.Frag} {h : Heap} {mg : Str → Option Value} {f : Addr} (X : K.In h) (G : h.Ns mainGlobals mg) (hfa' : mg ("law" : Str) = some (.ref f)) (c : SaysB hfa hfn hcs K) :
    ∃ fd : FuncData, (∀ (s : Shared) (v : Value), BindsTo s fd ⟨[v], []⟩ [("script", v)]) ∧ ∀ base : Heap, K.In base → base.Ns mainGlobals mg → FnG P w K mg base CX0 6 f fd ["script"] (sp0 K 1 m_law) := by
  have nm := hnm X G c
  obtain ⟨fd, F⟩ := c.d.def_ 11 (d := dd_law) rfl
  have e := hfa'.symm.trans (He.glo_ok X G (c.d.fact 11 (f := .glo "law") rfl))
  cases e
  have b := FunD.bindsA (ps := ["script"]) F fun _ _ _ _ _ _ us hl => match us, hl with | [_], _ => rfl
  refine ⟨fd, fun s v => b s [v] rfl, fun base _ _ => ?_⟩
  have D_is_whole : DefOk P w K mg base CX0 "is_whole" 1 (sp0 K 1 m_is_whole) := defD_ok (st := s_is_whole) (c.d.def_ 0 (d := dd_is_whole) rfl) (He.glo_ok X G (c.d.fact 0 (f := .glo "is_whole") rfl)) sc_is_whole rfl rfl (fun _ _ _ _ _ _ us hl => match us, hl with | [_], _ => rfl) (d_is_whole nm )
  have D_quad_of : DefOk P w K mg base CX0 "quad_of" 1 (sp0 K 2 m_quad_of) := defD_ok (st := s_quad_of) (c.d.def_ 1 (d := dd_quad_of) rfl) (He.glo_ok X G (c.d.fact 1 (f := .glo "quad_of") rfl)) sc_quad_of rfl rfl (fun _ _ _ _ _ _ us hl => match us, hl with | [_, _], _ => rfl) (d_quad_of nm )
  have D__law_spring : DefOk P w K mg base CX0 "_law_spring" 1 (sp0 K 1 m__law_spring) := defD_ok (st := s__law_spring) (c.d.def_ 2 (d := dd__law_spring) rfl) (He.glo_ok X G (c.d.fact 2 (f := .glo "_law_spring") rfl)) sc__law_spring rfl rfl (fun _ _ _ _ _ _ us hl => match us, hl with | [_], _ => rfl) (d__law_spring nm )
  have D__law_draw : DefOk P w K mg base CX0 "_law_draw" 1 (sp0 K 2 m__law_draw) := defD_ok (st := s__law_draw) (c.d.def_ 3 (d := dd__law_draw) rfl) (He.glo_ok X G (c.d.fact 3 (f := .glo "_law_draw") rfl)) sc__law_draw rfl rfl (fun _ _ _ _ _ _ us hl => match us, hl with | [_, _], _ => rfl) (d__law_draw nm )
  have D__law_arcs : DefOk P w K mg base CX0 "_law_arcs" 1 (sp0 K 4 m__law_arcs) := defD_ok (st := s__law_arcs) (c.d.def_ 4 (d := dd__law_arcs) rfl) (He.glo_ok X G (c.d.fact 4 (f := .glo "_law_arcs") rfl)) sc__law_arcs rfl rfl (fun _ _ _ _ _ _ us hl => match us, hl with | [_, _, _, _], _ => rfl) (d__law_arcs nm )
  have D_are_numbers : DefOk P w K mg base CX0 "are_numbers" 2 (sp0 K 2 m_are_numbers) := defD_ok (st := s_are_numbers) (c.d.def_ 5 (d := dd_are_numbers) rfl) (He.glo_ok X G (c.d.fact 5 (f := .glo "are_numbers") rfl)) sc_are_numbers rfl rfl (fun _ _ _ _ _ _ us hl => match us, hl with | [_, _], _ => rfl) (d_are_numbers nm D_is_whole)
  have D_is_place : DefOk P w K mg base CX0 "is_place" 2 (sp0 K 2 m_is_place) := defD_ok (st := s_is_place) (c.d.def_ 6 (d := dd_is_place) rfl) (He.glo_ok X G (c.d.fact 6 (f := .glo "is_place") rfl)) sc_is_place rfl rfl (fun _ _ _ _ _ _ us hl => match us, hl with | [_, _], _ => rfl) (d_is_place nm D_is_whole)
  have D_arcs_at : DefOk P w K mg base CX0 "arcs_at" 2 (sp0 K 4 m_arcs_at) := defD_ok (st := s_arcs_at) (c.d.def_ 7 (d := dd_arcs_at) rfl) (He.glo_ok X G (c.d.fact 7 (f := .glo "arcs_at") rfl)) sc_arcs_at rfl rfl (fun _ _ _ _ _ _ us hl => match us, hl with | [_, _, _, _], _ => rfl) (d_arcs_at nm D_quad_of)
  have D_need_numbers : DefOk P w K mg base CX0 "need_numbers" 3 (sp0 K 2 m_need_numbers) := defD_ok (st := s_need_numbers) (c.d.def_ 8 (d := dd_need_numbers) rfl) (He.glo_ok X G (c.d.fact 8 (f := .glo "need_numbers") rfl)) sc_need_numbers rfl rfl (fun _ _ _ _ _ _ us hl => match us, hl with | [_, _], _ => rfl) (d_need_numbers nm D_are_numbers)
  have D_arcs : DefOkK P w K mg base CX0 "arcs" 4 3 ["corner"] (sp0 K 4 m_arcs) := defD_okK (st := s_arcs) (c.d.def_ 9 (d := dd_arcs) rfl) (He.glo_ok X G (c.d.fact 9 (f := .glo "arcs") rfl)) sc_arcs rfl rfl (fun _ _ _ _ _ _ us ws h1 h2 => match us, ws, h1, h2 with | [_, _, _], [_], _, _ => rfl) (d_arcs nm D_need_numbers D_is_place D_arcs_at)
  have D__law_right : DefOk P w K mg base CX0 "_law_right" 5 (sp0 K 2 m__law_right) := defD_ok (st := s__law_right) (c.d.def_ 10 (d := dd__law_right) rfl) (He.glo_ok X G (c.d.fact 10 (f := .glo "_law_right") rfl)) sc__law_right rfl rfl (fun _ _ _ _ _ _ us hl => match us, hl with | [_, _], _ => rfl) (d__law_right nm D_arcs D__law_arcs)
  exact fnG_body F sc_law rfl rfl (d_law nm D__law_spring D__law_draw D__law_right D_arcs D__law_arcs)
end LW
end

/-! ### the law -/
open PySem PySem.W PySem.Calls PyProof.Rows
theorem PySem.Challenge.cw_blockrooms_k29_arcs_told_holds : PySem.Challenge.rw_blockrooms_k29_arcs_told.Holds := by
  w_on; o_law
  refine HandSHeadRun.head_any (r := OpenLaw.row PySem.Challenge.rw_blockrooms_k29_arcs_told) (q := view (OpenLaw.row PySem.Challenge.rw_blockrooms_k29_arcs_told).prog [21]) (H := LW.hhk) (ob := LW.hob) (M := 4000) (loose := LW.hloose) (d := HandSHeadRun.topDef (OpenLaw.row PySem.Challenge.rw_blockrooms_k29_arcs_told).prog 21) (kwd := []) LW.hob_eq
    (by kernel_rfl) (fun s => by kernel_rfl) LW.hrun (by kernel_rfl) (by kernel_rfl) (by kernel_rfl) (by rfl) (by first | assumption | decide +kernel) (by decide +kernel) ⟨rfl, rfl, rfl, rfl, rfl, by decide +kernel⟩ ?hw ?hc
  case hw => w_witness2
  case hc =>
    refine BR.walk_ofG (l := PySem.Challenge.rw_blockrooms_k29_arcs_told) (k := 6) (m := LW.m_law) rfl (by kernel_rfl) ⟨⟨rfl, by decide, by decide⟩, rfl⟩ LW.plain ?F
    intro w mg fa h Y G hmg0
    obtain ⟨K, KX, c⟩ := Y
    have hmg : mg ("law" : PySem.Str) = some (.ref fa) := by
      have e : (HandSHeadRun.topDef (OpenLaw.row PySem.Challenge.rw_blockrooms_k29_arcs_told).prog 21).name = ("law" : PySem.Str) := by kernel_rfl
      rw [← e]
      exact hmg0
    obtain ⟨fd, hb, hF⟩ := LW.hfacts (P := (PySem.Challenge.rw_blockrooms_k29_arcs_told).prog) (w := w) KX G hmg c
    exact ⟨K, fd, KX, hb, hF⟩
