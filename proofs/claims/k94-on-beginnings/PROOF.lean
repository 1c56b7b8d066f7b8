import PyProof.Rows.All
import PyProof.EqLayable
import PySem.Builtin.Str.Common
import Wide.All
import OpenK.AllK
import Wide.FinOn
import HandS.ForMost
import HandS.Wide
import HandS.Deep
import HandS.IsInst
import HandS.Walk
import HandS.TupLen
import HandS.Replace
import HandS.Conv
import HandS.More
import HandS.NoneIn
import HandS.RevRange
import HandS.Text
import HandS.FStr
import HandS.RaiseMore
import KE.KxIndex
import HandS.TupAny
import PyProof.EqAt
import PyProof.EqKinds
import HandS.Iter
import HandS.Dict
import HandS.DictTup
import HandS.DictComp
import HandS.Finally
import KE.KDictWalk
import KE.KDictCopyH
import HandS.Defaults
import KE.KDictPairs
import PySem.Challenge.RW_lazyhoist_k94_whole_on_beginnings
set_option Elab.async false
set_option linter.all false
/-! Mi: a small language of values, stores and steps, in plain Lean. -/
namespace Mi
abbrev Tx := List Nat
inductive D where
  | non | bl (b : Bool) | int (i : Int) | str (s : Tx) | tup (l : List D) | wtp (l : List D) | ref (n : Nat)
abbrev Ky := Sum Int Tx
inductive O where
  | lst (l : List D) | fls (l : List D) | dK (k : List (Ky × D)) | dT (k : List (List Ky × D)) | zK (k : List (Ky × D)) | zT (k : List (List Ky × D)) | ins (C : String) (f : List (Tx × D))
abbrev Store := List O
structure Exn where
  cls : String
  fs : List (Tx × D)
inductive Res (α : Type) where
  | ok (a : α) (S : Store) | exc (x : Exn) (S : Store) | bad
def Res.bind {α β : Type} : Res α → (α → Store → Res β) → Res β
  | .ok a S, f => f a S
  | .exc x S, _ => .exc x S
  | .bad, _ => .bad
@[simp] theorem bind_ok {α β : Type} (a : α) (S : Store) (f : α → Store → Res β) : (Res.ok a S).bind f = f a S := rfl
@[simp] theorem bind_exc {α β : Type} (x : Exn) (S : Store) (f : α → Store → Res β) : (Res.exc x S).bind f = .exc x S := rfl
@[simp] theorem bind_bad {α β : Type} (f : α → Store → Res β) : (Res.bad : Res α).bind f = .bad := rfl
abbrev Fr := List (Option D)
abbrev EM := Fr → Store → Res D
abbrev TM := Fr → Store → Res Bool
abbrev AM := Fr → Store → Res (List D)
inductive Out where
  | nx (fr : Fr) | rt (d : D) | bk (fr : Fr) | ct (fr : Fr)
abbrev SM := Fr → Store → Res Out
abbrev Op2 := D → D → Store → Res D
abbrev Fn := List D → Store → Res D
abbrev LINE : Nat := 16777216

/-! ### data -/
mutual
def toP (rd : Nat → Option PySem.PyData) : D → Option PySem.PyData
  | .non => some .none
  | .bl b => some (.bool b)
  | .int i => some (.int i)
  | .str s => some (.str ⟨s.toArray⟩)
  | .tup l => (toPs rd l).map .tuple
  | .wtp l => (toPs rd l).map .tuple
  | .ref n => rd n
def toPs (rd : Nat → Option PySem.PyData) : List D → Option (List PySem.PyData)
  | [] => some []
  | d :: l => (toP rd d).bind fun p => (toPs rd l).map fun r => p :: r
end
def lookP : Nat → Store → Nat → Option PySem.PyData
  | 0, _, _ => none
  | k + 1, S, n => match S[n]? with
    | some (.lst l) => (toPs (lookP k S) l).map .list
    | some (.fls l) => (toPs (lookP k S) l).map .list
    | _ => none
def pd (S : Store) (d : D) : Option PySem.PyData := toP (lookP 8 S) d
def shp (p : PySem.PyData) : Bool := PySem.SeqAt.shaped p
/-- == of scalars -/
def scq : D → D → Option Bool
  | .non, .non => some true
  | .non, .int _ => some false | .int _, .non => some false
  | .non, .bl _ => some false | .bl _, .non => some false
  | .non, .str _ => some false | .str _, .non => some false
  | .int i, .int j => some (decide (i = j))
  | .bl a, .bl b => some (decide (a = b))
  | .str a, .str b => some (decide (a = b))
  | .int _, .str _ => some false | .str _, .int _ => some false
  | .bl _, .str _ => some false | .str _, .bl _ => some false
  | _, _ => none
def pyEq (x y : D) (S : Store) : Option Bool := match scq x y with
  | some b => some b
  | none => match pd S x, pd S y with
    | some p, some q => if shp p = true ∧ shp q = true then some (PySem.PyData.eqv p q) else none
    | _, _ => none
def oEq : Op2 := fun x y S => match pyEq x y S with
  | some b => .ok (.bl b) S
  | none => .bad
def oNe : Op2 := fun x y S => match pyEq x y S with
  | some b => .ok (.bl (!b)) S
  | none => .bad
def isN : D → Bool
  | .non => true
  | _ => false
def oIs : Op2 := fun x y S => if isN y then .ok (.bl (isN x)) S else .bad
def oIsNot : Op2 := fun x y S => if isN y then .ok (.bl (!isN x)) S else .bad

/-! ### keys -/
def kyOf : D → Option Ky
  | .int i => some (.inl i)
  | .str s => some (.inr s)
  | _ => none
def kyD : Ky → D
  | .inl i => .int i
  | .inr s => .str s
def kysOf : List D → Option (List Ky)
  | [] => some []
  | d :: l => (kyOf d).bind fun k => (kysOf l).map fun r => k :: r
def ktOf : D → Option (List Ky)
  | .tup l => kysOf l
  | _ => none
def dGet {κ α : Type} [DecidableEq κ] (kvs : List (κ × α)) (k : κ) : Option α := (kvs.find? fun kv => decide (kv.1 = k)).map (·.2)
def dPut {κ α : Type} [DecidableEq κ] (kvs : List (κ × α)) (k : κ) (v : α) : List (κ × α) :=
  if (kvs.any fun kv => decide (kv.1 = k)) = true then kvs.map fun kv => if kv.1 = k then (kv.1, v) else kv else kvs ++ [(k, v)]
/-- what a dict holds at a key: none where it is no dict or no key -/
def dLook (S : Store) (n : Nat) (k : D) : Option (Option D) := match S[n]? with
  | some (.dK kvs) => (kyOf k).map (dGet kvs)
  | some (.dT kvs) => (ktOf k).map (dGet kvs)
  | some (.zK kvs) => (kyOf k).map (dGet kvs)
  | some (.zT kvs) => (ktOf k).map (dGet kvs)
  | _ => none

/-! ### lists and tuples -/
def lstOf (S : Store) (n : Nat) : Option (List D) := match S[n]? with
  | some (.lst l) => some l
  | some (.fls l) => some l
  | _ => none
def seqOf (S : Store) : D → Option (List D)
  | .tup l => some l
  | .wtp l => some l
  | .ref n => lstOf S n
  | _ => none
def ixN (n : Nat) (i : Int) : Option Nat := if 0 ≤ i then (if i < n then some i.toNat else none) else if -(n : Int) ≤ i then some (i + n).toNat else none
def atI {α : Type} (xs : List α) (i : Int) : Option α := (ixN xs.length i).bind fun j => xs[j]?
def sIx (n d : Nat) : Option Int → Nat
  | none => d
  | some v => if v < 0 then (v + (n : Int)).toNat else min v.toNat n
def cut {α : Type} (xs : List α) (lo hi : Option Int) : List α := (xs.drop (sIx xs.length 0 lo)).take (sIx xs.length xs.length hi - sIx xs.length 0 lo)
def new (o : O) (S : Store) : Res D := .ok (.ref S.length) (S ++ [o])

/-! ### operators -/
def small (i : Int) : Prop := -(2 ^ 64) < i ∧ i < 2 ^ 64
instance (i : Int) : Decidable (small i) := by unfold small; infer_instance
def mulOk (i j : Int) : Prop := small i ∨ small j ∨ i.natAbs.log2 + j.natAbs.log2 < 1000000
instance (i j : Int) : Decidable (mulOk i j) := by unfold mulOk; infer_instance
def oAdd : Op2
  | .int i, .int j, S => .ok (.int (i + j)) S
  | .str a, .str b, S => if a.length + b.length ≤ LINE then .ok (.str (a ++ b)) S else .bad
  | .tup a, .tup b, S => if a ≠ [] ∧ a.length + b.length ≤ LINE then .ok (.tup (a ++ b)) S else .bad
  | .ref m, .ref n, S => match S[m]?, S[n]? with
    | some (.lst a), some (.lst b) => if a.length + b.length ≤ LINE then new (.lst (a ++ b)) S else .bad
    | _, _ => .bad
  | _, _, _ => .bad
def oSub : Op2
  | .int i, .int j, S => .ok (.int (i - j)) S
  | _, _, _ => .bad
def oMul : Op2
  | .int i, .int j, S => if mulOk i j then .ok (.int (i * j)) S else .bad
  | .ref m, .int k, S => match S[m]? with
    | some (.lst a) => if -(2 ^ 63) ≤ k ∧ k < 2 ^ 63 ∧ a.length * k.toNat ≤ LINE then new (.lst (List.replicate k.toNat a).flatten) S else .bad
    | _ => .bad
  | _, _, _ => .bad
def divOk (j : Int) : Prop := 0 < j ∧ j.natAbs.log2 < 9000
instance (j : Int) : Decidable (divOk j) := by unfold divOk; infer_instance
def oDiv : Op2
  | .int i, .int j, S => if divOk j then .ok (.int (i / j)) S else .bad
  | _, _, _ => .bad
def oMod : Op2
  | .int i, .int j, S => if 0 < j then .ok (.int (i % j)) S else .bad
  | _, _, _ => .bad
def powOk (i j : Int) : Prop := 0 ≤ j ∧ j ≤ 1000000 ∧ i.natAbs < 2 ^ 64
instance (i j : Int) : Decidable (powOk i j) := by unfold powOk; infer_instance
def oPow : Op2
  | .int i, .int j, S => if powOk i j then .ok (.int (i ^ j.toNat)) S else .bad
  | _, _, _ => .bad
def oShl : Op2
  | .int i, .int j, S => if powOk i j then .ok (.int (i * 2 ^ j.toNat)) S else .bad
  | _, _, _ => .bad
def oShr : Op2
  | .int i, .int j, S => if 0 ≤ j then .ok (.int (i / 2 ^ j.toNat)) S else .bad
  | _, _, _ => .bad
def oBit (f : Nat → Nat → Nat) : Op2
  | .int i, .int j, S => if 0 ≤ i ∧ 0 ≤ j then .ok (.int (f i.toNat j.toNat : Nat)) S else .bad
  | _, _, _ => .bad
def oAnd : Op2 := oBit fun a b => a &&& b
def oOr : Op2 := oBit fun a b => a ||| b
def oXor : Op2 := oBit fun a b => a ^^^ b
def oCmp (p : Int → Int → Bool) : Op2
  | .int i, .int j, S => .ok (.bl (p i j)) S
  | _, _, _ => .bad
def oLt : Op2 := oCmp fun i j => decide (i < j)
def oLe : Op2 := oCmp fun i j => decide (i ≤ j)
def oGt : Op2 := oCmp fun i j => decide (j < i)
def oGe : Op2 := oCmp fun i j => decide (j ≤ i)
/-- x in y: a list or a tuple, a dict, a text (one sign) -/
def flatD : D → Bool
  | .non => true
  | .bl _ => true
  | .int _ => true
  | .str _ => true
  | _ => false
def eqF : D → D → Bool
  | .non, .non => true
  | .bl a, .bl b => a == b
  | .bl a, .int b => (if a then 1 else 0) == b
  | .int a, .bl b => a == (if b then 1 else 0)
  | .int a, .int b => a == b
  | .str a, .str b => a == b
  | _, _ => false
def inSeq (x : D) (l : List D) (S : Store) : Option Bool :=
  if flatD x = true ∧ l.all flatD = true then some (l.any fun y => eqF y x) else
  match pd S x, toPs (lookP 8 S) l with
    | some p, some q => if shp p = true ∧ shp (.list q) = true then some (q.any fun z => PySem.PyData.eqv z p) else none
    | _, _ => none
def isIn (x y : D) (S : Store) : Option Bool := match y with
  | .str z => match x with
    | .str [c] => some (decide (c ∈ z))
    | _ => none
  | .tup l => inSeq x l S
  | .wtp l => inSeq x l S
  | .ref n => match S[n]? with
    | some (.lst l) => inSeq x l S
    | some (.fls l) => inSeq x l S
    | some (.dK kvs) => (kyOf x).map fun k => (dGet kvs k).isSome
    | some (.dT kvs) => (ktOf x).map fun k => (dGet kvs k).isSome
    | _ => none
  | _ => none
def oIn : Op2 := fun x y S => match isIn x y S with
  | some b => .ok (.bl b) S
  | none => .bad
def oNotIn : Op2 := fun x y S => match isIn x y S with
  | some b => .ok (.bl (!b)) S
  | none => .bad
/-- x[y] -/
def oIx : Op2 := fun x y S => match x, y with
  | .str z, .int i => if z.length ≤ LINE then (match atI z i with
    | some c => .ok (.str [c]) S
    | none => .bad) else .bad
  | .tup l, .int i => match atI l i with
    | some v => .ok v S
    | none => .bad
  | .wtp l, .int i => match atI l i with
    | some v => .ok v S
    | none => .bad
  | .ref n, k => match S[n]? with
    | some (.lst l) => (match k with
      | .int i => (match atI l i with
        | some v => .ok v S
        | none => .bad)
      | _ => .bad)
    | some (.fls l) => (match k with
      | .int i => (match atI l i with
        | some v => .ok v S
        | none => .bad)
      | _ => .bad)
    | _ => match dLook S n k with
      | some (some v) => .ok v S
      | _ => .bad
  | _, _ => .bad
/-- x[lo:hi] -/
def oSl (x : D) (lo hi : Option Int) (S : Store) : Res D := match x with
  | .str z => if z.length ≤ LINE then .ok (.str (cut z lo hi)) S else .bad
  | .tup l => if (cut l lo hi).length < l.length then .ok (.tup (cut l lo hi)) S else .bad
  | .ref n => match lstOf S n with
    | some l => new (.lst (cut l lo hi)) S
    | none => .bad
  | _ => .bad
/-- -x -/
def uNeg : D → Store → Res D
  | .int i, S => .ok (.int (-i)) S
  | _, _ => .bad
/-- truth -/
def truth (d : D) (S : Store) : Option Bool := match d with
  | .non => some false
  | .bl b => some b
  | .int i => some (i != 0)
  | .str s => if s.length ≤ LINE then some (s.length != 0) else none
  | .tup l => some (!l.isEmpty)
  | .ref n => match lstOf S n with
    | some l => some (!l.isEmpty)
    | none => none
  | _ => none
end Mi

set_option Elab.async false
set_option linter.all false
/-! Mi: steps. -/
namespace Mi
/-- a decision on any statement -/
noncomputable def dec (p : Prop) : Bool := @decide p (Classical.propDecidable p)
theorem dec_true {p : Prop} (h : p) : dec p = true := @decide_eq_true p (Classical.propDecidable p) h
theorem of_dec {p : Prop} (h : dec p = true) : p := @of_decide_eq_true p (Classical.propDecidable p) h

/-! ### expressions -/
def mVar (i : Nat) : EM := fun fr S => match fr[i]? with
  | some (some d) => .ok d S
  | _ => .bad
def mC (d : D) : EM := fun _ S => .ok d S
def mOp (g : Op2) (a b : EM) : EM := fun fr S => (a fr S).bind fun x S1 => (b fr S1).bind fun y S2 => g x y S2
def mUn (g : D → Store → Res D) (a : EM) : EM := fun fr S => (a fr S).bind fun x S1 => g x S1
def toB (d : D) (S : Store) : Res Bool := match d with
  | .bl b => .ok b S
  | _ => .bad
def mNot (a : EM) : EM := fun fr S => (a fr S).bind fun x S1 => (toB x S1).bind fun b S2 => .ok (.bl (!b)) S2
def mAnd (a b : EM) : EM := fun fr S => (a fr S).bind fun x S1 => (toB x S1).bind fun c S2 => if c then b fr S2 else .ok (.bl false) S2
def mOr (a b : EM) : EM := fun fr S => (a fr S).bind fun x S1 => (toB x S1).bind fun c S2 => if c then .ok (.bl true) S2 else b fr S2
def tTru (a : EM) : TM := fun fr S => (a fr S).bind fun x S1 => match truth x S1 with
  | some b => .ok b S1
  | none => .bad
def tBl (a : EM) : TM := fun fr S => (a fr S).bind fun x S1 => toB x S1
def tAnd (a b : TM) : TM := fun fr S => (a fr S).bind fun c S1 => if c then b fr S1 else .ok false S1
def tOr (a b : TM) : TM := fun fr S => (a fr S).bind fun c S1 => if c then .ok true S1 else b fr S1
def tNot (a : TM) : TM := fun fr S => (a fr S).bind fun c S1 => .ok (!c) S1
def mIfE (t : TM) (a b : EM) : EM := fun fr S => (t fr S).bind fun c S1 => if c then a fr S1 else b fr S1
/-- a < b < c -/
def mChain (g h : Op2) (a b c : EM) : EM := fun fr S => (a fr S).bind fun x S1 => (b fr S1).bind fun y S2 => (g x y S2).bind fun z S3 => (toB z S3).bind fun k S4 =>
  if k then (c fr S4).bind fun w S5 => h y w S5 else .ok (.bl false) S4
def aNil : AM := fun _ S => .ok [] S
def aCons (a : EM) (r : AM) : AM := fun fr S => (a fr S).bind fun x S1 => (r fr S1).bind fun xs S2 => .ok (x :: xs) S2
def mTup (a : AM) : EM := fun fr S => (a fr S).bind fun xs S1 => if xs.length ≤ LINE then .ok (.tup xs) S1 else .bad
def mLst (a : AM) : EM := fun fr S => (a fr S).bind fun xs S1 => if xs.length ≤ LINE then new (.lst xs) S1 else .bad
def mCall (f : Fn) (a : AM) : EM := fun fr S => (a fr S).bind f
/-- o.m(..) of a built-in type: first the type, then the arguments -/
def mMt (T : D → Store → Bool) (f : D → Fn) (o : EM) (a : AM) : EM := fun fr S => (o fr S).bind fun x S1 => if T x S1 then (a fr S1).bind (f x) else .bad
def mNewK : EM := fun _ S => new (.dK []) S
def mNewT : EM := fun _ S => new (.dT []) S
/-- a slice's part -/
abbrev PM := Fr → Store → Res (Option Int)
def pNo : PM := fun _ S => .ok none S
def pSome (a : EM) : PM := fun fr S => (a fr S).bind fun x S1 => match x with
  | .int i => .ok (some i) S1
  | _ => .bad
def mSl (a : EM) (lo hi : PM) : EM := fun fr S => (a fr S).bind fun x S1 => (lo fr S1).bind fun l S2 => (hi fr S2).bind fun h S3 => oSl x l h S3

/-! ### targets -/
abbrev GM := D → Fr → Store → Res Fr
abbrev GMs := List D → Fr → Store → Res Fr
def gName (i : Nat) : GM := fun d fr S => .ok (fr.set i (some d)) S
def gNil : GMs := fun ds fr S => match ds with
  | [] => .ok fr S
  | _ => .bad
def gCons (g : GM) (gs : GMs) : GMs := fun ds fr S => match ds with
  | d :: r => (g d fr S).bind fun fr' S' => gs r fr' S'
  | [] => .bad
/-- a, b, ..: of a tuple of that size -/
def gTup (n : Nat) (g : GMs) : GM := fun d fr S => match seqOf S d with
  | some l => if l.length = n then g l fr S else .bad
  | none => .bad
/-- o[i] = v: a list, a dict -/
def setIx (o i v : D) (S : Store) : Res Unit := match o with
  | .ref n => match S[n]? with
    | some (.lst l) => match i with
      | .int k => match ixN l.length k with
        | some j => .ok () (S.set n (.lst (l.set j v)))
        | none => .bad
      | _ => .bad
    | some (.dK kvs) => match kyOf i with
      | some k => if kvs.length < LINE then .ok () (S.set n (.dK (dPut kvs k v))) else .bad
      | none => .bad
    | some (.dT kvs) => match ktOf i with
      | some k => if kvs.length < LINE then .ok () (S.set n (.dT (dPut kvs k v))) else .bad
      | none => .bad
    | _ => .bad
  | _ => .bad
def gSub (o i : EM) : GM := fun v fr S => (o fr S).bind fun x S1 => (i fr S1).bind fun y S2 => (setIx x y v S2).bind fun _ S3 => .ok fr S3

/-! ### statements -/
def sNx : SM := fun fr S => .ok (.nx fr) S
def sSeq (a b : SM) : SM := fun fr S => (a fr S).bind fun o S1 => match o with
  | .nx fr' => b fr' S1
  | o => .ok o S1
def sAsg (e : EM) (g : GM) : SM := fun fr S => (e fr S).bind fun x S1 => (g x fr S1).bind fun fr' S2 => .ok (.nx fr') S2
def sPar (i j : Nat) (a : AM) : SM := fun fr S => (a fr S).bind fun ds S1 => match ds with
  | [x, y] => .ok (.nx ((fr.set i (some x)).set j (some y))) S1
  | _ => .bad
def oAddI : Op2 := fun x y S => match x, y with
  | .int a, .int b => .ok (.int (a + b)) S
  | _, _ => .bad
def sAug (i : Nat) (g : Op2) (e : EM) : SM := fun fr S => match fr[i]? with
  | some (some x) => (e fr S).bind fun y S1 => (g x y S1).bind fun z S2 => .ok (.nx (fr.set i (some z))) S2
  | _ => .bad
def sExp (e : EM) : SM := fun fr S => (e fr S).bind fun _ S1 => .ok (.nx fr) S1
def sRet (e : EM) : SM := fun fr S => (e fr S).bind fun x S1 => .ok (.rt x) S1
def sRetN : SM := fun _ S => .ok (.rt .non) S
def sBrk : SM := fun fr S => .ok (.bk fr) S
def sCnt : SM := fun fr S => .ok (.ct fr) S
def sBad : SM := fun _ _ => .bad
def sIf (t : TM) (a b : SM) : SM := fun fr S => (t fr S).bind fun c S1 => if c then a fr S1 else b fr S1

/-! ### what is walked -/
structure Its where
  items : List D
  hs : List (Nat × List D)
abbrev IM := Fr → Store → Res Its
def stands (hs : List (Nat × List D)) (S : Store) : Prop := ∀ p, p ∈ hs → lstOf S p.1 = some p.2
def iSeq (e : EM) : IM := fun fr S => (e fr S).bind fun x S1 => match x with
  | .tup l => .ok ⟨l, []⟩ S1
  | .wtp l => .ok ⟨l, []⟩ S1
  | .ref n => match lstOf S1 n with
    | some l => .ok ⟨l, [(n, l)]⟩ S1
    | none => .bad
  | _ => .bad
def iStr (e : EM) : IM := fun fr S => (e fr S).bind fun x S1 => match x with
  | .str z => .ok ⟨z.map fun c => .str [c], []⟩ S1
  | _ => .bad
def rng (lo : Int) (n : Nat) : List D := (List.range n).map fun k => .int (lo + (k : Nat))
def far (i : Int) : Prop := -(2 ^ 62) ≤ i ∧ i < 2 ^ 62
instance (i : Int) : Decidable (far i) := by unfold far; infer_instance
def iRng1 (a : AM) : IM := fun fr S => (a fr S).bind fun ds S1 => match ds with
  | [.int j] => if far j then .ok ⟨rng 0 j.toNat, []⟩ S1 else .bad
  | _ => .bad
def iRng2 (a : AM) : IM := fun fr S => (a fr S).bind fun ds S1 => match ds with
  | [.int i, .int j] => if far i ∧ far j then .ok ⟨rng i (j - i).toNat, []⟩ S1 else .bad
  | _ => .bad
/-- range(a, b, -1) -/
def iRngD (a : AM) : IM := fun fr S => (a fr S).bind fun ds S1 => match ds with
  | [.int i, .int j, .int c] => if far i ∧ far j ∧ c = -1 then .ok ⟨(List.range (i - j).toNat).map fun k => .int (i - (k : Nat)), []⟩ S1 else .bad
  | _ => .bad
/-- enumerate(list): the pairs -/
def prs (i : Nat) : List D → List D
  | [] => []
  | d :: l => .tup [.int (i : Nat), d] :: prs (i + 1) l
def iEnum (a : AM) : IM := fun fr S => (a fr S).bind fun ds S1 => match ds with
  | [.ref n] => match lstOf S1 n with
    | some l => .ok ⟨prs 0 l, [(n, l)]⟩ S1
    | none => .bad
  | _ => .bad
def iZip (a : AM) : IM := fun fr S => (a fr S).bind fun ds S1 => match ds with
  | [.ref m, .ref n] => match lstOf S1 m, lstOf S1 n with
    | some l, some r => .ok ⟨List.zipWith (fun x y => .tup [x, y]) l r, [(m, l), (n, r)]⟩ S1
    | _, _ => .bad
  | _ => .bad
def iRev (a : AM) : IM := fun fr S => (a fr S).bind fun ds S1 => match ds with
  | [.ref n] => match lstOf S1 n with
    | some l => .ok ⟨l.reverse, [(n, l)]⟩ S1
    | none => .bad
  | _ => .bad
/-- behind a turn -/
def goOn (k : SM) : Out → Store → Res Out
  | .nx fr, S => k fr S
  | .ct fr, S => k fr S
  | .bk fr, S => .ok (.nx fr) S
  | .rt x, S => .ok (.rt x) S
noncomputable def loopM (hs : List (Nat × List D)) (turn : D → SM) : List D → SM
  | [], fr, S => if dec (stands hs S) = true then .ok (.nx fr) S else .bad
  | d :: ds, fr, S => if dec (stands hs S) = true then (turn d fr S).bind (goOn (loopM hs turn ds)) else .bad
noncomputable def sFor (i : IM) (g : GM) (b : SM) : SM := fun fr S => (i fr S).bind fun I S1 => loopM I.hs (fun d fr S => (g d fr S).bind fun fr' S' => b fr' S') I.items fr S1
def whileN (t : TM) (b : SM) : Nat → SM
  | 0, _, _ => .bad
  | n + 1, fr, S => (t fr S).bind fun c S1 => if c then (b fr S1).bind (goOn (whileN t b n)) else .ok (.nx fr) S1
open Classical in
noncomputable def sWhile (t : TM) (b : SM) : SM := fun fr S => if h : ∃ n, whileN t b n fr S ≠ .bad then whileN t b (Classical.choose h) fr S else .bad

/-! ### comprehensions -/
def unset : List Nat → Fr → Fr
  | [], fr => fr
  | i :: r, fr => (unset r fr).set i none
noncomputable def lcLoop (hs : List (Nat × List D)) (n : Nat) (g : GM) (t : TM) (e : EM) (fr : Fr) : List D → Store → Res D
  | [], S => if dec (stands hs S) = true then .ok (.ref n) S else .bad
  | d :: ds, S => if dec (stands hs S) = true then (g d fr S).bind fun fr' S1 => (t fr' S1).bind fun c S2 =>
      if c then (e fr' S2).bind fun x S3 => match S3[n]? with
        | some (.lst acc) => if acc.length < LINE then lcLoop hs n g t e fr ds (S3.set n (.lst (acc ++ [x]))) else .bad
        | _ => .bad
      else lcLoop hs n g t e fr ds S2
    else .bad
def tYes : TM := fun _ S => .ok true S
/-- no refusal within -/
def quiet {α : Type} : Res α → Res α
  | .ok a S => .ok a S
  | _ => .bad
noncomputable def mLc (vs : List Nat) (i : IM) (g : GM) (t : TM) (e : EM) : EM := fun fr S => (i fr S).bind fun I S1 =>
  lcLoop I.hs S1.length g (fun fr S => quiet (t fr S)) (fun fr S => quiet (e fr S)) (unset vs fr) I.items (S1 ++ [.lst []])

/-! ### a def -/
def startF (n : Nat) (ds : List D) : Fr := ds.map some ++ List.replicate (n - ds.length) none
def mDefX (np n : Nat) (b : SM) : Fn := fun ds S => if ds.length = np then (b (startF n ds) S).bind fun o S1 => match o with
  | .rt x => .ok x S1
  | .nx _ => .ok .non S1
  | _ => .bad
  else .bad
/-- a def that refuses nothing -/
def mDef (np n : Nat) (b : SM) : Fn := fun ds S => quiet (mDefX np n b ds S)

/-! ### built-ins -/
def bLen : Fn := fun ds S => match ds with
  | [.str s] => if s.length ≤ LINE then .ok (.int (s.length : Nat)) S else .bad
  | [.tup l] => .ok (.int (l.length : Nat)) S
  | [.wtp l] => .ok (.int (l.length : Nat)) S
  | [.ref n] => match S[n]? with
    | some (.lst l) => .ok (.int (l.length : Nat)) S
    | some (.fls l) => .ok (.int (l.length : Nat)) S
    | some (.dK k) => .ok (.int (k.length : Nat)) S
    | some (.dT k) => .ok (.int (k.length : Nat)) S
    | _ => .bad
  | _ => .bad
def bAbs : Fn := fun ds S => match ds with
  | [.int i] => .ok (.int (if i < 0 then -i else i)) S
  | _ => .bad
def bInt : Fn := fun ds S => match ds with
  | [.int i] => .ok (.int i) S
  | [.bl b] => .ok (.int (if b then 1 else 0)) S
  | _ => .bad
def bMax : Fn := fun ds S => match ds with
  | [.int i, .int j] => .ok (.int (if j > i then j else i)) S
  | _ => .bad
def bMin : Fn := fun ds S => match ds with
  | [.int i, .int j] => .ok (.int (if j < i then j else i)) S
  | _ => .bad
def bList : Fn := fun ds S => match ds with
  | [x] => match seqOf S x with
    | some l => new (.lst l) S
    | none => match x with
      | .ref n => match S[n]? with
        | some (.dK k) => new (.lst (k.map fun p => kyD p.1)) S
        | some (.dT k) => new (.lst (k.map fun p => .tup (p.1.map kyD))) S
        | _ => .bad
      | _ => .bad
  | _ => .bad
def bTuple : Fn := fun ds S => match ds with
  | [.tup l] => .ok (.tup l) S
  | [.ref n] => match lstOf S n with
    | some l => .ok (.tup l) S
    | none => .bad
  | _ => .bad
def intsOf : List D → Option (List Int)
  | [] => some []
  | .int i :: r => (intsOf r).map fun l => i :: l
  | _ => none
def bSum : Fn := fun ds S => match ds with
  | [.ref n] => match (lstOf S n).bind intsOf with
    | some l => .ok (.int l.sum) S
    | none => .bad
  | _ => .bad
def blsOf : List D → Option (List Bool)
  | [] => some []
  | .bl i :: r => (blsOf r).map fun l => i :: l
  | _ => none
def bAny : Fn := fun ds S => match ds with
  | [.ref n] => match (lstOf S n).bind blsOf with
    | some l => .ok (.bl (l.any id)) S
    | none => .bad
  | _ => .bad
def bAll : Fn := fun ds S => match ds with
  | [.ref n] => match (lstOf S n).bind blsOf with
    | some l => .ok (.bl (l.all id)) S
    | none => .bad
  | _ => .bad
/-- isinstance(x, T), T one of the built-in types by name -/
inductive Ty where
  | int | bool | str | list | tuple | dict
  deriving DecidableEq
def tyOf (S : Store) : D → Option Ty
  | .bl _ => some .bool
  | .int _ => some .int
  | .str _ => some .str
  | .tup _ => some .tuple
  | .wtp _ => none
  | .non => none
  | .ref n => match S[n]? with
    | some (.lst _) => some .list
    | some (.fls _) => some .list
    | some (.dK _) => some .dict
    | some (.dT _) => some .dict
    | _ => none
def isI (T : Ty) (x : D) (S : Store) : Option Bool := match x with
  | .non => some false
  | x => (tyOf S x).map fun U => decide (U = T) || (decide (U = .bool) && decide (T = .int))
def bIsI (T : Ty) : D → Store → Res D := fun x S => match isI T x S with
  | some b => .ok (.bl b) S
  | none => .bad

/-! ### methods -/
def isLst (d : D) (S : Store) : Bool := match d with
  | .ref n => (lstOf S n).isSome
  | _ => false
def isDct (d : D) (S : Store) : Bool := match d with
  | .ref n => match S[n]? with
    | some (.dK _) => true
    | some (.dT _) => true
    | _ => false
  | _ => false
def isStr (d : D) (_ : Store) : Bool := match d with
  | .str _ => true
  | _ => false
def mutL (d : D) (S : Store) (f : Nat → List D → Res D) : Res D := match d with
  | .ref n => match S[n]? with
    | some (.lst l) => f n l
    | _ => .bad
  | _ => .bad
def lAppend (o : D) : Fn := fun ds S => match ds with
  | [x] => mutL o S fun n l => if l.length < LINE then .ok .non (S.set n (.lst (l ++ [x]))) else .bad
  | _ => .bad
def lPop (o : D) : Fn := fun ds S => match ds with
  | [] => mutL o S fun n l => match l[l.length - 1]? with
    | some y => .ok y (S.set n (.lst l.dropLast))
    | none => .bad
  | [.int i] => mutL o S fun n l => if -(2 ^ 63) ≤ i ∧ i < 2 ^ 63 then (match (ixN l.length i) with
    | some k => (match l[k]? with
      | some y => .ok y (S.set n (.lst (l.eraseIdx k)))
      | none => .bad)
    | none => .bad) else .bad
  | _ => .bad
def lReverse (o : D) : Fn := fun ds S => match ds with
  | [] => mutL o S fun n l => .ok .non (S.set n (.lst l.reverse))
  | _ => .bad
def lClear (o : D) : Fn := fun ds S => match ds with
  | [] => mutL o S fun n l => .ok .non (S.set n (.lst []))
  | _ => .bad
def lExtend (o : D) : Fn := fun ds S => match ds with
  | [.ref m] => mutL o S fun n l => match S[m]? with
    | some (.lst r) => if l.length + r.length ≤ LINE then .ok .non (S.set n (.lst (l ++ r))) else .bad
    | _ => .bad
  | _ => .bad
/-- l.insert(i, x), i from 0 on -/
def lInsert (o : D) : Fn := fun ds S => match ds with
  | [.int i, x] => mutL o S fun n l => if l.length < LINE ∧ 0 ≤ i ∧ i < 2 ^ 63 then .ok .non (S.set n (.lst (l.take i.toNat ++ [x] ++ l.drop i.toNat))) else .bad
  | _ => .bad
/-- where the first equal one stands -/
def firstAt (p : D → Bool) : List D → Nat → Option Nat
  | [], _ => none
  | d :: l, k => if p d then some k else firstAt p l (k + 1)
def lIndexF (o : D) : Fn := fun ds S => match ds with
  | [x] => match o with
    | .ref n => match lstOf S n with
      | some l => if flatD x = true ∧ l.all flatD = true then (match firstAt (fun y => eqF y x) l 0 with
        | some k => .ok (.int (k : Nat)) S
        | none => .bad) else .bad
      | none => .bad
    | _ => .bad
  | _ => .bad
def dGetM (o : D) : Fn := fun ds S => match o with
  | .ref n => match ds with
    | [k] => match dLook S n k with
      | some r => .ok (r.getD .non) S
      | none => .bad
    | [k, x] => match dLook S n k with
      | some r => .ok (r.getD x) S
      | none => .bad
    | _ => .bad
  | _ => .bad
/-- texts of a list -/
def txsOf : List D → Option (List Tx)
  | [] => some []
  | .str s :: r => (txsOf r).map fun l => s :: l
  | _ => none
def joinT (sep : Tx) : List Tx → Tx
  | [] => []
  | [x] => x
  | x :: y :: r => x ++ sep ++ joinT sep (y :: r)
def sJoin (o : D) : Fn := fun ds S => match o with
  | .str a => match ds with
    | [d] => match (seqOf S d).bind txsOf with
      | some ys => if (ys.map List.length).sum + ys.length * a.length ≤ LINE then .ok (.str (joinT a ys)) S else .bad
      | none => .bad
    | _ => .bad
  | _ => .bad
def sIndex (o : D) : Fn := fun ds S => match o with
  | .str a => match ds with
    | [.str b] => match PySem.Builtin.Str.occurrences ⟨a.toArray⟩ ⟨b.toArray⟩ 0 (PySem.Str.mk a.toArray).length 1 with
      | i :: _ => .ok (.int (i : Nat)) S
      | [] => .bad
    | _ => .bad
  | _ => .bad
/-- reversed(range(n)) -/
def iRevR (a : EM) : IM := fun fr S => (a fr S).bind fun x S1 => match x with
  | .int j => if far j then .ok ⟨(List.range j.toNat).map fun k => .int ((j.toNat : Int) - 1 - (k : Nat)), []⟩ S1 else .bad
  | _ => .bad
/-- the i-th place of a sign in a text -/
def findC (c : Nat) : Tx → Nat → Option Nat
  | [], _ => none
  | d :: l, k => if d = c then some k else findC c l (k + 1)
end Mi

set_option Elab.async false
set_option linter.all false
/-! Mi: more steps. -/
namespace Mi
theorem Res.bind_assoc {α β γ : Type} (r : Res α) (f : α → Store → Res β) (g : β → Store → Res γ) : (r.bind f).bind g = r.bind fun a S => (f a S).bind g := by
  cases r <;> rfl
/-- the pairs of a display -/
def mPairs : List (EM × EM) → Fr → Store → Res (List (D × D))
  | [], _, S => .ok [] S
  | (a, b) :: r, fr, S => (a fr S).bind fun x S1 => (b fr S1).bind fun y S2 => (mPairs r fr S2).bind fun ps S3 => .ok ((x, y) :: ps) S3
def kvsM : List (D × D) → Option (List (Ky × D))
  | [] => some []
  | (k, v) :: r => (kyOf k).bind fun q => (kvsM r).map fun l => (q, v) :: l
def putM (l : List (Ky × D)) : List (Ky × D) := l.foldl (fun acc kv => dPut acc kv.1 kv.2) []
def disK (n : Nat) (S : Store) : Option (List (Ky × D)) → Option O → Res D
  | some kvs, some (.dK []) => if kvs.length ≤ 15 then .ok (.ref n) (S.set n (.dK (putM kvs))) else .bad
  | _, _ => .bad
/-- {k: v, ..} -/
def mDis (ps : List (EM × EM)) : EM := fun fr S => (mPairs ps fr (S ++ [.dK []])).bind fun xs S1 => disK S.length S1 (kvsM xs) S1[S.length]?
/-! ### texts -/
/-- cut at each c -/
def spC (c : Nat) : Tx → Tx → List Tx
  | acc, [] => [acc]
  | acc, d :: r => if d = c then acc :: spC c [] r else spC c (acc ++ [d]) r
/-- what stands before the first c, and behind it -/
def paC (c : Nat) : Tx → Tx → Option (Tx × Tx)
  | _, [] => none
  | acc, d :: r => if d = c then some (acc, r) else paC c (acc ++ [d]) r
def sSplit (o : D) : Fn := fun ds S => match o with
  | .str a => match ds with
    | [.str [c]] => if c < 256 ∧ a.length + 2 ≤ LINE then new (.lst ((spC c [] a).map .str)) S else .bad
    | _ => .bad
  | _ => .bad
def sPartition (o : D) : Fn := fun ds S => match o with
  | .str a => match ds with
    | [.str [c]] => if a.length ≤ LINE then (match paC c [] a with
      | some (x, y) => .ok (.tup [.str x, .str [c], .str y]) S
      | none => .ok (.tup [.str a, .str [], .str []]) S) else .bad
    | _ => .bad
  | _ => .bad
/-- a whole number's figures -/
def numT (n : Nat) : Tx := (Nat.toDigits 10 n).map Char.toNat
def bStr : Fn := fun ds S => match ds with
  | [.int i] => if 0 ≤ i ∧ i.natAbs.log2 < 1920 then .ok (.str (numT i.toNat)) S else .bad
  | [.str s] => .ok (.str s) S
  | _ => .bad
def digV (s : Tx) : Nat := s.foldl (fun acc c => acc * 10 + (c - 48)) 0
def isDig (c : Nat) : Bool := decide (48 ≤ c) && decide (c ≤ 57)
/-- int(text) -/
def bIntS : Fn := fun ds S => match ds with
  | [.str s] => if s.all isDig = true ∧ s ≠ [] ∧ s.length ≤ 640 then .ok (.int (digV s : Nat)) S else .bad
  | _ => .bad
def oMulS : Op2 := fun x y S => match x, y with
  | .str a, .int k => if a.length ≤ 16 ∧ 0 ≤ k ∧ k ≤ 1048576 then .ok (.str (List.replicate k.toNat a).flatten) S else .bad
  | _, _ => .bad
/-- {x} -/
def fmtD : D → Store → Res D := fun x S => match x with
  | .str s => if s.length ≤ LINE then .ok (.str s) S else .bad
  | .int i => if 0 ≤ i ∧ i.natAbs.log2 < 1920 then .ok (.str (numT i.toNat)) S else .bad
  | _ => .bad
def mJs : List EM → Tx → EM
  | [], acc, _, S => .ok (.str acc) S
  | e :: r, acc, fr, S => (e fr S).bind fun x S1 => match x with
    | .str y => if (acc ++ y).length ≤ LINE then mJs r (acc ++ y) fr S1 else .bad
    | _ => .bad
/-- f'..' -/
def mFst (l : List EM) : EM := mJs l []
end Mi

set_option Elab.async false
set_option linter.all false
/-! Mi: == where a dict may stand, upper of the six words -/
namespace Mi
def oEqX : Op2 := fun x y S => match x, y with
  | .ref n, .str _ => (match S[n]? with
    | some (.dK _) => .ok (.bl false) S
    | _ => oEq x y S)
  | _, _ => oEq x y S
def sixW : List Tx := [[114, 101, 99, 107, 111, 110], [99, 111, 112, 121], [115, 97, 121], [103, 111], [112, 97, 114, 116], [101, 110, 100]]
def sUpper (o : D) : Fn := fun ds S => match o with
  | .str s => match ds with
    | [] => if s ∈ sixW then .ok (.str (s.map fun c => c - 32)) S else .bad
    | _ => .bad
  | _ => .bad
/-- x + y, tuples of any size -/
def oAddA : Op2 := fun x y S => match x, y with
  | .tup a, .tup b => if a.length + b.length ≤ LINE then .ok (.tup (a ++ b)) S else .bad
  | _, _ => oAdd x y S
/-- x[lo:hi], tuples of any size -/
def oSlA (x : D) (lo hi : Option Int) (S : Store) : Res D := match x with
  | .tup l => .ok (.tup (cut l lo hi)) S
  | _ => oSl x lo hi S
def mSlA (a : EM) (lo hi : PM) : EM := fun fr S => (a fr S).bind fun x S1 => (lo fr S1).bind fun l S2 => (hi fr S2).bind fun h S3 => oSlA x l h S3
end Mi

set_option Elab.async false
set_option linter.all false
/-! Mi: a[::-1] of a list -/
namespace Mi
def oRev (x : D) (S : Store) : Res D := match x with
  | .ref n => (match lstOf S n with
    | some l => new (.lst l.reverse) S
    | none => .bad)
  | _ => .bad
def mRev (a : EM) (st : PM) : EM := fun fr S => (a fr S).bind fun x S1 => (st fr S1).bind fun o S2 => if o = some (-1) then oRev x S2 else .bad
end Mi

set_option Elab.async false
set_option linter.all false
/-! Mi: walks over dicts, == of dicts, clear -/
namespace Mi
/-- the locked dict -/
def zOf : O → Option O
  | .dK k => some (.zK k)
  | .dT k => some (.zT k)
  | _ => none
inductive Wk where
  | key | val | itm
def zItems : Wk → O → Option (List D)
  | .key, .zK k => some (k.map fun p => kyD p.1)
  | .key, .zT k => some (k.map fun p => .tup (p.1.map kyD))
  | .val, .zK k => some (k.map fun p => p.2)
  | .val, .zT k => some (k.map fun p => p.2)
  | .itm, .zK k => some (k.map fun p => .tup [kyD p.1, p.2])
  | _, _ => none
noncomputable def loopZ (n : Nat) (z : O) (turn : D → SM) : List D → SM
  | [], fr, S => if dec (S[n]? = some z) = true then .ok (.nx fr) S else .bad
  | d :: ds, fr, S => if dec (S[n]? = some z) = true then (turn d fr S).bind (goOn (loopZ n z turn ds)) else .bad
noncomputable def runZ (e : EM) (g : GM) (b : SM) (fr : Fr) (S : Store) (n : Nat) (o z : O) (l : List D) : Res Out :=
  (e fr (S.set n z)).bind fun x S1 => match x with
    | .ref n' => if n' = n then (loopZ n z (fun d fr S => (g d fr S).bind fun fr' S' => b fr' S') l fr S1).bind fun out S2 => if dec (S2[n]? = some z) = true then .ok out (S2.set n o) else .bad else .bad
    | _ => .bad
/-- for x in d, d.values(), d.items() -/
noncomputable def sForD (w : Wk) (e : EM) (g : GM) (b : SM) : SM := fun fr S => match e fr S with
  | .ok (.ref n) _ => (match S[n]? with
    | some o => (match zOf o with
      | some z => (match zItems w z with
        | some l => runZ e g b fr S n o z l
        | none => .bad)
      | none => .bad)
    | none => .bad)
  | _ => .bad
/-- the same keys, the same flat values -/
def dSame {κ : Type} [DecidableEq κ] (k l : List (κ × D)) : Bool := decide (k.length = l.length) && k.all fun p => match dGet l p.1 with
  | some v => flatD p.2 && flatD v && decide (scq p.2 v = some true)
  | none => false
def oSame (x y : D) (S : Store) : Bool := match x, y with
  | .ref m, .ref n => (match S[m]?, S[n]? with
    | some (.dK k), some (.dK l) => dSame k l
    | some (.dT k), some (.dT l) => dSame k l
    | _, _ => false)
  | _, _ => false
def oEqD : Op2 := fun x y S => if oSame x y S then .ok (.bl true) S else oEq x y S
def oNeD : Op2 := fun x y S => if oSame x y S then .ok (.bl false) S else oNe x y S
/-- d.clear() -/
def dClear (o : D) : Fn := fun ds S => match o with
  | .ref n => (match ds with
    | [] => (match S[n]? with
      | some (.dK _) => .ok .non (S.set n (.dK []))
      | some (.dT _) => .ok .non (S.set n (.dT []))
      | _ => .bad)
    | _ => .bad)
  | _ => .bad
end Mi

set_option Elab.async false
set_option linter.all false
/-! Mi: defaults; tuples known as they stand; dict(..) -/
namespace Mi
/-- the defaults behind what is written -/
def mDfl (g : Fn) (xs : List D) : Fn := fun ds S => g (ds ++ xs) S
@[simp] theorem mDfl_s (g : Fn) (xs ds : List D) (S : Store) : mDfl g xs ds S = g (ds ++ xs) S := (rfl)
def bTupX : Fn := fun ds S => match ds with
  | [.tup l] => .ok (.tup l) S
  | [.wtp l] => .ok (.wtp l) S
  | [.ref n] => match lstOf S n with
    | some l => .ok (.wtp l) S
    | none => .bad
  | _ => .bad
def prsOf : List D → Option (List (Ky × D))
  | [] => some []
  | .tup [k, v] :: r => (kyOf k).bind fun q => (prsOf r).map fun l => (q, v) :: l
  | _ => none
def bDict : Fn := fun ds S => match ds with
  | [.wtp l] => match prsOf l with
    | some ps => new (.dK (ps.foldl (fun acc p => dPut acc p.1 p.2) [])) S
    | none => .bad
  | [.ref n] => match S[n]? with
    | some (.dK k) => new (.dK k) S
    | _ => .bad
  | _ => .bad
end Mi

set_option Elab.async false
set_option linter.all false
set_option maxRecDepth 100000
set_option maxHeartbeats 2000000
/-! the small language against the layer -/
namespace Sm
open PySem PySem.Spec PyProof.Rows L2 Mi

/-- what the written part is, what the module's names stand for -/
structure Ct where
  K : PySem.W.Frag
  mg : Str → Option Value
def sOf (s : Tx) : Str := ⟨s.toArray⟩
theorem sOf_inj {a b : Tx} (h : sOf a = sOf b) : a = b := by
  have e : a.toArray = b.toArray := congrArg Str.cps h
  simpa using e
theorem sOf_eq {a b : Tx} : decide (sOf a = sOf b) = decide (a = b) := by
  by_cases h : a = b
  · subst h; simp
  · have q : ¬ sOf a = sOf b := fun z => h (sOf_inj z)
    rw [decide_eq_false h, decide_eq_false q]
theorem sOf_len (a : Tx) : (sOf a).length = a.length := by
  show a.toArray.size = a.length
  simp
def H0 : Hp := fun _ => none
/-- a tuple known as it stands: no dict of its own -/
def Wt (K : PySem.W.Frag) (H : Hp) (a : Addr) (xs : List V) : Prop := (∃ o : Obj, H a = some (.frz o (.tup xs)) ∧ o.dict = none) ∨ (SqT K H0 a xs ∧ ∃ o : Obj, K.lookup a = some o ∧ o.dict = none)
mutual
inductive RelD (K : PySem.W.Frag) (H : Hp) (m : List Addr) : D → V → Prop
  | non : RelD K H m .non .non
  | bl (b : Bool) : RelD K H m (.bl b) (.bl b)
  | int (i : Int) : RelD K H m (.int i) (.int i)
  | str (s : Tx) : RelD K H m (.str s) (.str (sOf s))
  | tup {l : List D} {a : Addr} {xs : List V} (h : H a = some (.tup xs)) (r : RelL K H m l xs) : RelD K H m (.tup l) (.ref a)
  | wtp {l : List D} {a : Addr} {xs : List V} (h : Wt K H a xs) (r : RelL K H m l xs) : RelD K H m (.wtp l) (.ref a)
  | ref {n : Nat} {a : Addr} (h : m[n]? = some a) : RelD K H m (.ref n) (.ref a)
inductive RelL (K : PySem.W.Frag) (H : Hp) (m : List Addr) : List D → List V → Prop
  | nil : RelL K H m [] []
  | cons {d : D} {l : List D} {v : V} {r : List V} (h : RelD K H m d v) (t : RelL K H m l r) : RelL K H m (d :: l) (v :: r)
end
def tupO (u : HO) : Prop := (∃ xs, u = .tup xs) ∨ ∃ o xs, u = .frz o (.tup xs)
def TStay (H H' : Hp) : Prop := ∀ a u, tupO u → H a = some u → H' a = some u
theorem Wt.mono {K : PySem.W.Frag} {H H' : Hp} {a : Addr} {xs : List V} (t : TStay H H') (h : Wt K H a xs) : Wt K H' a xs := by
  rcases h with ⟨o, h, e⟩ | h
  · exact .inl ⟨o, t _ _ (.inr ⟨o, xs, rfl⟩) h, e⟩
  · exact .inr h
theorem Wt.sq {K : PySem.W.Frag} {H : Hp} {a : Addr} {xs : List V} (h : Wt K H a xs) : SqT K H a xs := by
  rcases h with ⟨o, h, _⟩ | ⟨h, _⟩
  · exact .inl (.inr ⟨o, h⟩)
  · rcases h with h | h
    · rcases h with h | ⟨o, h⟩ <;> cases h
    · exact .inr h
def MExt (m m' : List Addr) : Prop := ∀ (n : Nat) (a : Addr), m[n]? = some a → m'[n]? = some a
structure Ex0 (m : List Addr) (H : Hp) (m' : List Addr) (H' : Hp) : Prop where
  mx : MExt m m'
  ts : TStay H H'
structure Ext (m : List Addr) (H : Hp) (m' : List Addr) (H' : Hp) : Prop extends Ex0 m H m' H' where
  fz : ∀ a o u, H a = some (.frz o u) → H' a = some (.frz o u)
theorem Ext.refl (m : List Addr) (H : Hp) : Ext m H m H := ⟨⟨fun _ _ h => h, fun _ _ _ h => h⟩, fun _ _ _ h => h⟩
theorem Ext.trans {m m1 m2 : List Addr} {H H1 H2 : Hp} (a : Ext m H m1 H1) (b : Ext m1 H1 m2 H2) : Ext m H m2 H2 :=
  ⟨⟨fun n x h => b.mx n x (a.mx n x h), fun x u t h => b.ts x u t (a.ts x u t h)⟩, fun x o u h => b.fz x o u (a.fz x o u h)⟩
section
variable {K : PySem.W.Frag} {H H' : Hp} {m m' : List Addr}
mutual
theorem RelD.mono0 (e : Ex0 m H m' H') : ∀ {d : D} {v : V}, RelD K H m d v → RelD K H' m' d v
  | _, _, .non => .non
  | _, _, .bl b => .bl b
  | _, _, .int i => .int i
  | _, _, .str s => .str s
  | _, _, .tup h r => .tup (e.ts _ _ (.inl ⟨_, rfl⟩) h) (RelL.mono0 e r)
  | _, _, .wtp h r => .wtp (h.mono e.ts) (RelL.mono0 e r)
  | _, _, .ref h => .ref (e.mx _ _ h)
theorem RelL.mono0 (e : Ex0 m H m' H') : ∀ {d : List D} {v : List V}, RelL K H m d v → RelL K H' m' d v
  | _, _, .nil => .nil
  | _, _, .cons h t => .cons (RelD.mono0 e h) (RelL.mono0 e t)
end
theorem RelD.mono (e : Ext m H m' H') {d : D} {v : V} (h : RelD K H m d v) : RelD K H' m' d v := h.mono0 e.toEx0
theorem RelL.mono (e : Ext m H m' H') {d : List D} {v : List V} (h : RelL K H m d v) : RelL K H' m' d v := h.mono0 e.toEx0
theorem RelL.len : ∀ {l : List D} {xs : List V}, RelL K H m l xs → l.length = xs.length
  | _, _, .nil => rfl
  | _, _, .cons _ t => by rw [List.length_cons, List.length_cons, RelL.len t]
theorem RelL.ix : ∀ {l : List D} {xs : List V} {i : Nat} {d : D}, RelL K H m l xs → l[i]? = some d → ∃ v, xs[i]? = some v ∧ RelD K H m d v
  | _, _, 0, _, .cons h _, e => by
    have e' := Option.some.inj e
    subst e'
    exact ⟨_, rfl, h⟩
  | _, _, i + 1, _, .cons _ t, e => RelL.ix (i := i) t e
  | _, _, _, _, .nil, e => by cases e
theorem RelL.back : ∀ {l : List D} {xs : List V} {i : Nat} {v : V}, RelL K H m l xs → xs[i]? = some v → ∃ d, l[i]? = some d ∧ RelD K H m d v
  | _, _, 0, _, .cons h _, e => by
    have e' := Option.some.inj e
    subst e'
    exact ⟨_, rfl, h⟩
  | _, _, i + 1, _, .cons _ t, e => RelL.back (i := i) t e
  | _, _, _, _, .nil, e => by cases e
theorem RelL.app : ∀ {l r : List D} {xs ys : List V}, RelL K H m l xs → RelL K H m r ys → RelL K H m (l ++ r) (xs ++ ys)
  | _, _, _, _, .nil, h => h
  | _, _, _, _, .cons h t, h2 => .cons h (RelL.app t h2)
theorem RelL.one {d : D} {v : V} (h : RelD K H m d v) : RelL K H m [d] [v] := .cons h .nil
theorem RelL.take : ∀ {l : List D} {xs : List V} (n : Nat), RelL K H m l xs → RelL K H m (l.take n) (xs.take n)
  | _, _, 0, _ => .nil
  | _, _, _ + 1, .nil => .nil
  | _, _, n + 1, .cons h t => .cons h (RelL.take n t)
theorem RelL.drop : ∀ {l : List D} {xs : List V} (n : Nat), RelL K H m l xs → RelL K H m (l.drop n) (xs.drop n)
  | _, _, 0, h => h
  | _, _, _ + 1, .nil => .nil
  | _, _, n + 1, .cons _ t => RelL.drop n t
theorem RelL.set {d : D} {v : V} (h : RelD K H m d v) : ∀ {l : List D} {xs : List V} (i : Nat), RelL K H m l xs → RelL K H m (l.set i d) (xs.set i v)
  | _, _, _, .nil => .nil
  | _, _, 0, .cons _ t => .cons h t
  | _, _, i + 1, .cons q t => .cons q (RelL.set h i t)
theorem RelL.rev {l : List D} {xs : List V} (h : RelL K H m l xs) : RelL K H m l.reverse xs.reverse := by
  induction h using RelL.rec (motive_1 := fun _ _ _ => True) with
  | nil => exact .nil
  | cons h t _ ih =>
    rw [List.reverse_cons, List.reverse_cons]
    exact ih.app (.one h)
  | _ => trivial
theorem RelL.erase : ∀ {l : List D} {xs : List V} (i : Nat), RelL K H m l xs → RelL K H m (l.eraseIdx i) (xs.eraseIdx i)
  | _, _, _, .nil => .nil
  | _, _, 0, .cons _ t => t
  | _, _, i + 1, .cons q t => .cons q (RelL.erase i t)
theorem RelL.dropLast {l : List D} {xs : List V} (h : RelL K H m l xs) : RelL K H m l.dropLast xs.dropLast := by
  rw [List.dropLast_eq_take, List.dropLast_eq_take, h.len]
  exact h.take _
end
/-! ### keys -/
def kyK : Ky → Key
  | .inl i => .inl i
  | .inr s => .inr (sOf s)
theorem kyK_inj {a b : Ky} (h : kyK a = kyK b) : a = b := by
  cases a with
  | inl i => cases b with
    | inl j => cases (Sum.inl.inj h); rfl
    | inr s => cases h
  | inr s => cases b with
    | inl j => cases h
    | inr t => rw [sOf_inj (Sum.inr.inj h)]
theorem kysK_inj {a b : List Ky} (h : a.map kyK = b.map kyK) : a = b := by
  induction a generalizing b with
  | nil => cases b with
    | nil => rfl
    | cons => cases h
  | cons x a ih => cases b with
    | nil => cases h
    | cons y b =>
      rw [List.map_cons, List.map_cons] at h
      obtain ⟨h1, h2⟩ := List.cons.inj h
      rw [kyK_inj h1, ih h2]
section
variable {K : PySem.W.Frag} {H H' : Hp} {m m' : List Addr}
abbrev RelK (K : PySem.W.Frag) (H : Hp) (m : List Addr) {κ κ' : Type} (f : κ → κ') : List (κ × D) → List (κ' × V) → Prop := Paired fun p q => f p.1 = q.1 ∧ RelD K H m p.2 q.2
theorem RelK.mono0 {κ κ' : Type} {f : κ → κ'} (e : Ex0 m H m' H') {k : List (κ × D)} {kv : List (κ' × V)} (h : RelK K H m f k kv) : RelK K H' m' f k kv := Paired.mapP h fun _ _ z => ⟨z.1, z.2.mono0 e⟩
theorem RelK.mono {κ κ' : Type} {f : κ → κ'} (e : Ext m H m' H') {k : List (κ × D)} {kv : List (κ' × V)} (h : RelK K H m f k kv) : RelK K H' m' f k kv := RelK.mono0 e.toEx0 h
end
/-- what stands at an address -/
def RelO (c : Ct) (H : Hp) (m : List Addr) (a : Addr) : O → Prop
  | .lst l => ∃ xs, H a = some (.lst xs) ∧ RelL c.K H m l xs
  | .fls l => ∃ xs, ((∃ o, H a = some (.frz o (.lst xs))) ∨ SqL c.K H0 a xs) ∧ RelL c.K H m l xs
  | .dK k => ∃ kv, H a = some (.dK kv) ∧ RelK c.K H m kyK k kv
  | .dT k => ∃ kv, H a = some (.dT kv) ∧ RelK c.K H m (fun x => x.map kyK) k kv
  | .zK k => ∃ od kv, H a = some (.frz od (.dK kv)) ∧ RelK c.K H m kyK k kv
  | .zT k => ∃ od kv, H a = some (.frz od (.dT kv)) ∧ RelK c.K H m (fun x => x.map kyK) k kv
  | .ins C f => ∃ Ca dx fs, c.mg (C : Str) = some (.ref Ca) ∧ H a = some (.ins Ca dx fs) ∧ RelK c.K H m sOf f fs
def liv : O → Prop
  | .fls _ => False
  | .zK _ => False
  | .zT _ => False
  | _ => True
def own : O → Prop
  | .fls _ => False
  | _ => True
theorem liv.own {o : O} (h : liv o) : own o := by cases o <;> trivial
structure RS (c : Ct) (m : List Addr) (S : Store) (H : Hp) : Prop where
  len : m.length = S.length
  ob : ∀ (n : Nat) (a : Addr) (o : O), m[n]? = some a → S[n]? = some o → RelO c H m a o
  inj : ∀ (n n' : Nat) (a : Addr) (o o' : O), m[n]? = some a → m[n']? = some a → S[n]? = some o → S[n']? = some o' → own o → own o' → n = n'
structure RF (K : PySem.W.Frag) (H : Hp) (m : List Addr) (fr : Fr) (σ : L2.St) : Prop where
  len : fr.length = σ.length
  get : ∀ (i : Nat) (d : D), fr[i]? = some (some d) → ∃ v, σ[i]? = some (some v) ∧ RelD K H m d v
section
variable {c : Ct} {H H' : Hp} {m m' : List Addr} {S : Store}
theorem RF.mono {fr : Fr} {σ : L2.St} (e : Ext m H m' H') (h : RF c.K H m fr σ) : RF c.K H' m' fr σ := ⟨h.len, fun i d q => let ⟨v, h1, h2⟩ := h.get i d q; ⟨v, h1, h2.mono e⟩⟩
theorem RF.set {fr : Fr} {σ : L2.St} {d : D} {v : V} (h : RF c.K H m fr σ) (r : RelD c.K H m d v) (i : Nat) : RF c.K H m (fr.set i (some d)) (σ.set i (some v)) := by
  refine ⟨by rw [List.length_set, List.length_set]; exact h.len, fun j d' q => ?_⟩
  by_cases e : i = j
  · subst e
    have hi : i < fr.length := by
      have := (List.getElem?_eq_some_iff.mp q).1
      rwa [List.length_set] at this
    rw [List.getElem?_set_self hi] at q
    cases q
    exact ⟨v, by rw [List.getElem?_set_self (by rw [← h.len]; exact hi)], r⟩
  · rw [List.getElem?_set_ne e] at q
    rw [List.getElem?_set_ne e]
    exact h.get j d' q
theorem RF.none {fr : Fr} {σ : L2.St} (h : RF c.K H m fr σ) (i : Nat) : RF c.K H m (fr.set i none) (σ.set i none) := by
  refine ⟨by rw [List.length_set, List.length_set]; exact h.len, fun j d' q => ?_⟩
  by_cases e : i = j
  · subst e
    have hi : i < fr.length := by
      have := (List.getElem?_eq_some_iff.mp q).1
      rwa [List.length_set] at this
    rw [List.getElem?_set_self hi] at q
    cases q
  · rw [List.getElem?_set_ne e] at q
    rw [List.getElem?_set_ne e]
    exact h.get j d' q
theorem RF.unset {fr : Fr} {σ : L2.St} (h : RF c.K H m fr σ) : ∀ vs : List Nat, RF c.K H m (unset vs fr) (wipe σ vs)
  | [] => h
  | i :: r => (RF.unset h r).none i
theorem RelO.mono0 {a : Addr} {o : O} (e : Ex0 m H m' H') (hk : liv o → ∀ u, H a = some u → H' a = some u) (hf : ∀ ob u, H a = some (.frz ob u) → H' a = some (.frz ob u)) (h : RelO c H m a o) : RelO c H' m' a o := by
  cases o with
  | lst l => obtain ⟨xs, h1, h2⟩ := h; exact ⟨xs, hk trivial _ h1, h2.mono0 e⟩
  | fls l =>
    obtain ⟨xs, h1, h2⟩ := h
    refine ⟨xs, ?_, h2.mono0 e⟩
    rcases h1 with ⟨ob, h1⟩ | h1
    · exact .inl ⟨ob, hf _ _ h1⟩
    · exact .inr h1
  | dK k => obtain ⟨xs, h1, h2⟩ := h; exact ⟨xs, hk trivial _ h1, RelK.mono0 e h2⟩
  | dT k => obtain ⟨xs, h1, h2⟩ := h; exact ⟨xs, hk trivial _ h1, RelK.mono0 e h2⟩
  | zK k => obtain ⟨od, xs, h1, h2⟩ := h; exact ⟨od, xs, hf _ _ h1, RelK.mono0 e h2⟩
  | zT k => obtain ⟨od, xs, h1, h2⟩ := h; exact ⟨od, xs, hf _ _ h1, RelK.mono0 e h2⟩
  | ins C f => obtain ⟨Ca, dx, fs, h0, h1, h2⟩ := h; exact ⟨Ca, dx, fs, h0, hk trivial _ h1, RelK.mono0 e h2⟩
theorem RelO.mono {a : Addr} {o : O} (e : Ext m H m' H') (hk : liv o → ∀ u, H a = some u → H' a = some u) (hf : ∀ ob u, H a = some (.frz ob u) → H' a = some (.frz ob u)) (h : RelO c H m a o) : RelO c H' m' a o := h.mono0 e.toEx0 hk hf
/-- a live object is tracked, and may be changed -/
theorem RelO.mut {a : Addr} {o : O} (h : RelO c H m a o) (l : liv o) : Mut (H a) := by
  cases o with
  | lst l => obtain ⟨xs, h1, _⟩ := h; rw [h1]; trivial
  | fls l => exact l.elim
  | dK k => obtain ⟨xs, h1, _⟩ := h; rw [h1]; trivial
  | dT k => obtain ⟨xs, h1, _⟩ := h; rw [h1]; trivial
  | zK k => exact l.elim
  | zT k => exact l.elim
  | ins C f => obtain ⟨Ca, dx, fs, h0, h1, _⟩ := h; rw [h1]; trivial
/-- an own object stands -/
theorem RelO.stands {a : Addr} {o : O} (h : RelO c H m a o) (l : own o) : H a ≠ none := by
  cases o with
  | lst l => obtain ⟨xs, h1, _⟩ := h; rw [h1]; simp
  | fls l => exact l.elim
  | dK k => obtain ⟨xs, h1, _⟩ := h; rw [h1]; simp
  | dT k => obtain ⟨xs, h1, _⟩ := h; rw [h1]; simp
  | zK k => obtain ⟨od, xs, h1, _⟩ := h; rw [h1]; simp
  | zT k => obtain ⟨od, xs, h1, _⟩ := h; rw [h1]; simp
  | ins C f => obtain ⟨Ca, dx, fs, h0, h1, _⟩ := h; rw [h1]; simp
theorem tstay_new {p : Addr} {o : HO} (h : H p = none) : TStay H (upd H p o) := fun a u _ e => by rw [upd_ne (ne_of_none e h)]; exact e
theorem tstay_mut {p : Addr} {o : HO} (h : Mut (H p)) : TStay H (upd H p o) := fun a u t e => by
  have ne : a ≠ p := fun z => by
    subst z; rw [e] at h
    rcases t with ⟨xs, rfl⟩ | ⟨o, xs, rfl⟩ <;> exact h
  rw [upd_ne ne]; exact e
theorem fstay_new {p : Addr} {o : HO} (h : H p = none) : ∀ a ob u, H a = some (.frz ob u) → upd H p o a = some (.frz ob u) := fun a ob u e => by rw [upd_ne (ne_of_none e h)]; exact e
theorem fstay_mut {p : Addr} {o : HO} (h : Mut (H p)) : ∀ a ob u, H a = some (.frz ob u) → upd H p o a = some (.frz ob u) := fun a ob u e => by
  have ne : a ≠ p := fun z => by subst z; rw [e] at h; exact h
  rw [upd_ne ne]; exact e
theorem mext_push (m : List Addr) (p : Addr) : MExt m (m ++ [p]) := fun n a h => by
  rw [List.getElem?_append_left (List.getElem?_eq_some_iff.mp h).1]; exact h
/-- a new object -/
theorem RS.push {p : Addr} {o : O} {u : HO} (r : RS c m S H) (h : H p = none) (ho : RelO c (upd H p u) (m ++ [p]) p o) : RS c (m ++ [p]) (S ++ [o]) (upd H p u) ∧ Ext m H (m ++ [p]) (upd H p u) := by
  have e : Ext m H (m ++ [p]) (upd H p u) := ⟨⟨mext_push m p, tstay_new h⟩, fstay_new h⟩
  have old : ∀ (n : Nat) (a : Addr), n < m.length → (m ++ [p])[n]? = some a → m[n]? = some a := fun n a hn q => by rwa [List.getElem?_append_left hn] at q
  have oldS : ∀ (n : Nat) (x : O), n < m.length → (S ++ [o])[n]? = some x → S[n]? = some x := fun n x hn q => by rwa [List.getElem?_append_left (by rw [← r.len]; exact hn)] at q
  have last : ∀ (n : Nat) (a : Addr), ¬ n < m.length → (m ++ [p])[n]? = some a → n = m.length ∧ a = p := fun n a hn q => by
    have h1 := (List.getElem?_eq_some_iff.mp q).1
    rw [List.length_append] at h1
    have h2 : n = m.length := by simp at h1; omega
    subst h2
    rw [List.getElem?_append_right (Nat.le_refl _), Nat.sub_self] at q
    exact ⟨rfl, (Option.some.inj q).symm⟩
  have lastS : ∀ (n : Nat) (x : O), n = m.length → (S ++ [o])[n]? = some x → x = o := fun n x hn q => by
    rw [hn, r.len, List.getElem?_append_right (Nat.le_refl _), Nat.sub_self] at q
    exact (Option.some.inj q).symm
  refine ⟨⟨by rw [List.length_append, List.length_append, r.len] <;> rfl, fun n a x q1 q2 => ?_, fun n n' a x x' q1 q2 q3 q4 l1 l2 => ?_⟩, e⟩
  · by_cases hn : n < m.length
    · have k1 := old n a hn q1
      have k2 := r.ob n a x k1 (oldS n x hn q2)
      exact k2.mono e (fun _ u' z => by rw [upd_ne (ne_of_none z h)]; exact z) fun ob u' z => by rw [upd_ne (ne_of_none z h)]; exact z
    · obtain ⟨e1, e2⟩ := last n a hn q1
      have e3 := lastS n x e1 q2
      subst e2 e3
      exact ho
  · have nl : ∀ (n : Nat) (a : Addr) (x : O), n < m.length → (m ++ [p])[n]? = some a → (S ++ [o])[n]? = some x → own x → a ≠ p := fun n a x hn q1 q3 l => by
      have k := (r.ob n a x (old n a hn q1) (oldS n x hn q3)).stands l
      intro z
      subst z
      exact k h
    by_cases hn : n < m.length
    · by_cases hn' : n' < m.length
      · exact r.inj n n' a x x' (old n a hn q1) (old n' a hn' q2) (oldS n x hn q3) (oldS n' x' hn' q4) l1 l2
      · exact absurd (last n' a hn' q2).2 (nl n a x hn q1 q3 l1)
    · by_cases hn' : n' < m.length
      · exact absurd (last n a hn q1).2 (nl n' a x' hn' q2 q4 l2)
      · rw [(last n a hn q1).1, (last n' a hn' q2).1]
/-- a fresh thing that is not in the store -/
theorem RS.fresh {p : Addr} {u : HO} (r : RS c m S H) (h : H p = none) : RS c m S (upd H p u) := by
  have e : Ext m H m (upd H p u) := ⟨⟨fun _ _ z => z, tstay_new h⟩, fstay_new h⟩
  exact ⟨r.len, fun n a x q1 q2 => (r.ob n a x q1 q2).mono e (fun _ u' z => by rw [upd_ne (ne_of_none z h)]; exact z) fun ob u' z => by rw [upd_ne (ne_of_none z h)]; exact z, r.inj⟩
/-- an object changed -/
theorem RS.set {n : Nat} {a : Addr} {o o' : O} {u : HO} (r : RS c m S H) (ha : m[n]? = some a) (hs : S[n]? = some o) (l : liv o) (l' : liv o') (ho : Ext m H m (upd H a u) → RelO c (upd H a u) m a o') : RS c m (S.set n o') (upd H a u) ∧ Ext m H m (upd H a u) := by
  have mu := (r.ob n a o ha hs).mut l
  have e : Ext m H m (upd H a u) := ⟨⟨fun _ _ z => z, tstay_mut mu⟩, fstay_mut mu⟩
  refine ⟨⟨by rw [List.length_set]; exact r.len, fun k b x q1 q2 => ?_, fun k k' b x x' q1 q2 q3 q4 l1 l2 => ?_⟩, e⟩
  · by_cases hk : n = k
    · subst hk
      rw [ha] at q1
      cases q1
      have hn := (List.getElem?_eq_some_iff.mp hs).1
      rw [List.getElem?_set_self hn] at q2
      cases q2
      exact ho e
    · rw [List.getElem?_set_ne hk] at q2
      have k2 := r.ob k b x q1 q2
      refine k2.mono e (fun lx u' z => ?_) fun ob u' z => ?_
      · have ne : b ≠ a := fun w => hk (r.inj n k a o x ha (by rw [← w]; exact q1) hs q2 l.own lx.own)
        rw [upd_ne ne]; exact z
      · have ne : b ≠ a := fun w => by subst w; rw [z] at mu; exact mu
        rw [upd_ne ne]; exact z
  · have at_ : ∀ (k : Nat) (x : O), (S.set n o')[k]? = some x → own x → ∃ x0, S[k]? = some x0 ∧ own x0 := fun k x q lx => by
      by_cases hk : n = k
      · subst hk; exact ⟨o, hs, l.own⟩
      · rw [List.getElem?_set_ne hk] at q; exact ⟨x, q, lx⟩
    obtain ⟨y, z1, z2⟩ := at_ k x q3 l1
    obtain ⟨y', z1', z2'⟩ := at_ k' x' q4 l2
    exact r.inj k k' b y y' q1 q2 z1 z1' z2 z2'
/-- an object locked -/
theorem RS.lockz {n : Nat} {a : Addr} {o z : O} {u : HO} (r : RS c m S H) (ha : m[n]? = some a) (hs : S[n]? = some o) (l : liv o) (ho : Ext m H m (upd H a u) → RelO c (upd H a u) m a z) : RS c m (S.set n z) (upd H a u) ∧ Ext m H m (upd H a u) := by
  have mu := (r.ob n a o ha hs).mut l
  have e : Ext m H m (upd H a u) := ⟨⟨fun _ _ z => z, tstay_mut mu⟩, fstay_mut mu⟩
  refine ⟨⟨by rw [List.length_set]; exact r.len, fun k b x q1 q2 => ?_, fun k k' b x x' q1 q2 q3 q4 l1 l2 => ?_⟩, e⟩
  · by_cases hk : n = k
    · subst hk
      rw [ha] at q1
      cases q1
      have hn := (List.getElem?_eq_some_iff.mp hs).1
      rw [List.getElem?_set_self hn] at q2
      cases q2
      exact ho e
    · rw [List.getElem?_set_ne hk] at q2
      have k2 := r.ob k b x q1 q2
      refine k2.mono e (fun lx u' z => ?_) fun ob u' z => ?_
      · have ne : b ≠ a := fun w => hk (r.inj n k a o x ha (by rw [← w]; exact q1) hs q2 l.own lx.own)
        rw [upd_ne ne]; exact z
      · have ne : b ≠ a := fun w => by subst w; rw [z] at mu; exact mu
        rw [upd_ne ne]; exact z
  · have at_ : ∀ (k : Nat) (x : O), (S.set n z)[k]? = some x → own x → ∃ x0, S[k]? = some x0 ∧ own x0 := fun k x q lx => by
      by_cases hk : n = k
      · subst hk; exact ⟨o, hs, l.own⟩
      · rw [List.getElem?_set_ne hk] at q; exact ⟨x, q, lx⟩
    obtain ⟨y, z1, z2⟩ := at_ k x q3 l1
    obtain ⟨y', z1', z2'⟩ := at_ k' x' q4 l2
    exact r.inj k k' b y y' q1 q2 z1 z1' z2 z2'
/-- and set free again -/
theorem RS.unlockz {n : Nat} {a : Addr} {o z : O} {u v : HO} {od : Obj} (r : RS c m S H) (ha : m[n]? = some a) (hs : S[n]? = some z) (l : own z) (l' : own o) (hz : H a = some (.frz od v)) (hv : ∀ xs, v ≠ .lst xs) (hvt : ∀ xs, v ≠ .tup xs) (ho : Ex0 m H m (upd H a u) → RelO c (upd H a u) m a o) : RS c m (S.set n o) (upd H a u) := by
  have e : Ex0 m H m (upd H a u) := ⟨fun _ _ z => z, fun b u t q => by
    have ne : b ≠ a := fun w => by
      subst w; rw [hz] at q
      rcases t with ⟨xs, rfl⟩ | ⟨o, xs, rfl⟩
      · cases q
      · injection q with q; injection q with _ q; exact hvt xs q
    rw [upd_ne ne]; exact q⟩
  refine ⟨by rw [List.length_set]; exact r.len, fun k b x q1 q2 => ?_, fun k k' b x x' q1 q2 q3 q4 l1 l2 => ?_⟩
  · by_cases hk : n = k
    · subst hk
      rw [ha] at q1
      cases q1
      have hn := (List.getElem?_eq_some_iff.mp hs).1
      rw [List.getElem?_set_self hn] at q2
      cases q2
      exact ho e
    · rw [List.getElem?_set_ne hk] at q2
      have k2 := r.ob k b x q1 q2
      have ne : own x → b ≠ a := fun lx w => hk (r.inj n k a z x ha (by rw [← w]; exact q1) hs q2 l lx)
      cases x with
      | fls l =>
        obtain ⟨xs, h1, h2⟩ := k2
        refine ⟨xs, ?_, h2.mono0 e⟩
        rcases h1 with ⟨ob, h1⟩ | h1
        · have ne : b ≠ a := fun w => by subst w; rw [hz] at h1; injection h1 with h1; injection h1 with _ h1; exact hv xs h1
          exact .inl ⟨ob, by rw [upd_ne ne]; exact h1⟩
        · exact .inr h1
      | _ =>
        have ne' := ne trivial
        exact k2.mono0 e (fun lx u' z => by rw [upd_ne ne']; exact z) fun ob u' z => by rw [upd_ne ne']; exact z
  · have at_ : ∀ (k : Nat) (x : O), (S.set n o)[k]? = some x → own x → ∃ x0, S[k]? = some x0 ∧ own x0 := fun k x q lx => by
      by_cases hk : n = k
      · subst hk; exact ⟨z, hs, l⟩
      · rw [List.getElem?_set_ne hk] at q; exact ⟨x, q, lx⟩
    obtain ⟨y, z1, z2⟩ := at_ k x q3 l1
    obtain ⟨y', z1', z2'⟩ := at_ k' x' q4 l2
    exact r.inj k k' b y y' q1 q2 z1 z1' z2 z2'
theorem RS.get {n : Nat} {a : Addr} (r : RS c m S H) (h : m[n]? = some a) : ∃ o, S[n]? = some o := by
  have h1 := (List.getElem?_eq_some_iff.mp h).1
  rw [r.len] at h1
  exact ⟨S[n], List.getElem?_eq_getElem h1⟩
theorem RS.adr {n : Nat} {o : O} (r : RS c m S H) (h : S[n]? = some o) : ∃ a, m[n]? = some a := by
  have h1 := (List.getElem?_eq_some_iff.mp h).1
  rw [← r.len] at h1
  exact ⟨m[n], List.getElem?_eq_getElem h1⟩
/-- a list may be read -/
theorem sql0 {K : PySem.W.Frag} {H : Hp} {a : Addr} {xs : List V} (h : SqL K H0 a xs) : SqL K H a xs := by
  rcases h with h | h
  · rcases h with h | ⟨o, h⟩ <;> cases h
  · exact .inr h
theorem sqt0 {K : PySem.W.Frag} {H : Hp} {a : Addr} {xs : List V} (h : SqT K H0 a xs) : SqT K H a xs := by
  rcases h with h | h
  · rcases h with h | ⟨o, h⟩ <;> cases h
  · exact .inr h
theorem RS.lst {n : Nat} {a : Addr} {l : List D} (r : RS c m S H) (ha : m[n]? = some a) (hl : lstOf S n = some l) : ∃ xs, SqL c.K H a xs ∧ RelL c.K H m l xs := by
  unfold lstOf at hl
  split at hl
  · rename_i l' e
    cases hl
    obtain ⟨xs, h1, h2⟩ := r.ob n a _ ha e
    exact ⟨xs, .inl (.inl h1), h2⟩
  · rename_i l' e
    cases hl
    obtain ⟨xs, h1, h2⟩ := r.ob n a _ ha e
    refine ⟨xs, ?_, h2⟩
    rcases h1 with ⟨ob, h1⟩ | h1
    · exact .inl (.inr ⟨ob, h1⟩)
    · exact sql0 h1
  · cases hl
end
end Sm

set_option Elab.async false
set_option linter.all false
set_option maxRecDepth 100000
set_option maxHeartbeats 2000000
/-! readings by the small language: expressions -/
namespace Sm
open PySem PySem.Spec PyProof.Rows L2 Mi

/-- an exception as the layer bears it -/
def RelX (c : Ct) (H : Hp) (m : List Addr) (x : Exn) (cls : Value) (da : Option Addr) : Prop :=
  ∃ C : Addr, c.mg (x.cls : Str) = some (.ref C) ∧ cls = .ref C ∧ ∃ d fs, da = some d ∧ H d = some (.xd fs) ∧ RelK c.K H m sOf x.fs fs
def Post {α : Type} (c : Ct) (E : XK) (m : List Addr) (H : Hp) (r : Res α) (k : α → Store → List Addr → Hp → Prop) : Prop := match r with
  | .ok a S => ∀ m' H', Ext m H m' H' → RS c m' S H' → k a S m' H'
  | .exc x S => ∀ m' H', Ext m H m' H' → RS c m' S H' → ∀ cls da, RelX c H' m' x cls da → E cls da H'
  | .bad => False
section
variable {α β : Type} {c : Ct} {E : XK} {m m' : List Addr} {H H' : Hp} {r : Res α} {k k' : α → Store → List Addr → Hp → Prop}
theorem Post.ext (p : Post c E m H r k) (e : Ext m H m' H') : Post c E m' H' r k := by
  cases r with
  | ok a S => exact fun m2 H2 e2 r2 => p m2 H2 (e.trans e2) r2
  | exc x S => exact fun m2 H2 e2 r2 => p m2 H2 (e.trans e2) r2
  | bad => exact p
theorem Post.imp (p : Post c E m H r k) (f : ∀ a S m' H', Ext m H m' H' → RS c m' S H' → k a S m' H' → k' a S m' H') : Post c E m H r k' := by
  cases r with
  | ok a S => exact fun m2 H2 e2 r2 => f a S m2 H2 e2 r2 (p m2 H2 e2 r2)
  | exc x S => exact p
  | bad => exact p
theorem post_bind {f : α → Store → Res β} {k : β → Store → List Addr → Hp → Prop} (p : Post c E m H (r.bind f) k) : Post c E m H r fun a S m1 H1 => Post c E m1 H1 (f a S) k := by
  cases r with
  | ok a S => exact fun m2 H2 e2 _ => Post.ext (r := f a S) p e2
  | exc x S => exact p
  | bad => exact p
theorem post_quiet {E' : XK} (p : Post c E m H (quiet r) k) : Post c E' m H r k := by
  cases r with
  | ok a S => exact p
  | exc x S => exact p.elim
  | bad => exact p
theorem Post.here {a : α} {S : Store} (p : Post c E m H (.ok a S) k) (r : RS c m S H) : k a S m H := p m H (Ext.refl m H) r
end

/-! ### readings -/
abbrev cx (X : Cx) : Ct := ⟨X.K, X.mg⟩
abbrev kE (c : Ct) (Q : VK) : D → Store → List Addr → Hp → Prop := fun d _ m H => ∀ v, RelD c.K H m d v → Q v H
def rdE (c : Ct) (E : XK) (f : EM) : TE := fun σ H Q => ∃ fr S m, RF c.K H m fr σ ∧ RS c m S H ∧ Post c E m H (f fr S) (kE c Q)
def rdT (c : Ct) (E : XK) (f : TM) : TT := fun σ H Q => ∃ fr S m, RF c.K H m fr σ ∧ RS c m S H ∧ Post c E m H (f fr S) fun b _ _ H => Q b H
def rdA (c : Ct) (E : XK) (f : AM) : TA := fun σ H Q => ∃ fr S m, RF c.K H m fr σ ∧ RS c m S H ∧ Post c E m H (f fr S) fun ds _ m H => ∀ vs, RelL c.K H m ds vs → Q vs H
def rdP (c : Ct) (E : XK) (f : PM) : TO := fun σ H Q => ∃ fr S m, RF c.K H m fr σ ∧ RS c m S H ∧ Post c E m H (f fr S) fun o _ _ H => Q o H
def rdG (c : Ct) (E : XK) (g : GM) : TG := fun v σ H Q => ∃ d fr S m, RelD c.K H m d v ∧ RF c.K H m fr σ ∧ RS c m S H ∧ Post c E m H (g d fr S) fun fr' _ m H => ∀ σ', RF c.K H m fr' σ' → Q σ' H
def rdGs (c : Ct) (E : XK) (g : GMs) : TGs := fun vs σ H Q => ∃ ds fr S m, RelL c.K H m ds vs ∧ RF c.K H m fr σ ∧ RS c m S H ∧ Post c E m H (g ds fr S) fun fr' _ m H => ∀ σ', RF c.K H m fr' σ' → Q σ' H
def kS (c : Ct) (D : Ends) : Out → Store → List Addr → Hp → Prop := fun o _ m H => match o with
  | .nx fr => ∀ σ, RF c.K H m fr σ → D.nx σ H
  | .rt d => ∀ v, RelD c.K H m d v → D.rt v H
  | .bk fr => ∀ σ, RF c.K H m fr σ → D.bk σ H
  | .ct fr => ∀ σ, RF c.K H m fr σ → D.ct σ H
def rdS (c : Ct) (E : XK) (g : SM) : TS := fun D σ H => ∃ fr S m, RF c.K H m fr σ ∧ RS c m S H ∧ Post c E m H (g fr S) (kS c D)
abbrev SE (X : Cx) (E : XK) (e : Expr) (f : EM) : Prop := PE X e (rdE (cx X) E f)
abbrev STt (X : Cx) (E : XK) (e : Expr) (f : TM) : Prop := PT X e (rdT (cx X) E f)
abbrev SW (X : Cx) (E : XK) (e : Expr) (f : TM) : Prop := PW X e (rdT (cx X) E f)
abbrev SA (X : Cx) (E : XK) (es : List Expr) (f : AM) : Prop := PA X es (rdA (cx X) E f)
abbrev SO (X : Cx) (E : XK) (e : Option Expr) (f : PM) : Prop := PO X e (rdP (cx X) E f)
abbrev SG (X : Cx) (E : XK) (e : Expr) (g : GM) : Prop := PG X e (rdG (cx X) E g)
abbrev SGs (X : Cx) (E : XK) (e : List Expr) (g : GMs) : Prop := PGs X e (rdGs (cx X) E g)
abbrev SS (X : Cx) (E : XK) (st : Stmt) (g : SM) : Prop := PS X st (rdS (cx X) E g)
abbrev SSs (X : Cx) (E : XK) (st : List Stmt) (g : SM) : Prop := PSs X st (rdS (cx X) E g)
section
variable {X : Cx}
theorem PE.mono {e : Expr} {t t' : TE} (h : PE X e t) (f : ∀ σ H Q, t' σ H Q → t σ H Q) : PE X e t' := ⟨fun pins s σ H Q I q => h.run pins s σ H Q I (f σ H Q q)⟩
theorem PT.mono {e : Expr} {t t' : TT} (h : PT X e t) (f : ∀ σ H Q, t' σ H Q → t σ H Q) : PT X e t' := ⟨fun pins s σ H Q I q => h.run pins s σ H Q I (f σ H Q q)⟩
theorem PW.mono {e : Expr} {t t' : TT} (h : PW X e t) (f : ∀ σ H Q, t' σ H Q → t σ H Q) : PW X e t' := ⟨fun wh pins s σ H Q I q => h.run wh pins s σ H Q I (f σ H Q q)⟩
theorem PA.mono {e : List Expr} {t t' : TA} (h : PA X e t) (f : ∀ σ H Q, t' σ H Q → t σ H Q) : PA X e t' := ⟨fun pos pins s σ H Q I q => h.run pos pins s σ H Q I (f σ H Q q)⟩
theorem PS.mono {e : Stmt} {t t' : TS} (h : PS X e t) (f : ∀ D σ H, t' D σ H → t D σ H) : PS X e t' := ⟨fun pins s σ H D I q => h.run pins s σ H D I (f D σ H q)⟩
theorem PSs.mono {e : List Stmt} {t t' : TS} (h : PSs X e t) (f : ∀ D σ H, t' D σ H → t D σ H) : PSs X e t' := ⟨fun pins s σ H D I q => h.run pins s σ H D I (f D σ H q)⟩
end
section
variable {X : Cx} {E : XK} {a b e : Expr} {fa fb : EM} {pos : Pos}
/-- the reading of a part, from a bind -/
theorem rd_bind {f : EM} {fr : Fr} {S : Store} {m : List Addr} {σ : L2.St} {H : Hp} {Q : VK} {c : Ct} {α : Type} {h : D → Store → Res α} {kk : α → Store → List Addr → Hp → Prop}
    (rf : RF c.K H m fr σ) (rs : RS c m S H) (p : Post c E m H ((f fr S).bind h) kk)
    (n : ∀ d S1 m1 H1, Ext m H m1 H1 → RF c.K H1 m1 fr σ → RS c m1 S1 H1 → Post c E m1 H1 (h d S1) kk → ∀ v, RelD c.K H1 m1 d v → Q v H1) : rdE c E f σ H Q :=
  ⟨fr, S, m, rf, rs, (post_bind p).imp fun d S1 m1 H1 e1 rs1 p1 => n d S1 m1 H1 e1 (rf.mono e1) rs1 p1⟩
theorem rdT_bind {f : TM} {fr : Fr} {S : Store} {m : List Addr} {σ : L2.St} {H : Hp} {Q : Bool → Hp → Prop} {c : Ct} {α : Type} {h : Bool → Store → Res α} {kk : α → Store → List Addr → Hp → Prop}
    (rf : RF c.K H m fr σ) (rs : RS c m S H) (p : Post c E m H ((f fr S).bind h) kk)
    (n : ∀ d S1 m1 H1, Ext m H m1 H1 → RF c.K H1 m1 fr σ → RS c m1 S1 H1 → Post c E m1 H1 (h d S1) kk → Q d H1) : rdT c E f σ H Q :=
  ⟨fr, S, m, rf, rs, (post_bind p).imp fun d S1 m1 H1 e1 rs1 p1 => n d S1 m1 H1 e1 (rf.mono e1) rs1 p1⟩
theorem rdA_bind {f : AM} {fr : Fr} {S : Store} {m : List Addr} {σ : L2.St} {H : Hp} {Q : List V → Hp → Prop} {c : Ct} {α : Type} {h : List D → Store → Res α} {kk : α → Store → List Addr → Hp → Prop}
    (rf : RF c.K H m fr σ) (rs : RS c m S H) (p : Post c E m H ((f fr S).bind h) kk)
    (n : ∀ d S1 m1 H1, Ext m H m1 H1 → RF c.K H1 m1 fr σ → RS c m1 S1 H1 → Post c E m1 H1 (h d S1) kk → ∀ v, RelL c.K H1 m1 d v → Q v H1) : rdA c E f σ H Q :=
  ⟨fr, S, m, rf, rs, (post_bind p).imp fun d S1 m1 H1 e1 rs1 p1 => n d S1 m1 H1 e1 (rf.mono e1) rs1 p1⟩
theorem rdP_bind {f : PM} {fr : Fr} {S : Store} {m : List Addr} {σ : L2.St} {H : Hp} {Q : Option Int → Hp → Prop} {c : Ct} {α : Type} {h : Option Int → Store → Res α} {kk : α → Store → List Addr → Hp → Prop}
    (rf : RF c.K H m fr σ) (rs : RS c m S H) (p : Post c E m H ((f fr S).bind h) kk)
    (n : ∀ d S1 m1 H1, Ext m H m1 H1 → RF c.K H1 m1 fr σ → RS c m1 S1 H1 → Post c E m1 H1 (h d S1) kk → Q d H1) : rdP c E f σ H Q :=
  ⟨fr, S, m, rf, rs, (post_bind p).imp fun d S1 m1 H1 e1 rs1 p1 => n d S1 m1 H1 e1 (rf.mono e1) rs1 p1⟩

/-! ### names and constants -/
theorem se_var (i : Nat) {x : Str} {pos : Pos} (hN : X.N[i]? = some x := by rfl) (hv : Vis X.env.scope x := by first | exact Or.inl rfl | exact Or.inr (Or.inl rfl) | exact Or.inr (Or.inr rfl)) (hd : (x == ("__debug__" : Str)) = false := by decide)
    (hcd : (x == ("__classdict__" : Str)) = false := by decide) : SE X E (.Name x pos) (mVar i) := by
  refine PE.mono (pe_var hN hv hd hcd) fun σ H Q ⟨fr, S, m, rf, rs, p⟩ => ?_
  unfold mVar at p
  split at p
  · rename_i d e
    obtain ⟨v, h1, h2⟩ := rf.get i d e
    exact ⟨v, h1, p.here rs v h2⟩
  · exact p.elim
theorem se_c {d : D} {v : V} {e : Expr} (h : PE X e (tC v)) (r : ∀ H m, RelD X.K H m d v) : SE X E e (mC d) :=
  PE.mono h fun σ H Q ⟨fr, S, m, rf, rs, p⟩ => p.here rs v (r H m)
theorem se_int {i : Int} {j pos} : SE X E (.Constant (.int i) j pos) (mC (.int i)) := se_c pe_int fun _ _ => .int i
theorem se_bl {i : Bool} {j pos} : SE X E (.Constant (.bool i) j pos) (mC (.bl i)) := se_c pe_bl fun _ _ => .bl i
theorem se_non {j pos} : SE X E (.Constant .none j pos) (mC .non) := se_c pe_non fun _ _ => .non
theorem se_str {x : Str} {s : Tx} {j pos} (h : x = sOf s) : SE X E (.Constant (.str x) j pos) (mC (.str s)) := by
  subst h
  exact se_c pe_str fun _ _ => .str s
/-- a number of the module's top -/
theorem se_gint {x : Str} {i : Int} {t : Tok} {pos : Pos} (hg : Gl X x) (hm : X.mg x = some (.int i t)) (hd : (x == ("__debug__" : Str)) = false := by decide) : SE X E (.Name x pos) (mC (.int i)) := se_c (pe_glob hg hm (v := .int i) ⟨t, rfl⟩ hd) fun _ _ => .int i
theorem se_gstr {x : Str} {y : Str} {s : Tx} {t : Tok} {pos : Pos} (hg : Gl X x) (hm : X.mg x = some (.str y t)) (h : y = sOf s) (hd : (x == ("__debug__" : Str)) = false := by decide) : SE X E (.Name x pos) (mC (.str s)) := by
  subst h
  exact se_c (pe_glob hg hm (v := .str (sOf s)) ⟨t, rfl⟩ hd) fun _ _ => .str s
/-- a tuple of the module's top -/
theorem se_gtup {x : Str} {l : List D} {a : Addr} {xs : List V} {pos : Pos} (hg : Gl X x) (hm : X.mg x = some (.ref a)) (h : SqT X.K H0 a xs ∧ ∃ o : Obj, X.K.lookup a = some o ∧ o.dict = none) (r : RelL X.K H0 [] l xs) (hd : (x == ("__debug__" : Str)) = false := by decide) : SE X E (.Name x pos) (mC (.wtp l)) :=
  se_c (pe_glob hg hm (v := .ref a) rfl hd) fun H m => .wtp (.inr h) (r.mono ⟨⟨fun _ _ z => by simp at z, fun _ _ _ z => by cases z⟩, fun _ _ _ z => by cases z⟩)

/-! ### operators -/
def OpM (X : Cx) (E : XK) (f : Value → Value → Sem Value) (g : Op2) : Prop := ∃ r : R2, OpR X f r ∧
  ∀ x y v w S m H Q, RS (cx X) m S H → RelD X.K H m x v → RelD X.K H m y w → Post (cx X) E m H (g x y S) (kE (cx X) Q) → r v w H Q
theorem opr_or {f : Value → Value → Sem Value} {r r' : R2} (h : OpR X f r) (h' : OpR X f r') : OpR X f fun x y H Q => r x y H Q ∨ r' x y H Q := by
  intro pins s σ H x y v u Q I rx ry q
  rcases q with q | q
  · exact h pins s σ H x y v u Q I rx ry q
  · exact h' pins s σ H x y v u Q I rx ry q
theorem se_op {op : Operator} {g : Op2} (o : OpM X E (binaryOp op) g) (ha : SE X E a fa) (hb : SE X E b fb) : SE X E (.BinOp a op b pos) (mOp g fa fb) := by
  obtain ⟨r, ho, hr⟩ := o
  refine PE.mono (pe_op ho ha hb) fun σ H Q ⟨fr, S, m, rf, rs, p⟩ => ?_
  refine rd_bind rf rs p fun x S1 m1 H1 e1 rf1 rs1 p1 v hv => ?_
  refine rd_bind rf1 rs1 p1 fun y S2 m2 H2 e2 rf2 rs2 p2 w hw => ?_
  exact hr x y v w S2 m2 H2 Q rs2 (hv.mono e2) hw p2
theorem se_cmp {op : CmpOp} {g : Op2} (o : OpM X E (compareOp op) g) (ha : SE X E a fa) (hb : SE X E b fb) (hm : behindInMarks op b = false) : SE X E (.Compare a [op] [b] pos) (mOp g fa fb) := by
  obtain ⟨r, ho, hr⟩ := o
  refine PE.mono (pe_cmpR ho ha hb hm) fun σ H Q ⟨fr, S, m, rf, rs, p⟩ => ?_
  refine rd_bind rf rs p fun x S1 m1 H1 e1 rf1 rs1 p1 v hv => ?_
  refine rd_bind rf1 rs1 p1 fun y S2 m2 H2 e2 rf2 rs2 p2 w hw => ?_
  exact hr x y v w S2 m2 H2 Q rs2 (hv.mono e2) hw p2
/-- a Bool of a value -/
theorem of_toB {c : Ct} {x : D} {S : Store} {m : List Addr} {H : Hp} {k : Bool → Store → List Addr → Hp → Prop} {v : V} (rs : RS c m S H) (hv : RelD c.K H m x v) (p : Post c E m H (toB x S) k) : ∃ b, v = .bl b ∧ k b S m H := by
  cases hv with
  | bl b => exact ⟨b, rfl, p.here rs⟩
  | _ => exact p.elim
theorem st_cmp {op : CmpOp} {g : Op2} (o : OpM X E (compareOp op) g) (ha : SE X E a fa) (hb : SE X E b fb) (hm : behindInMarks op b = false) : STt X E (.Compare a [op] [b] pos) (tBl (mOp g fa fb)) := by
  obtain ⟨r, ho, hr⟩ := o
  refine PT.mono (pt_cmpR ho ha hb hm) fun σ H Q ⟨fr, S, m, rf, rs, p⟩ => ?_
  have p' := post_bind p
  refine rd_bind rf rs p' fun x S1 m1 H1 e1 rf1 rs1 p1 v hv => ?_
  refine rd_bind rf1 rs1 p1 fun y S2 m2 H2 e2 rf2 rs2 p2 w hw => ?_
  refine hr x y v w S2 m2 H2 _ rs2 (hv.mono e2) hw (p2.imp fun d S3 m3 H3 e3 rs3 p3 z hz => ?_)
  exact of_toB rs3 hz p3
/-- a < b < c -/
theorem se_chain {op op' : CmpOp} {g h : Op2} {d : Expr} {fd : EM} (o : OpM X E (compareOp op) g) (o' : OpM X E (compareOp op') h) (ha : SE X E a fa) (hb : SE X E b fb) (hd : SE X E d fd)
    (hm : lastMarks [op, op'] [b, d] = false := by with_unfolding_all rfl) : SE X E (.Compare a [op, op'] [b, d] pos) (mChain g h fa fb fd) := by
  obtain ⟨r, ho, hr⟩ := o
  obtain ⟨r', ho', hr'⟩ := o'
  refine PE.mono (pe_chain ho ho' ha hb hd hm) fun σ H Q ⟨fr, S, m, rf, rs, p⟩ => ?_
  refine rd_bind rf rs p fun x S1 m1 H1 e1 rf1 rs1 p1 v hv => ?_
  refine rd_bind rf1 rs1 p1 fun y S2 m2 H2 e2 rf2 rs2 p2 w hw => ?_
  refine hr x y v w S2 m2 H2 _ rs2 (hv.mono e2) hw ((post_bind p2).imp fun z S3 m3 H3 e3 rs3 p3 zv hz => ?_)
  obtain ⟨k, ek, q⟩ := of_toB rs3 hz (post_bind p3)
  refine ⟨k, ek, ?_⟩
  cases k with
  | true =>
    refine rd_bind (rf2.mono e3) rs3 q fun u S4 m4 H4 e4 rf4 rs4 p4 uv hu => ?_
    exact hr' y u w uv S4 m4 H4 Q rs4 ((hw.mono e3).mono e4) hu p4
  | false => exact q.here rs3 _ (.bl _)
theorem st_chain {op op' : CmpOp} {g h : Op2} {d : Expr} {fd : EM} (o : OpM X E (compareOp op) g) (o' : OpM X E (compareOp op') h) (ha : SE X E a fa) (hb : SE X E b fb) (hd : SE X E d fd)
    (hm : lastMarks [op, op'] [b, d] = false := by with_unfolding_all rfl) : STt X E (.Compare a [op, op'] [b, d] pos) (tBl (mChain g h fa fb fd)) := by
  obtain ⟨r, ho, hr⟩ := o
  obtain ⟨r', ho', hr'⟩ := o'
  refine PT.mono (pt_chain ho ho' ha hb hd hm) fun σ H Q ⟨fr, S, m, rf, rs, p⟩ => ?_
  refine rd_bind rf rs (post_bind p) fun x S1 m1 H1 e1 rf1 rs1 p1 v hv => ?_
  refine rd_bind rf1 rs1 p1 fun y S2 m2 H2 e2 rf2 rs2 p2 w hw => ?_
  refine hr x y v w S2 m2 H2 _ rs2 (hv.mono e2) hw ((post_bind p2).imp fun z S3 m3 H3 e3 rs3 p3 zv hz => ?_)
  obtain ⟨k, ek, q⟩ := of_toB rs3 hz (post_bind p3)
  refine ⟨k, ek, ?_⟩
  cases k with
  | true =>
    refine rd_bind (rf2.mono e3) rs3 q fun u S4 m4 H4 e4 rf4 rs4 p4 uv hu => ?_
    exact hr' y u w uv S4 m4 H4 _ rs4 ((hw.mono e3).mono e4) hu (p4.imp fun d S5 m5 H5 e5 rs5 p5 z5 hz5 => of_toB rs5 hz5 p5)
  | false => exact ⟨false, rfl, (q.here rs3).here rs3⟩
theorem st_val (h : SE X E e fa) (he : ∀ whole, isTrue e X.env whole = (do let v ← whole; standAt e.pos; holding [v] (truthy v)) := by intro _; rfl) : STt X E e (tBl fa) := by
  refine PT.mono (pt_val h he) fun σ H Q ⟨fr, S, m, rf, rs, p⟩ => ?_
  exact rd_bind rf rs p fun x S1 m1 H1 e1 rf1 rs1 p1 v hv => of_toB rs1 hv p1
theorem st_tru (h : SE X E e fa) (he : ∀ whole, isTrue e X.env whole = (do let v ← whole; standAt e.pos; holding [v] (truthy v)) := by intro _; rfl) : STt X E e (tTru fa) := by
  refine PT.mono (pt_truth h he) fun σ H Q ⟨fr, S, m, rf, rs, p⟩ => ?_
  refine rd_bind rf rs p fun x S1 m1 H1 e1 rf1 rs1 p1 v hv => ?_
  split at p1
  · rename_i b hb
    refine ⟨b, ?_, p1.here rs1⟩
    cases hv with
    | non => cases hb; exact rfl
    | bl k => cases hb; exact rfl
    | int i => cases hb; exact rfl
    | str s =>
      unfold truth at hb
      dsimp only at hb
      split at hb
      · rename_i hl
        cases hb
        refine ⟨by rw [sOf_len, sizeLine_eq]; exact hl, ?_⟩
        rw [sOf_len]
        cases s with
        | nil => rfl
        | cons => simp; omega
      · cases hb
    | @tup l a xs ha r =>
      cases hb
      refine .inr (.inl ⟨xs, .inl (.inl ha), ?_⟩)
      have := r.len
      cases r <;> rfl
    | wtp => cases hb
    | @ref n ad ha =>
      unfold truth at hb
      dsimp only at hb
      split at hb
      · rename_i l hl
        cases hb
        obtain ⟨xs, h1, h2⟩ := rs1.lst ha hl
        refine .inl ⟨xs, h1, ?_⟩
        cases h2 <;> rfl
      · cases hb
  · exact p1.elim
theorem se_not (ha : SE X E a fa) : SE X E (.UnaryOp .Not a pos) (mNot fa) := by
  refine PE.mono (pe_not ha) fun σ H Q ⟨fr, S, m, rf, rs, p⟩ => ?_
  refine rd_bind rf rs p fun x S1 m1 H1 e1 rf1 rs1 p1 v hv => ?_
  obtain ⟨k, e, q⟩ := of_toB rs1 hv (post_bind p1)
  exact ⟨k, e, q.here rs1 _ (.bl _)⟩
theorem se_one {op} (h : SE X E a fa) : SE X E (.BoolOp op [a] pos) fa := pe_one h
theorem se_and {rest : List Expr} (ha : SE X E a fa) (hb : SE X E (.BoolOp .And (b :: rest) pos) fb) : SE X E (.BoolOp .And (a :: b :: rest) pos) (mAnd fa fb) := by
  refine PE.mono (pe_and ha hb) fun σ H Q ⟨fr, S, m, rf, rs, p⟩ => ?_
  refine rd_bind rf rs p fun x S1 m1 H1 e1 rf1 rs1 p1 v hv => ?_
  obtain ⟨k, e, q⟩ := of_toB rs1 hv (post_bind p1)
  refine ⟨k, e, ?_⟩
  cases k with
  | true => exact ⟨fr, S1, m1, rf1, rs1, q⟩
  | false => exact q.here rs1 _ (.bl _)
theorem se_or {rest : List Expr} (ha : SE X E a fa) (hb : SE X E (.BoolOp .Or (b :: rest) pos) fb) : SE X E (.BoolOp .Or (a :: b :: rest) pos) (mOr fa fb) := by
  refine PE.mono (pe_or ha hb) fun σ H Q ⟨fr, S, m, rf, rs, p⟩ => ?_
  refine rd_bind rf rs p fun x S1 m1 H1 e1 rf1 rs1 p1 v hv => ?_
  obtain ⟨k, e, q⟩ := of_toB rs1 hv (post_bind p1)
  refine ⟨k, e, ?_⟩
  cases k with
  | true => exact q.here rs1 _ (.bl _)
  | false => exact ⟨fr, S1, m1, rf1, rs1, q⟩
/-- tests -/
theorem sw_and1 {ft : TM} (ha : STt X E a ft) : SW X E (.BoolOp .And [a] pos) ft := pw_and1 ha
theorem sw_or1 {ft : TM} (ha : STt X E a ft) : SW X E (.BoolOp .Or [a] pos) ft := pw_or1 ha
theorem sw_and {rest : List Expr} {ft fu : TM} (ha : STt X E a ft) (hb : SW X E (.BoolOp .And (b :: rest) pos) fu) : SW X E (.BoolOp .And (a :: b :: rest) pos) (tAnd ft fu) := by
  refine PW.mono (pw_and ha hb) fun σ H Q ⟨fr, S, m, rf, rs, p⟩ => ?_
  refine rdT_bind rf rs p fun k S1 m1 H1 e1 rf1 rs1 p1 => ?_
  cases k with
  | true => exact ⟨fr, S1, m1, rf1, rs1, p1⟩
  | false => exact p1.here rs1
theorem sw_or {rest : List Expr} {ft fu : TM} (ha : STt X E a ft) (hb : SW X E (.BoolOp .Or (b :: rest) pos) fu) : SW X E (.BoolOp .Or (a :: b :: rest) pos) (tOr ft fu) := by
  refine PW.mono (pw_or ha hb) fun σ H Q ⟨fr, S, m, rf, rs, p⟩ => ?_
  refine rdT_bind rf rs p fun k S1 m1 H1 e1 rf1 rs1 p1 => ?_
  cases k with
  | true => exact p1.here rs1
  | false => exact ⟨fr, S1, m1, rf1, rs1, p1⟩
theorem st_w {ft : TM} (h : SW X E e ft) : STt X E e ft := PW.pt h
theorem st_not {ft : TM} (ha : STt X E a ft) : STt X E (.UnaryOp .Not a pos) (tNot ft) := by
  refine PT.mono (pt_not ha) fun σ H Q ⟨fr, S, m, rf, rs, p⟩ => ?_
  exact rdT_bind rf rs p fun k S1 m1 H1 e1 rf1 rs1 p1 => p1.here rs1
theorem se_ife {ft : TM} {t : Expr} (ht : STt X E t ft) (ha : SE X E a fa) (hb : SE X E b fb) : SE X E (.IfExp t a b pos) (mIfE ft fa fb) := by
  refine PE.mono (pe_ifExp ht ha hb) fun σ H Q ⟨fr, S, m, rf, rs, p⟩ => ?_
  refine rdT_bind rf rs p fun k S1 m1 H1 e1 rf1 rs1 p1 => ?_
  cases k with
  | true => exact ⟨fr, S1, m1, rf1, rs1, p1⟩
  | false => exact ⟨fr, S1, m1, rf1, rs1, p1⟩

/-! ### arguments, displays -/
theorem sa_nil : SA X E [] aNil := PA.mono pa_nil fun σ H Q ⟨fr, S, m, rf, rs, p⟩ => p.here rs [] .nil
theorem sa_cons {es : List Expr} {fs : AM} (ha : SE X E e fa) (hr : SA X E es fs) (hs : starEach (e :: es) X.env = (false, eval e X.env) :: starEach es X.env := by rfl) : SA X E (e :: es) (aCons fa fs) := by
  refine PA.mono (pa_cons ha hr hs) fun σ H Q ⟨fr, S, m, rf, rs, p⟩ => ?_
  refine rd_bind rf rs p fun x S1 m1 H1 e1 rf1 rs1 p1 v hv => ?_
  refine rdA_bind rf1 rs1 p1 fun xs S2 m2 H2 e2 rf2 rs2 p2 vs hvs => ?_
  exact p2.here rs2 _ (.cons (hv.mono e2) hvs)
theorem line_eq : sizeLine = LINE := sizeLine_eq
/-- a new object: its reference -/
theorem post_new {c : Ct} {m : List Addr} {S : Store} {H : Hp} {o : O} {Q : VK} {p : Addr} {u : HO} (rs : RS c m S H) (q : Post c E m H (new o S) (kE c Q)) (hp : H p = none) (ho : Ext m H (m ++ [p]) (upd H p u) → RelO c (upd H p u) (m ++ [p]) p o) : Q (.ref p) (upd H p u) := by
  have e0 : Ext m H (m ++ [p]) (upd H p u) := ⟨⟨mext_push m p, tstay_new hp⟩, fstay_new hp⟩
  obtain ⟨rs', e⟩ := rs.push hp (ho e0)
  refine q _ _ e rs' _ (.ref ?_)
  rw [← rs.len, List.getElem?_append_right (Nat.le_refl _), Nat.sub_self]
  rfl
theorem post_tup {c : Ct} {m : List Addr} {S : Store} {H : Hp} {l : List D} {Q : VK} {p : Addr} {xs : List V} (rs : RS c m S H) (q : Post c E m H (.ok (.tup l) S) (kE c Q)) (hp : H p = none) (r : RelL c.K H m l xs) : Q (.ref p) (upd H p (.tup xs)) := by
  have e : Ext m H m (upd H p (.tup xs)) := ⟨⟨fun _ _ z => z, tstay_new hp⟩, fstay_new hp⟩
  exact q _ _ e (rs.fresh hp) _ (.tup upd_same (r.mono e))
theorem se_tup {es : List Expr} {fs : AM} {x1} (h : SA X E es fs) : SE X E (.Tuple es x1 pos) (mTup fs) := by
  refine PE.mono (pe_tup h) fun σ H Q ⟨fr, S, m, rf, rs, p⟩ => ?_
  refine rdA_bind rf rs p fun xs S1 m1 H1 e1 rf1 rs1 p1 vs hv => ?_
  split at p1
  · rename_i hl
    exact ⟨by rw [← hv.len, line_eq]; exact hl, fun a ha => post_tup rs1 p1 ha hv⟩
  · exact p1.elim
theorem se_lst {es : List Expr} {fs : AM} (h : SA X E es fs) : SE X E (.List es pos) (mLst fs) := by
  refine PE.mono (pe_lst h) fun σ H Q ⟨fr, S, m, rf, rs, p⟩ => ?_
  refine rdA_bind rf rs p fun xs S1 m1 H1 e1 rf1 rs1 p1 vs hv => ?_
  split at p1
  · rename_i hl
    exact ⟨by rw [← hv.len, line_eq]; exact hl, fun a ha => post_new rs1 p1 ha fun e0 => ⟨vs, upd_same, hv.mono e0⟩⟩
  · exact p1.elim
theorem se_newK : SE X E (.Dict [] [] pos) mNewK := PE.mono pe_dnewK fun σ H Q ⟨fr, S, m, rf, rs, p⟩ a ha => post_new rs p ha fun _ => ⟨[], upd_same, .nil⟩
theorem se_newT : SE X E (.Dict [] [] pos) mNewT := PE.mono pe_dnewT fun σ H Q ⟨fr, S, m, rf, rs, p⟩ a ha => post_new rs p ha fun _ => ⟨[], upd_same, .nil⟩

/-! ### calls -/
/-- a def's promise by its small program -/
def spM (c : Ct) (g : Fn) : Sp := fun vs H Q E => ∃ ds S m, RelL c.K H m ds vs ∧ RS c m S H ∧ Post c E m H (g ds S) (kE c Q)
theorem rd_call {f : AM} {g : Fn} {fr : Fr} {S : Store} {m : List Addr} {σ : L2.St} {H : Hp} {Q : VK} {c : Ct} {E : XK}
    (rf : RF c.K H m fr σ) (rs : RS c m S H) (p : Post c E m H ((f fr S).bind g) (kE c Q)) : rdA c E f σ H fun vs H1 => spM c g vs H1 Q E :=
  rdA_bind rf rs p fun ds S1 m1 H1 e1 rf1 rs1 p1 vs hv => ⟨ds, S1, m1, hv, rs1, p1⟩
theorem se_call {CX : CXT} {k : Nat} {f : Addr} {fd : FuncData} {ps : List Str} {g : Fn} {x : Str} {p : Pos} {es : List Expr} {fs : AM} (F : FnOk X.prog X.w X.K X.mg X.base CX k f fd ps (spM (cx X) g)) (hr : Room k X.A) (hg : Gl X x) (hm : X.mg x = some (.ref f)) (hk : PySem.W.keepIn X.K (.ref f) = true) (hb : Binds X.K fd ps []) (hx : Passes CX X E)
    (ha : SA X E (e :: es) fs) (hdb : (x == ("__debug__" : Str)) = false := by decide) (he : starEach (e :: es) X.env = (false, eval e X.env) :: starEach es X.env := by rfl) (hpl : (backTo pos (starEach es X.env)).any (·.1) = false := by rfl) :
    SE X E (.Call (.Name x p) (e :: es) [] pos) (mCall g fs) := by
  refine PE.mono (pe_call F hr hg hm hk hb .nil hx ha hdb he hpl) fun σ H Q ⟨fr, S, m, rf, rs, p⟩ => ?_
  show rdA (cx X) E fs σ H fun vs H1 => spM (cx X) g (vs ++ []) H1 Q E
  have h := rd_call rf rs p
  simpa only [List.append_nil] using h
theorem se_call0 {CX : CXT} {k : Nat} {f : Addr} {fd : FuncData} {ps : List Str} {g : Fn} {x : Str} {p : Pos} (F : FnOk X.prog X.w X.K X.mg X.base CX k f fd ps (spM (cx X) g)) (hr : Room k X.A) (hg : Gl X x) (hm : X.mg x = some (.ref f)) (hk : PySem.W.keepIn X.K (.ref f) = true) (hb : Binds X.K fd ps []) (hx : Passes CX X E)
    (hdb : (x == ("__debug__" : Str)) = false := by decide) : SE X E (.Call (.Name x p) [] [] pos) (mCall g aNil) := by
  refine PE.mono (pe_call0 F hr hg hm hk hb .nil hx hdb) fun σ H Q ⟨fr, S, m, rf, rs, p⟩ => ?_
  exact ⟨[], S, m, .nil, rs, p⟩
/-- a built-in's value rule against the small one -/
def CallM (X : Cx) (E : XK) (f : Value) (g : Fn) : Prop := ∃ r : List V → Hp → VK → Prop, CallR X f r ∧
  ∀ ds vs S m H Q, RS (cx X) m S H → RelL X.K H m ds vs → Post (cx X) E m H (g ds S) (kE (cx X) Q) → r vs H Q
theorem callr_or {f : Value} {r r' : List V → Hp → VK → Prop} (h : CallR X f r) (h' : CallR X f r') : CallR X f fun xs H Q => r xs H Q ∨ r' xs H Q := by
  intro pins s σ H xs us Q I rx q
  rcases q with q | q
  · exact h pins s σ H xs us Q I rx q
  · exact h' pins s σ H xs us Q I rx q
theorem se_callB {id : String} {g : Fn} {x : Str} {p : Pos} {es : List Expr} {fs : AM} (o : CallM X E (.builtin id) g) (hg : Gl X x) (hm : X.mg x = none) (hv : bootBuiltins x = some (.builtin id)) (ha : SA X E (e :: es) fs) (hn : x ≠ "__name__" := by decide) (hdb : (x == ("__debug__" : Str)) = false := by decide)
    (he : starEach (e :: es) X.env = (false, eval e X.env) :: starEach es X.env := by rfl) (hpl : (backTo pos (starEach es X.env)).any (·.1) = false := by rfl) : SE X E (.Call (.Name x p) (e :: es) [] pos) (mCall g fs) := by
  obtain ⟨r, hc, hr⟩ := o
  refine PE.mono (pe_callB hc hg hm hv ha hn hdb he hpl) fun σ H Q ⟨fr, S, m, rf, rs, p⟩ => ?_
  exact rdA_bind rf rs p fun ds S1 m1 H1 e1 rf1 rs1 p1 vs hvs => hr ds vs S1 m1 H1 Q rs1 hvs p1
theorem se_callTy {T : String} {g : Fn} {x : Str} {p : Pos} {es : List Expr} {fs : AM} (o : CallM X E (.type T) g) (hg : Gl X x) (hm : X.mg x = none) (hv : bootBuiltins x = some (.type T)) (ha : SA X E (e :: es) fs) (hn : x ≠ "__name__" := by decide) (hdb : (x == ("__debug__" : Str)) = false := by decide)
    (he : starEach (e :: es) X.env = (false, eval e X.env) :: starEach es X.env := by rfl) (hpl : (backTo pos (starEach es X.env)).any (·.1) = false := by rfl) : SE X E (.Call (.Name x p) (e :: es) [] pos) (mCall g fs) := by
  obtain ⟨r, hc, hr⟩ := o
  refine PE.mono (pe_callTy hc hg hm hv ha hn hdb he hpl) fun σ H Q ⟨fr, S, m, rf, rs, p⟩ => ?_
  exact rdA_bind rf rs p fun ds S1 m1 H1 e1 rf1 rs1 p1 vs hvs => hr ds vs S1 m1 H1 Q rs1 hvs p1
/-- a subscript -/
def IxM (X : Cx) (E : XK) (g : Op2) : Prop := ∃ r : R2, IxR X r ∧
  ∀ x y v w S m H Q, RS (cx X) m S H → RelD X.K H m x v → RelD X.K H m y w → Post (cx X) E m H (g x y S) (kE (cx X) Q) → r v w H Q
theorem se_ix {g : Op2} (o : IxM X E g) (ha : SE X E a fa) (hb : SE X E b fb) (hs : PlainIx b) : SE X E (.Subscript a b pos) (mOp g fa fb) := by
  obtain ⟨r, ho, hr⟩ := o
  refine PE.mono (pe_ix ho ha hb hs) fun σ H Q ⟨fr, S, m, rf, rs, p⟩ => ?_
  refine rd_bind rf rs p fun x S1 m1 H1 e1 rf1 rs1 p1 v hv => ?_
  refine rd_bind rf1 rs1 p1 fun y S2 m2 H2 e2 rf2 rs2 p2 w hw => ?_
  exact hr x y v w S2 m2 H2 Q rs2 (hv.mono e2) hw p2
/-- a slice -/
theorem so_none : SO X E none pNo := by
  refine ⟨fun pins s σ H Q I ⟨fr, S, m, rf, rs, p⟩ => po_none.run pins s σ H Q I (p.here rs)⟩
theorem so_some (h : SE X E e fa) : SO X E (some e) (pSome fa) := by
  refine ⟨fun pins s σ H Q I ⟨fr, S, m, rf, rs, p⟩ => (po_some h).run pins s σ H Q I ?_⟩
  refine rd_bind rf rs p fun x S1 m1 H1 e1 rf1 rs1 p1 v hv => ?_
  cases hv with
  | int i => exact ⟨i, rfl, p1.here rs1⟩
  | _ => exact p1.elim
def SlM (X : Cx) (E : XK) (g : D → Option Int → Option Int → Store → Res D) : Prop := ∃ r : V → Option Int → Option Int → Hp → VK → Prop, SlR X r ∧
  ∀ x lo hi v S m H Q, RS (cx X) m S H → RelD X.K H m x v → Post (cx X) E m H (g x lo hi S) (kE (cx X) Q) → r v lo hi H Q
theorem slr_or {r r' : V → Option Int → Option Int → Hp → VK → Prop} (h : SlR X r) (h' : SlR X r') : SlR X fun x a b H Q => r x a b H Q ∨ r' x a b H Q := by
  intro pins s σ H x v vl vu lo hi sl Q I rx hs pl pu q
  rcases q with q | q
  · exact h pins s σ H x v vl vu lo hi sl Q I rx hs pl pu q
  · exact h' pins s σ H x v vl vu lo hi sl Q I rx hs pl pu q
theorem se_sl {lo hi : Option Expr} {fl fh : PM} {p2 : Pos} (o : SlM X E oSl) (ha : SE X E a fa) (hl : SO X E lo fl) (hh : SO X E hi fh) : SE X E (.Subscript a (.Slice lo hi none p2) pos) (mSl fa fl fh) := by
  obtain ⟨r, ho, hr⟩ := o
  refine PE.mono (pe_slice ho ha hl hh) fun σ H Q ⟨fr, S, m, rf, rs, p⟩ => ?_
  refine rd_bind rf rs p fun x S1 m1 H1 e1 rf1 rs1 p1 v hv => ?_
  refine rdP_bind rf1 rs1 p1 fun l S2 m2 H2 e2 rf2 rs2 p2 => ?_
  refine rdP_bind rf2 rs2 p2 fun h S3 m3 H3 e3 rf3 rs3 p3 => ?_
  exact hr x l h v S3 m3 H3 Q rs3 ((hv.mono e2).mono e3) p3
/-- -a -/
theorem se_neg (ha : SE X E a fa) : SE X E (.UnaryOp .USub a pos) (mUn uNeg fa) := by
  refine PE.mono (pe_un un_neg ha) fun σ H Q ⟨fr, S, m, rf, rs, p⟩ => ?_
  refine rd_bind rf rs p fun x S1 m1 H1 e1 rf1 rs1 p1 v hv => ?_
  cases hv with
  | int i => exact ⟨i, rfl, p1.here rs1 _ (.int _)⟩
  | _ => exact p1.elim
/-- a method of a built-in type -/
def MtMm (X : Cx) (E : XK) (id : String) (g : D → Fn) : Prop := ∃ r : V → List V → Hp → VK → Prop, MtR X id r ∧
  ∀ x ds v vs S m H Q, RS (cx X) m S H → RelD X.K H m x v → RelL X.K H m ds vs → Post (cx X) E m H (g x ds S) (kE (cx X) Q) → r v vs H Q
def TyM (X : Cx) (T : String) (p : D → Store → Bool) : Prop := ∀ x v S m H, RS (cx X) m S H → RelD X.K H m x v → p x S = true → tyV X.K T v H
theorem se_mt0 {T id : String} {name : Str} {apos cpos : Pos} {g : D → Fn} {tp : D → Store → Bool} {o : Expr} {fo : EM} (pa : PlainAttrs T) (slot : Slot T name id) (hty : typeOf (.builtin id) = pure (.type "method_descriptor")) (mt : MtMm X E id g) (ty : TyM X T tp) (ho : SE X E o fo)
    (hbase : attributeBase o name X.env (eval o X.env) = eval o X.env := by rfl) (hline : (apos.endLine == cpos.line) = true := by rfl) : SE X E (.Call (.Attribute o name apos) [] [] cpos) (mMt tp g fo aNil) := by
  obtain ⟨r, hm, hr⟩ := mt
  refine PE.mono (pe_bm0 pa slot hty hm ho hbase hline) fun σ H Q ⟨fr, S, m, rf, rs, p⟩ => ?_
  refine rd_bind rf rs p fun x S1 m1 H1 e1 rf1 rs1 p1 v hv => ?_
  split at p1
  · rename_i h
    exact ⟨ty x v S1 m1 H1 rs1 hv h, hr x [] v [] S1 m1 H1 Q rs1 hv .nil p1⟩
  · exact p1.elim
theorem se_mt {T id : String} {name : Str} {apos cpos : Pos} {g : D → Fn} {tp : D → Store → Bool} {o : Expr} {fo : EM} {es : List Expr} {fs : AM} (pa : PlainAttrs T) (slot : Slot T name id) (hty : typeOf (.builtin id) = pure (.type "method_descriptor")) (mt : MtMm X E id g) (ty : TyM X T tp) (ho : SE X E o fo) (ha : SA X E (e :: es) fs)
    (hbase : attributeBase o name X.env (eval o X.env) = eval o X.env := by rfl)
    (hfew : ((backTo cpos (starEach (e :: es) X.env)).all (fun x => !x.1) && (backToKw cpos (keywordEach [] X.env)).all (fun x => x.1.isSome)
      && decide ((e :: es).length + ([] : List Keyword).length + (if ([] : List Keyword).isEmpty then 0 else 1) < 30)) = true := by rfl)
    (hline : (apos.endLine == cpos.line) = true := by rfl) (hs : starEach (e :: es) X.env = (false, eval e X.env) :: starEach es X.env := by rfl) (hplain : (backTo cpos (starEach es X.env)).any (·.1) = false := by rfl) : SE X E (.Call (.Attribute o name apos) (e :: es) [] cpos) (mMt tp g fo fs) := by
  obtain ⟨r, hm, hr⟩ := mt
  refine PE.mono (pe_bm pa slot hty hm ho ha hbase hfew hline hs hplain) fun σ H Q ⟨fr, S, m, rf, rs, p⟩ => ?_
  refine rd_bind rf rs p fun x S1 m1 H1 e1 rf1 rs1 p1 v hv => ?_
  split at p1
  · rename_i h
    refine ⟨ty x v S1 m1 H1 rs1 hv h, ?_⟩
    exact rdA_bind rf1 rs1 p1 fun ds S2 m2 H2 e2 rf2 rs2 p2 vs hvs => hr x ds v vs S2 m2 H2 Q rs2 (hv.mono e2) hvs p2
  · exact p1.elim
end
end Sm

set_option Elab.async false
set_option linter.all false
set_option maxRecDepth 100000
set_option maxHeartbeats 2000000
/-! readings by the small language: operators on values -/
namespace Sm
open PySem PySem.Spec PyProof.Rows L2 Mi
section
variable {X : Cx} {E : XK} {f : Value → Value → Sem Value}
theorem post_int {c : Ct} {E : XK} {m : List Addr} {H : Hp} {S : Store} {Q : VK} {i : Int} (rs : RS c m S H) (p : Post c E m H (.ok (.int i) S) (kE c Q)) : Q (.int i) H := p.here rs _ (.int i)
theorem post_bl {c : Ct} {E : XK} {m : List Addr} {H : Hp} {S : Store} {Q : VK} {i : Bool} (rs : RS c m S H) (p : Post c E m H (.ok (.bl i) S) (kE c Q)) : Q (.bl i) H := p.here rs _ (.bl i)
/-- an operator of two ints alone -/
theorem om_int {g : Int → Int → D} {w : Int → Int → V} (ho : OpR X f (rI0 w)) (h : ∀ i j H m, RelD X.K H m (g i j) (w i j)) :
    OpM X E f (fun x y S => match x, y with
      | .int i, .int j => .ok (g i j) S
      | _, _ => .bad) := by
  refine ⟨_, ho, fun x y v u S m H Q rs hv hw p => ?_⟩
  cases hv <;> cases hw <;> first
    | exact p.elim
    | exact ⟨_, _, rfl, rfl, p.here rs _ (h _ _ _ _)⟩
theorem om_intC {C C' : Int → Int → Prop} [∀ i j, Decidable (C i j)] {g : Int → Int → Int} {g' : Int → Int → Int} (ho : OpR X f (rI C' fun i j => .int (g' i j))) (hc : ∀ i j, C i j → C' i j) (he : ∀ i j, C i j → g' i j = g i j) :
    OpM X E f (fun x y S => match x, y with
      | .int i, .int j => if C i j then .ok (.int (g i j)) S else .bad
      | _, _ => .bad) := by
  refine ⟨_, ho, fun x y v u S m H Q rs hv hw p => ?_⟩
  cases hv <;> cases hw <;> first
    | exact p.elim
    | (rename_i i j
       dsimp only at p
       split at p
       · rename_i h
         refine ⟨_, _, rfl, rfl, hc _ _ h, ?_⟩
         show Q (.int (g' i j)) H
         rw [he _ _ h]
         exact post_int rs p
       · exact p.elim)
theorem OpM.eq {g g' : Op2} (h : OpM X E f g) (e : ∀ x y S, g x y S = g' x y S) : OpM X E f g' := by
  obtain ⟨r, h1, h2⟩ := h
  exact ⟨r, h1, fun x y v w S m H Q rs hv hw p => h2 x y v w S m H Q rs hv hw (by rw [e]; exact p)⟩
theorem om_sub : OpM X E (binaryOp .Sub) oSub := (om_int (g := fun i j => .int (i - j)) op_sub fun i j H m => .int _).eq fun x y S => by cases x <;> cases y <;> rfl
theorem om_cmp {op : CmpOp} {p : Int → Int → Bool} (ho : OpR X (compareOp op) (rI0 fun i j => .bl (p i j))) : OpM X E (compareOp op) (oCmp p) := (om_int (g := fun i j => .bl (p i j)) ho fun i j H m => .bl _).eq fun x y S => by cases x <;> cases y <;> rfl
theorem om_lt : OpM X E (compareOp .Lt) oLt := om_cmp op_lt
theorem om_le : OpM X E (compareOp .LtE) oLe := om_cmp op_le
theorem om_gt : OpM X E (compareOp .Gt) oGt := om_cmp op_gt
theorem om_ge : OpM X E (compareOp .GtE) oGe := om_cmp op_ge
theorem om_div : OpM X E (binaryOp .FloorDiv) oDiv := (om_intC (C := fun _ j => divOk j) (g := fun i j => i / j) op_fdivW (fun _ _ h => h) fun _ _ _ => rfl).eq fun x y S => by cases x <;> cases y <;> rfl
theorem om_mod : OpM X E (binaryOp .Mod) oMod := (om_intC (C := fun _ j => 0 < j) (g := fun i j => i % j) op_mod (fun _ _ h => h) fun _ _ _ => rfl).eq fun x y S => by cases x <;> cases y <;> rfl
theorem om_pow : OpM X E (binaryOp .Pow) oPow := (om_intC (C := powOk) (g := fun i j => i ^ j.toNat) op_pow (fun _ _ h => h) fun _ _ _ => rfl).eq fun x y S => by cases x <;> cases y <;> rfl
theorem om_shl : OpM X E (binaryOp .LShift) oShl := (om_intC (C := powOk) (g := fun i j => i * 2 ^ j.toNat) op_shl (fun _ _ h => h) fun _ _ _ => rfl).eq fun x y S => by cases x <;> cases y <;> rfl
theorem om_shr : OpM X E (binaryOp .RShift) oShr := (om_intC (C := fun _ j => 0 ≤ j) (g := fun i j => i / 2 ^ j.toNat) op_shr (fun _ _ h => h) fun _ _ _ => rfl).eq fun x y S => by cases x <;> cases y <;> rfl
theorem om_bit {op : Operator} {b : Int → Int → Int} {g : Nat → Nat → Nat} (ho : OpR X (binaryOp op) (rI0 fun i j => .int (b i j))) (he : ∀ i j : Int, 0 ≤ i → 0 ≤ j → b i j = (g i.toNat j.toNat : Nat)) : OpM X E (binaryOp op) (oBit g) := by
  refine ⟨_, ho, fun x y v u S m H Q rs hv hw p => ?_⟩
  cases hv <;> cases hw <;> first
    | exact p.elim
    | (rename_i i j
       unfold oBit at p
       dsimp only at p
       split at p
       · rename_i h
         refine ⟨_, _, rfl, rfl, ?_⟩
         show Q (.int (b i j)) H
         rw [he _ _ h.1 h.2]
         exact post_int rs p
       · exact p.elim)
theorem bitAnd_nn {x y : Int} (hx : 0 ≤ x) (hy : 0 ≤ y) : Builtin.bitAnd x y = ((x.toNat &&& y.toNat : Nat) : Int) := by
  obtain ⟨a, rfl⟩ := Int.eq_ofNat_of_zero_le hx
  obtain ⟨b, rfl⟩ := Int.eq_ofNat_of_zero_le hy
  rfl
theorem om_and : OpM X E (binaryOp .BitAnd) oAnd := om_bit op_and fun i j h1 h2 => bitAnd_nn h1 h2
theorem om_or : OpM X E (binaryOp .BitOr) oOr := om_bit op_or fun i j h1 h2 => Bits.bitOr_pp h1 h2
theorem om_xor : OpM X E (binaryOp .BitXor) oXor := om_bit op_xor fun i j h1 h2 => Bits.bitXor_pp h1 h2
/-- two rules for one operator -/
theorem RS.mlst {c : Ct} {m : List Addr} {S : Store} {H : Hp} {n : Nat} {a : Addr} {l : List D} (rs : RS c m S H) (ha : m[n]? = some a) (hs : S[n]? = some (.lst l)) : ∃ xs, H a = some (.lst xs) ∧ RelL c.K H m l xs := rs.ob n a _ ha hs
theorem om_add : OpM X E (binaryOp .Add) oAdd := by
  refine ⟨_, opr_or op_add (opr_or op_add_str (opr_or op_cat op_catT)), fun x y v u S m H Q rs hv hw p => ?_⟩
  cases hv with
  | int i => cases hw with
    | int j => exact .inl ⟨i, j, rfl, rfl, post_int rs p⟩
    | _ => exact p.elim
  | str s => cases hw with
    | str t =>
      unfold oAdd at p
      dsimp only at p
      split at p
      · rename_i h
        refine .inr (.inl ⟨sOf s, sOf t, rfl, rfl, by rw [sOf_len, sOf_len, line_eq]; exact h, ?_⟩)
        have e : sOf s ++ sOf t = sOf (s ++ t) := by
          show Str.mk (s.toArray ++ t.toArray) = Str.mk (s ++ t).toArray
          simp
        rw [e]
        exact p.here rs _ (.str _)
      · exact p.elim
    | _ => exact p.elim
  | @tup l a xs ha r => cases hw with
    | @tup l' a' xs' ha' r' =>
      unfold oAdd at p
      dsimp only at p
      split at p
      · rename_i h
        have n1 : xs ≠ [] := fun z => by
          have := r.len
          rw [z] at this
          exact h.1 (List.length_eq_zero_iff.mp this)
        refine .inr (.inr (.inr ⟨a, a', xs, xs', rfl, rfl, .inl (.inl ha), .inl (.inl ha'), n1, by rw [← r.len, ← r'.len, line_eq]; exact h.2, fun z => ?_, fun z b hb => ?_⟩))
        · subst z
          cases r'
          rw [List.append_nil] at p
          exact p.here rs _ (.tup ha r)
        · exact post_tup rs p hb (r.app r')
      · exact p.elim
    | _ => exact p.elim
  | @ref n a ha => cases hw with
    | @ref n' a' ha' =>
      unfold oAdd at p
      dsimp only at p
      split at p
      · rename_i l l' e1 e2
        split at p
        · rename_i h
          obtain ⟨xs, h1, r1⟩ := rs.mlst ha e1
          obtain ⟨ys, h2, r2⟩ := rs.mlst ha' e2
          exact .inr (.inr (.inl ⟨a, a', xs, ys, rfl, rfl, h1, h2, by rw [← r1.len, ← r2.len, line_eq]; exact h, fun b hb => post_new rs p hb fun e0 => ⟨_, upd_same, (r1.app r2).mono e0⟩⟩))
        · exact p.elim
      · exact p.elim
    | _ => exact p.elim
  | _ => cases hw <;> exact p.elim
theorem RelL.rep {K : PySem.W.Frag} {H : Hp} {m : List Addr} {l : List D} {xs : List V} (r : RelL K H m l xs) : ∀ n, RelL K H m (List.replicate n l).flatten (List.replicate n xs).flatten
  | 0 => .nil
  | n + 1 => by
    rw [List.replicate_succ, List.replicate_succ, List.flatten_cons, List.flatten_cons]
    exact r.app (r.rep n)
theorem om_mul : OpM X E (binaryOp .Mult) oMul := by
  refine ⟨_, opr_or op_mul (opr_or op_mulW op_rep), fun x y v u S m H Q rs hv hw p => ?_⟩
  cases hv with
  | int i => cases hw with
    | int j =>
      unfold oMul at p
      dsimp only at p
      split at p
      · rename_i h
        rcases h with h | h | h
        · exact .inl ⟨i, j, rfl, rfl, .inl h, post_int rs p⟩
        · exact .inl ⟨i, j, rfl, rfl, .inr h, post_int rs p⟩
        · exact .inr (.inl ⟨i, j, rfl, rfl, h, post_int rs p⟩)
      · exact p.elim
    | _ => exact p.elim
  | @ref n a ha => cases hw with
    | int k =>
      unfold oMul at p
      dsimp only at p
      split at p
      · rename_i l e1
        split at p
        · rename_i h
          obtain ⟨xs, h1, r1⟩ := rs.mlst ha e1
          exact .inr (.inr ⟨a, k, xs, rfl, rfl, h1, h.1, h.2.1, by rw [← r1.len, line_eq]; exact h.2.2, fun b hb => post_new rs p hb fun e0 => ⟨_, upd_same, (r1.rep _).mono e0⟩⟩)
        · exact p.elim
      · exact p.elim
    | _ => exact p.elim
  | _ => cases hw <;> exact p.elim

/-! ### equality -/
mutual
theorem dp_of {rd : Nat → Option PyData} {K : PySem.W.Frag} {H : Hp} {m : List Addr} (hrd : ∀ n a d, m[n]? = some a → rd n = some d → Dp K H (.ref a) d) : ∀ (x : D) (v : V) (d : PyData), RelD K H m x v → toP rd x = some d → Dp K H v d
  | .non, _, _, h, e => by
    cases h
    simp only [toP, Option.some.injEq] at e
    subst e
    exact .non
  | .bl b, _, _, h, e => by
    cases h
    simp only [toP, Option.some.injEq] at e
    subst e
    exact .bl b
  | .int b, _, _, h, e => by
    cases h
    simp only [toP, Option.some.injEq] at e
    subst e
    exact .int b
  | .str b, _, _, h, e => by
    cases h
    simp only [toP, Option.some.injEq] at e
    subst e
    exact .str _
  | .tup l, _, _, h, e => by
    cases h with
    | tup ha r =>
      simp only [toP] at e
      obtain ⟨q, h1, h2⟩ := Option.map_eq_some_iff.mp e
      subst h2
      exact .tup (.inl (.inl ha)) (dps_of hrd l _ q r h1)
  | .wtp l, _, _, h, e => by
    cases h with
    | wtp ha r =>
      simp only [toP] at e
      obtain ⟨q, h1, h2⟩ := Option.map_eq_some_iff.mp e
      subst h2
      exact .tup ha.sq (dps_of hrd l _ q r h1)
  | .ref n, _, _, h, e => by
    cases h with
    | ref ha =>
      simp only [toP] at e
      exact hrd n _ _ ha e
theorem dps_of {rd : Nat → Option PyData} {K : PySem.W.Frag} {H : Hp} {m : List Addr} (hrd : ∀ n a d, m[n]? = some a → rd n = some d → Dp K H (.ref a) d) : ∀ (l : List D) (xs : List V) (ds : List PyData), RelL K H m l xs → toPs rd l = some ds → DpAll K H xs ds
  | [], _, _, h, e => by
    cases h
    simp only [toPs, Option.some.injEq] at e
    subst e
    exact .nil
  | x :: l, _, _, h, e => by
    cases h with
    | cons h1 h2 =>
      simp only [toPs] at e
      obtain ⟨q, e1, e2⟩ := Option.bind_eq_some_iff.mp e
      obtain ⟨r, e3, e4⟩ := Option.map_eq_some_iff.mp e2
      subst e4
      exact .cons (dp_of hrd x _ q h1 e1) (dps_of hrd l _ r h2 e3)
end
theorem look_dp {c : Ct} {m : List Addr} {S : Store} {H : Hp} (rs : RS c m S H) : ∀ (k : Nat) (n : Nat) (a : Addr) (d : PyData), m[n]? = some a → lookP k S n = some d → Dp c.K H (.ref a) d
  | 0, _, _, _, _, e => by simp only [lookP] at e; cases e
  | k + 1, n, a, d, ha, e => by
    simp only [lookP] at e
    split at e
    · rename_i l hl
      obtain ⟨q, h1, h2⟩ := Option.map_eq_some_iff.mp e
      subst h2
      obtain ⟨xs, h3, h4⟩ := rs.lst (l := l) ha (by unfold lstOf; rw [hl])
      exact .lst h3 (dps_of (look_dp rs k) l xs q h4 h1)
    · rename_i l hl
      obtain ⟨q, h1, h2⟩ := Option.map_eq_some_iff.mp e
      subst h2
      obtain ⟨xs, h3, h4⟩ := rs.lst (l := l) ha (by unfold lstOf; rw [hl])
      exact .lst h3 (dps_of (look_dp rs k) l xs q h4 h1)
    · cases e
theorem pd_dp {c : Ct} {m : List Addr} {S : Store} {H : Hp} (rs : RS c m S H) {x : D} {v : V} {d : PyData} (h : RelD c.K H m x v) (e : pd S x = some d) : Dp c.K H v d := dp_of (look_dp rs 8) x v d h e
theorem scal_scq {K : PySem.W.Frag} {H : Hp} {m : List Addr} {x y : D} {v w : V} {b : Bool} (h1 : RelD K H m x v) (h2 : RelD K H m y w) (e : scq x y = some b) : scal v w = true ∧ decide (v = w) = b := by
  cases h1 <;> cases h2 <;> simp only [scq, Option.some.injEq, reduceCtorEq] at e <;> first
    | (subst e; exact ⟨rfl, by rw [← sOf_eq]; exact decide_eq_decide.mpr ⟨fun z => V.str.inj z, fun z => congrArg V.str z⟩⟩)
    | (subst e; exact ⟨rfl, by simp⟩)
theorem om_eq (hu : X.A.units + 65 < cLine) : OpM X E (compareOp .Eq) oEq := by
  refine ⟨_, opr_or op_eq (op_eqD (by omega)), fun x y v u S m H Q rs hv hw p => ?_⟩
  unfold oEq pyEq at p
  cases e : scq x y with
  | some b =>
    rw [e] at p
    obtain ⟨h1, h2⟩ := scal_scq hv hw e
    exact .inl ⟨h1, by rw [h2]; exact post_bl rs p⟩
  | none =>
    rw [e] at p
    dsimp only at p
    cases e1 : pd S x with
    | none => rw [e1] at p; exact p.elim
    | some a =>
      cases e2 : pd S y with
      | none => rw [e1, e2] at p; exact p.elim
      | some b =>
        rw [e1, e2] at p
        dsimp only at p
        by_cases hs : shp a = true ∧ shp b = true
        · rw [if_pos hs] at p
          exact .inr ⟨a, b, pd_dp rs hv e1, pd_dp rs hw e2, hs.1, hs.2, post_bl rs p⟩
        · rw [if_neg hs] at p
          exact p.elim
theorem om_ne (hu : X.A.units + 65 < cLine) : OpM X E (compareOp .NotEq) oNe := by
  refine ⟨_, opr_or op_ne (op_neD (by omega)), fun x y v u S m H Q rs hv hw p => ?_⟩
  unfold oNe pyEq at p
  cases e : scq x y with
  | some b =>
    rw [e] at p
    obtain ⟨h1, h2⟩ := scal_scq hv hw e
    exact .inl ⟨h1, by rw [h2]; exact post_bl rs p⟩
  | none =>
    rw [e] at p
    dsimp only at p
    cases e1 : pd S x with
    | none => rw [e1] at p; exact p.elim
    | some a =>
      cases e2 : pd S y with
      | none => rw [e1, e2] at p; exact p.elim
      | some b =>
        rw [e1, e2] at p
        dsimp only at p
        by_cases hs : shp a = true ∧ shp b = true
        · rw [if_pos hs] at p
          exact .inr ⟨a, b, pd_dp rs hv e1, pd_dp rs hw e2, hs.1, hs.2, post_bl rs p⟩
        · rw [if_neg hs] at p
          exact p.elim
theorem isN_non {K : PySem.W.Frag} {H : Hp} {m : List Addr} {x : D} {v : V} (h : RelD K H m x v) : decide (v = .non) = isN x := by
  cases h <;> first | rfl | simp [isN]
theorem om_is : OpM X E (compareOp .Is) oIs := by
  refine ⟨_, op_isN, fun x y v u S m H Q rs hv hw p => ?_⟩
  unfold oIs at p
  split at p
  · rename_i h
    refine ⟨?_, ?_⟩
    · cases hw <;> first | rfl | exact absurd h (by simp [isN])
    · rw [isN_non hv]; exact post_bl rs p
  · exact p.elim
theorem om_isnot : OpM X E (compareOp .IsNot) oIsNot := by
  refine ⟨_, op_notN, fun x y v u S m H Q rs hv hw p => ?_⟩
  unfold oIsNot at p
  split at p
  · rename_i h
    refine ⟨?_, ?_⟩
    · cases hw <;> first | rfl | exact absurd h (by simp [isN])
    · rw [isN_non hv]; exact post_bl rs p
  · exact p.elim

/-! ### dicts -/
section
variable {κ κ' : Type} [DecidableEq κ] [DecidableEq κ'] {ff : κ → κ'} {K : PySem.W.Frag} {H : Hp} {m : List Addr}
theorem RelK.get (inj : ∀ a b, ff a = ff b → a = b) {k : List (κ × D)} {kv : List (κ' × V)} (r : RelK K H m ff k kv) (x : κ) : match dGet k x with
    | some d => ∃ v, valV kv (ff x) = some v ∧ RelD K H m d v
    | none => valV kv (ff x) = none := by
  induction r with
  | nil => exact rfl
  | @cons p q ps qs h t ih =>
    by_cases e : p.1 = x
    · have e1 : dGet (p :: ps) x = some p.2 := by simp [dGet, List.find?_cons, e]
      rw [e1]
      refine ⟨q.2, valV_pos (by rw [← h.1, e]), h.2⟩
    · have e1 : dGet (p :: ps) x = dGet ps x := by simp [dGet, List.find?_cons, e]
      rw [e1, valV_neg (show ¬ q.1 = ff x from fun z => e (inj _ _ (h.1.trans z)))]
      exact ih
theorem RelK.any (inj : ∀ a b, ff a = ff b → a = b) {k : List (κ × D)} {kv : List (κ' × V)} (r : RelK K H m ff k kv) (x : κ) : (kv.any fun z => decide (z.1 = ff x)) = (k.any fun z => decide (z.1 = x)) := by
  induction r with
  | nil => rfl
  | @cons p q ps qs h t ih =>
    rw [List.any_cons, List.any_cons, ih]
    congr 1
    by_cases e : p.1 = x
    · rw [decide_eq_true e, decide_eq_true (show q.1 = ff x by rw [← h.1, e])]
    · rw [decide_eq_false e, decide_eq_false (show ¬ q.1 = ff x from fun z => e (inj _ _ (h.1.trans z)))]
theorem RelK.map (inj : ∀ a b, ff a = ff b → a = b) {k : List (κ × D)} {kv : List (κ' × V)} {d : D} {v : V} (r : RelK K H m ff k kv) (x : κ) (hv : RelD K H m d v) :
    RelK K H m ff (k.map fun kv => if kv.1 = x then (kv.1, d) else kv) (kv.map fun kv => if kv.1 = ff x then (kv.1, v) else kv) := by
  induction r with
  | nil => exact .nil
  | @cons p q ps qs h t ih =>
    rw [List.map_cons, List.map_cons]
    refine .cons ?_ ih
    by_cases e : p.1 = x
    · rw [if_pos e, if_pos (show q.1 = ff x by rw [← h.1, e])]
      exact ⟨h.1, hv⟩
    · rw [if_neg e, if_neg (show ¬ q.1 = ff x from fun z => e (inj _ _ (h.1.trans z)))]
      exact h
theorem RelK.put (inj : ∀ a b, ff a = ff b → a = b) {k : List (κ × D)} {kv : List (κ' × V)} {d : D} {v : V} (r : RelK K H m ff k kv) (x : κ) (hv : RelD K H m d v) : RelK K H m ff (dPut k x d) (putK kv (ff x) v) := by
  unfold dPut putK
  rw [RelK.any inj r x]
  split
  · exact r.map inj x hv
  · exact Paired.snoc r ⟨rfl, hv⟩
end
end
end Sm

set_option Elab.async false
set_option linter.all false
set_option maxRecDepth 100000
set_option maxHeartbeats 2000000
/-! readings by the small language: in, subscripts, slices, built-ins, methods -/
namespace Sm
open PySem PySem.Spec PyProof.Rows L2 Mi
section
variable {X : Cx} {E : XK}
theorem kys_of {K : PySem.W.Frag} {H : Hp} {m : List Addr} : ∀ {l : List D} {xs : List V} {k : List Ky}, RelL K H m l xs → kysOf l = some k → xs = (k.map kyK).map kV
  | [], _, _, .nil, e => by
    simp only [kysOf, Option.some.injEq] at e
    subst e
    rfl
  | d :: l, _, k, .cons h t, e => by
    simp only [kysOf] at e
    obtain ⟨q, e1, e2⟩ := Option.bind_eq_some_iff.mp e
    obtain ⟨r, e3, e4⟩ := Option.map_eq_some_iff.mp e2
    subst e4
    rw [List.map_cons, List.map_cons, ← kys_of t e3]
    congr 1
    cases h <;> simp only [kyOf, Option.some.injEq, reduceCtorEq] at e1 <;> (subst e1; rfl)
theorem ky_of {K : PySem.W.Frag} {H : Hp} {m : List Addr} {d : D} {v : V} {k : Ky} (h : RelD K H m d v) (e : kyOf d = some k) : v = kV (kyK k) := by
  cases h <;> simp only [kyOf, Option.some.injEq, reduceCtorEq] at e <;> (subst e; rfl)
/-- there or not, alike -/
def RelOD (K : PySem.W.Frag) (H : Hp) (m : List Addr) : Option D → Option V → Prop
  | some d, o => ∃ v, o = some v ∧ RelD K H m d v
  | none, o => o = none
theorem RelOD.isSome {K : PySem.W.Frag} {H : Hp} {m : List Addr} {r : Option D} {o : Option V} (h : RelOD K H m r o) : o.isSome = r.isSome := by
  cases r with
  | none => rw [show o = none from h] <;> rfl
  | some d => obtain ⟨v, e, _⟩ := h; rw [e] <;> rfl
/-- a look into a dict -/
theorem look_get {c : Ct} {m : List Addr} {S : Store} {H : Hp} (rs : RS c m S H) {n : Nat} {a : Addr} {k : D} {y : V} {r : Option D} (ha : m[n]? = some a) (hk : RelD c.K H m k y) (e : dLook S n k = some r) :
    ∃ o, DGet H a y o ∧ RelOD c.K H m r o := by
  unfold dLook at e
  split at e
  · rename_i kvs hs
    obtain ⟨kk, e1, e2⟩ := Option.map_eq_some_iff.mp e
    obtain ⟨kv, h1, h2⟩ := rs.ob n a _ ha hs
    have g := RelK.get (fun _ _ => kyK_inj) h2 kk
    rw [ky_of hk e1]
    refine ⟨_, DGet.k h1, ?_⟩
    rw [e2] at g
    cases r with
    | none => exact g
    | some d => exact g
  · rename_i kvs hs
    obtain ⟨kk, e1, e2⟩ := Option.map_eq_some_iff.mp e
    obtain ⟨kv, h1, h2⟩ := rs.ob n a _ ha hs
    have g := RelK.get (fun _ _ => kysK_inj) h2 kk
    cases hk with
    | tup hb hr =>
      refine ⟨_, DGet.t h1 (by rw [← kys_of hr e1]; exact hb), ?_⟩
      rw [e2] at g
      cases r with
      | none => exact g
      | some d => exact g
    | _ => cases e1
  · rename_i kvs hs
    obtain ⟨kk, e1, e2⟩ := Option.map_eq_some_iff.mp e
    obtain ⟨od, kv, h1, h2⟩ := rs.ob n a _ ha hs
    have g := RelK.get (fun _ _ => kyK_inj) h2 kk
    rw [ky_of hk e1]
    refine ⟨_, .inl ⟨_, _, .inr ⟨_, h1⟩, rfl, rfl⟩, ?_⟩
    rw [e2] at g
    cases r with
    | none => exact g
    | some d => exact g
  · rename_i kvs hs
    obtain ⟨kk, e1, e2⟩ := Option.map_eq_some_iff.mp e
    obtain ⟨od, kv, h1, h2⟩ := rs.ob n a _ ha hs
    have g := RelK.get (fun _ _ => kysK_inj) h2 kk
    cases hk with
    | tup hb hr =>
      refine ⟨_, .inr ⟨_, _, _, .inr ⟨_, h1⟩, rfl, by rw [← kys_of hr e1]; exact hb, rfl⟩, ?_⟩
      rw [e2] at g
      cases r with
      | none => exact g
      | some d => exact g
    | _ => cases e1
  · cases e
theorem look_put {c : Ct} {m : List Addr} {S : Store} {H : Hp} (rs : RS c m S H) {o k x : D} {vo vk vx : V} (ho : RelD c.K H m o vo) (hk : RelD c.K H m k vk) (hx : RelD c.K H m x vx) {q : Unit → Store → List Addr → Hp → Prop} {E : XK} (p : Post c E m H (setIx o k x S) q) :
    (rSetL vo vk vx H fun H' => ∃ S' m', Ext m H m' H' ∧ RS c m' S' H' ∧ q () S' m' H') ∨ ∃ a H', vo = .ref a ∧ DPut H a vk vx H' ∧ ∃ S' m', Ext m H m' H' ∧ RS c m' S' H' ∧ q () S' m' H' := by
  unfold setIx at p
  cases ho with
  | @ref n a ha =>
    dsimp only at p
    split at p
    · rename_i l hs
      cases hk with
      | int i =>
        dsimp only at p
        split at p
        · rename_i j hj
          obtain ⟨xs, h1, h2⟩ := rs.ob n a _ ha hs
          obtain ⟨rs', e⟩ := rs.set (o' := .lst (l.set j x)) (u := .lst (xs.set j vx)) ha hs trivial trivial fun e => ⟨_, upd_same, (h2.mono e).set (hx.mono e) j⟩
          exact .inl ⟨a, xs, i, j, rfl, rfl, h1, by rw [← h2.len]; exact hj, _, _, e, rs', p _ _ e rs'⟩
        · exact p.elim
      | _ => exact p.elim
    · rename_i kvs hs
      split at p
      · rename_i kk hkk
        split at p
        · rename_i hl
          obtain ⟨kv, h1, h2⟩ := rs.ob n a _ ha hs
          obtain ⟨rs', e⟩ := rs.set (o' := .dK (dPut kvs kk x)) (u := .dK (putK kv (kyK kk) vx)) ha hs trivial trivial fun e => ⟨_, upd_same, RelK.put (fun _ _ => kyK_inj) (RelK.mono e h2) kk (hx.mono e)⟩
          refine .inr ⟨a, _, rfl, ?_, _, _, e, rs', p _ _ e rs'⟩
          rw [ky_of hk hkk]
          exact DPut.k h1 (by rw [← Paired.length h2, line_eq]; exact hl)
        · exact p.elim
      · exact p.elim
    · rename_i kvs hs
      split at p
      · rename_i kk hkk
        split at p
        · rename_i hl
          obtain ⟨kv, h1, h2⟩ := rs.ob n a _ ha hs
          obtain ⟨rs', e⟩ := rs.set (o' := .dT (dPut kvs kk x)) (u := .dT (putK kv (kk.map kyK) vx)) ha hs trivial trivial fun e => ⟨_, upd_same, RelK.put (fun _ _ => kysK_inj) (RelK.mono e h2) kk (hx.mono e)⟩
          cases hk with
          | tup hb hr =>
            exact .inr ⟨a, _, rfl, DPut.t h1 (by rw [← kys_of hr hkk]; exact hb) (by rw [← Paired.length h2, line_eq]; exact hl), _, _, e, rs', p _ _ e rs'⟩
          | _ => cases hkk
        · exact p.elim
      · exact p.elim
    · exact p.elim
  | _ => exact p.elim

/-! ### in -/
theorem flatV_of {K : PySem.W.Frag} {H : Hp} {m : List Addr} {d : D} {v : V} (h : RelD K H m d v) (f : flatD d = true) : flatV v = true := by
  cases h <;> first | rfl | cases f
theorem flatVs_of {K : PySem.W.Frag} {H : Hp} {m : List Addr} : ∀ {l : List D} {xs : List V}, RelL K H m l xs → l.all flatD = true → xs.all flatV = true
  | _, _, .nil, _ => rfl
  | _, _, .cons h t, f => by
    rw [List.all_cons, Bool.and_eq_true] at f
    rw [List.all_cons, flatV_of h f.1, flatVs_of t f.2]
    rfl
theorem sOf_beq {a b : Tx} : (sOf a == sOf b) = (a == b) := by
  rw [Bool.eq_iff_iff, beq_iff_eq, beq_iff_eq]
  exact ⟨sOf_inj, congrArg _⟩
theorem eqF_of {K : PySem.W.Frag} {H : Hp} {m : List Addr} {d e : D} {v w : V} (h : RelD K H m d v) (h' : RelD K H m e w) (f : flatD d = true) (f' : flatD e = true) : eqV v w = eqF d e := by
  cases h <;> cases h' <;> first | rfl | exact sOf_beq | cases f | cases f'
theorem inV_of {K : PySem.W.Frag} {H : Hp} {m : List Addr} {x : D} {v : V} (h : RelD K H m x v) (f : flatD x = true) : ∀ {l : List D} {xs : List V}, RelL K H m l xs → l.all flatD = true → inV v xs = l.any fun y => eqF y x
  | _, _, .nil, _ => rfl
  | _, _, .cons h1 t, g => by
    rw [List.all_cons, Bool.and_eq_true] at g
    have ih := inV_of h f t g.2
    unfold inV at ih ⊢
    rw [List.any_cons, List.any_cons, eqF_of h1 h g.1 f, ih]
theorem op_inT (hu : X.A.units + 65 < cLine) : OpR X (compareOp .In) (fun x y H Q => ∃ d ds, Dp X.K H x d ∧ Dp X.K H y (.tuple ds) ∧ SeqAt.shaped d = true ∧ SeqAt.shaped (.list ds) = true ∧ Q (.bl (ds.any fun z => PyData.eqv z d)) H) := by
  intro pins s σ H x y v u Q I rx ry h
  obtain ⟨d, ds, hd, he, sd, se, q⟩ := h
  obtain ⟨as, r1⟩ := Dp.reads I d x v hd rx
  obtain ⟨bs, r2⟩ := Dp.reads I (.tuple ds) y u he ry
  exact SeqAt.in_tuple_reads r2 r1 (SeqAt.canLay_of_shaped se) (SeqAt.canLay_of_shaped sd) (room_in_shaped sd hu) ⟨.bl _, H, I, rfl, q⟩
theorem op_notInT (hu : X.A.units + 65 < cLine) : OpR X (compareOp .NotIn) (fun x y H Q => ∃ d ds, Dp X.K H x d ∧ Dp X.K H y (.tuple ds) ∧ SeqAt.shaped d = true ∧ SeqAt.shaped (.list ds) = true ∧ Q (.bl (!ds.any fun z => PyData.eqv z d)) H) := by
  intro pins s σ H x y v u Q I rx ry h
  obtain ⟨d, ds, hd, he, sd, se, q⟩ := h
  obtain ⟨as, r1⟩ := Dp.reads I d x v hd rx
  obtain ⟨bs, r2⟩ := Dp.reads I (.tuple ds) y u he ry
  exact SeqAt.notIn_tuple_reads r2 r1 (SeqAt.canLay_of_shaped se) (SeqAt.canLay_of_shaped sd) (room_in_shaped sd hu) ⟨.bl _, H, I, rfl, q⟩
theorem op_inDc (hu : X.A.units + 1 < cLine) : OpR X (compareOp .In) (fun y x H Q => ∃ a o, x = .ref a ∧ DGet H a y o ∧ Q (.bl o.isSome) H) := by
  intro pins s σ H y x u v Q I ry rx h
  obtain ⟨a, o, rfl, g, q⟩ := h
  obtain rfl : v = Value.ref a := rx
  exact d_in hu I g ry fun s3 I3 => ⟨.bl o.isSome, H, I3, rfl, q⟩
theorem op_notInDc (hu : X.A.units + 1 < cLine) : OpR X (compareOp .NotIn) (fun y x H Q => ∃ a o, x = .ref a ∧ DGet H a y o ∧ Q (.bl (!o.isSome)) H) := by
  intro pins s σ H y x u v Q I ry rx h
  obtain ⟨a, o, rfl, g, q⟩ := h
  obtain rfl : v = Value.ref a := rx
  exact d_notIn hu I g ry fun s3 I3 => ⟨.bl (!o.isSome), H, I3, rfl, q⟩
/-- what «in» is, whatever is asked of the answer -/
theorem in_cases {c : Ct} {m : List Addr} {S : Store} {H : Hp} (rs : RS c m S H) {x y : D} {v w : V} {b : Bool} (hv : RelD c.K H m x v) (hw : RelD c.K H m y w) (e : isIn x y S = some b) :
    (∃ (k : Nat) (z : Str), v = .str ⟨#[k]⟩ ∧ w = .str z ∧ decide (k ∈ z.cps.toList) = b) ∨ (∃ p xs, w = .ref p ∧ (SqL c.K H p xs ∨ SqT c.K H p xs) ∧ flatV v = true ∧ xs.all flatV = true ∧ inV v xs = b) ∨
    (∃ d ds, Dp c.K H v d ∧ Dp c.K H w (.list ds) ∧ SeqAt.shaped d = true ∧ SeqAt.shaped (.list ds) = true ∧ (ds.any fun z => PyData.eqv z d) = b) ∨
    (∃ d ds, Dp c.K H v d ∧ Dp c.K H w (.tuple ds) ∧ SeqAt.shaped d = true ∧ SeqAt.shaped (.list ds) = true ∧ (ds.any fun z => PyData.eqv z d) = b) ∨
    (∃ a o, w = .ref a ∧ DGet H a v o ∧ o.isSome = b) := by
  have seqc : ∀ {l : List D} {xs : List V} {p : Addr}, RelL c.K H m l xs → inSeq x l S = some b → (flatV v = true ∧ xs.all flatV = true ∧ inV v xs = b) ∨ ∃ d ds, Dp c.K H v d ∧ DpAll c.K H xs ds ∧ SeqAt.shaped d = true ∧ SeqAt.shaped (.list ds) = true ∧ (ds.any fun z => PyData.eqv z d) = b := by
    intro l xs p r h
    unfold inSeq at h
    split at h
    · rename_i f
      cases h
      exact .inl ⟨flatV_of hv f.1, flatVs_of r f.2, inV_of hv f.1 r f.2⟩
    · split at h
      · rename_i d ds e1 e2
        split at h
        · rename_i f
          cases h
          exact .inr ⟨d, ds, pd_dp rs hv e1, dps_of (look_dp rs 8) l xs ds r e2, f.1, f.2, rfl⟩
        · cases h
      · cases h
  cases hw with
  | str z =>
    unfold isIn at e
    dsimp only at e
    split at e
    · rename_i k
      cases e
      cases hv
      exact .inl ⟨k, sOf z, rfl, rfl, rfl⟩
    · cases e
  | @tup l a xs ha r =>
    rcases seqc (p := a) r e with ⟨h1, h2, h3⟩ | ⟨d, ds, h1, h2, h3, h4, h5⟩
    · exact .inr (.inl ⟨a, xs, rfl, .inr (.inl (.inl ha)), h1, h2, h3⟩)
    · exact .inr (.inr (.inr (.inl ⟨d, ds, h1, .tup (.inl (.inl ha)) h2, h3, h4, h5⟩)))
  | @wtp l a xs ha r =>
    rcases seqc (p := a) r e with ⟨h1, h2, h3⟩ | ⟨d, ds, h1, h2, h3, h4, h5⟩
    · exact .inr (.inl ⟨a, xs, rfl, .inr ha.sq, h1, h2, h3⟩)
    · exact .inr (.inr (.inr (.inl ⟨d, ds, h1, .tup ha.sq h2, h3, h4, h5⟩)))
  | @ref n a ha =>
    unfold isIn at e
    dsimp only at e
    split at e
    · rename_i l hs
      obtain ⟨xs, h0, r⟩ := rs.lst (l := l) ha (by unfold lstOf; rw [hs])
      rcases seqc (p := a) r e with ⟨h1, h2, h3⟩ | ⟨d, ds, h1, h2, h3, h4, h5⟩
      · exact .inr (.inl ⟨a, xs, rfl, .inl h0, h1, h2, h3⟩)
      · exact .inr (.inr (.inl ⟨d, ds, h1, .lst h0 h2, h3, h4, h5⟩))
    · rename_i l hs
      obtain ⟨xs, h0, r⟩ := rs.lst (l := l) ha (by unfold lstOf; rw [hs])
      rcases seqc (p := a) r e with ⟨h1, h2, h3⟩ | ⟨d, ds, h1, h2, h3, h4, h5⟩
      · exact .inr (.inl ⟨a, xs, rfl, .inl h0, h1, h2, h3⟩)
      · exact .inr (.inr (.inl ⟨d, ds, h1, .lst h0 h2, h3, h4, h5⟩))
    · rename_i kvs hs
      obtain ⟨kk, e1, e2⟩ := Option.map_eq_some_iff.mp e
      obtain ⟨o, g, q⟩ := look_get rs ha hv (r := dGet kvs kk) (by unfold dLook; rw [hs]; dsimp only; rw [e1]; rfl)
      refine .inr (.inr (.inr (.inr ⟨a, o, rfl, g, ?_⟩)))
      rw [← e2]
      exact q.isSome
    · rename_i kvs hs
      obtain ⟨kk, e1, e2⟩ := Option.map_eq_some_iff.mp e
      obtain ⟨o, g, q⟩ := look_get rs ha hv (r := dGet kvs kk) (by unfold dLook; rw [hs]; dsimp only; rw [e1]; rfl)
      refine .inr (.inr (.inr (.inr ⟨a, o, rfl, g, ?_⟩)))
      rw [← e2]
      exact q.isSome
    · cases e
  | _ => cases e
theorem om_in (hu : X.A.units + 65 < cLine) : OpM X E (compareOp .In) oIn := by
  refine ⟨_, opr_or op_in_sign (opr_or op_in_seq (opr_or (op_inD hu) (opr_or (op_inT hu) (op_inDc (by omega))))), fun x y v u S m H Q rs hv hw p => ?_⟩
  unfold oIn at p
  split at p
  · rename_i b e
    have q := post_bl rs p
    rcases in_cases rs hv hw e with ⟨k, z, h1, h2, h3⟩ | ⟨a, xs, h1, h2, h3, h4, h5⟩ | ⟨d, ds, h1, h2, h3, h4, h5⟩ | ⟨d, ds, h1, h2, h3, h4, h5⟩ | ⟨a, o, h1, h2, h3⟩
    · exact .inl ⟨k, z, h1, h2, by rw [h3]; exact q⟩
    · exact .inr (.inl ⟨a, xs, h1, h2, h3, h4, by rw [h5]; exact q⟩)
    · exact .inr (.inr (.inl ⟨d, ds, h1, h2, h3, h4, by rw [h5]; exact q⟩))
    · exact .inr (.inr (.inr (.inl ⟨d, ds, h1, h2, h3, h4, by rw [h5]; exact q⟩)))
    · exact .inr (.inr (.inr (.inr ⟨a, o, h1, h2, by rw [h3]; exact q⟩)))
  · exact p.elim
theorem om_notin (hu : X.A.units + 65 < cLine) : OpM X E (compareOp .NotIn) oNotIn := by
  refine ⟨_, opr_or op_notIn_sign (opr_or op_notIn_seq (opr_or (op_notInD hu) (opr_or (op_notInT hu) (op_notInDc (by omega))))), fun x y v u S m H Q rs hv hw p => ?_⟩
  unfold oNotIn at p
  split at p
  · rename_i b e
    have q := post_bl rs p
    rcases in_cases rs hv hw e with ⟨k, z, h1, h2, h3⟩ | ⟨a, xs, h1, h2, h3, h4, h5⟩ | ⟨d, ds, h1, h2, h3, h4, h5⟩ | ⟨d, ds, h1, h2, h3, h4, h5⟩ | ⟨a, o, h1, h2, h3⟩
    · exact .inl ⟨k, z, h1, h2, by rw [h3]; exact q⟩
    · exact .inr (.inl ⟨a, xs, h1, h2, h3, h4, by
        show Q (.bl (!inV v xs)) H
        rw [h5]; exact q⟩)
    · exact .inr (.inr (.inl ⟨d, ds, h1, h2, h3, h4, by rw [h5]; exact q⟩))
    · exact .inr (.inr (.inr (.inl ⟨d, ds, h1, h2, h3, h4, by rw [h5]; exact q⟩)))
    · exact .inr (.inr (.inr (.inr ⟨a, o, h1, h2, by rw [h3]; exact q⟩)))
  · exact p.elim

/-! ### subscripts -/
theorem ix_dict (hu : X.A.units + 1 < cLine) : IxR X (fun x y H Q => ∃ a v, x = .ref a ∧ DGet H a y (some v) ∧ Q v H) := by
  intro value slice pins s σ H x y v u Q I rx ry h hs
  obtain ⟨a, z, rfl, g, q⟩ := h
  obtain rfl : v = Value.ref a := rx
  unfold subscriptTail
  refine wpAny_bind ?_
  rw [getitemInPython_of_ne (dict_typeIs I g).not_modules]
  refine wpAny_bind (wpAny_specialOf (dict_typeIs I g) PySem.F.slot_dict_getitem.lookup ?_)
  have fin : wpAny (model X.prog X.w) X.A (subscripted slice false (.ref a) u) (fun r s₃ => wpAny (model X.prog X.w) X.A (letTemporaryGo value (.ref a) r >>= fun _ => pure r) (EP X pins σ Q) X.xe s₃) X.xe s := by
    rw [hs]
    exact wpAny_operating (d_getItem hu I g ry fun w' s3 I3 rw' => wpAny_bind (wpAny_letTemporaryGo (wpAny_pure ⟨z, H, I3, rw', q⟩)))
  first
    | exact wpAny_pure (wpAny_bind fin)
    | exact wpAny_bind (wpAny_pure (wpAny_bind fin))
    | exact wpAny_bind fin
theorem atI_rel {K : PySem.W.Frag} {H : Hp} {m : List Addr} {l : List D} {xs : List V} {i : Int} {d : D} (r : RelL K H m l xs) (e : Mi.atI l i = some d) : ∃ v, L2.atI xs i = some v ∧ RelD K H m d v := by
  unfold Mi.atI at e
  obtain ⟨j, e1, e2⟩ := Option.bind_eq_some_iff.mp e
  obtain ⟨v, h1, h2⟩ := r.ix e2
  refine ⟨v, ?_, h2⟩
  unfold L2.atI
  have e3 : L2.ixN xs.length i = some j := by rw [← r.len]; exact e1
  rw [e3]
  exact h1
theorem im_ix (hu : X.A.units + 65 < cLine) : IxM X E oIx := by
  refine ⟨_, ix_seq.or (ix_dict (by omega)), fun x y v u S m H Q rs hv hw p => ?_⟩
  unfold oIx at p
  cases hv with
  | str z =>
    cases hw with
    | int i =>
      dsimp only at p
      split at p
      · rename_i hl
        split at p
        · rename_i c hc
          refine .inl (.inr (.inr ⟨sOf z, i, c, rfl, rfl, by rw [sOf_len, line_eq]; exact hl, hc, p.here rs _ (.str [c])⟩))
        · exact p.elim
      · exact p.elim
    | _ => exact p.elim
  | @tup l a xs ha r =>
    cases hw with
    | int i =>
      dsimp only at p
      split at p
      · rename_i d hd
        obtain ⟨v, h1, h2⟩ := atI_rel r hd
        exact .inl (.inr (.inl ⟨a, xs, i, v, rfl, rfl, .inl (.inl ha), h1, p.here rs _ h2⟩))
      · exact p.elim
    | _ => exact p.elim
  | @wtp l a xs ha r =>
    cases hw with
    | int i =>
      dsimp only at p
      split at p
      · rename_i d hd
        obtain ⟨v, h1, h2⟩ := atI_rel r hd
        exact .inl (.inr (.inl ⟨a, xs, i, v, rfl, rfl, ha.sq, h1, p.here rs _ h2⟩))
      · exact p.elim
    | _ => exact p.elim
  | @ref n a ha =>
    dsimp only at p
    have lst : ∀ l, lstOf S n = some l → Post (cx X) E m H (match y with
        | .int i => (match Mi.atI l i with
          | some v => .ok v S
          | none => .bad)
        | _ => .bad) (kE (cx X) Q) → rIx X.K (.ref a) u H Q := by
      intro l hl p
      obtain ⟨xs, h0, r⟩ := rs.lst ha hl
      cases hw with
      | int i =>
        dsimp only at p
        split at p
        · rename_i d hd
          obtain ⟨v, h1, h2⟩ := atI_rel r hd
          exact .inl ⟨a, xs, i, v, rfl, rfl, h0, h1, p.here rs _ h2⟩
        · exact p.elim
      | _ => exact p.elim
    split at p
    · rename_i l hs
      exact .inl (lst l (by unfold lstOf; rw [hs]) p)
    · rename_i l hs
      exact .inl (lst l (by unfold lstOf; rw [hs]) p)
    · split at p
      · rename_i d hd
        obtain ⟨o, g, z, e, h2⟩ := look_get rs ha hw hd
        subst e
        exact .inr ⟨a, z, rfl, g, p.here rs _ h2⟩
      · exact p.elim
  | _ => exact p.elim

/-! ### slices -/
theorem cut_rel {K : PySem.W.Frag} {H : Hp} {m : List Addr} {l : List D} {xs : List V} (r : RelL K H m l xs) (lo hi : Option Int) : RelL K H m (cut l lo hi) (cutV xs lo hi) := by
  unfold cut cutV
  rw [← r.len]
  exact (r.drop _).take _
theorem slm : SlM X E oSl := by
  refine ⟨_, slr_or sl_str (slr_or sl_tup sl_list), fun x lo hi v S m H Q rs hv p => ?_⟩
  unfold oSl at p
  cases hv with
  | str z =>
    dsimp only at p
    split at p
    · rename_i hl
      refine .inl ⟨sOf z, rfl, by rw [sOf_len, line_eq]; exact hl, ?_⟩
      have e : cutS (sOf z) lo hi = sOf (cut z lo hi) := by
        unfold cutS cut
        rw [sOf_len]
        rfl
      rw [e]
      exact p.here rs _ (.str _)
    · exact p.elim
  | @tup l a xs ha r =>
    dsimp only at p
    split at p
    · rename_i hl
      refine .inr (.inl ⟨a, xs, rfl, .inl (.inl ha), fun z => ?_, fun b hb => post_tup rs p hb (cut_rel r lo hi)⟩)
      have h1 := (cut_rel r lo hi).len
      unfold cutV at h1
      rw [z.1, z.2, List.drop_zero, Nat.sub_zero, List.take_length] at h1
      rw [h1, r.len] at hl
      exact absurd hl (Nat.lt_irrefl _)
    · exact p.elim
  | @ref n a ha =>
    dsimp only at p
    split at p
    · rename_i l hl
      obtain ⟨xs, h0, r⟩ := rs.lst ha hl
      exact .inr (.inr ⟨a, xs, rfl, h0, fun b hb => post_new rs p hb fun e => ⟨_, upd_same, (cut_rel r lo hi).mono e⟩⟩)
    · exact p.elim
  | _ => exact p.elim
end
end Sm

set_option Elab.async false
set_option linter.all false
set_option maxRecDepth 100000
set_option maxHeartbeats 2000000
/-! readings by the small language: built-ins, methods -/
namespace Sm
open PySem PySem.Spec PyProof.Rows L2 Mi
section
variable {X : Cx} {E : XK}
theorem cm_len : CallM X E (.builtin "len") bLen := by
  refine ⟨_, callr_or call_len_seq (callr_or call_len_str (callr_or call_lenD call_len_dT)), fun ds vs S m H Q rs hv p => ?_⟩
  unfold bLen at p
  split at p
  · rename_i s
    cases hv with
    | cons h t =>
      cases t
      cases h
      split at p
      · rename_i hl
        exact .inr (.inl ⟨sOf s, rfl, by rw [sOf_len, line_eq]; exact hl, by rw [sOf_len]; exact post_int rs p⟩)
      · exact p.elim
  · rename_i l
    cases hv with
    | cons h t =>
      cases t
      cases h with
      | tup ha r => exact .inl ⟨_, _, rfl, .inr (.inl (.inl ha)), by rw [← r.len]; exact post_int rs p⟩
  · rename_i l
    cases hv with
    | cons h t =>
      cases t
      cases h with
      | wtp ha r => exact .inl ⟨_, _, rfl, .inr ha.sq, by rw [← r.len]; exact post_int rs p⟩
  · rename_i n
    cases hv with
    | cons h t =>
      cases t
      cases h with
      | ref ha =>
        split at p
        · rename_i l hs
          obtain ⟨xs, h0, r⟩ := rs.lst (l := l) ha (by unfold lstOf; rw [hs])
          exact .inl ⟨_, xs, rfl, .inl h0, by rw [← r.len]; exact post_int rs p⟩
        · rename_i l hs
          obtain ⟨xs, h0, r⟩ := rs.lst (l := l) ha (by unfold lstOf; rw [hs])
          exact .inl ⟨_, xs, rfl, .inl h0, by rw [← r.len]; exact post_int rs p⟩
        · rename_i k hs
          obtain ⟨kv, h1, h2⟩ := rs.ob _ _ _ ha hs
          exact .inr (.inr (.inl ⟨_, kv, rfl, h1, by rw [← Paired.length h2]; exact post_int rs p⟩))
        · rename_i k hs
          obtain ⟨kv, h1, h2⟩ := rs.ob _ _ _ ha hs
          exact .inr (.inr (.inr ⟨_, kv, rfl, h1, by rw [← Paired.length h2]; exact post_int rs p⟩))
        · exact p.elim
  · exact p.elim
theorem rel1 {K : PySem.W.Frag} {H : Hp} {m : List Addr} {d : D} {vs : List V} (h : RelL K H m [d] vs) : ∃ v, vs = [v] ∧ RelD K H m d v := by
  cases h with
  | cons h t => cases t; exact ⟨_, rfl, h⟩
theorem rel2 {K : PySem.W.Frag} {H : Hp} {m : List Addr} {d e : D} {vs : List V} (h : RelL K H m [d, e] vs) : ∃ v w, vs = [v, w] ∧ RelD K H m d v ∧ RelD K H m e w := by
  cases h with
  | cons h t =>
    obtain ⟨w, rfl, h2⟩ := rel1 t
    exact ⟨_, w, rfl, h, h2⟩
theorem cm_abs : CallM X E (.builtin "abs") bAbs := by
  refine ⟨_, call_abs, fun ds vs S m H Q rs hv p => ?_⟩
  unfold bAbs at p
  split at p
  · rename_i i
    obtain ⟨v, rfl, h⟩ := rel1 hv
    cases h
    exact ⟨i, rfl, post_int rs p⟩
  · exact p.elim
theorem cm_int : CallM X E (.type "int") bInt := by
  refine ⟨_, call_int1, fun ds vs S m H Q rs hv p => ?_⟩
  unfold bInt at p
  split at p
  · rename_i i
    obtain ⟨v, rfl, h⟩ := rel1 hv
    cases h
    exact .inl ⟨i, rfl, post_int rs p⟩
  · rename_i i
    obtain ⟨v, rfl, h⟩ := rel1 hv
    cases h
    exact .inr ⟨i, rfl, post_int rs p⟩
  · exact p.elim
theorem cm_max (hc : X.calm = true) : CallM X E (.builtin "max") bMax := by
  refine ⟨_, call_max2 hc, fun ds vs S m H Q rs hv p => ?_⟩
  unfold bMax at p
  split at p
  · rename_i i j
    obtain ⟨v, w, rfl, h, h'⟩ := rel2 hv
    cases h
    cases h'
    exact ⟨i, j, rfl, post_int rs p⟩
  · exact p.elim
theorem cm_min (hc : X.calm = true) : CallM X E (.builtin "min") bMin := by
  refine ⟨_, call_min2 hc, fun ds vs S m H Q rs hv p => ?_⟩
  unfold bMin at p
  split at p
  · rename_i i j
    obtain ⟨v, w, rfl, h, h'⟩ := rel2 hv
    cases h
    cases h'
    exact ⟨i, j, rfl, post_int rs p⟩
  · exact p.elim
theorem RelL.keys {K : PySem.W.Frag} {H : Hp} {m : List Addr} {k : List (Ky × D)} {kv : List (Key × V)} (h : RelK K H m kyK k kv) : RelL K H m (k.map fun p => kyD p.1) (kv.map fun p => kV p.1) := by
  induction h with
  | nil => exact .nil
  | @cons p q ps qs h t ih =>
    rw [List.map_cons, List.map_cons]
    refine .cons ?_ ih
    rw [← h.1]
    cases p.1 with
    | inl i => exact .int i
    | inr s => exact .str s
theorem RelL.kys {K : PySem.W.Frag} {H : Hp} {m : List Addr} : ∀ k : List Ky, RelL K H m (k.map kyD) ((k.map kyK).map kV)
  | [] => .nil
  | .inl i :: k => .cons (.int i) (RelL.kys k)
  | .inr s :: k => .cons (.str s) (RelL.kys k)
theorem RelL.keysT {K : PySem.W.Frag} {H : Hp} {m : List Addr} {k : List (List Ky × D)} {kv : List (List Key × V)} {bs : List Addr} (h : RelK K H m (fun x => x.map kyK) k kv) (hk : IsKeys H kv bs) : RelL K H m (k.map fun p => .tup (p.1.map kyD)) (bs.map V.ref) := by
  induction h generalizing bs with
  | nil =>
    cases hk
    exact .nil
  | @cons p q ps qs h t ih =>
    cases hk with
    | cons h1 h2 =>
      rw [List.map_cons, List.map_cons]
      refine .cons (.tup h1 ?_) (ih h2)
      rw [← h.1]
      exact RelL.kys p.1
theorem seq_rel {c : Ct} {m : List Addr} {S : Store} {H : Hp} (rs : RS c m S H) {d : D} {v : V} {l : List D} (h : RelD c.K H m d v) (e : seqOf S d = some l) : ∃ a xs, v = .ref a ∧ (SqL c.K H a xs ∨ SqT c.K H a xs) ∧ RelL c.K H m l xs := by
  unfold seqOf at e
  cases h with
  | tup ha r => cases e; exact ⟨_, _, rfl, .inr (.inl (.inl ha)), r⟩
  | wtp ha r => cases e; exact ⟨_, _, rfl, .inr ha.sq, r⟩
  | ref ha =>
    obtain ⟨xs, h1, h2⟩ := rs.lst ha e
    exact ⟨_, xs, rfl, .inl h1, h2⟩
  | _ => cases e
theorem cm_list (hc : X.calm = true) : CallM X E (.type "list") bList := by
  refine ⟨_, callr_or call_list_of (callr_or (call_listD hc) (call_list_dT hc)), fun ds vs S m H Q rs hv p => ?_⟩
  unfold bList at p
  split at p
  · rename_i x
    obtain ⟨v, rfl, h⟩ := rel1 hv
    split at p
    · rename_i l hl
      obtain ⟨a, xs, rfl, h1, h2⟩ := seq_rel rs h hl
      exact .inl ⟨a, xs, rfl, h1, fun b hb => post_new rs p hb fun e => ⟨xs, upd_same, h2.mono e⟩⟩
    · cases h with
      | @ref n a ha =>
        dsimp only at p
        split at p
        · rename_i k hs
          obtain ⟨kv, h1, h2⟩ := rs.ob _ _ _ ha hs
          exact .inr (.inl ⟨a, kv, rfl, .inl h1, fun b hb => post_new rs p hb fun e => ⟨_, upd_same, (RelL.keys h2).mono e⟩⟩)
        · rename_i k hs
          obtain ⟨kv, h1, h2⟩ := rs.ob _ _ _ ha hs
          exact .inr (.inr ⟨a, kv, rfl, .inl h1, fun b bs hb hk => post_new rs p hb fun e => ⟨_, upd_same, (RelL.keysT h2 hk).mono e⟩⟩)
        · exact p.elim
      | _ => exact p.elim
  · exact p.elim
theorem cm_tuple : CallM X E (.type "tuple") bTuple := by
  refine ⟨_, call_tuple_of, fun ds vs S m H Q rs hv p => ?_⟩
  unfold bTuple at p
  split at p
  · rename_i l
    obtain ⟨v, rfl, h⟩ := rel1 hv
    cases h with
    | tup ha r => exact ⟨_, _, rfl, .inr ⟨.inl (.inl ha), p.here rs _ (.tup ha r)⟩⟩
  · rename_i n
    obtain ⟨v, rfl, h⟩ := rel1 hv
    cases h with
    | ref ha =>
      split at p
      · rename_i l hl
        obtain ⟨xs, h1, h2⟩ := rs.lst ha hl
        exact ⟨_, xs, rfl, .inl ⟨h1, fun b hb => post_tup rs p hb h2⟩⟩
      · exact p.elim
  · exact p.elim
theorem ints_rel {K : PySem.W.Frag} {H : Hp} {m : List Addr} : ∀ {l : List D} {xs : List V} {ns : List Int}, RelL K H m l xs → intsOf l = some ns → xs = ns.map V.int
  | _, _, _, .nil, e => by simp only [intsOf, Option.some.injEq] at e; subst e; rfl
  | _, _, ns, .cons (d := d) h t, e => by
    cases h <;> simp only [intsOf, reduceCtorEq] at e
    obtain ⟨r, e1, e2⟩ := Option.map_eq_some_iff.mp e
    subst e2
    rw [List.map_cons, ← ints_rel t e1]
theorem bls_rel {K : PySem.W.Frag} {H : Hp} {m : List Addr} : ∀ {l : List D} {xs : List V} {ns : List Bool}, RelL K H m l xs → blsOf l = some ns → xs = ns.map V.bl
  | _, _, _, .nil, e => by simp only [blsOf, Option.some.injEq] at e; subst e; rfl
  | _, _, ns, .cons (d := d) h t, e => by
    cases h <;> simp only [blsOf, reduceCtorEq] at e
    obtain ⟨r, e1, e2⟩ := Option.map_eq_some_iff.mp e
    subst e2
    rw [List.map_cons, ← bls_rel t e1]
theorem cm_sum (hc : X.calm = true) : CallM X E (.builtin "sum") bSum := by
  refine ⟨_, cr_sum hc, fun ds vs S m H Q rs hv p => ?_⟩
  unfold bSum at p
  split at p
  · obtain ⟨v, rfl, h⟩ := rel1 hv
    cases h with
    | ref ha =>
      split at p
      · rename_i l hl
        obtain ⟨k, h1, h2⟩ := Option.bind_eq_some_iff.mp hl
        obtain ⟨xs, h3, h4⟩ := rs.lst ha h1
        rw [ints_rel h4 h2] at h3
        exact ⟨_, l, rfl, h3, post_int rs p⟩
      · exact p.elim
  · exact p.elim
theorem cm_any (hc : X.calm = true) : CallM X E (.builtin "any") bAny := by
  refine ⟨_, cr_any hc, fun ds vs S m H Q rs hv p => ?_⟩
  unfold bAny at p
  split at p
  · obtain ⟨v, rfl, h⟩ := rel1 hv
    cases h with
    | ref ha =>
      split at p
      · rename_i l hl
        obtain ⟨k, h1, h2⟩ := Option.bind_eq_some_iff.mp hl
        obtain ⟨xs, h3, h4⟩ := rs.lst ha h1
        rw [bls_rel h4 h2] at h3
        exact ⟨_, l, rfl, h3, post_bl rs p⟩
      · exact p.elim
  · exact p.elim
theorem cm_all (hc : X.calm = true) : CallM X E (.builtin "all") bAll := by
  refine ⟨_, cr_all hc, fun ds vs S m H Q rs hv p => ?_⟩
  unfold bAll at p
  split at p
  · obtain ⟨v, rfl, h⟩ := rel1 hv
    cases h with
    | ref ha =>
      split at p
      · rename_i l hl
        obtain ⟨k, h1, h2⟩ := Option.bind_eq_some_iff.mp hl
        obtain ⟨xs, h3, h4⟩ := rs.lst ha h1
        rw [bls_rel h4 h2] at h3
        exact ⟨_, l, rfl, h3, post_bl rs p⟩
      · exact p.elim
  · exact p.elim

/-! ### isinstance -/
def tyN : Ty → String
  | .int => "int"
  | .bool => "bool"
  | .str => "str"
  | .list => "list"
  | .tuple => "tuple"
  | .dict => "dict"
theorem tyx_of {c : Ct} {m : List Addr} {S : Store} {H : Hp} (rs : RS c m S H) {d : D} {v : V} {U : Ty} (h : RelD c.K H m d v) (e : tyOf S d = some U) : TyX c.K H v (.type (tyN U)) := by
  cases h with
  | non => cases e
  | bl b => cases e; exact .base (.bl b)
  | int b => cases e; exact .base (.int b)
  | str b => cases e; exact .base (.str _)
  | tup ha r => cases e; exact .base (.tup ha)
  | wtp ha r => cases e
  | @ref n a ha =>
    unfold tyOf at e
    dsimp only at e
    split at e
    · rename_i l hs
      cases e
      obtain ⟨xs, h1, _⟩ := rs.ob n a _ ha hs
      exact .base (.lst h1)
    · rename_i l hs
      cases e
      obtain ⟨xs, h1, _⟩ := rs.ob n a _ ha hs
      rcases h1 with ⟨o, h1⟩ | h1
      · exact .base (.frz h1)
      · rcases h1 with h1 | ⟨o, its, k, h1, h2, _⟩
        · rcases h1 with h1 | ⟨o, h1⟩ <;> cases h1
        · exact .kList h1 h2
    · rename_i l hs
      cases e
      obtain ⟨xs, h1, _⟩ := rs.ob n a _ ha hs
      exact .base (.dK h1)
    · rename_i l hs
      cases e
      obtain ⟨xs, h1, _⟩ := rs.ob n a _ ha hs
      exact .base (.dT h1)
    · cases e
theorem kit_all : ∀ U T : Ty, kitB (tyN U) (tyN T) = some (decide (U = T) || (decide (U = .bool) && decide (T = .int)))
  | .int, .int => by decide +kernel | .int, .bool => by decide +kernel | .int, .str => by decide +kernel | .int, .list => by decide +kernel | .int, .tuple => by decide +kernel | .int, .dict => by decide +kernel
  | .bool, .int => by decide +kernel | .bool, .bool => by decide +kernel | .bool, .str => by decide +kernel | .bool, .list => by decide +kernel | .bool, .tuple => by decide +kernel | .bool, .dict => by decide +kernel
  | .str, .int => by decide +kernel | .str, .bool => by decide +kernel | .str, .str => by decide +kernel | .str, .list => by decide +kernel | .str, .tuple => by decide +kernel | .str, .dict => by decide +kernel
  | .list, .int => by decide +kernel | .list, .bool => by decide +kernel | .list, .str => by decide +kernel | .list, .list => by decide +kernel | .list, .tuple => by decide +kernel | .list, .dict => by decide +kernel
  | .tuple, .int => by decide +kernel | .tuple, .bool => by decide +kernel | .tuple, .str => by decide +kernel | .tuple, .list => by decide +kernel | .tuple, .tuple => by decide +kernel | .tuple, .dict => by decide +kernel
  | .dict, .int => by decide +kernel | .dict, .bool => by decide +kernel | .dict, .str => by decide +kernel | .dict, .list => by decide +kernel | .dict, .tuple => by decide +kernel | .dict, .dict => by decide +kernel
theorem kit_non : ∀ T : Ty, kitB "NoneType" (tyN T) = some false
  | .int => by decide +kernel | .bool => by decide +kernel | .str => by decide +kernel | .list => by decide +kernel | .tuple => by decide +kernel | .dict => by decide +kernel
theorem isi_ok {c : Ct} {m : List Addr} {S : Store} {H : Hp} (rs : RS c m S H) {d : D} {v : V} {T : Ty} {b : Bool} (h : RelD c.K H m d v) (e : isI T d S = some b) : ∃ t, TyX c.K H v t ∧ PySem.W.kitOne c.K t (.type (tyN T)) = some b := by
  unfold isI at e
  split at e
  · cases e
    cases h
    exact ⟨_, .base .non, kit_ty (kit_non T)⟩
  · obtain ⟨U, e1, e2⟩ := Option.map_eq_some_iff.mp e
    subst e2
    exact ⟨_, tyx_of rs h e1, kit_ty (kit_all U T)⟩
theorem se_isi {a : Expr} {fa : EM} {p p2 pos : Pos} {y : Str} (T : Ty) (hg : Gl X "isinstance") (hm : X.mg "isinstance" = none) (hg2 : Gl X y) (hm2 : X.mg y = none) (hv2 : bootBuiltins y = some (.type (tyN T))) (ha : SE X E a fa) (hn2 : y ≠ "__name__" := by decide) (hd2 : (y == ("__debug__" : Str)) = false := by decide)
    (he : starEach [a, .Name y p2] X.env = (false, eval a X.env) :: starEach [.Name y p2] X.env := by rfl) (he2 : starEach [.Name y p2] X.env = (false, eval (.Name y p2) X.env) :: starEach [] X.env := by rfl) (hpl : (backTo pos (starEach [.Name y p2] X.env)).any (·.1) = false := by rfl) :
    SE X E (.Call (.Name "isinstance" p) [a, .Name y p2] [] pos) (mUn (bIsI T) fa) := by
  refine PE.mono (pe_callB call_isi hg hm PyProof.Rows.boot_isinstance (pa_cons ha (pa_cons (pe_bltn (v := .ty (tyN T)) hg2 hm2 hv2 rfl hn2 hd2) pa_nil he2) he) (by decide) (by decide) he hpl) fun σ H Q ⟨fr, S, m, rf, rs, p⟩ => ?_
  refine rd_bind rf rs p fun x S1 m1 H1 e1 rf1 rs1 p1 v hv => ?_
  unfold bIsI at p1
  split at p1
  · rename_i b hb
    obtain ⟨t, h1, h2⟩ := isi_ok rs1 hv hb
    exact ⟨v, .ty (tyN T), t, _, b, rfl, .ty _, h1, h2, post_bl rs1 p1⟩
  · exact p1.elim

/-! ### methods -/
theorem ty_list : TyM X "list" isLst := by
  intro x v S m H rs h e
  unfold isLst at e
  cases h with
  | @ref n a ha =>
    dsimp only at e
    obtain ⟨l, hl⟩ := Option.isSome_iff_exists.mp e
    obtain ⟨xs, h1, _⟩ := rs.lst ha hl
    exact .inl ⟨rfl, xs, h1⟩
  | _ => cases e
theorem ty_dict : TyM X "dict" isDct := by
  intro x v S m H rs h e
  unfold isDct at e
  cases h with
  | @ref n a ha =>
    dsimp only at e
    split at e
    · rename_i k hs
      obtain ⟨xs, h1, _⟩ := rs.ob n a _ ha hs
      exact .inr (.inr (.inl ⟨rfl, .inl ⟨xs, h1⟩⟩))
    · rename_i k hs
      obtain ⟨xs, h1, _⟩ := rs.ob n a _ ha hs
      exact .inr (.inr (.inl ⟨rfl, .inr ⟨xs, h1⟩⟩))
    · cases e
  | _ => cases e
theorem ty_str : TyM X "str" isStr := by
  intro x v S m H rs h e
  unfold isStr at e
  cases h with
  | str s => exact rfl
  | _ => cases e
/-- a list that is changed -/
theorem mut_list {c : Ct} {m : List Addr} {S : Store} {H : Hp} (rs : RS c m S H) {o : D} {v : V} {f : Nat → List D → Res D} {k : D → Store → List Addr → Hp → Prop} (h : RelD c.K H m o v) (p : Post c E m H (mutL o S f) k) :
    ∃ n a l xs, o = .ref n ∧ v = .ref a ∧ m[n]? = some a ∧ S[n]? = some (.lst l) ∧ H a = some (.lst xs) ∧ RelL c.K H m l xs ∧ Post c E m H (f n l) k := by
  unfold mutL at p
  cases h with
  | @ref n a ha =>
    dsimp only at p
    split at p
    · rename_i l hs
      obtain ⟨xs, h1, h2⟩ := rs.ob n a _ ha hs
      exact ⟨n, a, l, xs, rfl, rfl, ha, hs, h1, h2, p⟩
    · exact p.elim
  | _ => exact p.elim
theorem put_list {c : Ct} {m : List Addr} {S : Store} {H : Hp} (rs : RS c m S H) {n : Nat} {a : Addr} {l l' : List D} {xs' : List V} {d : D} {Q : VK} {v : V} (ha : m[n]? = some a) (hs : S[n]? = some (.lst l)) (r : RelL c.K H m l' xs') (hd : RelD c.K H m d v)
    (p : Post c E m H (.ok d (S.set n (.lst l'))) (kE c Q)) : Q v (upd H a (.lst xs')) := by
  obtain ⟨rs', e⟩ := rs.set (o' := .lst l') (u := .lst xs') ha hs trivial trivial fun e => ⟨xs', upd_same, r.mono e⟩
  exact p _ _ e rs' _ (hd.mono e)
theorem mm_append : MtMm X E "list.append" lAppend := by
  refine ⟨_, mt_append, fun x ds v vs S m H Q rs hv hvs p => ?_⟩
  unfold lAppend at p
  split at p
  · rename_i d
    obtain ⟨w, rfl, hw⟩ := rel1 hvs
    obtain ⟨n, a, l, xs, rfl, rfl, ha, hs, h1, h2, p⟩ := mut_list rs hv p
    split at p
    · rename_i hl
      exact ⟨a, xs, w, rfl, rfl, h1, by rw [← h2.len, line_eq]; exact hl, put_list rs ha hs (h2.app (.one hw)) .non p⟩
    · exact p.elim
  · exact p.elim
theorem mt_or {id : String} {r r' : V → List V → Hp → VK → Prop} (h : MtR X id r) (h' : MtR X id r') : MtR X id fun x xs H Q => r x xs H Q ∨ r' x xs H Q := h.or h'
theorem seqIx_of {n : Nat} {i : Int} {k : Nat} (h : Mi.ixN n i = some k) : seqIndex? i n = some k := by
  have := ixN_seq (show L2.ixN n i = some k from h)
  exact this.1
theorem mm_pop : MtMm X E "list.pop" lPop := by
  refine ⟨_, mt_or (X := X) mt_pop mt_popAt, fun x ds v vs S m H Q rs hv hvs p => ?_⟩
  unfold lPop at p
  split at p
  · cases hvs
    obtain ⟨n, a, l, xs, rfl, rfl, ha, hs, h1, h2, p⟩ := mut_list rs hv p
    split at p
    · rename_i y hy
      obtain ⟨w, e1, e2⟩ := h2.ix hy
      exact .inl ⟨a, xs, w, rfl, rfl, h1, by rw [← h2.len]; exact e1, put_list rs ha hs h2.dropLast e2 p⟩
    · exact p.elim
  · rename_i i
    obtain ⟨w, rfl, hw⟩ := rel1 hvs
    cases hw
    obtain ⟨n, a, l, xs, rfl, rfl, ha, hs, h1, h2, p⟩ := mut_list rs hv p
    split at p
    · rename_i hb
      split at p
      · rename_i k hk
        split at p
        · rename_i y hy
          obtain ⟨w, e1, e2⟩ := h2.ix hy
          exact .inr ⟨a, xs, i, k, w, rfl, rfl, h1, hb.1, hb.2, by rw [← h2.len]; exact seqIx_of hk, e1, put_list rs ha hs (h2.erase k) e2 p⟩
        · exact p.elim
      · exact p.elim
    · exact p.elim
  · exact p.elim
theorem mm_reverse : MtMm X E "list.reverse" lReverse := by
  refine ⟨_, mt_reverse, fun x ds v vs S m H Q rs hv hvs p => ?_⟩
  unfold lReverse at p
  split at p
  · cases hvs
    obtain ⟨n, a, l, xs, rfl, rfl, ha, hs, h1, h2, p⟩ := mut_list rs hv p
    exact ⟨a, xs, rfl, rfl, h1, put_list rs ha hs h2.rev .non p⟩
  · exact p.elim
theorem mm_lclear : MtMm X E "list.clear" lClear := by
  refine ⟨_, mt_clear, fun x ds v vs S m H Q rs hv hvs p => ?_⟩
  unfold lClear at p
  split at p
  · cases hvs
    obtain ⟨n, a, l, xs, rfl, rfl, ha, hs, h1, h2, p⟩ := mut_list rs hv p
    exact ⟨a, xs, rfl, rfl, h1, put_list rs ha hs .nil .non p⟩
  · exact p.elim
theorem mm_extend : MtMm X E "list.extend" lExtend := by
  refine ⟨_, mt_extend, fun x ds v vs S m H Q rs hv hvs p => ?_⟩
  unfold lExtend at p
  split at p
  · rename_i k
    obtain ⟨w, rfl, hw⟩ := rel1 hvs
    obtain ⟨n, a, l, xs, rfl, rfl, ha, hs, h1, h2, p⟩ := mut_list rs hv p
    split at p
    · rename_i r hr
      split at p
      · rename_i hl
        cases hw with
        | ref hb =>
          obtain ⟨zs, h3, h4⟩ := rs.ob _ _ _ hb hr
          exact ⟨a, _, xs, zs, rfl, rfl, h1, h3, by rw [← h2.len, ← h4.len, line_eq]; exact hl, put_list rs ha hs (h2.app h4) .non p⟩
      · exact p.elim
    · exact p.elim
  · exact p.elim
theorem mm_insert : MtMm X E "list.insert" lInsert := by
  refine ⟨_, mt_insert, fun x ds v vs S m H Q rs hv hvs p => ?_⟩
  unfold lInsert at p
  split at p
  · rename_i i d
    obtain ⟨w, w', rfl, hw, hw'⟩ := rel2 hvs
    cases hw
    obtain ⟨n, a, l, xs, rfl, rfl, ha, hs, h1, h2, p⟩ := mut_list rs hv p
    split at p
    · rename_i hl
      exact ⟨a, xs, i, w', rfl, rfl, h1, by rw [← h2.len, line_eq]; exact hl.1, hl.2.1, hl.2.2, put_list rs ha hs (((h2.take _).app (.one hw')).app (h2.drop _)) .non p⟩
    · exact p.elim
  · exact p.elim
theorem mm_dget (hu : X.A.units + 1 < cLine) : MtMm X E "dict.get" dGetM := by
  refine ⟨fun x vs H Q => (∃ a y o, x = V.ref a ∧ vs = [y] ∧ DGet H a y o ∧ Q (o.getD .non) H) ∨ ∃ a y z o, x = V.ref a ∧ vs = [y, z] ∧ DGet H a y o ∧ Q (o.getD z) H, ?_, fun x ds v vs S m H Q rs hv hvs p => ?_⟩
  · intro pins s σ H x xs v us Q I rx rxs h
    rcases h with ⟨a, y, o, rfl, rfl, g, q⟩ | ⟨a, y, z, o, rfl, rfl, g, q⟩
    · obtain rfl : v = Value.ref a := rx
      obtain ⟨u, rfl, ru⟩ := Vals.one rxs
      exact d_get1 hu I g ru fun w' s' I' rw' => ⟨_, H, I', rw', q⟩
    · obtain rfl : v = Value.ref a := rx
      obtain ⟨u, w, rfl, ru, rw⟩ := Vals.two rxs
      exact d_get2 hu I g ru rw fun w' s' I' rw' => ⟨_, H, I', rw', q⟩
  · unfold dGetM at p
    cases hv with
    | @ref n a ha =>
      dsimp only at p
      split at p
      · rename_i k
        obtain ⟨w, rfl, hw⟩ := rel1 hvs
        split at p
        · rename_i r hr
          obtain ⟨o, g, q⟩ := look_get rs ha hw hr
          refine .inl ⟨a, w, o, rfl, rfl, g, p.here rs _ ?_⟩
          cases r with
          | none => rw [show o = none from q]; exact .non
          | some d => obtain ⟨z, e, h⟩ := q; rw [e]; exact h
        · exact p.elim
      · rename_i k y
        obtain ⟨w, w', rfl, hw, hw'⟩ := rel2 hvs
        split at p
        · rename_i r hr
          obtain ⟨o, g, q⟩ := look_get rs ha hw hr
          refine .inr ⟨a, w, w', o, rfl, rfl, g, p.here rs _ ?_⟩
          cases r with
          | none => rw [show o = none from q]; exact hw'
          | some d => obtain ⟨z, e, h⟩ := q; rw [e]; exact h
        · exact p.elim
      · exact p.elim
    | _ => exact p.elim
end
end Sm

set_option Elab.async false
set_option linter.all false
set_option maxRecDepth 100000
set_option maxHeartbeats 2000000
/-! readings by the small language: targets, statements, loops, comprehensions, defs -/
namespace Sm
open PySem PySem.Spec PyProof.Rows L2 Mi
abbrev EF : XK := fun _ _ _ => False
section
variable {X : Cx} {E : XK} {pos : Pos}
theorem PG.mono {e : Expr} {t t' : TG} (h : PG X e t) (f : ∀ v σ H Q, t' v σ H Q → t v σ H Q) : PG X e t' := ⟨fun pins s σ H x v Q I r q => h.run pins s σ H x v Q I r (f x σ H Q q)⟩
theorem PGs.mono {e : List Expr} {t t' : TGs} (h : PGs X e t) (f : ∀ v σ H Q, t' v σ H Q → t v σ H Q) : PGs X e t' := ⟨fun pins s σ H xs vs Q I r q => h.run pins s σ H xs vs Q I r (f xs σ H Q q)⟩
/-! ### targets -/
theorem sg_name {i : Nat} {x : Str} (hN : X.N.Nodup) (hi : X.N[i]? = some x) (hx : Loc X.env.scope x) (hf : X.fn x = true ∨ X.env.scope.names.lookup x = some .local := by first | exact .inl rfl | exact .inr rfl | assumption) : SG X E (.Name x pos) (Mi.gName i) := by
  refine PG.mono (pg_name hN hi hx hf) fun v σ H Q ⟨d, fr, S, m, r, rf, rs, p⟩ => ?_
  exact p.here rs _ (rf.set r i)
theorem sgs_nil : SGs X E [] Mi.gNil := by
  refine PGs.mono pgs_nil fun vs σ H Q ⟨ds, fr, S, m, r, rf, rs, p⟩ => ?_
  cases r with
  | nil => exact ⟨rfl, p.here rs σ rf⟩
  | cons => exact p.elim
theorem sgs_cons {e : Expr} {es : List Expr} {g : GM} {gs : GMs} (h1 : SG X E e g) (h2 : SGs X E es gs) (hs : (assignEach (e :: es) X.env).map (·.2) = assign e X.env :: (assignEach es X.env).map (·.2) := by rfl) : SGs X E (e :: es) (Mi.gCons g gs) := by
  refine PGs.mono (pgs_cons h1 h2 hs) fun vs σ H Q ⟨ds, fr, S, m, r, rf, rs, p⟩ => ?_
  cases r with
  | nil => exact p.elim
  | @cons d l v r' hd t =>
    refine ⟨v, r', rfl, d, fr, S, m, hd, rf, rs, (post_bind p).imp fun fr' S' m' H' e' rs' p' σ' rf' => ?_⟩
    exact ⟨l, fr', S', m', t.mono e', rf', rs', p'⟩
theorem pg_or {e : Expr} {t t' : TG} (h : PG X e t) (h' : PG X e t') : PG X e fun v σ H Q => t v σ H Q ∨ t' v σ H Q :=
  ⟨fun pins s σ H x v Q I r q => q.elim (fun q => h.run pins s σ H x v Q I r q) fun q => h'.run pins s σ H x v Q I r q⟩
theorem sg_tup {es : List Expr} {k : Nat} {gs : GMs} {n : Nat} (hc : X.calm = true) (h : SGs X E es gs) (hn : (assignEach es X.env).length = n := by rfl) (hst : (assignEach es X.env).findIdx? (·.1) = none := by rfl) : SG X E (.Tuple es k pos) (Mi.gTup n gs) := by
  refine PG.mono (pg_or (pg_tup hc h hn hst) (pg_unl hc h hn hst)) fun v σ H Q ⟨d, fr, S, m, r, rf, rs, p⟩ => ?_
  unfold Mi.gTup at p
  split at p
  · rename_i l hl
    split at p
    · rename_i hlen
      obtain ⟨a, xs, rfl, h1, h2⟩ := seq_rel rs r hl
      rcases h1 with h1 | h1
      · exact .inr ⟨a, xs, rfl, h1, by rw [← h2.len]; exact hlen, l, fr, S, m, h2, rf, rs, p⟩
      · exact .inl ⟨a, xs, rfl, h1, by rw [← h2.len]; exact hlen, l, fr, S, m, h2, rf, rs, p⟩
    · exact p.elim
  · exact p.elim
theorem set_dict (hu : X.A.units + 1 < cLine) : PSet X (fun o i v H Q => ∃ a H', o = V.ref a ∧ DPut H a i v H' ∧ Q H') := by
  intro pins s σ H o i v ov iv u Q I ro ri rv h
  obtain ⟨a, H', rfl, g, q⟩ := h
  obtain rfl : ov = Value.ref a := ro
  exact d_setItem hu I g ri rv fun s' I' => ⟨H', I', q⟩
theorem pset_or {t t' : TSet} (h : PSet X t) (h' : PSet X t') : PSet X fun o i v H Q => t o i v H Q ∨ t' o i v H Q := by
  intro pins s σ H o i v ov iv u Q I ro ri rv q
  exact q.elim (fun q => h pins s σ H o i v ov iv u Q I ro ri rv q) fun q => h' pins s σ H o i v ov iv u Q I ro ri rv q
theorem sg_sub {o i : Expr} {fo fi : EM} (hu : X.A.units + 65 < cLine) (ho : SE X E o fo) (hi : SE X E i fi)
    (ha : ∀ v, assign (.Subscript o i pos) X.env v = (do
      let ov ← holding [v] (eval o X.env)
      let iv ← holding [v, ov] (eval i X.env)
      standAt pos
      holding [v, ov, iv] (setItem ov iv v)
      release [v, ov, iv] []) := by intro _; rfl) : SG X E (.Subscript o i pos) (Mi.gSub fo fi) := by
  refine PG.mono (pg_sub ho hi (pset_or set_list (set_dict (by omega))) ha) fun v σ H Q ⟨d, fr, S, m, r, rf, rs, p⟩ => ?_
  refine rd_bind rf rs p fun x S1 m1 H1 e1 rf1 rs1 p1 xv hx => ?_
  refine rd_bind rf1 rs1 p1 fun y S2 m2 H2 e2 rf2 rs2 p2 yv hy => ?_
  have e12 := e1.trans e2
  rcases look_put rs2 (hx.mono e2) hy (r.mono e12) (post_bind p2) with h | ⟨a, H', e0, g, S', m', e3, rs3, q⟩
  · left
    obtain ⟨p0, xs, k, j, h1, h2, h3, h4, S', m', e3, rs3, q⟩ := h
    exact ⟨p0, xs, k, j, h1, h2, h3, h4, q.here rs3 σ (rf2.mono e3)⟩
  · exact .inr ⟨a, H', e0, g, q.here rs3 σ (rf2.mono e3)⟩

/-! ### statements -/
theorem sss_nil : SSs X E [] sNx := PSs.mono pss_nil fun D σ H ⟨fr, S, m, rf, rs, p⟩ => p.here rs σ rf
theorem sss_cons {st : Stmt} {rest : List Stmt} {a b : SM} (h1 : SS X E st a) (h2 : SSs X E rest b) : SSs X E (st :: rest) (sSeq a b) := by
  refine PSs.mono (pss_cons h1 h2) fun D σ H ⟨fr, S, m, rf, rs, p⟩ => ?_
  refine ⟨fr, S, m, rf, rs, (post_bind p).imp fun o S1 m1 H1 e1 rs1 p1 => ?_⟩
  cases o with
  | nx fr' => exact fun σ' rf' => ⟨fr', S1, m1, rf', rs1, p1⟩
  | rt d => exact p1.here rs1
  | bk fr' => exact p1.here rs1
  | ct fr' => exact p1.here rs1
theorem sss_one {st : Stmt} {a : SM} (h1 : SS X E st a) : SSs X E [st] a := pss_one h1
theorem ss_asg {tg e : Expr} {fe : EM} {g : GM} (he : SE X E e fe) (hg : SG X E tg g) (hs : swapsWithSole [tg] e pos.line X.env = pure false := by rfl) (hw : swappedStores [tg] e X.env = pure none := by rfl)
    (h1 : (assignEach [tg] X.env).map (·.2) = [assign tg X.env] := by rfl) : SS X E (.Assign [tg] e pos) (sAsg fe g) := by
  refine PS.mono (ps_asg he hg hs hw h1) fun D σ H ⟨fr, S, m, rf, rs, p⟩ => ?_
  refine rd_bind rf rs p fun x S1 m1 H1 e1 rf1 rs1 p1 v hv => ?_
  exact ⟨x, fr, S1, m1, hv, rf1, rs1, (post_bind p1).imp fun fr' S2 m2 H2 e2 rs2 p2 => p2.here rs2⟩
theorem ss_set {i : Nat} {x : Str} {e : Expr} {fe : EM} {pos' : Pos} (hN : X.N.Nodup) (hi : X.N[i]? = some x) (hx : Loc X.env.scope x) (he : SE X E e fe) (hs : swapsWith e (some (.Name x pos')) pos.line X.env = pure false := by rfl) (hf : X.fn x = true ∨ X.env.scope.names.lookup x = some .local := by first | exact .inl rfl | exact .inr rfl | assumption) :
    SS X E (.Assign [.Name x pos'] e pos) (sAsg fe (Mi.gName i)) := by
  refine PS.mono (ps_set hN hi hx he hs hf) fun D σ H ⟨fr, S, m, rf, rs, p⟩ => ?_
  refine rd_bind rf rs p fun x S1 m1 H1 e1 rf1 rs1 p1 v hv => ?_
  exact (post_bind p1).here rs1 |>.here rs1 _ (rf1.set hv i)
theorem ss_par {i j : Nat} {x y : Str} {a b : Expr} {fa : AM} {px py pt : Pos} {kt k2 pt2} (hc : X.calm = true) (hN : X.N.Nodup) (hi : X.N[i]? = some x) (hj : X.N[j]? = some y) (hij : i ≠ j)
    (hx : X.env.scope.names.lookup x = some .local) (hy : X.env.scope.names.lookup y = some .local) (ha : SA X E [a, b] fa)
    (hw : swappedStores [.Tuple [.Name x px, .Name y py] kt pt] (.Tuple [a, b] k2 pt2) X.env = pure (some [x, y]))
    (hs : swapsWithSole [.Tuple [.Name x px, .Name y py] kt pt] (.Tuple [a, b] k2 pt2) pos.line X.env = pure false := by rfl) :
    SS X E (.Assign [.Tuple [.Name x px, .Name y py] kt pt] (.Tuple [a, b] k2 pt2) pos) (sPar i j fa) := by
  refine PS.mono (ps_par hc hN hi hj hij hx hy ha hw hs) fun D σ H ⟨fr, S, m, rf, rs, p⟩ => ?_
  refine rdA_bind rf rs p fun ds S1 m1 H1 e1 rf1 rs1 p1 vs hv => ?_
  split at p1
  · obtain ⟨v, w, rfl, h1, h2⟩ := rel2 hv
    exact ⟨v, w, rfl, p1.here rs1 _ ((rf1.set h1 i).set h2 j)⟩
  · exact p1.elim
theorem ss_augadd {i : Nat} {x : Str} {e : Expr} {fe : EM} {pos' : Pos} (hN : X.N.Nodup) (hi : X.N[i]? = some x) (hx : Loc X.env.scope x) (he : SE X E e fe) (hf : X.fn x = true ∨ X.env.scope.names.lookup x = some .local := by first | exact .inl rfl | exact .inr rfl | assumption) :
    SS X E (.AugAssign (.Name x pos') .Add e pos) (sAug i oAddI fe) := by
  refine PS.mono (ps_aug hN hi hx he ip_add hf) fun D σ H ⟨fr, S, m, rf, rs, p⟩ => ?_
  unfold sAug at p
  split at p
  · rename_i d hd
    obtain ⟨v, h1, h2⟩ := rf.get i d hd
    refine ⟨v, h1, rd_bind rf rs p fun y S1 m1 H1 e1 rf1 rs1 p1 w hw => ?_⟩
    have p2 := post_bind p1
    cases h2 <;> first | exact p2.elim | skip
    cases hw <;> first | exact p2.elim | skip
    exact ⟨_, _, rfl, rfl, (p2.here rs1).here rs1 _ (rf1.set (.int _) i)⟩
  · exact p.elim
theorem ss_expr {e : Expr} {fe : EM} (he : SE X E e fe) (hs : swapsWith e none pos.line X.env = pure false := by rfl) : SS X E (.Expr e pos) (sExp fe) := by
  refine PS.mono (ps_expr he hs) fun D σ H ⟨fr, S, m, rf, rs, p⟩ => ?_
  exact rd_bind rf rs p fun x S1 m1 H1 e1 rf1 rs1 p1 v hv => p1.here rs1 σ rf1
theorem ss_ret {e : Expr} {fe : EM} (he : SE X E e fe) : SS X E (.Return (some e) pos) (sRet fe) := by
  refine PS.mono (ps_ret he) fun D σ H ⟨fr, S, m, rf, rs, p⟩ => ?_
  exact rd_bind rf rs p fun x S1 m1 H1 e1 rf1 rs1 p1 v hv => p1.here rs1 v hv
theorem ss_retN : SS X E (.Return none pos) sRetN := PS.mono ps_retN fun D σ H ⟨fr, S, m, rf, rs, p⟩ => p.here rs _ .non
theorem ss_pass : SS X E (.Pass pos) sNx := PS.mono ps_pass fun D σ H ⟨fr, S, m, rf, rs, p⟩ => p.here rs σ rf
theorem ss_brk : SS X E (.Break pos) sBrk := PS.mono ps_break fun D σ H ⟨fr, S, m, rf, rs, p⟩ => p.here rs σ rf
theorem ss_cnt : SS X E (.Continue pos) sCnt := PS.mono ps_continue fun D σ H ⟨fr, S, m, rf, rs, p⟩ => p.here rs σ rf
theorem ss_bad {st : Stmt} : SS X E st sBad := PS.mono ps_never fun D σ H ⟨fr, S, m, rf, rs, p⟩ => p.elim
theorem ss_doc {x : Str} {j pos pos'} : SS X E (.Expr (.Constant (.str x) j pos) pos') sNx := PS.mono ps_doc fun D σ H ⟨fr, S, m, rf, rs, p⟩ => p.here rs σ rf
theorem ss_if {t : Expr} {a b : List Stmt} {ft : TM} {ga gb : SM} (ht : STt X E t ft) (ha : SSs X E a ga) (hb : SSs X E b gb) : SS X E (.If t a b pos) (sIf ft ga gb) := by
  refine PS.mono (ps_if ht ha hb) fun D σ H ⟨fr, S, m, rf, rs, p⟩ => ?_
  refine rdT_bind rf rs p fun k S1 m1 H1 e1 rf1 rs1 p1 => ?_
  cases k with
  | true => exact ⟨fr, S1, m1, rf1, rs1, p1⟩
  | false => exact ⟨fr, S1, m1, rf1, rs1, p1⟩

/-! ### what is walked -/
structure WalkD (c : Ct) (J : It) (I : Its) (m0 : List Addr) (H0 : Hp) : Prop where
  go : ∀ i m S H, i < I.items.length → Ext m0 H0 m H → RS c m S H → stands I.hs S → J.go i H
  stop : ∀ m S H, Ext m0 H0 m H → RS c m S H → stands I.hs S → J.stop I.items.length H
  yld : ∀ i m S H x H' d, I.items[i]? = some d → Ext m0 H0 m H → RS c m S H → stands I.hs S → J.yld i H x H' → Ext m H m H' ∧ RS c m S H' ∧ RelD c.K H' m d x
def rdI (c : Ct) (E : XK) (f : IM) : TI := fun σ H R => ∃ fr S m, RF c.K H m fr σ ∧ RS c m S H ∧ Post c E m H (f fr S) fun I _ m' H' => ∀ J, WalkD c J I m' H' → R J H'
abbrev SI (X : Cx) (E : XK) (tg e : Expr) (f : IM) : Prop := PI X tg e (rdI (cx X) E f)
theorem PI.mono {tg e : Expr} {t t' : TI} (h : PI X tg e t) (f : ∀ σ H R, t' σ H R → t σ H R) : PI X tg e t' := ⟨fun pins s σ H R I q => h.run pins s σ H R I (f σ H R q)⟩
theorem stand1 {n : Nat} {l : List D} {S : Store} (h : stands [(n, l)] S) : lstOf S n = some l := h (n, l) List.mem_cons_self
theorem walkd_list {c : Ct} {n : Nat} {a : Addr} {l : List D} {m0 : List Addr} {H0 : Hp} (ha : m0[n]? = some a) : WalkD c (Itl c.K a) ⟨l, [(n, l)]⟩ m0 H0 where
  go := fun i m S H hi e rs st => by
    obtain ⟨xs, h1, h2⟩ := rs.lst (e.mx _ _ ha) (stand1 st)
    obtain ⟨v, h3, _⟩ := h2.ix (List.getElem?_eq_getElem hi)
    exact ⟨xs, v, h1, h3⟩
  stop := fun m S H e rs st => by
    obtain ⟨xs, h1, h2⟩ := rs.lst (e.mx _ _ ha) (stand1 st)
    exact ⟨xs, h1, by rw [← h2.len]; exact Nat.le_refl _⟩
  yld := fun i m S H x H' d hd e rs st y => by
    obtain ⟨rfl, hy⟩ := y
    obtain ⟨xs, h1, h2⟩ := rs.lst (e.mx _ _ ha) (stand1 st)
    obtain ⟨v, h3, h4⟩ := h2.ix hd
    have := (hy xs h1).symm.trans h3
    cases this
    exact ⟨Ext.refl _ _, rs, h4⟩
theorem walkd_tup {c : Ct} {a : Addr} {l : List D} {xs : List V} {m0 : List Addr} {H0 : Hp} (hs : ∀ m H, Ext m0 H0 m H → SqT c.K H a xs) (r : RelL c.K H0 m0 l xs) : WalkD c (Itt c.K a) ⟨l, []⟩ m0 H0 where
  go := fun i m S H hi e rs st => by
    obtain ⟨v, h3, _⟩ := r.ix (List.getElem?_eq_getElem hi)
    exact ⟨xs, v, hs m H e, h3⟩
  stop := fun m S H e rs st => ⟨xs, hs m H e, by rw [← r.len]; exact Nat.le_refl _⟩
  yld := fun i m S H x H' d hd e rs st y => by
    obtain ⟨rfl, hy⟩ := y
    obtain ⟨v, h3, h4⟩ := r.ix hd
    have := (hy xs (hs m _ e)).symm.trans h3
    cases this
    exact ⟨Ext.refl _ _, rs, h4.mono e⟩
theorem walkd_str {c : Ct} {z : Tx} {m0 : List Addr} {H0 : Hp} : WalkD c (Its (sOf z)) ⟨z.map fun k => .str [k], []⟩ m0 H0 where
  go := fun i m S H hi e rs st => by
    have h : i < (z.map fun k => D.str [k]).length := hi
    rw [List.length_map] at h
    show i < z.toArray.size
    simpa using h
  stop := fun m S H e rs st => by
    show z.toArray.size ≤ (z.map fun k => D.str [k]).length
    simp
  yld := fun i m S H x H' d hd e rs st y => by
    obtain ⟨rfl, k, hk, rfl⟩ := y
    have h : (z.map fun k => D.str [k])[i]? = some d := hd
    have hk' : z[i]? = some k := by
      have : z.toArray[i]? = some k := hk
      simpa using this
    rw [List.getElem?_map, hk'] at h
    cases h
    exact ⟨Ext.refl _ _, rs, .str [k]⟩
theorem walkd_rng {c : Ct} {lo : Int} {n : Nat} {m0 : List Addr} {H0 : Hp} : WalkD c (Itr lo n) ⟨rng lo n, []⟩ m0 H0 where
  go := fun i m S H hi e rs st => by
    have h : i < (rng lo n).length := hi
    unfold rng at h
    rw [List.length_map, List.length_range] at h
    exact h
  stop := fun m S H e rs st => by
    show n ≤ (rng lo n).length
    unfold rng
    rw [List.length_map, List.length_range]
    exact Nat.le_refl _
  yld := fun i m S H x H' d hd e rs st y => by
    obtain ⟨rfl, rfl⟩ := y
    have h : (rng lo n)[i]? = some d := hd
    unfold rng at h
    rw [List.getElem?_map] at h
    obtain ⟨k, h1, h2⟩ := Option.map_eq_some_iff.mp h
    obtain ⟨h3, h4⟩ := List.getElem?_eq_some_iff.mp h1
    rw [List.getElem_range] at h4
    subst h4 h2
    exact ⟨Ext.refl _ _, rs, .int _⟩
theorem walkd_rngD {c : Ct} {hi : Int} {n : Nat} {m0 : List Addr} {H0 : Hp} : WalkD c (Itc hi (-1) n) ⟨(List.range n).map fun k => .int (hi - (k : Nat)), []⟩ m0 H0 where
  go := fun i m S H hi e rs st => by
    have h : i < ((List.range n).map fun k : Nat => D.int _).length := hi
    rw [List.length_map, List.length_range] at h
    exact h
  stop := fun m S H e rs st => by
    show n ≤ ((List.range n).map fun k : Nat => D.int _).length
    rw [List.length_map, List.length_range]
    exact Nat.le_refl _
  yld := fun i m S H x H' d hd e rs st y => by
    obtain ⟨rfl, rfl⟩ := y
    have h : ((List.range n).map fun k : Nat => D.int (hi - (k : Nat)))[i]? = some d := hd
    rw [List.getElem?_map] at h
    obtain ⟨k, h1, h2⟩ := Option.map_eq_some_iff.mp h
    obtain ⟨h3, h4⟩ := List.getElem?_eq_some_iff.mp h1
    rw [List.getElem_range] at h4
    subst h4 h2
    refine ⟨Ext.refl _ _, rs, ?_⟩
    have e : hi - (i : Int) = hi + (i : Int) * -1 := by omega
    rw [e]
    exact .int _
theorem prs_at : ∀ (l : List D) (k i : Nat), (prs k l)[i]? = l[i]?.map fun d => .tup [.int ((k + i : Nat) : Int), d]
  | [], k, i => by simp [prs]
  | d :: l, k, 0 => by simp [prs]
  | d :: l, k, i + 1 => by
    have h := prs_at l (k + 1) i
    show (prs (k + 1) l)[i]? = _
    rw [h]
    show _ = l[i]?.map _
    rw [show k + 1 + i = k + (i + 1) by omega]
theorem prs_len : ∀ (l : List D) (k : Nat), (prs k l).length = l.length
  | [], _ => rfl
  | d :: l, k => by
    show (prs (k + 1) l).length + 1 = l.length + 1
    rw [prs_len l (k + 1)]
theorem rel_pair {c : Ct} {m : List Addr} {S : Store} {H : Hp} {d e : D} {x y : V} {T : Addr} (rs : RS c m S H) (h : H T = none) (r1 : RelD c.K H m d x) (r2 : RelD c.K H m e y) : Ext m H m (upd H T (.tup [x, y])) ∧ RS c m S (upd H T (.tup [x, y])) ∧ RelD c.K (upd H T (.tup [x, y])) m (.tup [d, e]) (.ref T) := by
  have ex : Ext m H m (upd H T (.tup [x, y])) := ⟨⟨fun _ _ z => z, tstay_new h⟩, fstay_new h⟩
  exact ⟨ex, rs.fresh h, .tup upd_same (.cons (r1.mono ex) (.cons (r2.mono ex) .nil))⟩
theorem walkd_enum {c : Ct} {n : Nat} {a : Addr} {l : List D} {m0 : List Addr} {H0 : Hp} (ha : m0[n]? = some a) : WalkD c (Ite c.K a) ⟨prs 0 l, [(n, l)]⟩ m0 H0 where
  go := fun i m S H hi e rs st => by
    have h : i < (prs 0 l).length := hi
    rw [prs_len] at h
    obtain ⟨xs, h1, h2⟩ := rs.lst (e.mx _ _ ha) (stand1 st)
    obtain ⟨v, h3, _⟩ := h2.ix (List.getElem?_eq_getElem h)
    exact ⟨xs, v, h1, h3⟩
  stop := fun m S H e rs st => by
    obtain ⟨xs, h1, h2⟩ := rs.lst (e.mx _ _ ha) (stand1 st)
    refine ⟨xs, h1, ?_⟩
    show xs.length ≤ (prs 0 l).length
    rw [← h2.len, prs_len]
    exact Nat.le_refl _
  yld := fun i m S H x H' d hd e rs st y => by
    obtain ⟨T, w, rfl, hT, rfl, hy⟩ := y
    obtain ⟨xs, h1, h2⟩ := rs.lst (e.mx _ _ ha) (stand1 st)
    have h : (prs 0 l)[i]? = some d := hd
    rw [prs_at, Nat.zero_add] at h
    obtain ⟨d', h3, h4⟩ := Option.map_eq_some_iff.mp h
    subst h4
    obtain ⟨v, h5, h6⟩ := h2.ix h3
    have := (hy xs h1).symm.trans h5
    cases this
    exact rel_pair rs hT (.int _) h6
theorem walkd_zip {c : Ct} {n n' : Nat} {a a' : Addr} {l r : List D} {m0 : List Addr} {H0 : Hp} (ha : m0[n]? = some a) (ha' : m0[n']? = some a') : WalkD c (Itz c.K a a') ⟨List.zipWith (fun x y => .tup [x, y]) l r, [(n, l), (n', r)]⟩ m0 H0 where
  go := fun i m S H hi e rs st => by
    have h : i < (List.zipWith (fun x y => D.tup [x, y]) l r).length := hi
    rw [List.length_zipWith] at h
    obtain ⟨xs, h1, h2⟩ := rs.lst (e.mx _ _ ha) (st (n, l) List.mem_cons_self)
    obtain ⟨ys, h3, h4⟩ := rs.lst (e.mx _ _ ha') (st (n', r) (List.mem_cons_of_mem _ List.mem_cons_self))
    obtain ⟨v, h5, _⟩ := h2.ix (List.getElem?_eq_getElem (show i < l.length by omega))
    obtain ⟨w, h6, _⟩ := h4.ix (List.getElem?_eq_getElem (show i < r.length by omega))
    exact ⟨xs, ys, v, w, h1, h3, h5, h6⟩
  stop := fun m S H e rs st => by
    obtain ⟨xs, h1, h2⟩ := rs.lst (e.mx _ _ ha) (st (n, l) List.mem_cons_self)
    obtain ⟨ys, h3, h4⟩ := rs.lst (e.mx _ _ ha') (st (n', r) (List.mem_cons_of_mem _ List.mem_cons_self))
    refine ⟨xs, ys, h1, h3, ?_⟩
    show xs.length ≤ (List.zipWith (fun x y => D.tup [x, y]) l r).length ∨ ys.length ≤ (List.zipWith (fun x y => D.tup [x, y]) l r).length
    have q1 : l.length = xs.length := h2.len
    have q2 : r.length = ys.length := h4.len
    rw [List.length_zipWith, ← q1, ← q2]
    omega
  yld := fun i m S H x H' d hd e rs st y => by
    obtain ⟨T, w, w', rfl, hT, rfl, hy, hy'⟩ := y
    obtain ⟨xs, h1, h2⟩ := rs.lst (e.mx _ _ ha) (st (n, l) List.mem_cons_self)
    obtain ⟨ys, h3, h4⟩ := rs.lst (e.mx _ _ ha') (st (n', r) (List.mem_cons_of_mem _ List.mem_cons_self))
    have h : (List.zipWith (fun x y => D.tup [x, y]) l r)[i]? = some d := hd
    rw [List.getElem?_zipWith] at h
    cases hl : l[i]? with
    | none => rw [hl] at h; cases h
    | some d1 =>
      cases hr : r[i]? with
      | none => rw [hl, hr] at h; cases h
      | some d2 =>
        rw [hl, hr] at h
        cases h
        obtain ⟨v, h5, h6⟩ := h2.ix hl
        obtain ⟨v', h7, h8⟩ := h4.ix hr
        have e1 := (hy xs h1).symm.trans h5
        have e2 := (hy' ys h3).symm.trans h7
        cases e1
        cases e2
        exact rel_pair rs hT h6 h8
theorem walkd_rev {c : Ct} {n : Nat} {a : Addr} {l : List D} {m0 : List Addr} {H0 : Hp} (ha : m0[n]? = some a) : WalkD c (Itv c.K a l.length) ⟨l.reverse, [(n, l)]⟩ m0 H0 where
  go := fun i m S H hi e rs st => by
    have h : i < l.reverse.length := hi
    rw [List.length_reverse] at h
    obtain ⟨xs, h1, h2⟩ := rs.lst (e.mx _ _ ha) (stand1 st)
    obtain ⟨v, h3, _⟩ := h2.ix (List.getElem?_eq_getElem (show l.length - 1 - i < l.length by omega))
    exact ⟨h, xs, v, h1, h3⟩
  stop := fun m S H e rs st => by
    show l.length ≤ l.reverse.length
    rw [List.length_reverse]
    exact Nat.le_refl _
  yld := fun i m S H x H' d hd e rs st y => by
    obtain ⟨rfl, hy⟩ := y
    obtain ⟨xs, h1, h2⟩ := rs.lst (e.mx _ _ ha) (stand1 st)
    have h : l.reverse[i]? = some d := hd
    have hi := (List.getElem?_eq_some_iff.mp h).1
    rw [List.length_reverse] at hi
    rw [List.getElem?_reverse hi] at h
    obtain ⟨v, h3, h4⟩ := h2.ix h
    have := (hy xs h1).symm.trans h3
    cases this
    exact ⟨Ext.refl _ _, rs, h4⟩
/-! ### the walked thing by its syntax -/
theorem pi_seq {tg l : Expr} {tl : TE} (hl : PE X l tl) : PI X tg l (fun σ H R => tl σ H fun x H1 => (∃ a, x = .ref a ∧ (∃ xs, SqL X.K H1 a xs) ∧ R (Itl X.K a) H1) ∨ ∃ a, x = .ref a ∧ (∃ xs, SqT X.K H1 a xs) ∧ R (Itt X.K a) H1) := by
  refine ⟨fun pins s σ H R I h => ?_⟩
  refine thn (hl.run pins s σ H _ I h) fun v s1 ⟨x, H1, I1, r1, q1⟩ => ?_
  rcases q1 with ⟨a, e, ⟨xs, hq⟩, q⟩ | ⟨a, e, ⟨xs, hq⟩, q⟩
  · subst e
    cases r1
    obtain ⟨its, rv, p, hz⟩ := I1.list hq
    refine wpAny_pyIter_list p.isList ?_
    refine ⟨s1.heap.objs.size, [s1.heap.objs.size], _, _, H1, rfl, I1.kept (t' := s1.toks) fun b o e => Heap.get?_push_of_some _ e, turn_list a _, ⟨_, Heap.get?_push_size _ rfl, rfl, rfl⟩, fun b hb => ?_, q⟩
    have e : b = s1.heap.objs.size := by simpa using hb
    subst e
    exact I1.fpOk (Nat.le_refl _) (I1.hok.fresh (Nat.le_refl _))
  · subst e
    cases r1
    obtain ⟨its, rv, p, hz⟩ := I1.tuple hq
    refine wpAny_pyIter_tuple (show s1.heap.IsTuple a its.toArray from p) ?_
    refine ⟨s1.heap.objs.size, [s1.heap.objs.size], _, _, H1, rfl, I1.kept (t' := s1.toks) fun b o e => Heap.get?_push_of_some _ e, turn_tuple a _, ⟨_, Heap.get?_push_size _ rfl, rfl, rfl⟩, fun b hb => ?_, q⟩
    have e : b = s1.heap.objs.size := by simpa using hb
    subst e
    exact I1.fpOk (Nat.le_refl _) (I1.hok.fresh (Nat.le_refl _))
theorem si_seq {tg e : Expr} {fe : EM} (he : SE X E e fe) : SI X E tg e (Mi.iSeq fe) := by
  refine PI.mono (pi_seq he) fun σ H R ⟨fr, S, m, rf, rs, p⟩ => ?_
  refine rd_bind rf rs p fun x S1 m1 H1 e1 rf1 rs1 p1 v hv => ?_
  cases hv with
  | tup ha r => exact .inr ⟨_, rfl, ⟨_, .inl (.inl ha)⟩, p1.here rs1 _ (walkd_tup (fun m H e => .inl (.inl (e.ts _ _ (.inl ⟨_, rfl⟩) ha))) r)⟩
  | wtp ha r => exact .inr ⟨_, rfl, ⟨_, ha.sq⟩, p1.here rs1 _ (walkd_tup (fun m H e => (ha.mono e.ts).sq) r)⟩
  | ref ha =>
    dsimp only at p1
    split at p1
    · rename_i l hl
      obtain ⟨xs, h1, _⟩ := rs1.lst ha hl
      exact .inl ⟨_, rfl, ⟨xs, h1⟩, p1.here rs1 _ (walkd_list ha)⟩
    · exact p1.elim
  | _ => exact p1.elim
theorem si_str {tg e : Expr} {fe : EM} (he : SE X E e fe) : SI X E tg e (Mi.iStr fe) := by
  refine PI.mono (pi_str he) fun σ H R ⟨fr, S, m, rf, rs, p⟩ => ?_
  refine rd_bind rf rs p fun x S1 m1 H1 e1 rf1 rs1 p1 v hv => ?_
  cases hv with
  | str z => exact ⟨_, rfl, p1.here rs1 _ walkd_str⟩
  | _ => exact p1.elim
theorem si_rng1 {tg a : Expr} {fa : AM} {p pos : Pos} (hg : Gl X "range") (hm : X.mg "range" = none) (ha : SA X E [a] fa) (hs : starEach [a] X.env = [(false, eval a X.env)] := by rfl) : SI X E tg (.Call (.Name "range" p) [a] [] pos) (Mi.iRng1 fa) := by
  refine PI.mono (pi_range1 hg hm ha hs) fun σ H R ⟨fr, S, m, rf, rs, p⟩ => ?_
  refine rdA_bind rf rs p fun ds S1 m1 H1 e1 rf1 rs1 p1 vs hv => ?_
  split at p1
  · rename_i j
    obtain ⟨v, rfl, h⟩ := rel1 hv
    cases h
    split at p1
    · rename_i hj
      exact ⟨j, rfl, hj.1, hj.2, p1.here rs1 _ walkd_rng⟩
    · exact p1.elim
  · exact p1.elim
theorem si_rng2 {tg a b : Expr} {fa : AM} {p pos : Pos} (hg : Gl X "range") (hm : X.mg "range" = none) (ha : SA X E [a, b] fa) (hs : starEach [a, b] X.env = [(false, eval a X.env), (false, eval b X.env)] := by rfl) (hs2 : starEach [b] X.env = [(false, eval b X.env)] := by rfl) : SI X E tg (.Call (.Name "range" p) [a, b] [] pos) (Mi.iRng2 fa) := by
  refine PI.mono (pi_range2 hg hm ha hs hs2) fun σ H R ⟨fr, S, m, rf, rs, p⟩ => ?_
  refine rdA_bind rf rs p fun ds S1 m1 H1 e1 rf1 rs1 p1 vs hv => ?_
  split at p1
  · rename_i i j
    obtain ⟨v, w, rfl, h, h'⟩ := rel2 hv
    cases h
    cases h'
    split at p1
    · rename_i hj
      exact ⟨i, j, rfl, ⟨hj.1.1, hj.1.2, hj.2.1, hj.2.2⟩, p1.here rs1 _ walkd_rng⟩
    · exact p1.elim
  · exact p1.elim
theorem rel3 {K : PySem.W.Frag} {H : Hp} {m : List Addr} {d e f : D} {vs : List V} (h : RelL K H m [d, e, f] vs) : ∃ v w u, vs = [v, w, u] ∧ RelD K H m d v ∧ RelD K H m e w ∧ RelD K H m f u := by
  cases h with
  | cons h t =>
    obtain ⟨w, u, rfl, h2, h3⟩ := rel2 t
    exact ⟨_, w, u, rfl, h, h2, h3⟩
theorem si_rngD {tg a b d : Expr} {fa : AM} {p pos : Pos} (hg : Gl X "range") (hm : X.mg "range" = none) (ha : SA X E [a, b, d] fa) (hs : starEach [a, b, d] X.env = (false, eval a X.env) :: starEach [b, d] X.env := by rfl) (hpl : (backTo pos (starEach [b, d] X.env)).any (·.1) = false := by rfl) : SI X E tg (.Call (.Name "range" p) [a, b, d] [] pos) (Mi.iRngD fa) := by
  refine PI.mono (pi_range3 hg hm ha hs hpl) fun σ H R ⟨fr, S, m, rf, rs, p⟩ => ?_
  refine rdA_bind rf rs p fun ds S1 m1 H1 e1 rf1 rs1 p1 vs hv => ?_
  split at p1
  · rename_i i j k
    obtain ⟨v, w, u, rfl, h, h', h''⟩ := rel3 hv
    cases h
    cases h'
    cases h''
    split at p1
    · rename_i hj
      obtain ⟨h1, h2, rfl⟩ := hj
      exact ⟨i, j, -1, _, rfl, RgC.neg h1.1 h1.2 h2.1 h2.2, p1.here rs1 _ walkd_rngD⟩
    · exact p1.elim
  · exact p1.elim
theorem si_enum {e : Expr} {fe : AM} {p pos tpos : Pos} {elts : List Expr} {kk : Nat} (hg : Gl X "enumerate") (hm : X.mg "enumerate" = none) (ha : SA X E [e] fe) (hs : starEach [e] X.env = [(false, eval e X.env)] := by rfl) : SI X E (.Tuple elts kk tpos) (.Call (.Name "enumerate" p) [e] [] pos) (Mi.iEnum fe) := by
  refine PI.mono (pi_enum hg hm ha hs) fun σ H R ⟨fr, S, m, rf, rs, p⟩ => ?_
  refine rdA_bind rf rs p fun ds S1 m1 H1 e1 rf1 rs1 p1 vs hv => ?_
  split at p1
  · obtain ⟨v, rfl, h⟩ := rel1 hv
    cases h with
    | ref ha =>
      split at p1
      · rename_i l hl
        obtain ⟨xs, h1, _⟩ := rs1.lst ha hl
        exact ⟨_, xs, rfl, h1, p1.here rs1 _ (walkd_enum ha)⟩
      · exact p1.elim
  · exact p1.elim
theorem si_zip {e e2 : Expr} {fe : AM} {p pos tpos : Pos} {elts : List Expr} {kk : Nat} (hg : Gl X "zip") (hm : X.mg "zip" = none) (ha : SA X E [e, e2] fe) (hs : starEach [e, e2] X.env = (false, eval e X.env) :: starEach [e2] X.env := by rfl) (hpl : (backTo pos (starEach [e2] X.env)).any (·.1) = false := by rfl) : SI X E (.Tuple elts kk tpos) (.Call (.Name "zip" p) [e, e2] [] pos) (Mi.iZip fe) := by
  refine PI.mono (pi_zip hg hm ha hs hpl) fun σ H R ⟨fr, S, m, rf, rs, p⟩ => ?_
  refine rdA_bind rf rs p fun ds S1 m1 H1 e1 rf1 rs1 p1 vs hv => ?_
  split at p1
  · obtain ⟨v, w, rfl, h, h'⟩ := rel2 hv
    cases h with
    | ref ha =>
      cases h' with
      | ref ha' =>
        split at p1
        · rename_i l r hl hr
          obtain ⟨xs, h1, _⟩ := rs1.lst ha hl
          obtain ⟨ys, h2, _⟩ := rs1.lst ha' hr
          exact ⟨_, _, xs, ys, rfl, h1, h2, p1.here rs1 _ (walkd_zip ha ha')⟩
        · exact p1.elim
  · exact p1.elim
theorem si_rev {tg e : Expr} {fe : AM} {p pos : Pos} (hg : Gl X "reversed") (hm : X.mg "reversed" = none) (ha : SA X E [e] fe) (hs : starEach [e] X.env = [(false, eval e X.env)] := by rfl) : SI X E tg (.Call (.Name "reversed" p) [e] [] pos) (Mi.iRev fe) := by
  refine PI.mono (pi_reversed hg hm ha hs) fun σ H R ⟨fr, S, m, rf, rs, p⟩ => ?_
  refine rdA_bind rf rs p fun ds S1 m1 H1 e1 rf1 rs1 p1 vs hv => ?_
  split at p1
  · obtain ⟨v, rfl, h⟩ := rel1 hv
    cases h with
    | ref ha =>
      split at p1
      · rename_i l hl
        obtain ⟨xs, h1, h2⟩ := rs1.lst ha hl
        exact ⟨_, xs, rfl, h1, p1.here rs1 _ (by rw [← h2.len]; exact walkd_rev ha)⟩
      · exact p1.elim
  · exact p1.elim

/-! ### loops -/
theorem ss_for {tg iter : Expr} {body : List Stmt} {fi : IM} {g : GM} {b : SM} (hp : PassesOwn (model X.prog X.w) X.A X.env X.xe) (hc : X.calm = true) (hi : SI X E tg iter fi) (hg : SG X E tg g) (hb : SSs X E body b)
    (hs : ∀ x, foldedSetIterable iter X.env x = pure x := by intro _; rfl) : SS X E (.For tg iter body [] pos) (sFor fi g b) := by
  refine PS.mono (ps_for hp hc hi hg hb hs) fun D σ H ⟨fr, S, m, rf, rs, p⟩ => ?_
  refine ⟨fr, S, m, rf, rs, (post_bind p).imp fun I S1 m1 H1 e1 rs1 p1 J w => ?_⟩
  refine ⟨fun i k σ' H' => i ≤ I.items.length ∧ k = I.items.length - i ∧ ∃ fr' S' m', Ext m1 H1 m' H' ∧ RF X.K H' m' fr' σ' ∧ RS (cx X) m' S' H' ∧ Post (cx X) E m' H' (loopM I.hs (fun d fr S => (g d fr S).bind fun fr' S' => b fr' S') (I.items.drop i) fr' S') (kS (cx X) D),
    ⟨I.items.length, Nat.zero_le _, rfl, fr, S1, m1, Ext.refl _ _, rf.mono e1, rs1, p1⟩, fun i k σ' H' hw => ?_⟩
  obtain ⟨hi', hk, fr', S', m', e2, rf2, rs2, p2⟩ := hw
  by_cases hlt : i < I.items.length
  · have hd : I.items.drop i = I.items[i] :: I.items.drop (i + 1) := List.drop_eq_getElem_cons hlt
    rw [hd] at p2
    unfold loopM at p2
    split at p2
    · rename_i st
      have st := of_dec st
      refine .inr ⟨w.go i m' S' H' hlt e2 rs2 st, fun σ2 H2 => ∃ fr2 S2 m2, Ext m1 H1 m2 H2 ∧ RF X.K H2 m2 fr2 σ2 ∧ RS (cx X) m2 S2 H2 ∧ Post (cx X) E m2 H2 (loopM I.hs (fun d fr S => (g d fr S).bind fun fr' S' => b fr' S') (I.items.drop (i + 1)) fr2 S2) (kS (cx X) D),
        fun σ2 H2 q => ⟨I.items.length - (i + 1), by omega, by omega, rfl, q⟩, fun x H'' y => ?_⟩
      obtain ⟨e3, rs3, r3⟩ := w.yld i m' S' H' x H'' _ (List.getElem?_eq_getElem hlt) e2 rs2 st y
      refine ⟨_, fr', S', m', r3, rf2.mono e3, rs3, (post_bind (post_bind p2)).ext e3 |>.imp fun fr2 S2 m2 H2 e4 rs4 p4 σ2 rf4 => ?_⟩
      refine ⟨fr2, S2, m2, rf4, rs4, p4.imp fun o S3 m3 H3 e5 rs5 p5 => ?_⟩
      have ee : Ext m1 H1 m3 H3 := ((e2.trans e3).trans e4).trans e5
      cases o with
      | nx fr3 => exact fun σ3 rf5 => ⟨fr3, S3, m3, ee, rf5, rs5, p5⟩
      | ct fr3 => exact fun σ3 rf5 => ⟨fr3, S3, m3, ee, rf5, rs5, p5⟩
      | bk fr3 => exact p5.here rs5
      | rt d => exact p5.here rs5
    · exact p2.elim
  · have e : i = I.items.length := by omega
    subst e
    rw [List.drop_length] at p2
    unfold loopM at p2
    split at p2
    · rename_i st
      exact .inl ⟨w.stop m' S' H' e2 rs2 (of_dec st), p2.here rs2 σ' rf2⟩
    · exact p2.elim
theorem ss_while {t : Expr} {body : List Stmt} {ft : TM} {b : SM} (hp : PassesOwn (model X.prog X.w) X.A X.env X.xe) (ht : STt X E t ft) (hb : SSs X E body b) : SS X E (.While t body [] pos) (sWhile ft b) := by
  refine PS.mono (ps_while hp ht hb) fun D σ H ⟨fr, S, m, rf, rs, p⟩ => ?_
  unfold sWhile at p
  split at p
  · rename_i hex
    refine ⟨fun k σ' H' => ∃ fr' S' m', RF X.K H' m' fr' σ' ∧ RS (cx X) m' S' H' ∧ Post (cx X) E m' H' (whileN ft b k fr' S') (kS (cx X) D), ⟨_, fr, S, m, rf, rs, p⟩, fun k σ' H' hw => ?_⟩
    obtain ⟨fr', S', m', rf2, rs2, p2⟩ := hw
    cases k with
    | zero => exact p2.elim
    | succ k =>
      unfold whileN at p2
      refine rdT_bind rf2 rs2 p2 fun c S1 m1 H1 e1 rf1 rs1 p1 => ?_
      cases c with
      | true =>
        refine ⟨fun σ2 H2 => ∃ fr2 S2 m2, RF X.K H2 m2 fr2 σ2 ∧ RS (cx X) m2 S2 H2 ∧ Post (cx X) E m2 H2 (whileN ft b k fr2 S2) (kS (cx X) D), fun σ2 H2 q => ⟨k, Nat.lt_succ_self k, q⟩, fr', S1, m1, rf1, rs1, (post_bind p1).imp fun o S3 m3 H3 e5 rs5 p5 => ?_⟩
        cases o with
        | nx fr3 => exact fun σ3 rf5 => ⟨fr3, S3, m3, rf5, rs5, p5⟩
        | ct fr3 => exact fun σ3 rf5 => ⟨fr3, S3, m3, rf5, rs5, p5⟩
        | bk fr3 => exact p5.here rs5
        | rt d => exact p5.here rs5
      | false => exact p1.here rs1 σ' rf1
  · exact p.elim

/-! ### comprehensions -/
theorem wipe_get {σ : L2.St} : ∀ {vs : List Nat} (j : Nat), (wipe σ vs)[j]? = if j ∈ vs ∧ j < σ.length then some none else σ[j]?
  | [], j => by simp [wipe]
  | v :: vs, j => by
    unfold wipe
    by_cases e : v = j
    · subst e
      by_cases h : v < σ.length
      · rw [List.getElem?_set_self (by rw [wipe_length]; exact h), if_pos ⟨List.mem_cons_self, h⟩]
      · rw [if_neg fun z => h z.2, List.getElem?_eq_none (by rw [List.length_set, wipe_length]; omega), List.getElem?_eq_none (by omega)]
    · rw [List.getElem?_set_ne e, wipe_get j]
      by_cases h : j ∈ vs ∧ j < σ.length
      · rw [if_pos h, if_pos ⟨List.mem_cons_of_mem _ h.1, h.2⟩]
      · rw [if_neg h, if_neg fun z => h ⟨(List.mem_cons.mp z.1).resolve_left (Ne.symm e), z.2⟩]
theorem wipe_of {σ τ : L2.St} {vs : List Nat} (hl : τ.length = σ.length) (h : ∀ j, j ∉ vs → τ[j]? = (wipe σ vs)[j]?) : wipe τ vs = wipe σ vs := by
  refine List.ext_getElem? fun j => ?_
  rw [wipe_get]
  by_cases hj : j ∈ vs ∧ j < τ.length
  · rw [if_pos hj, wipe_get, if_pos ⟨hj.1, by rw [← hl]; exact hj.2⟩]
  · rw [if_neg hj]
    by_cases hv : j ∈ vs
    · have : ¬ j < τ.length := fun z => hj ⟨hv, z⟩
      rw [List.getElem?_eq_none (by omega), List.getElem?_eq_none (by rw [wipe_length]; omega)]
    · exact h j hv
/-- a target that stores nothing but at the slots vs -/
def GOnly (c : Ct) (vs : List Nat) (g : TG) (gm : GM) : Prop := ∀ (x : V) (d : D) (fr : Fr) (S : Store) (m : List Addr) (σ : L2.St) (H : Hp) (E : XK) (k : Fr → Store → List Addr → Hp → Prop) (Q : L2.St → Hp → Prop),
  RelD c.K H m d x → RF c.K H m fr (wipe σ vs) → RS c m S H → Post c E m H (gm d fr S) k → (∀ fr' σ2, RF c.K H m fr' σ2 → wipe σ2 vs = wipe σ vs → k fr' S m H → Q σ2 H) → g x (wipe σ vs) H Q
theorem gonly_name {c : Ct} {i : Nat} {vs : List Nat} (hi : i ∈ vs) : GOnly c vs (L2.gName i) (Mi.gName i) := by
  intro x d fr S m σ H E k Q r rf rs p h
  refine h _ _ (rf.set r i) (wipe_of (by rw [List.length_set, wipe_length]) fun j hj => ?_) (p.here rs)
  rw [List.getElem?_set_ne (fun e => hj (by rw [← e]; exact hi))]
theorem gonly_two {c : Ct} {i j : Nat} {vs : List Nat} (hi : i ∈ vs) (hj : j ∈ vs) : GOnly c vs (fun v σ H Q => L2.gTup c.K 2 (L2.gCons (L2.gName i) (L2.gCons (L2.gName j) L2.gNil)) v σ H Q ∨ gUnl c.K 2 (L2.gCons (L2.gName i) (L2.gCons (L2.gName j) L2.gNil)) v σ H Q) (Mi.gTup 2 (Mi.gCons (Mi.gName i) (Mi.gCons (Mi.gName j) Mi.gNil))) := by
  intro x d fr S m σ H E k Q r rf rs p h
  unfold Mi.gTup at p
  split at p
  · rename_i l hl
    split at p
    · rename_i hlen
      match l, hlen with
      | [a, b], _ =>
        obtain ⟨ad, xs, rfl, h1, h2⟩ := seq_rel rs r hl
        obtain ⟨v, w, rfl, h3, h4⟩ := rel2 h2
        have fin := h _ _ ((rf.set h3 i).set h4 j) (wipe_of (by rw [List.length_set, List.length_set, wipe_length]) fun j' hj' => by
          rw [List.getElem?_set_ne (fun e => hj' (by rw [← e]; exact hj)), List.getElem?_set_ne (fun e => hj' (by rw [← e]; exact hi))]) (p.here rs)
        rcases h1 with h1 | h1
        · exact .inr ⟨ad, _, rfl, h1, rfl, v, [w], rfl, w, [], rfl, rfl, fin⟩
        · exact .inl ⟨ad, _, rfl, h1, rfl, v, [w], rfl, w, [], rfl, rfl, fin⟩
    · exact p.elim
  · exact p.elim
theorem lc_rd {c : Ct} {vs : List Nat} {fi : IM} {g : TG} {gm : GM} {ft : TM} {fe : EM} (ho : GOnly c vs g gm) {σ : L2.St} {H : Hp} {Q : VK} (h : rdE c E (mLc vs fi gm ft fe) σ H Q) : tLc (rdI c E fi) g (rdT c EF ft) (rdE c EF fe) vs σ H Q := by
  obtain ⟨fr, S, m, rf, rs, p⟩ := h
  refine ⟨fr, S, m, rf, rs, (post_bind p).imp fun I S1 m1 H1 e1 rs1 p1 J w Dl hDl => ?_⟩
  obtain ⟨rs2, e2⟩ := rs1.push (o := .lst []) (u := .lst []) hDl ⟨[], upd_same, .nil⟩
  have hn : ∀ {m'' : List Addr} {H'' : Hp}, Ext (m1 ++ [Dl]) (upd H1 Dl (.lst [])) m'' H'' → m''[S1.length]? = some Dl := fun e => e.mx _ _ (by rw [← rs1.len, List.getElem?_append_right (Nat.le_refl _), Nat.sub_self]; rfl)
  refine ⟨fun i k H' => i ≤ I.items.length ∧ k = I.items.length - i ∧ ∃ S' m', Ext (m1 ++ [Dl]) (upd H1 Dl (.lst [])) m' H' ∧ RS c m' S' H' ∧ Post c E m' H' (lcLoop I.hs S1.length gm (fun fr S => quiet (ft fr S)) (fun fr S => quiet (fe fr S)) (unset vs fr) (I.items.drop i) S') (kE c Q),
    ⟨I.items.length, Nat.zero_le _, rfl, S1 ++ [.lst []], _, Ext.refl _ _, rs2, (show _ from by rw [List.drop_zero]; exact Post.ext p1 e2)⟩, fun i k H' hw => ?_⟩
  obtain ⟨hi', hk, S', m', e3, rs3, p3⟩ := hw
  have e13 : Ext m1 H1 m' H' := e2.trans e3
  have rfw : RF c.K H' m' (unset vs fr) (wipe σ vs) := ((rf.mono (e1.trans e13)).unset vs)
  by_cases hlt : i < I.items.length
  · have hd : I.items.drop i = I.items[i] :: I.items.drop (i + 1) := List.drop_eq_getElem_cons hlt
    rw [hd] at p3
    unfold lcLoop at p3
    split at p3
    · rename_i st
      have st := of_dec st
      refine .inr ⟨w.go i m' S' H' hlt e13 rs3 st, fun H2 => ∃ S2 m2, Ext (m1 ++ [Dl]) (upd H1 Dl (.lst [])) m2 H2 ∧ RS c m2 S2 H2 ∧ Post c E m2 H2 (lcLoop I.hs S1.length gm (fun fr S => quiet (ft fr S)) (fun fr S => quiet (fe fr S)) (unset vs fr) (I.items.drop (i + 1)) S2) (kE c Q),
        fun H2 q => ⟨I.items.length - (i + 1), by omega, by omega, rfl, q⟩, fun x H'' y => ?_⟩
      obtain ⟨e4, rs4, r4⟩ := w.yld i m' S' H' x H'' _ (List.getElem?_eq_getElem hlt) e13 rs3 st y
      refine ho x _ (unset vs fr) S' m' σ H'' E _ _ r4 (rfw.mono e4) rs4 ((post_bind p3).ext e4) fun fr2 σ2 rf2 hw2 p5 => ⟨hw2, ?_⟩
      refine ⟨fr2, S', m', rf2, rs4, (post_quiet (post_bind p5)).imp fun b S6 m6 H6 e6 rs6 p6 => ?_⟩
      have e36 : Ext (m1 ++ [Dl]) (upd H1 Dl (.lst [])) m6 H6 := (e3.trans e4).trans e6
      cases b with
      | true =>
        refine ⟨fr2, S6, m6, rf2.mono e6, rs6, (post_quiet (post_bind p6)).imp fun z S7 m7 H7 e7 rs7 p7 zv hz => ?_⟩
        have e37 := e36.trans e7
        split at p7
        · rename_i acc hacc
          obtain ⟨ys, h1, h2⟩ := rs7.mlst (hn e37) hacc
          split at p7
          · rename_i hl
            obtain ⟨rs8, e8⟩ := rs7.set (o' := .lst (acc ++ [z])) (u := .lst (ys ++ [zv])) (hn e37) hacc trivial trivial fun e => ⟨_, upd_same, (h2.mono e).app (.one (hz.mono e))⟩
            exact ⟨ys, h1, by rw [← h2.len, line_eq]; exact hl, _, m7, e37.trans e8, rs8, p7.ext e8⟩
          · exact p7.elim
        · exact p7.elim
      | false => exact ⟨S6, m6, e36, rs6, p6⟩
    · exact p3.elim
  · have e : i = I.items.length := by omega
    subst e
    rw [List.drop_length] at p3
    unfold lcLoop at p3
    split at p3
    · rename_i st
      exact .inl ⟨w.stop m' S' H' e13 rs3 (of_dec st), p3.here rs3 _ (.ref (hn e3))⟩
    · exact p3.elim
/-- a context of a comprehension's block -/
abbrev Blk (X : Cx) (scope : Scope) (P : Cx → Prop) : Prop := ∀ (s : Shared) (H : Hp) (C : Addr) (cl : List (Str × Addr)) (fp : List Addr), P (X.blk s H scope (compEnvC scope cl C X.env) fp)
theorem sts_nil {X : Cx} : PTs X [] (rdT (cx X) EF Mi.tYes) := ⟨fun pins s σ H Q I ⟨fr, S, m, rf, rs, p⟩ => pts_nil.run pins s σ H Q I (p.here rs)⟩
theorem sts_one {X : Cx} {t : Expr} {ft : TM} (h : STt X EF t ft) : PTs X [t] (rdT (cx X) EF ft) := pts_one h
theorem se_lc {elt tg iter : Expr} {ifs : List Expr} {scope : Scope} {own : List (Str × Nat)} {fi : IM} {g : TG} {gm : GM} {ft : TM} {fe : EM} (hc : X.calm = true) (hN : X.N.Nodup) (hi : SI X E tg iter fi) (ok : BlkOk X.N X.env.scope scope own) (ho : GOnly (cx X) (own.map (·.2)) g gm)
    (hg : Blk X scope fun Y => PG Y tg g) (ht : Blk X scope fun Y => PTs Y ifs (rdT (cx X) EF ft)) (he : Blk X scope fun Y => PE Y elt (rdE (cx X) EF fe)) (hs : ∀ x, foldedSetIterable iter X.env x = pure x := by intro _; rfl) : SE X E (.ListComp elt [⟨tg, iter, ifs, 0⟩] scope pos) (mLc (own.map (·.2)) fi gm ft fe) :=
  PE.mono (pe_lc hc hN hi ok hg ht he hs) fun σ H Q h => lc_rd ho h
theorem ss_setLc {i : Nat} {y : Str} {py spos : Pos} {elt tg iter : Expr} {ifs : List Expr} {scope : Scope} {own : List (Str × Nat)} {fi : IM} {g : TG} {gm : GM} {ft : TM} {fe : EM} (hc : X.calm = true) (hN : X.N.Nodup) (hy : X.N[i]? = some y) (hyl : X.env.scope.names.lookup y = some .local)
    (hsw : swapsWith (.ListComp elt [⟨tg, iter, ifs, 0⟩] scope pos) (some (.Name y py)) spos.line X.env = pure true) (hi : SI X E tg iter fi) (ok : BlkOk X.N X.env.scope scope own) (ho : GOnly (cx X) (own.map (·.2)) g gm)
    (hg : Blk X scope fun Y => PG Y tg g) (ht : Blk X scope fun Y => PTs Y ifs (rdT (cx X) EF ft)) (he : Blk X scope fun Y => PE Y elt (rdE (cx X) EF fe)) (hs : ∀ x, foldedSetIterable iter X.env x = pure x := by intro _; rfl) : SS X E (.Assign [.Name y py] (.ListComp elt [⟨tg, iter, ifs, 0⟩] scope pos) spos) (sAsg (mLc (own.map (·.2)) fi gm ft fe) (Mi.gName i)) := by
  refine PS.mono (ps_setLc hc hN hy hyl hsw hi ok hg ht he hs) fun D σ H ⟨fr, S, m, rf, rs, p⟩ => ?_
  refine lc_rd ho (rd_bind rf rs p fun x S1 m1 H1 e1 rf1 rs1 p1 v hv => ?_)
  exact (post_bind p1).here rs1 |>.here rs1 _ (rf1.set hv i)
end

/-! ### a def -/
theorem start_rel {c : Ct} {H : Hp} {m : List Addr} {N : List Str} {ds : List D} {vs : List V} (r : RelL c.K H m ds vs) : RF c.K H m (startF N.length ds) (L2.start N vs) := by
  unfold startF L2.start
  have hl := r.len
  refine ⟨by rw [List.length_append, List.length_append, List.length_map, List.length_map, List.length_replicate, List.length_replicate, hl], fun i d e => ?_⟩
  by_cases h : i < ds.length
  · rw [List.getElem?_append_left (by rw [List.length_map]; exact h), List.getElem?_map] at e
    obtain ⟨d', h1, h2⟩ := Option.map_eq_some_iff.mp e
    cases h2
    obtain ⟨v, h3, h4⟩ := r.ix h1
    exact ⟨v, by rw [List.getElem?_append_left (by rw [List.length_map, ← hl]; exact h), List.getElem?_map, h3]; rfl, h4⟩
  · rw [List.getElem?_append_right (by rw [List.length_map]; omega)] at e
    obtain ⟨h1, h2⟩ := List.getElem?_eq_some_iff.mp e
    rw [List.getElem_replicate] at h2
    cases h2
section
variable {P : Program} {w : World} {K : PySem.W.Frag} {mg : Str → Option Value} {base : Heap}
theorem fn_ok {x qual : Str} {st : Stmt} {f : Addr} {fd : FuncData} {N ps : List Str} {k : Nat} {b : SM} (F : Fun K x qual st f fd) (S : FnScope N ps (defScope st))
    (hb : ∀ (cdv : Value) (A : Around) (outer : List Env) (s : Shared) (H : Hp) (E : XK), Room k (A.deeper (envOfC qual (defScope st) s.heap.objs.size f cdv)) → SSs (cxOf CX0 P w K mg base N qual (defScope st) f cdv A outer s H E).nox EF (defBody st) b) :
    FnOk P w K mg base CX0 (k + 1) f fd ps (spM ⟨K, mg⟩ (mDef ps.length N.length b)) := by
  refine F.ok S (fun vs H Q E h => ?_) (fun cdv A outer s H vs Q E hr h => ?_)
  · obtain ⟨ds, S', m, r, rs, p⟩ := h
    have p := post_quiet (E' := E) p
    unfold mDefX at p
    split at p
    · rename_i hl
      rw [← r.len]; exact hl
    · exact p.elim
  · obtain ⟨ds, S', m, r, rs, p⟩ := h
    have p := post_quiet (E' := EF) p
    unfold mDefX at p
    split at p
    · refine ⟨_, hb cdv A outer s H E hr, startF N.length ds, S', m, start_rel (c := ⟨K, mg⟩) r, rs, (post_bind p).imp fun o S1 m1 H1 e1 rs1 p1 => ?_⟩
      cases o with
      | nx fr => exact fun σ rf => p1.here rs1 _ .non
      | rt d => exact fun v hv => p1.here rs1 v hv
      | bk fr => exact p1.elim
      | ct fr => exact p1.elim
    · exact p.elim
end
end Sm

set_option Elab.async false
set_option linter.all false
set_option maxRecDepth 100000
set_option maxHeartbeats 2000000
/-! readings by the small language: texts, a few words more -/
namespace Sm
open PySem PySem.Spec PyProof.Rows L2 Mi
theorem hu65 {A : Around} {k : Nat} (hr : Room k A) : A.units + 65 < cLine := by
  have := hr.un
  omega
section
variable {X : Cx} {E : XK}
theorem txs_rel {K : PySem.W.Frag} {H : Hp} {m : List Addr} : ∀ {l : List D} {xs : List V} {ns : List Tx}, RelL K H m l xs → txsOf l = some ns → xs = (ns.map sOf).map V.str
  | _, _, _, .nil, e => by simp only [txsOf, Option.some.injEq] at e; subst e; rfl
  | _, _, ns, .cons (d := d) h t, e => by
    cases h <;> simp only [txsOf, reduceCtorEq] at e
    obtain ⟨r, e1, e2⟩ := Option.map_eq_some_iff.mp e
    subst e2
    rw [List.map_cons, List.map_cons, ← txs_rel t e1]
theorem tl_sOf (a : Tx) : TL.tl (sOf a) = a := by
  show a.toArray.toList = a
  simp
theorem joinL_T (a : Tx) : ∀ ys : List Tx, TL.joinL a ys = joinT a ys
  | [] => rfl
  | [_] => rfl
  | x :: y :: r => by
    show x ++ (a ++ TL.joinL a (y :: r)) = x ++ a ++ joinT a (y :: r)
    rw [joinL_T a (y :: r), List.append_assoc]
theorem join_sOf (a : Tx) (ys : List Tx) : Txt.join (sOf a) (ys.map sOf) = sOf (joinT a ys) := by
  have h : TL.tl (Txt.join (sOf a) (ys.map sOf)) = joinT a ys := by
    rw [TL.join_eq, TL.tl_join, tl_sOf, List.map_map, show TL.tl ∘ sOf = id from funext tl_sOf, List.map_id, joinL_T]
  have e : Txt.join (sOf a) (ys.map sOf) = sOf (TL.tl (Txt.join (sOf a) (ys.map sOf))) := by
    show _ = Str.mk _
    simp [TL.tl]
  rw [e, h]
theorem mm_join : MtMm X E "str.join" sJoin := by
  refine ⟨_, mt_join, fun x ds v vs S m H Q rs hv hvs p => ?_⟩
  unfold sJoin at p
  cases hv with
  | str a =>
    dsimp only at p
    split at p
    · rename_i d
      obtain ⟨w, rfl, hw⟩ := rel1 hvs
      split at p
      · rename_i ys hys
        split at p
        · rename_i hl
          obtain ⟨l, h1, h2⟩ := Option.bind_eq_some_iff.mp hys
          obtain ⟨ad, xs, rfl, h3, h4⟩ := seq_rel rs hw h1
          have e := txs_rel h4 h2
          subst e
          refine ⟨sOf a, ad, ys.map sOf, rfl, rfl, h3, ?_, ?_⟩
          · have e1 : ((ys.map sOf).map (·.length)) = ys.map List.length := by
              rw [List.map_map]
              exact List.map_congr_left fun y _ => sOf_len y
            rw [e1, List.length_map, sOf_len]
            exact hl
          · rw [join_sOf]
            exact p.here rs _ (.str _)
        · exact p.elim
      · exact p.elim
    · exact p.elim
  | _ => exact p.elim
theorem mm_sindex : MtMm X E "str.index" sIndex := by
  refine ⟨_, mt_sindex, fun x ds v vs S m H Q rs hv hvs p => ?_⟩
  unfold sIndex at p
  cases hv with
  | str a =>
    dsimp only at p
    split at p
    · rename_i b
      obtain ⟨w, rfl, hw⟩ := rel1 hvs
      cases hw
      split at p
      · rename_i i r hr
        exact ⟨sOf a, sOf b, i, r, rfl, rfl, hr, post_int rs p⟩
      · exact p.elim
    · exact p.elim
  | _ => exact p.elim
/-- reversed(range(n)) -/
theorem si_revrng {tg a : Expr} {fa : EM} {p p2 pos pos2 : Pos} (hg : Gl X "reversed") (hm : X.mg "reversed" = none) (hg2 : Gl X "range") (hm2 : X.mg "range" = none) (ha : SE X E a fa)
    (na : starEach [a] X.env = (false, eval a X.env) :: starEach [] X.env := by rfl) (hs : starEach [.Call (.Name "range" p2) [a] [] pos2] X.env = (false, eval (.Call (.Name "range" p2) [a] [] pos2) X.env) :: starEach [] X.env := by rfl) :
    SI X E tg (.Call (.Name "reversed" p) [.Call (.Name "range" p2) [a] [] pos2] [] pos) (iRevR fa) := by
  refine PI.mono (pi_revR hg hm (prg_1 hg2 hm2 ha na) hs) fun σ H R ⟨fr, S, m, rf, rs, p⟩ => ?_
  refine rd_bind rf rs p fun x S1 m1 H1 e1 rf1 rs1 p1 v hv => ?_
  cases hv with
  | int j =>
    dsimp only at p1
    split at p1
    · rename_i hj
      refine ⟨j, rfl, by decide, by decide, hj.1, hj.2, ?_⟩
      have q := p1.here rs1 (Itc (0 + (((j - 0).toNat : Nat) : Int) - 1) (-1) (j - 0).toNat)
      refine q ?_
      rw [Int.sub_zero, Int.zero_add]
      exact walkd_rngD
    · exact p1.elim
  | _ => exact p1.elim
end
end Sm
namespace Sm
open PySem PySem.Spec PyProof.Rows L2 Mi
/-- the law's own promise: on the script it answers True -/
def spLaw (K : PySem.W.Frag) : Sp := fun vs H Q _ => ∃ (a : Addr) (ns : List Int), vs = [.ref a] ∧ SqL K H a (ns.map V.int) ∧ Only H ∧ ns.length ≤ 63 ∧ ∀ H', Q (.bl true) H'
theorem rel_ints {K : PySem.W.Frag} {H : Hp} {m : List Addr} : ∀ ns : List Int, RelL K H m (ns.map D.int) (ns.map V.int)
  | [] => .nil
  | n :: ns => .cons (.int n) (rel_ints ns)
theorem law_sp {K : PySem.W.Frag} {mg : Str → Option Value} {g : Fn} (pure : ∀ ns : List Int, ns.length ≤ 63 → ∃ S, g [.ref 0] [.fls (ns.map D.int)] = .ok (.bl true) S) :
    ∀ (vs : List V) (H : Hp) (Q : VK) (E : XK), spLaw K vs H Q E → spM ⟨K, mg⟩ g vs H Q E := by
  intro vs H Q E h
  obtain ⟨a, ns, rfl, hS, hO, hl, q⟩ := h
  obtain ⟨S, e⟩ := pure ns hl
  refine ⟨[.ref 0], [.fls (ns.map D.int)], [a], .cons (.ref rfl) .nil, ⟨rfl, fun n b o h1 h2 => ?_, fun n n' b o o' h1 h2 h3 h4 l1 l2 => ?_⟩, ?_⟩
  · cases n with
    | succ n => cases h1
    | zero =>
      cases h1
      cases h2
      refine ⟨ns.map V.int, ?_, rel_ints ns⟩
      rcases hS with (h | ⟨ob, h⟩) | h
      · rcases hO a with z | ⟨ob, xs, z⟩
        · rw [z] at h; cases h
        · rw [z] at h; cases h
      · exact .inl ⟨ob, h⟩
      · exact .inr (.inr h)
  · cases n with
    | succ n => cases h1
    | zero => cases h3; exact l1.elim
  · rw [e]
    intro m' H' _ _ v hv
    cases hv
    exact q H'
end Sm

set_option Elab.async false
set_option linter.all false
set_option maxRecDepth 100000
set_option maxHeartbeats 2000000
/-! more steps against the layer -/
namespace Sm
open PySem PySem.Spec PyProof.Rows L2 Mi
section
variable {X : Cx} {E : XK} {pos : Pos}
/-! ### a dict written with its pairs -/
def trP (c : Ct) (E : XK) (ps : List (EM × EM)) : List (TE × TE) := ps.map fun p => (rdE c E p.1, rdE c E p.2)
structure RelP (K : PySem.W.Frag) (H : Hp) (m : List Addr) (p : D × D) (q : V × V) : Prop where
  fst : RelD K H m p.1 q.1
  snd : RelD K H m p.2 q.2
theorem rdPs_bind {c : Ct} {α : Type} : ∀ (ps : List (EM × EM)) {fr : Fr} {S : Store} {m : List Addr} {σ : L2.St} {H : Hp} {Q : List (V × V) → Hp → Prop} {h : List (D × D) → Store → Res α} {kk : α → Store → List Addr → Hp → Prop},
    RF c.K H m fr σ → RS c m S H → Post c E m H ((mPairs ps fr S).bind h) kk →
    (∀ d S1 m1 H1, Ext m H m1 H1 → RF c.K H1 m1 fr σ → RS c m1 S1 H1 → Post c E m1 H1 (h d S1) kk → ∀ v, Paired (RelP c.K H1 m1) d v → Q v H1) → tPairs (trP c E ps) σ H Q
  | [], fr, S, m, σ, H, Q, h, kk, rf, rs, p, n => n [] S m H (Ext.refl m H) rf rs p [] .nil
  | (a, b) :: r, fr, S, m, σ, H, Q, h, kk, rf, rs, p, n => by
    have p' : Post c E m H ((a fr S).bind fun x S1 => (b fr S1).bind fun y S2 => (mPairs r fr S2).bind fun ps S3 => h ((x, y) :: ps) S3) kk := by
      have e : (mPairs ((a, b) :: r) fr S).bind h = (a fr S).bind fun x S1 => (b fr S1).bind fun y S2 => (mPairs r fr S2).bind fun ps S3 => h ((x, y) :: ps) S3 := by
        show ((a fr S).bind fun x S1 => (b fr S1).bind fun y S2 => (mPairs r fr S2).bind fun ps S3 => .ok ((x, y) :: ps) S3).bind h = _
        rw [Res.bind_assoc]
        congr 1; funext x S1
        rw [Res.bind_assoc]
        congr 1; funext y S2
        rw [Res.bind_assoc]
        rfl
      rw [← e]; exact p
    refine rd_bind rf rs p' fun x S1 m1 H1 e1 rf1 rs1 p1 v hv => ?_
    refine rd_bind rf1 rs1 p1 fun y S2 m2 H2 e2 rf2 rs2 p2 w hw => ?_
    refine rdPs_bind r rf2 rs2 p2 fun d S3 m3 H3 e3 rf3 rs3 p3 vs hvs => ?_
    exact n _ S3 m3 H3 (e1.trans (e2.trans e3)) rf3 rs3 p3 _ (.cons ⟨hv.mono (e2.trans e3), hw.mono e3⟩ hvs)
theorem kvs_of {K : PySem.W.Frag} {H : Hp} {m : List Addr} : ∀ {ps : List (D × D)} {vs : List (V × V)} {kvs : List (Ky × D)}, Paired (RelP K H m) ps vs → kvsM ps = some kvs → ∃ kws : List (Key × V), vs = kws.map (fun kv => (kV kv.1, kv.2)) ∧ Paired (fun a b => b.1 = kyK a.1 ∧ RelD K H m a.2 b.2) kvs kws
  | [], _, kvs, .nil, e => by
    obtain rfl := Option.some.inj e
    exact ⟨[], rfl, .nil⟩
  | (k, v) :: r, _, kvs, .cons hp ht, e => by
    unfold kvsM at e
    cases hk : kyOf k with
    | none => rw [hk] at e; cases e
    | some q =>
      rw [hk, Option.bind_some] at e
      obtain ⟨l, e1, rfl⟩ := Option.map_eq_some_iff.mp e
      obtain ⟨kws, rfl, rk⟩ := kvs_of ht e1
      have hk2 := ky_of hp.fst hk
      rename_i qv
      refine ⟨(kyK q, qv.2) :: kws, ?_, .cons ⟨rfl, hp.snd⟩ rk⟩
      rw [List.map_cons]
      congr 1
      show qv = (kV (kyK q), qv.2)
      rw [← hk2]
theorem merge_rel {K : PySem.W.Frag} {H : Hp} {m : List Addr} : ∀ {kvs : List (Ky × D)} {kws : List (Key × V)} {acc : List (Ky × D)} {acw : List (Key × V)}, Paired (fun a b => b.1 = kyK a.1 ∧ RelD K H m a.2 b.2) kvs kws → RelK K H m kyK acc acw → RelK K H m kyK (kvs.foldl (fun acc kv => dPut acc kv.1 kv.2) acc) (mergeK acw kws)
  | [], _, _, _, .nil, r => r
  | kv :: l, _, acc, acw, .cons (b := b) h t, r => by
    have q := RelK.put (fun _ _ => kyK_inj) r kv.1 h.2
    rw [← h.1] at q
    have z := merge_rel (kvs := l) t q
    exact z
theorem se_dis {keys : List (Option Expr)} {values : List Expr} {ps : List (EM × EM)} (h : PPs X pos keys values (trP (cx X) E ps)) (hall : keys.all (·.isSome) = true) (hl : keys.length = values.length) (h0 : keys ≠ []) (h15 : keys.length ≤ 15) : SE X E (.Dict keys values pos) (mDis ps) := by
  refine PE.mono (pe_disp h hall hl h0 h15) fun σ H Q ⟨fr, S, m, rf, rs, p⟩ a ha => ?_
  obtain ⟨rs0, e0⟩ := rs.push (o := .dK []) (u := .dK []) ha ⟨[], upd_same, .nil⟩
  refine rdPs_bind ps (rf.mono e0) rs0 (p.ext e0) fun d S1 m1 H1 e1 rf1 rs1 p1 vs hvs => ?_
  have hm : m1[S.length]? = some a := e1.mx _ _ (by rw [← rs.len, List.getElem?_append_right (Nat.le_refl _), Nat.sub_self]; rfl)
  unfold disK at p1
  split at p1
  · rename_i _ _ kvs hk hs
    split at p1
    · rename_i h15'
      obtain ⟨kw, h1, h2⟩ := rs1.ob _ a _ hm hs
      cases h2
      obtain ⟨kws, rfl, rk⟩ := kvs_of hvs hk
      obtain ⟨rs2, e2⟩ := rs1.set (o' := .dK (putM kvs)) (u := .dK (mergeK [] kws)) hm hs trivial trivial fun e => ⟨_, upd_same, RelK.mono e (merge_rel rk .nil)⟩
      refine ⟨h1, kws, rfl, by rw [← Paired.length rk]; exact h15', ?_⟩
      exact p1 _ _ e2 rs2 _ (.ref hm)
    · exact p1.elim
  · exact p1.elim
theorem sps_nil : PPs X pos [] [] (trP (cx X) E []) := pps_nil
theorem sps_cons {k v : Expr} {ks : List (Option Expr)} {vs : List Expr} {a b : EM} {r : List (EM × EM)} (hk : SE X E k a) (hv : SE X E v b) (hr : PPs X pos ks vs (trP (cx X) E r)) : PPs X pos (some k :: ks) (v :: vs) (trP (cx X) E ((a, b) :: r)) := pps_cons hk hv hr
end
end Sm

set_option Elab.async false
set_option linter.all false
set_option maxRecDepth 100000
set_option maxHeartbeats 2000000
/-! texts against the layer -/
namespace Sm
open PySem PySem.Spec PyProof.Rows L2 Mi
section
variable {X : Cx} {E : XK} {pos : Pos}
theorem spl_C (c : Nat) : ∀ (l acc : Tx), TL.spl [c] 0 acc l = spC c acc l
  | [], acc => TL.spl_nil _ _ _
  | d :: r, acc => by
    by_cases h : d = c
    · subst h
      rw [TL.spl_hit (by simp [TL.pre]), spC, if_pos rfl]
      exact congrArg _ (spl_C d r [])
    · rw [TL.spl_miss (by simp [TL.pre, h]), spC, if_neg h]
      exact spl_C c r _
theorem par_C (c : Nat) : ∀ (l acc : Tx), TL.par [c] acc l = paC c acc l
  | [], acc => rfl
  | d :: r, acc => by
    by_cases h : d = c
    · subst h
      rw [TL.par_hit (by simp [TL.pre]), paC, if_pos rfl]
      rfl
    · rw [TL.par_miss (by simp [TL.pre, h]), paC, if_neg h]
      exact par_C c r _
theorem tl_s (a : Tx) : TL.tl (sOf a) = a := by simp [TL.tl, sOf]
theorem split_C (a : Tx) (c : Nat) (hc : c < 256) : Txt.split (sOf a) (sOf [c]) = (spC c [] a).map sOf := by
  refine TL.map_tl_inj ?_
  rw [TL.split_spl _ _ (by rw [tl_s]; simp) (TL.kind_ok (by simp [sOf, hc])), tl_s, tl_s, spl_C, List.map_map, show TL.tl ∘ sOf = id from funext tl_s, List.map_id]
theorem strs_rel {K : PySem.W.Frag} {H : Hp} {m : List Addr} : ∀ ys : List Tx, RelL K H m (ys.map D.str) ((ys.map sOf).map V.str)
  | [] => .nil
  | y :: ys => .cons (.str y) (strs_rel ys)
theorem mm_split : MtMm X E "str.split" sSplit := by
  refine ⟨_, mt_split, fun x ds v vs S m H Q rs hv hvs p => ?_⟩
  unfold sSplit at p
  cases hv with
  | str a =>
    dsimp only at p
    split at p
    · rename_i c
      obtain ⟨w, rfl, hw⟩ := rel1 hvs
      cases hw
      split at p
      · rename_i hc
        refine ⟨sOf a, sOf [c], rfl, rfl, rfl, by rw [sOf_len, line_eq]; exact hc.2, ?_⟩
        intro ad hp
        rw [split_C a c hc.1]
        exact post_new rs p hp fun e => ⟨_, upd_same, strs_rel _⟩
      · exact p.elim
    · exact p.elim
  | _ => exact p.elim
theorem mm_partition : MtMm X E "str.partition" sPartition := by
  refine ⟨_, mt_partition, fun x ds v vs S m H Q rs hv hvs p => ?_⟩
  unfold sPartition at p
  cases hv with
  | str a =>
    dsimp only at p
    split at p
    · rename_i c
      obtain ⟨w, rfl, hw⟩ := rel1 hvs
      cases hw
      split at p
      · rename_i hl
        refine ⟨sOf a, sOf [c], rfl, rfl, rfl, by rw [sOf_len, line_eq]; exact hl, ?_⟩
        intro ad hp
        have e := TL.partition_par (sOf a) (sOf [c]) (by rw [tl_s]; simp)
        rw [tl_s, tl_s, par_C] at e
        rw [e]
        split at p
        · rename_i x y hx
          rw [hx]
          exact post_tup rs p hp (.cons (.str _) (.cons (.str _) (.cons (.str _) .nil)))
        · rename_i hx
          rw [hx]
          exact post_tup rs p hp (.cons (.str _) (.cons (.str _) (.cons (.str _) .nil)))
      · exact p.elim
    · exact p.elim
  | _ => exact p.elim
theorem num_s {i : Int} (h : 0 ≤ i) : (Str.ofString (toString i)) = sOf (numT i.toNat) := by
  refine TL.ext_tl ?_
  rw [tl_s]
  have := TL.tl_num i.toNat
  rw [Int.toNat_of_nonneg h] at this
  exact this
theorem post_str {c : Ct} {m : List Addr} {H : Hp} {S : Store} {Q : VK} {i : Tx} (rs : RS c m S H) (p : Post c E m H (.ok (.str i) S) (kE c Q)) : Q (.str (sOf i)) H := p.here rs _ (.str i)
theorem cm_str : CallM X E (.type "str") bStr := by
  refine ⟨_, callr_or call_str_int SkE.call_str_str, fun ds vs S m H Q rs hv p => ?_⟩
  unfold bStr at p
  split at p
  · rename_i i
    obtain ⟨v, rfl, h⟩ := rel1 hv
    cases h
    split at p
    · rename_i hi
      refine .inl ⟨i, rfl, hi.2, ?_⟩
      rw [num_s hi.1]
      exact post_str rs p
    · exact p.elim
  · rename_i s
    obtain ⟨v, rfl, h⟩ := rel1 hv
    cases h
    exact .inr ⟨sOf s, rfl, post_str rs p⟩
  · exact p.elim
theorem cm_intS : CallM X E (.type "int") bIntS := by
  refine ⟨_, call_int_str, fun ds vs S m H Q rs hv p => ?_⟩
  unfold bIntS at p
  split at p
  · rename_i s
    obtain ⟨v, rfl, h⟩ := rel1 hv
    cases h
    split at p
    · rename_i hs
      refine ⟨sOf s, (digV s : Nat), rfl, ?_, by rw [sOf_len]; exact hs.2.2, post_int rs p⟩
      have e : (sOf s).cps.toList = s := by simp [sOf]
      have q := intText_digits (x := sOf s) (by
        rw [e]
        intro c hc
        have := List.all_eq_true.mp hs.1 c hc
        simpa [isDig] using this) (by rw [e]; exact hs.2.1) (by rw [sOf_len]; have := hs.2.2; omega)
      rw [e] at q
      exact q
    · exact p.elim
  · exact p.elim
/-! ### a text so often -/
theorem mul_S (a : Tx) (n : Nat) : Txt.mul (sOf a) (n : Int) = sOf (List.replicate n a).flatten := by
  refine TL.ext_tl ?_
  rw [tl_s]
  unfold Txt.mul
  have fold : ∀ (k : Nat) (acc : Array Nat), ((List.replicate k (sOf a).cps).foldl (· ++ ·) acc).toList = acc.toList ++ (List.replicate k a).flatten := by
    intro k
    induction k with
    | zero => intro acc; simp
    | succ k ih =>
      intro acc
      rw [List.replicate_succ, List.foldl_cons, ih, List.replicate_succ, List.flatten_cons, Array.toList_append]
      simp [sOf]
  by_cases h0 : n = 0
  · subst h0
    rw [if_pos (by decide)]
    rfl
  · rw [if_neg (by omega)]
    split
    · rename_i h
      simp only [Bool.or_eq_true, beq_iff_eq] at h
      rcases h with h | h
      · have : n = 1 := by omega
        subst this
        rw [tl_s]; simp
      · have : a = [] := by rw [sOf_len] at h; exact List.length_eq_zero_iff.mp h
        subst this
        rw [tl_s]
        simp
    · show ((List.replicate (n : Int).toNat (sOf a).cps).foldl (· ++ ·) #[]).toList = _
      rw [Int.toNat_natCast, fold]
      simp
def rMulS : R2 := fun x y H Q => ∃ (a : Str) (k : Int), x = .str a ∧ y = .int k ∧ a.length ≤ 16 ∧ 0 ≤ k ∧ k ≤ ((1048576 : Nat) : Int) ∧ Q (.str (Txt.mul a k)) H
theorem op_mulS : OpR X (binaryOp .Mult) rMulS := by
  intro pins s σ H x y v u Q I rx ry q
  obtain ⟨a, k, rfl, rfl, h1, h2, h3, q⟩ := q
  obtain ⟨t, rfl⟩ := rx
  obtain ⟨t', rfl⟩ := ry
  exact PySem.W.KXi.mul rfl h1 (by omega) h3 fun t' k' _ _ => ⟨.str (Txt.mul a k), H, I.tok _, ⟨_, rfl⟩, q⟩
theorem om_mulS : OpM X E (binaryOp .Mult) oMulS := by
  refine ⟨_, op_mulS, fun x y v u S m H Q rs hv hw p => ?_⟩
  cases hv with
  | str a => cases hw with
    | int k =>
      unfold oMulS at p
      dsimp only at p
      split at p
      · rename_i h
        refine ⟨sOf a, k, rfl, rfl, by rw [sOf_len]; exact h.1, h.2.1, h.2.2, ?_⟩
        have e := mul_S a k.toNat
        rw [Int.toNat_of_nonneg h.2.1] at e
        rw [e]
        exact post_str rs p
      · exact p.elim
    | _ => exact p.elim
  | _ => exact p.elim
/-! ### f-strings -/
theorem se_fmt {e : Expr} {f : EM} (h : SE X E e f) : SE X E (.FormattedValue e (-1) none pos) (mUn fmtD f) := by
  refine PE.mono (pe_fmt h) fun σ H Q ⟨fr, S, m, rf, rs, p⟩ => ?_
  refine rd_bind rf rs p fun x S1 m1 H1 e1 rf1 rs1 p1 v hv => ?_
  unfold fmtD at p1
  cases hv with
  | str s =>
    dsimp only at p1
    split at p1
    · rename_i hl
      exact .inl ⟨sOf s, rfl, by rw [sOf_len, line_eq]; exact hl, post_str rs1 p1⟩
    · exact p1.elim
  | int i =>
    dsimp only at p1
    split at p1
    · rename_i hi
      refine .inr ⟨i, rfl, hi.2, ?_⟩
      rw [num_s hi.1]
      exact post_str rs1 p1
    · exact p1.elim
  | _ => exact p1.elim
def trJ (c : Ct) (E : XK) (l : List EM) : List TE := l.map fun f => rdE c E f
theorem app_sOf (a b : Tx) : sOf a ++ sOf b = sOf (a ++ b) := by
  refine TL.ext_tl ?_
  rw [TL.tl_append, tl_s, tl_s, tl_s]
theorem rdJ {c : Ct} : ∀ (l : List EM) (acc : Tx) {fr : Fr} {S : Store} {m : List Addr} {σ : L2.St} {H : Hp} {Q : VK},
    RF c.K H m fr σ → RS c m S H → Post c E m H (mJs l acc fr S) (kE c Q) → tJs (trJ c E l) (sOf acc) σ H fun out H1 => Q (.str out) H1
  | [], acc, fr, S, m, σ, H, Q, rf, rs, p => post_str rs p
  | f :: r, acc, fr, S, m, σ, H, Q, rf, rs, p => by
    refine rd_bind rf rs p fun x S1 m1 H1 e1 rf1 rs1 p1 v hv => ?_
    cases hv with
    | str s =>
      dsimp only at p1
      split at p1
      · rename_i hl
        refine ⟨sOf s, rfl, by rw [app_sOf, sOf_len, line_eq]; exact hl, ?_⟩
        rw [app_sOf]
        exact rdJ r (acc ++ s) rf1 rs1 p1
      · exact p1.elim
    | _ => exact p1.elim
theorem se_fst {v1 v2 : Expr} {rest : List Expr} {l : List EM} (h : PJ X (v1 :: v2 :: rest) (trJ (cx X) E l)) : SE X E (.JoinedStr (v1 :: v2 :: rest) pos) (mFst l) := by
  refine PE.mono (pe_joined h) fun σ H Q ⟨fr, S, m, rf, rs, p⟩ => ?_
  exact rdJ (c := cx X) l [] rf rs p
theorem sj_nil : PJ X [] (trJ (cx X) E []) := .nil
theorem sj_cons {e : Expr} {f : EM} {es : List Expr} {l : List EM} (h : SE X E e f) (r : PJ X es (trJ (cx X) E l)) : PJ X (e :: es) (trJ (cx X) E (f :: l)) := .cons h r
end
end Sm

set_option Elab.async false
set_option linter.all false
set_option maxRecDepth 100000
set_option maxHeartbeats 2000000
/-! == of a dict and a text; upper -/
namespace Sm
open PySem PySem.Spec PyProof.Rows L2 Mi
theorem dict_eq_declines_text (l : Addr) (o : Obj) (es : _) (ep : _) (hd : o.data = .dict es ep) (hc : o.cls = .type "dict") (b : Str) (u : Tok) :
    Meets (Builtin.«dict.__eq__» ⟨[.ref l, .str b u], []⟩) (fun _ R s => s.heap.get? l = some o ∧ R (.ok (.ret .notImplemented)) s) :=
  .of_wp fun prog w A R s h => by
    obtain ⟨hp, g, d, tk, os⟩ := s
    obtain ⟨hl, h⟩ := h
    have f1 := F.sub_str_dict
    obtain ⟨cls, dd, data, sl⟩ := o
    simp only at hd hc
    subst hd hc
    wp_walk using wpAny_loadPart' hl
    exact ⟨_, rfl, h⟩
theorem text_eq_declines_dict (b : Str) (u : Tok) (l : Addr) (o : Obj) (es : _) (ep : _) (hd : o.data = .dict es ep) :
    Meets (Builtin.«str.__eq__» ⟨[.str b u, .ref l], []⟩) (fun _ R s => s.heap.get? l = some o ∧ R (.ok (.ret .notImplemented)) s) :=
  .of_wp fun prog w A R s h => by
    obtain ⟨hp, g, d, tk, os⟩ := s
    obtain ⟨hl, h⟩ := h
    obtain ⟨cls, dd, data, sl⟩ := o
    simp only at hd
    subst hd
    wp_walk using wpAny_loadPart' hl, wpAny_load hl
    exact ⟨_, rfl, h⟩
theorem rc_dict_text {A : Around} {s : Shared} {l : Addr} {o : Obj} {es : _} {ep : _} (b : Str) (u : Tok) (ho : s.heap.get? l = some o) (hd : o.data = .dict es ep) (hc : o.cls = .type "dict") (hu : A.units < cLine) : SeqAt.RcAt A s (.ref l) (.str b u) false := fun prog w E Q h => by
  have ty : s.TypeIs (.ref l) "dict" := ⟨o, ho, hc⟩
  exact SeqAt.rc_eq_decline_or (k := false) ty (typeIs_str s b u) (by decide) F.sub_str_dict F.slot_dict_eq F.slot_str_eq_refl
    (fun _ hq => call_meets F.slot_dict_eq ty F.entry_dict_eq (F.args_dict_eq_2 _ _) (dict_eq_declines_text l o es ep hd hc b u) ⟨ho, hq⟩)
    (fun _ hq => call_meets F.slot_str_eq_refl (typeIs_str s b u) F.entry_str_eq (F.args_str_eq_2 _ _) (text_eq_declines_dict b u l o es ep hd) ⟨ho, hq⟩)
    (fun _ hq => wpAny_of_eq (rfl : isSame (.ref l) (.str b u) = pure false) hq) (.inr hu) h
section
variable {X : Cx} {E : XK} {pos : Pos}
def rDT : R2 := fun x y H Q => ∃ (a : Addr) (b : Str) (kvs : List (Key × V)), x = .ref a ∧ y = .str b ∧ H a = some (.dK kvs) ∧ Q (.bl false) H
theorem op_eqDT (hu : X.A.units < cLine) : OpR X (compareOp .Eq) rDT := by
  intro pins s σ H x y v u Q I rx ry q
  obtain ⟨a, b, kvs, rfl, rfl, e, q⟩ := q
  obtain rfl : v = Value.ref a := rx
  obtain ⟨t, rfl⟩ := ry
  obtain ⟨_, _, vs, _, o, es, ep, ho, ed, hd, _⟩ := dk_of I.hok e
  exact rc_dict_text b t ho hd ed.1 hu _ _ _ _ ⟨.bl false, H, I, rfl, q⟩
theorem om_eqX (hu : X.A.units + 65 < cLine) : OpM X E (compareOp .Eq) oEqX := by
  obtain ⟨r, h1, h2⟩ := om_eq (X := X) (E := E) hu
  refine ⟨_, opr_or h1 (op_eqDT (by omega)), fun x y v u S m H Q rs hv hw p => ?_⟩
  unfold oEqX at p
  split at p
  · rename_i n s
    split at p
    · rename_i kvs hs
      cases hv with
      | ref ha =>
        cases hw with
        | str s =>
          obtain ⟨kw, h3, h4⟩ := rs.ob _ _ _ ha hs
          exact .inr ⟨_, _, kw, rfl, rfl, h3, post_bl rs p⟩
    · exact .inl (h2 _ _ _ _ S m H Q rs hv hw p)
  · exact .inl (h2 _ _ _ _ S m H Q rs hv hw p)
theorem up_six : ∀ s ∈ sixW, Txt.upper (sOf s) = sOf (s.map fun c => c - 32) := by
  intro s hs
  simp only [sixW, List.mem_cons, List.not_mem_nil, or_false] at hs
  rcases hs with rfl | rfl | rfl | rfl | rfl | rfl <;> decide +kernel
theorem mm_upper : MtMm X E "str.upper" sUpper := by
  refine ⟨_, mt_upper, fun x ds v vs S m H Q rs hv hvs p => ?_⟩
  unfold sUpper at p
  cases hv with
  | str a =>
    dsimp only at p
    split at p
    · cases hvs
      split at p
      · rename_i h
        refine ⟨sOf a, rfl, rfl, ?_, ?_⟩
        · rw [sOf_len]
          have : ∀ s ∈ sixW, s.length ≤ 5592405 := by decide
          exact this a h
        · rw [up_six a h]; exact post_str rs p
      · exact p.elim
    · exact p.elim
  | _ => exact p.elim
/-! ### tuples of any size -/
theorem om_addA : OpM X E (binaryOp .Add) oAddA := by
  obtain ⟨r, h1, h2⟩ := om_add (X := X) (E := E)
  refine ⟨_, opr_or h1 op_catA, fun x y v u S m H Q rs hv hw p => ?_⟩
  unfold oAddA at p
  split at p
  · rename_i a b
    split at p
    · rename_i hl
      cases hv with
      | @tup _ ad xs ha r1 =>
        cases hw with
        | @tup _ bd ys hb r2 =>
          refine .inr ⟨ad, bd, xs, ys, rfl, rfl, .inl (.inl ha), .inl (.inl hb), by rw [← r1.len, ← r2.len, line_eq]; exact hl, fun z => ?_, fun _ z => ?_, fun _ _ q hq => post_tup rs p hq (r1.app r2)⟩
          · have e : a = [] := List.length_eq_zero_iff.mp (by rw [r1.len, z]; rfl)
            subst e
            exact p.here rs _ (.tup hb r2)
          · have e : b = [] := List.length_eq_zero_iff.mp (by rw [r2.len, z]; rfl)
            subst e
            rw [List.append_nil] at p
            exact p.here rs _ (.tup ha r1)
    · exact p.elim
  · exact .inl (h2 _ _ _ _ S m H Q rs hv hw p)
theorem slmA : SlM X E oSlA := by
  obtain ⟨r, h1, h2⟩ := slm (X := X) (E := E)
  refine ⟨_, slr_or h1 sl_tupA, fun x lo hi v S m H Q rs hv p => ?_⟩
  unfold oSlA at p
  split at p
  · rename_i l
    cases hv with
    | @tup _ ad xs ha r1 =>
      refine .inr ⟨ad, xs, rfl, .inl (.inl ha), fun z => ?_, fun _ q hq => post_tup rs p hq (cut_rel r1 lo hi)⟩
      have e : cut l lo hi = l := by
        unfold cut
        have z1 : sIx l.length 0 lo = 0 := by rw [r1.len]; exact z.1
        have z2 : sIx l.length l.length hi = l.length := by rw [r1.len]; exact z.2
        rw [z1, z2, List.drop_zero, Nat.sub_zero, List.take_length]
      rw [e] at p
      exact p.here rs _ (.tup ha r1)
  · exact .inl (h2 _ _ _ _ S m H Q rs hv p)
theorem se_slA {a : Expr} {fa : EM} {lo hi : Option Expr} {fl fh : PM} {p2 : Pos} (o : SlM X E oSlA) (ha : SE X E a fa) (hl : SO X E lo fl) (hh : SO X E hi fh) : SE X E (.Subscript a (.Slice lo hi none p2) pos) (mSlA fa fl fh) := by
  obtain ⟨r, ho, hr⟩ := o
  refine PE.mono (pe_slice ho ha hl hh) fun σ H Q ⟨fr, S, m, rf, rs, p⟩ => ?_
  refine rd_bind rf rs p fun x S1 m1 H1 e1 rf1 rs1 p1 v hv => ?_
  refine rdP_bind rf1 rs1 p1 fun l S2 m2 H2 e2 rf2 rs2 p2 => ?_
  refine rdP_bind rf2 rs2 p2 fun h S3 m3 H3 e3 rf3 rs3 p3 => ?_
  exact hr x l h v S3 m3 H3 Q rs3 ((hv.mono e2).mono e3) p3
end
end Sm

set_option Elab.async false
set_option linter.all false
set_option maxRecDepth 100000
/-! x[::s] with s = -1 -/
namespace Sm
open PySem PySem.Spec PyProof.Rows L2 Mi
theorem range_pick {α : Type} (l : List α) : (List.range l.length).filterMap (fun k => l[k]?) = l := by
  induction l with
  | nil => rfl
  | cons x r ih =>
    rw [List.length_cons, List.range_succ_eq_map, List.filterMap_cons]
    simp only [List.getElem?_cons_zero, List.filterMap_map]
    exact congrArg (x :: ·) ih
theorem fm_congr {α β : Type} {l : List α} {f g : α → Option β} (h : ∀ k, k ∈ l → f k = g k) : l.filterMap f = l.filterMap g := by
  induction l with
  | nil => rfl
  | cons x r ih => rw [List.filterMap_cons, List.filterMap_cons, h x (by simp), ih fun k hk => h k (List.mem_cons_of_mem _ hk)]
theorem pick_rev (its : List Value) : slicePick its.toArray none none (some (-1)) = its.reverse.toArray := by
  have e : (sliceRange ((its.length : Int) - 1) (-1) (-1)).filterMap (fun k => its[k]?) = its.reverse := by
    unfold sliceRange
    have hc : (if ((its.length : Int) - 1) > -1 then (((its.length : Int) - 1) - (-1) - (-1) - 1) / (-(-1)) else 0 : Int) = its.length := by
      split
      · show ((its.length : Int) - 1 - -1 - -1 - 1) / 1 = _
        rw [Int.ediv_one]; omega
      · omega
    rw [if_neg (by decide), hc]
    show ((List.range ((its.length : Int)).toNat).map fun (k : Nat) => ((its.length : Int) - 1 + -1 * (k : Int)).toNat).filterMap (fun k => its[k]?) = _
    rw [Int.toNat_natCast, List.filterMap_map]
    conv => rhs; rw [← range_pick its.reverse, List.length_reverse]
    refine fm_congr fun k hk => ?_
    have hk' : k < its.length := List.mem_range.mp hk
    show its[(((its.length : Int) - 1) + -1 * (k : Int)).toNat]? = _
    rw [List.getElem?_reverse hk']
    congr 1
    omega
  show ((sliceRange ((its.toArray.size : Int) - 1) (-1) (-1)).filterMap (its.toArray[·]?)).toArray = _
  simp only [List.size_toArray, List.getElem?_toArray]
  rw [e]
theorem vals_rev {xs : List V} {vs : List Value} (r : Vals xs vs) : Vals xs.reverse vs.reverse := by
  induction r with
  | nil => exact .nil
  | cons h _ ih => rw [List.reverse_cons, List.reverse_cons]; exact ih.append (.cons h .nil)
theorem sl_rev {X : Cx} : ∀ (pins : List (Addr × Obj)) (s : Shared) (σ : L2.St) (H : Hp) (x : V) (v vs : Value) (sl : Addr) (Q : VK), Inv X pins σ H s → RelV x v → s.heap.IsSliceOf sl .none .none vs → IsPart vs (some (-1)) →
    (∃ a xs, x = .ref a ∧ SqL X.K H a xs ∧ ∀ p, H p = none → Q (.ref p) (upd H p (.lst xs.reverse))) →
    ∃ T id, typeLookup (.type T) "__getitem__" = pure (some (.builtin id)) ∧ s.TypeIs v T ∧ wpAny (model X.prog X.w) X.A (getItem v (.ref sl)) (EP X pins σ Q) X.xe s := by
  intro pins s σ H x v vs sl Q I rx hs ps h
  obtain ⟨a, xs, rfl, hx, q⟩ := h
  cases rx
  obtain ⟨its, r, ht, hz⟩ := I.list hx
  have hlen := r.length
  refine ⟨"list", _, slot_list_getitem.lookup, ht.isList.typeIs, ?_⟩
  refine wpAny_getItem_list_slice ht.isList hs .none .none ps (by simp) ?_ (by rw [List.size_toArray] <;> omega)
  rw [pick_rev]
  refine ⟨.ref s.heap.objs.size, _, I.laid (t' := s.toks) (o := .lst xs.reverse) (fun b ob q => Heap.get?_push_of_some _ q) (Nat.le_refl _) ?_, rfl, q _ (I.hok.fresh (Nat.le_refl _))⟩
  exact ⟨by rw [List.length_reverse]; exact hz, _, 0, vals_rev r, Heap.get?_push_size _ rfl⟩
section
variable {X : Cx} {e st : Expr} {te : TE} {ts : TO} {pos p2 : Pos}
theorem pe_rev (he : PE X e te) (hs : PO X (some st) ts) : PE X (.Subscript e (.Slice none none (some st) p2) pos) (fun σ H Q => te σ H fun x H1 => ts σ H1 fun o H2 => o = some (-1) ∧ ∃ a xs, x = .ref a ∧ SqL X.K H2 a xs ∧ ∀ p, H2 p = none → Q (.ref p) (upd H2 p (.lst xs.reverse))) := by
  refine ⟨fun pins s σ H Q I h => ?_⟩
  refine Subscript_ (thn (he.run pins s σ H _ I h) fun v s1 ⟨x, H1, I1, r1, q1⟩ => ?_)
  refine wpAny_Slice ?_
  rw [evalPart_none]
  refine wpAny_pure ?_
  refine wpAny_pure ?_
  refine thn (hs.run pins s1 σ H1 _ I1 q1) fun vs s2 ⟨o, H2, I2, ps, e1, q2⟩ => ?_
  subst e1
  have I4 : Inv X pins σ H2 { s2 with heap := s2.heap.push { cls := .type "slice", data := .fields #[.none, .none, vs] } } := I2.kept (t' := s2.toks) fun b ob q => Heap.get?_push_of_some _ q
  obtain ⟨T, id, hT, ht, hg⟩ := sl_rev pins { s2 with heap := s2.heap.push { cls := .type "slice", data := .fields #[.none, .none, vs] } } σ H2 x v vs s2.heap.objs.size Q I4 r1 (Heap.IsSliceOf.new ..) ps q2
  show wpAny (model X.prog X.w) X.A (subscriptTail e (.Slice none none (some st) p2) v (.ref s2.heap.objs.size)) (EP X pins σ Q) X.xe { s2 with heap := s2.heap.push { cls := .type "slice", data := .fields #[.none, .none, vs] } }
  exact tail_any (ops := [v, .ref s2.heap.objs.size]) ht hT hg (by with_unfolding_all rfl)
end
section
variable {X : Cx} {E : XK} {a st : Expr} {fa : EM} {fs : PM} {pos p2 : Pos}
theorem se_rev (ha : SE X E a fa) (hs : SO X E (some st) fs) : SE X E (.Subscript a (.Slice none none (some st) p2) pos) (mRev fa fs) := by
  refine PE.mono (pe_rev ha hs) fun σ H Q ⟨fr, S, m, rf, rs, p⟩ => ?_
  refine rd_bind rf rs p fun x S1 m1 H1 e1 rf1 rs1 p1 v hv => ?_
  refine rdP_bind rf1 rs1 p1 fun l S2 m2 H2 e2 rf2 rs2 p2 => ?_
  have hv2 := hv.mono e2
  split at p2
  · rename_i hl
    refine ⟨hl, ?_⟩
    unfold oRev at p2
    cases hv2 with
    | @ref n b ha =>
      dsimp only at p2
      split at p2
      · rename_i l hl
        obtain ⟨xs, h0, r⟩ := rs2.lst ha hl
        exact ⟨b, xs, rfl, h0, fun c hc => post_new rs2 p2 hc fun e => ⟨_, upd_same, r.rev.mono e⟩⟩
      · exact p2.elim
    | _ => exact p2.elim
  · exact p2.elim
end
end Sm

set_option Elab.async false
set_option linter.all false
set_option maxRecDepth 100000
set_option maxHeartbeats 2000000
/-! dicts whose keys are tuples: values, ==, clear -/
namespace Sm
open PySem PySem.Spec PyProof.Rows L2 Mi
section
variable {X : Cx} {pins : List (Addr × Obj)} {σ : L2.St} {H : Hp} {s : Shared} {d : Addr} {o : Obj}
theorem frzT2 {kvs : List (List L2.Key × V)} (I : Inv X pins σ H s) (h : H d = some (.frz o (.dT kvs))) :
    (d == sysModules) = false ∧ s.heap.get? d = some o ∧ o.ExactDict ∧ ∃ (es : Array DictEntry) (ep : Nat), o.data = .dict es ep ∧ es.size = kvs.length ∧
      ∀ (i : Nat) (k : List L2.Key) (v : V), kvs[i]? = some (k, v) → ∃ (en : DictEntry), es[i]? = some en ∧ RelV v en.val := by
  obtain ⟨hd, z, hs, xs, pr, o', es, ep, ho, hx, hdt, he, _⟩ := I.hok d _ h
  rw [hd] at ho
  cases ho
  refine ⟨hs, hd, hx, es, ep, hdt, ?_, fun i k v e => ?_⟩
  · have l1 : es.size = xs.length := size_of_entries he
    have l2 : kvs.length = xs.length := Paired.length pr
    omega
  · obtain ⟨b, hb, e1, e2, e3⟩ := paired_get pr e
    have q := entry_at he i
    rw [hb] at q
    exact ⟨_, q, e3⟩
def ItdT (d : Addr) (o : Obj) (kvs : List (List L2.Key × V)) : It :=
  ⟨fun i H => H d = some (.frz o (.dT kvs)) ∧ i < kvs.length, fun i H x H' => H' = H ∧ ∃ k, kvs[i]? = some (k, x), fun i H => H d = some (.frz o (.dT kvs)) ∧ kvs.length ≤ i⟩
theorem turn_valsT {P : Program} {w : World} {K : PySem.W.Frag} {tg : Expr} {es : Array DictEntry} {ep : Nat} {kvs : List (List L2.Key × V)} (it : Addr) (hod : o.data = .dict es ep) : Turn P w K tg (ItdT d o kvs) [it] it (fun i h => h.IsValIter it d i kvs.length ep) where
  mem := by simp
  obj := fun i h st b hb => by
    have e : b = it := by simpa using hb
    subst e
    obtain ⟨oi, e, c, dd⟩ := st
    exact ⟨oi, e, fun v z => by rw [dd] at z; cases z⟩
  keep := fun i h h' st k => st.at fun oi e => k it (by simp) oi e
  item := by
    intro X hP hw hK hc i pins s σ H E I hf st hg
    subst hP hw hK
    obtain ⟨hd, hi⟩ := hg
    obtain ⟨f0, f1, f2, f3, f4, f5⟩ := hf it (by simp)
    obtain ⟨hs, hgd, hx, es', ep', hdt, hsz, ent⟩ := frzT2 I hd
    obtain ⟨rfl, rfl⟩ := dict_ep hod hdt
    obtain ⟨⟨k, v⟩, hkv⟩ : ∃ p, kvs[i]? = some p := ⟨kvs[i], List.getElem?_eq_getElem hi⟩
    obtain ⟨en, hen, rv⟩ := ent i k v hkv
    have hm : s.heap.DictRaw d es' ep' := ⟨o, hgd, hx, hdt⟩
    have hi' : i < es'.size := by omega
    rw [← hsz] at st
    refine wpAny_pyNext_values_item_raw st hm hi' fun h' st' sb => ?_
    have I1 : Inv X pins σ H { s with heap := h' } := I.turned (t' := s.toks) (fun b ob hb e => (sb.2 b hb).trans e) f0 f1 f3 f4 f5
    obtain ⟨oi, e, c, dd⟩ := id st'
    have ev : es'[i] = en := by
      rw [Array.getElem?_eq_getElem hi'] at hen
      exact Option.some.inj hen
    refine ⟨_, rfl, go_of (s := { s with heap := h' }) e c dd (by decide) ⟨v, H, I1, by rw [ev]; exact rv, ⟨rfl, k, hkv⟩, ?_, fun b hb => (hf b hb).1⟩⟩
    show h'.IsValIter it d (i + 1) kvs.length _
    rw [← hsz]
    exact st'
  done := by
    intro X hP hw hK hc i pins s σ H E I hf st hg
    subst hP hw hK
    obtain ⟨hd, hi⟩ := hg
    obtain ⟨f0, f1, f2, f3, f4, f5⟩ := hf it (by simp)
    obtain ⟨hs, hgd, hx, es', ep', hdt, hsz, ent⟩ := frzT2 I hd
    obtain ⟨rfl, rfl⟩ := dict_ep hod hdt
    have hm : s.heap.DictRaw d es' ep' := ⟨o, hgd, hx, hdt⟩
    rw [← hsz] at st
    exact wpAny_pyNext_values_end_raw (I.ok.hd hc) st hm (by omega) fun h' eb => ⟨rfl, I.turned (t' := s.toks) (fun b ob hb e => eb b ob hb e) f0 f1 f3 f4 f5⟩
  self := fun A i s Q E st h => wpAny_pyIter_valiter st h
def iValsT (td : TE) : TI := fun σ H R => td σ H fun x H1 => ∃ d o kvs, x = .ref d ∧ H1 d = some (.frz o (.dT kvs)) ∧ R (ItdT d o kvs) H1
end
section
variable {X : Cx} {tg e : Expr} {td : TE} {apos cpos : Pos}
theorem pi_valuesT (he : PE X e td) (hbase : attributeBase e "values" X.env (eval e X.env) = eval e X.env := by rfl) (hline : (apos.endLine == cpos.line) = true := by rfl) : PI X tg (.Call (.Attribute e "values" apos) [] [] cpos) (iValsT td) := by
  refine ⟨fun pins s σ H R I h => ?_⟩
  refine wpAny_Call_method (T := "dict") (id := "dict.values") hbase rfl hline F.plainAttrs_dict F.slot_dict_values F.type_dict_values (thn (he.run pins s σ H _ I h) fun u s1 ⟨x, H1, I1, rx, d, o, kvs, ex, hd, q⟩ => ?_)
  subst ex
  obtain rfl : u = Value.ref d := rx
  obtain ⟨hs, hgd, hx, es, ep, hdt, hsz, ent⟩ := frzT2 I1 hd
  have hm : s1.heap.DictRaw d es ep := ⟨o, hgd, hx, hdt⟩
  refine ⟨hm.typeIs, fun b e => ?_, ?_⟩
  · cases e
    exact ⟨o, hgd, hx.2.1⟩
  have I2 : Inv X pins σ H1 { s1 with heap := s1.heap.push { cls := .type "dict_values", data := .fields #[.ref d] } } := I1.kept (t' := s1.toks) fun b ob q => Heap.get?_push_of_some _ q
  have fin : wpAny (model X.prog X.w) X.A (pyIter (.ref s1.heap.objs.size)) (PIE X pins σ tg R) X.xe { s1 with heap := s1.heap.push { cls := .type "dict_values", data := .fields #[.ref d] } } := by
    refine wpAny_pyIter_values_raw (d := d) ⟨_, Heap.get?_push_size _ rfl, rfl, rfl⟩ (hm.at fun o q => Heap.get?_push_of_some _ q) (pi_one (tk := s1.toks) I2 _ (turn_valsT _ hdt) ⟨_, Heap.get?_push_size _ rfl, rfl, ?_⟩ q)
    rw [hsz] <;> rfl
  show wpAny _ _ (callWith cpos (.builtin "dict.values") [.ref d] [] []) _ X.xe s1
  exact method_meetsIn F.slot_dict_values F.entry_dict_values rfl (PySem.evalArgs_none ⟨rfl, hm.typeIs, F.args_dict_values_1 _, _, meets_dict_values_raw d hs, ⟨es, ep, hm⟩, fin⟩)
end
def rDClearT : V → List V → Hp → VK → Prop := fun x vs H Q => ∃ (a : Addr) (kvs : List (List L2.Key × V)), x = .ref a ∧ vs = [] ∧ H a = some (.dT kvs) ∧ Q .non (upd H a (.dT []))
theorem mtd_clearT {X : Cx} : MtR X "dict.clear" rDClearT := by
  intro pins s σ H x v vs us Q I rx rv h
  obtain ⟨a, kvs, ex, ev, e, q⟩ := h
  subst ex
  subst ev
  obtain rfl := rx
  have hus := rv.zero
  subst hus
  obtain ⟨z, hd, xs, rel, o, es, ep, ho, hx, hdt, he, _⟩ := dt_of I.hok e
  have hm : s.heap.DictRaw a es ep := ⟨o, ho, hx, hdt⟩
  have hsz : es.size ≤ sizeLine := by
    have l1 : es.size = xs.length := size_of_entries he
    have l2 : kvs.length = xs.length := Paired.length rel
    omega
  refine call_meetsIn PySem.F.slot_dict_clear hm.typeIs PySem.F.entry_dict_clear (PySem.F.args_dict_clear_1 _) (meets_dict_clear_raw a) ⟨es, ep, hm, hsz, fun h' dd' hs => ?_⟩
  obtain ⟨o', ho', hx', hdt'⟩ := dd'
  have new : ObjOk X.prog X.w (upd H a (.dT [])) h' a (.dT []) := ⟨Nat.zero_le _, hd, [], .nil, o', #[], ep + 1, ho', hx', hdt', rfl, List.nodup_nil⟩
  exact ⟨.non, _, d_write I (by rw [e]; exact True.intro) hs ⟨_, ho'⟩ new, rfl, q⟩
/-! ### == -/
section
variable {prog : Program} {w : World} {K : Type} [DecidableEq K] {knd : HeapKind prog w K} {A : Around} {E : Value → Shared → Prop} {s : Shared}
theorem samePairsH {nm : String} {a b : Addr} {xa xb : List (K × Addr × Value)} {Q : Bool → Shared → Prop} (ha : (a == sysModules) = false) (hb : (b == sysModules) = false) (hu : knd.room A)
    (da : s.heap.DictOfH knd a xa) (db : s.heap.DictOfH knd b xb) (hl : xa.length = xb.length) (hits : ∀ x ∈ xa, ∃ p, atKey xb x.1 = some p ∧ SeqAt.EqAt A s x.2.2 p.2 true) (h : Q true s) :
    wpAny (model prog w) A (Builtin.Dict.samePairs nm a b) Q E s := by
  obtain ⟨oa, es, ep, hoa, _, hda, hea, hka, hna⟩ := da
  obtain ⟨ob, es', ep', hob, _, hdb, heb, hkb, hnb⟩ := db
  have hla : xa.length = es.size := (size_of_entries hea).symm
  have hlb : xb.length = es'.size := (size_of_entries heb).symm
  have hsz : es.size = es'.size := by omega
  unfold Builtin.Dict.samePairs Builtin.Dict.showsAll
  rw [if_neg (show ¬ (a == sysModules) = true by rw [ha]; exact Bool.false_ne_true), if_neg (show ¬ (b == sysModules) = true by rw [hb]; exact Bool.false_ne_true)]
  refine wpAny_bind (wpAny_pure (wpAny_bind (wpAny_pure ?_)))
  refine wpAny_bind (wpAny_dictEntries hoa hda ?_)
  dsimp only
  refine wpAny_bind (wpAny_dictEntries hob hdb ?_)
  rw [if_neg (by rw [hsz]; simp)]
  refine wpAny_bind (wpAny_dictEpoch hoa hda ?_)
  refine wpAny_bind ?_
  rw [Std.Legacy.Range.forIn_eq_forIn_range']
  simp only [Std.Legacy.Range.size, Nat.sub_zero, Nat.add_sub_cancel, Nat.div_one]
  refine wpAny_forIn_list _
    (fun rest q s' => s' = s ∧ q = (none, ()) ∧ ∃ i, rest = List.range' i (es.size - i) ∧ i ≤ es.size)
    _ ?_ ?_ _ _ ⟨rfl, rfl, 0, by simp, Nat.zero_le _⟩
  · rintro x rest q s' ⟨rfl, rfl, i, hr, hi⟩
    have hlt : i < es.size := by
      rcases Nat.lt_or_ge i es.size with h | h
      · exact h
      · rw [Nat.sub_eq_zero_of_le h] at hr; simp at hr
    obtain ⟨rfl, hrest⟩ : x = i ∧ rest = List.range' (i + 1) (es.size - (i + 1)) := by
      have e : es.size - i = (es.size - (i + 1)) + 1 := by omega
      rw [e, List.range'_succ] at hr
      injection hr with h1 h2
      exact ⟨h1, h2⟩
    refine wpAny_bind (wpAny_dictEntries hoa hda ?_)
    have hlt' : x < xa.length := by rw [hla]; exact hlt
    have hxx : xa[x]? = some xa[x] := List.getElem?_eq_getElem hlt'
    obtain ⟨⟨k, ad, v⟩, hkv⟩ : ∃ p, xa[x] = p := ⟨_, rfl⟩
    have een : es[x]? = some (entryOfKey knd (k, ad, v)) := by rw [entry_at hea x, hxx, hkv]; rfl
    have hmem : (k, ad, v) ∈ xa := by rw [← hkv]; exact List.getElem_mem hlt'
    obtain ⟨p, hp, heq⟩ := hits _ hmem
    rw [een]
    refine wpAny_bind (wpAny_holding (wpAny_bind (wpAny_dictFind_heap hu (hka _ hmem) hob hdb heb hkb hnb (fun hno => ?_) fun j p' hj => ?_)))
    · rw [atKey_none_of_get hno] at hp; cases hp
    · rw [atKey_of_get hnb hj] at hp
      obtain rfl := Option.some.inj hp
      refine wpAny_bind (wpAny_dictEntries hob hdb ?_)
      rw [entry_at heb j, hj]
      refine wpAny_holding (heq prog w _ _ ?_)
      show wpAny _ _ (if (!true) = true then _ else _) _ _ _
      rw [if_neg (by decide)]
      refine wpAny_bind (wpAny_dictEpoch hoa hda ?_)
      rw [if_neg (by simp)]
      exact wpAny_pure ⟨rfl, rfl, x + 1, hrest, hlt⟩
  · rintro q s' ⟨rfl, rfl, i, hr, hi⟩
    exact wpAny_pure h
theorem keqH_eq {a b : Addr} {xa xb : List (K × Addr × Value)} {Q : Value → Shared → Prop} (ha : (a == sysModules) = false) (hb : (b == sysModules) = false) (hr : knd.room A.in1)
    (da : s.heap.DictOfH knd a xa) (db : s.heap.DictOfH knd b xb) (hu : A.units < cLine) (hl : xa.length = xb.length) (hits : ∀ x ∈ xa, ∃ p, atKey xb x.1 = some p ∧ SeqAt.EqAt A.in1 s x.2.2 p.2 true) (h : Q (.bool true) s) :
    wpAny (model prog w) A (compareOp .Eq (.ref a) (.ref b)) Q E s := by
  refine wpAny_richCompare_same_room (op := .Eq) da.typeIs db.typeIs PySem.F.slot_dict_eq (wpAny_call_entry PySem.F.slot_dict_eq da.typeIs PySem.F.entry_dict_eq ?_ (PySem.F.args_dict_eq_2 _ _)) hu
  show wpAny _ _ (Builtin.Dict.dictSlotArgs "__eq__" ⟨[.ref a, .ref b], []⟩ >>= _) _ _ s
  refine wpAny_bind ?_
  unfold Builtin.Dict.dictSlotArgs
  refine wpAny_bind (wpAny_notOrdered_dict da.typeIs ?_)
  show wpAny _ _ (pure (Value.ref a, Value.ref b)) _ _ s
  refine wpAny_pure ?_
  refine wpAny_bind (wpAny_isInstance (T := "dict") db.typeIs PySem.F.sub_dict_dict ?_)
  simp only [Bool.not_true, Bool.false_eq_true, if_false]
  refine wpAny_bind (wpAny_pure (wpAny_bind (wpAny_pure ?_)))
  refine wpAny_bind (samePairsH ha hb hr da db hl hits ?_)
  refine wpAny_pure ⟨_, rfl, ?_, ?_⟩
  · exact fun x => nomatch x
  · simpa using h
theorem keqH_ne {a b : Addr} {xa xb : List (K × Addr × Value)} {Q : Value → Shared → Prop} (ha : (a == sysModules) = false) (hb : (b == sysModules) = false) (hr : knd.room A.in1)
    (da : s.heap.DictOfH knd a xa) (db : s.heap.DictOfH knd b xb) (hu : A.units < cLine) (hl : xa.length = xb.length) (hits : ∀ x ∈ xa, ∃ p, atKey xb x.1 = some p ∧ SeqAt.EqAt A.in1 s x.2.2 p.2 true) (h : Q (.bool false) s) :
    wpAny (model prog w) A (compareOp .NotEq (.ref a) (.ref b)) Q E s := by
  refine wpAny_richCompare_same_room (op := .NotEq) da.typeIs db.typeIs PySem.F.slot_dict_ne (wpAny_call_entry PySem.F.slot_dict_ne da.typeIs PySem.F.entry_dict_ne ?_ (PySem.F.args_dict_ne_2 _ _)) hu
  show wpAny _ _ (Builtin.Dict.dictSlotArgs "__ne__" ⟨[.ref a, .ref b], []⟩ >>= _) _ _ s
  refine wpAny_bind ?_
  unfold Builtin.Dict.dictSlotArgs
  refine wpAny_bind (wpAny_notOrdered_dict da.typeIs ?_)
  show wpAny _ _ (pure (Value.ref a, Value.ref b)) _ _ s
  refine wpAny_pure ?_
  refine wpAny_bind (wpAny_isInstance (T := "dict") db.typeIs PySem.F.sub_dict_dict ?_)
  simp only [Bool.not_true, Bool.false_eq_true, if_false]
  refine wpAny_bind (wpAny_pure (wpAny_bind (wpAny_pure ?_)))
  refine wpAny_bind (samePairsH ha hb hr da db hl hits ?_)
  refine wpAny_pure ⟨_, rfl, ?_, ?_⟩
  · exact fun x => nomatch x
  · simpa using h
end
section
variable {X : Cx}
theorem hitsT {A : Around} {s : Shared} {H : Hp} {ls : List (List L2.Key × V)} {xb : List (List L2.Key × Addr × Value)} (rb : KT H ls xb) {ks : List (List L2.Key × V)} {xa : List (List L2.Key × Addr × Value)} (ra : KT H ks xa) :
    (∀ p ∈ ks, valV ls p.1 = some p.2 ∧ flatB p.2 = true) → ∀ x ∈ xa, ∃ p, atKey xb x.1 = some p ∧ SeqAt.EqAt A s x.2.2 p.2 true := by
  induction ra with
  | nil => intro _ x hx; cases hx
  | @cons p q ps qs h t ih =>
    intro hp x hx
    rcases List.mem_cons.mp hx with e | hx
    · subst e
      obtain ⟨h1, h2, h3⟩ := h
      obtain ⟨e, f⟩ := hp p List.mem_cons_self
      have rr : L2.RelO (some p.2) ((atKey xb p.1).map (·.2)) := by rw [← e]; exact rb.val p.1
      obtain ⟨y, hy, ry⟩ := rr.some_of
      obtain ⟨z, hz, rfl⟩ := Option.map_eq_some_iff.mp hy
      rw [h1] at hz
      exact ⟨z, hz, eqAt_same h3 ry f⟩
    · exact ih (fun p hm => hp p (List.mem_cons_of_mem _ hm)) x hx
def rEqDT : R2 := fun x y H Q => ∃ a b ks ls, x = .ref a ∧ y = .ref b ∧ H a = some (.dT ks) ∧ H b = some (.dT ls) ∧ ks.length = ls.length ∧ (∀ p ∈ ks, valV ls p.1 = some p.2 ∧ flatB p.2 = true) ∧ Q (.bl true) H
def rNeDT : R2 := fun x y H Q => ∃ a b ks ls, x = .ref a ∧ y = .ref b ∧ H a = some (.dT ks) ∧ H b = some (.dT ls) ∧ ks.length = ls.length ∧ (∀ p ∈ ks, valV ls p.1 = some p.2 ∧ flatB p.2 = true) ∧ Q (.bl false) H
theorem op_eq_dictT (hu : X.A.units + 1 < cLine) : OpR X (compareOp .Eq) rEqDT := by
  intro pins s σ H x y v u Q I rx ry h
  obtain ⟨a, b, ks, ls, rfl, rfl, ea, eb, hlen, hp, q⟩ := h
  obtain rfl : v = Value.ref a := rx
  obtain rfl : u = Value.ref b := ry
  obtain ⟨_, ya, xa, ra, da⟩ := dt_of I.hok ea
  obtain ⟨_, yb, xb, rb, db⟩ := dt_of I.hok eb
  have hl : xa.length = xb.length := by rw [← Paired.length ra, ← Paired.length rb]; exact hlen
  exact keqH_eq ya yb (tupleKind_room_in1 hu) da db (by omega) hl (hitsT rb ra hp) (fin_bl I q rfl)
theorem op_ne_dictT (hu : X.A.units + 1 < cLine) : OpR X (compareOp .NotEq) rNeDT := by
  intro pins s σ H x y v u Q I rx ry h
  obtain ⟨a, b, ks, ls, rfl, rfl, ea, eb, hlen, hp, q⟩ := h
  obtain rfl : v = Value.ref a := rx
  obtain rfl : u = Value.ref b := ry
  obtain ⟨_, ya, xa, ra, da⟩ := dt_of I.hok ea
  obtain ⟨_, yb, xb, rb, db⟩ := dt_of I.hok eb
  have hl : xa.length = xb.length := by rw [← Paired.length ra, ← Paired.length rb]; exact hlen
  exact keqH_ne ya yb (tupleKind_room_in1 hu) da db (by omega) hl (hitsT rb ra hp) (fin_bl I q rfl)
end
end Sm

set_option Elab.async false
set_option linter.all false
set_option maxRecDepth 100000
set_option maxHeartbeats 2000000
/-! walks over dicts, == of dicts, clear, against the layer -/
namespace Sm
open PySem PySem.Spec PyProof.Rows L2 Mi
section
variable {α β : Type} {c : Ct} {E : XK} {m m' : List Addr} {H H' : Hp} {r : Res α}
theorem post_bind0 {f : α → Store → Res β} {k : β → Store → List Addr → Hp → Prop} (p : Post c E m H (r.bind f) k) : Post c E m H r fun a S _ _ => Post c E m H (f a S) k := by
  cases r with
  | ok a S => exact fun m2 H2 e2 _ => p
  | exc x S => exact p
  | bad => exact p
theorem RF.mono0 {fr : Fr} {σ : L2.St} (e : Ex0 m H m' H') (h : RF c.K H m fr σ) : RF c.K H' m' fr σ := ⟨h.len, fun i d q => let ⟨v, h1, h2⟩ := h.get i d q; ⟨v, h1, h2.mono0 e⟩⟩
structure WalkZ (c : Ct) (J : It) (n : Nat) (z : O) (l : List D) (m0 : List Addr) (H0 : Hp) : Prop where
  go : ∀ i m S H, i < l.length → Ext m0 H0 m H → RS c m S H → S[n]? = some z → J.go i H
  stop : ∀ m S H, Ext m0 H0 m H → RS c m S H → S[n]? = some z → J.stop l.length H
  yld : ∀ i m S H x H' d, l[i]? = some d → Ext m0 H0 m H → RS c m S H → S[n]? = some z → J.yld i H x H' → Ext m H m H' ∧ RS c m S H' ∧ RelD c.K H' m d x
def forR (g : TG) (tb : TS) (D : Ends) (σ : L2.St) (J : It) (H1 : Hp) : Prop := ∃ W : Nat → Nat → L2.St → Hp → Prop, (∃ m, W 0 m σ H1) ∧ ∀ i m σ H, W i m σ H →
  (J.stop i H ∧ D.nx σ H) ∨ (J.go i H ∧ ∃ N : L2.St → Hp → Prop, (∀ σ' H', N σ' H' → ∃ m', m' < m ∧ W (i + 1) m' σ' H') ∧ ∀ x H', J.yld i H x H' → g x σ H' fun σ2 H2 => tb { D with nx := N, ct := N, bk := D.nx } σ2 H2)
theorem loopZ_for {J : It} {z : O} {n : Nat} {l : List D} {m1 : List Addr} {H1 : Hp} {S1 : Store} {fr : Fr} {σ : L2.St} {g : GM} {b : SM} {De : Ends} (w : WalkZ c J n z l m1 H1) (rf : RF c.K H1 m1 fr σ) (rs : RS c m1 S1 H1)
    (p : Post c E m1 H1 (loopZ n z (fun d fr S => (g d fr S).bind fun fr' S' => b fr' S') l fr S1) (kS c De)) : forR (rdG c E g) (rdS c E b) De σ J H1 := by
  refine ⟨fun i k σ' H' => i ≤ l.length ∧ k = l.length - i ∧ ∃ fr' S' m', Ext m1 H1 m' H' ∧ RF c.K H' m' fr' σ' ∧ RS c m' S' H' ∧ Post c E m' H' (loopZ n z (fun d fr S => (g d fr S).bind fun fr' S' => b fr' S') (l.drop i) fr' S') (kS c De),
    ⟨l.length, Nat.zero_le _, rfl, fr, S1, m1, Ext.refl _ _, rf, rs, p⟩, fun i k σ' H' hw => ?_⟩
  obtain ⟨hi', hk, fr', S', m', e2, rf2, rs2, p2⟩ := hw
  by_cases hlt : i < l.length
  · have hd : l.drop i = l[i] :: l.drop (i + 1) := List.drop_eq_getElem_cons hlt
    rw [hd] at p2
    unfold loopZ at p2
    split at p2
    · rename_i st
      have st := of_dec st
      refine .inr ⟨w.go i m' S' H' hlt e2 rs2 st, fun σ2 H2 => ∃ fr2 S2 m2, Ext m1 H1 m2 H2 ∧ RF c.K H2 m2 fr2 σ2 ∧ RS c m2 S2 H2 ∧ Post c E m2 H2 (loopZ n z (fun d fr S => (g d fr S).bind fun fr' S' => b fr' S') (l.drop (i + 1)) fr2 S2) (kS c De),
        fun σ2 H2 q => ⟨l.length - (i + 1), by omega, by omega, rfl, q⟩, fun x H'' y => ?_⟩
      obtain ⟨e3, rs3, r3⟩ := w.yld i m' S' H' x H'' _ (List.getElem?_eq_getElem hlt) e2 rs2 st y
      refine ⟨_, fr', S', m', r3, rf2.mono e3, rs3, (post_bind (post_bind p2)).ext e3 |>.imp fun fr2 S2 m2 H2 e4 rs4 p4 σ2 rf4 => ?_⟩
      refine ⟨fr2, S2, m2, rf4, rs4, p4.imp fun o S3 m3 H3 e5 rs5 p5 => ?_⟩
      have ee : Ext m1 H1 m3 H3 := ((e2.trans e3).trans e4).trans e5
      cases o with
      | nx fr3 => exact fun σ3 rf5 => ⟨fr3, S3, m3, ee, rf5, rs5, p5⟩
      | ct fr3 => exact fun σ3 rf5 => ⟨fr3, S3, m3, ee, rf5, rs5, p5⟩
      | bk fr3 => exact p5.here rs5
      | rt d => exact p5.here rs5
    · exact p2.elim
  · have e : i = l.length := by omega
    subst e
    rw [List.drop_length] at p2
    unfold loopZ at p2
    split at p2
    · rename_i st
      exact .inl ⟨w.stop m' S' H' e2 rs2 (of_dec st), p2.here rs2 σ' rf2⟩
    · exact p2.elim
/-- the ends of a locked statement -/
abbrev lockD (a : Addr) (od : Obj) (u : HO) (D : Ends) : Ends := ⟨fun σ' H' => H' a = some (.frz od u) ∧ D.nx σ' (upd H' a u), fun v H' => H' a = some (.frz od u) ∧ D.rt v (upd H' a u), fun σ' H' => H' a = some (.frz od u) ∧ D.bk σ' (upd H' a u), fun σ' H' => H' a = some (.frz od u) ∧ D.ct σ' (upd H' a u)⟩
theorem forZ_core {fe : EM} {g : GM} {b : SM} {S : Store} {fr : Fr} {σ : L2.St} {De : Ends} {n : Nat} {o z : O} {l : List D} {a : Addr} {u : HO} (rf : RF c.K H m fr σ) (rs : RS c m S H) (ha : m[n]? = some a) (hs : S[n]? = some o) (lo : liv o) (zo : own z) (nol : ∀ xs, u ≠ .lst xs) (nof : ∀ od u', u ≠ .frz od u') (notu : ∀ xs, u ≠ .tup xs) (hu : H a = some u)
    (p : Post c E m H (runZ fe g b fr S n o z l) (kS c De)) (od : Obj)
    (rz : ∀ m' H', Ext m H m' H' → H' a = some (.frz od u) → RelO c H' m' a z)
    (ro : ∀ m' H', Ex0 m H m' H' → H' a = some u → RelO c H' m' a o)
    (J : It) (wz : ∀ m1 H1, Ext m H m1 H1 → H1 a = some (.frz od u) → WalkZ c J n z l m1 H1) :
    rdE c E fe σ (upd H a (.frz od u)) fun v H1 => v = .ref a ∧ H1 a = some (.frz od u) ∧ forR (rdG c E g) (rdS c E b) (lockD a od u De) σ J H1 := by
  obtain ⟨rsL, eL⟩ := rs.lockz ha hs lo (z := z) (u := .frz od u) fun e => rz _ _ e upd_same
  unfold runZ at p
  have p1 := (post_bind0 p).ext eL
  refine ⟨fr, S.set n z, m, rf.mono eL, rsL, p1.imp fun x S1 m1 H1 e1 rs1 q v hv => ?_⟩
  split at q
  · rename_i n'
    split at q
    · rename_i hn
      subst hn
      cases hv with
      | @ref _ a' h =>
        have h2 := e1.mx _ _ ha
        rw [h] at h2
        obtain rfl := Option.some.inj h2
        have hz1 := e1.fz _ _ _ (upd_same (H := H) (a := a') (o := .frz od u))
        refine ⟨rfl, hz1, ?_⟩
        have eH1 := eL.trans e1
        have q1 := (post_bind0 q).ext eH1
        refine loopZ_for (wz _ _ eH1 hz1) (rf.mono eH1) rs1 (q1.imp fun out S2 m2 H2 e2 rs2 r => ?_)
        split at r
        · rename_i hst
          have hst := of_dec hst
          have hz2 := e2.fz _ _ _ hz1
          have ha2 := e2.mx _ _ h
          have eH2 := eH1.trans e2
          have ex : Ex0 m2 H2 m2 (upd H2 a' u) := ⟨fun _ _ z => z, fun b u t q => by
            have ne : b ≠ a' := fun w => by
              subst w; rw [hz2] at q
              rcases t with ⟨xs, rfl⟩ | ⟨o, xs, rfl⟩
              · cases q
              · injection q with q; injection q with _ q; exact notu xs q
            rw [upd_ne ne]; exact q⟩
          have ex2 : Ex0 m H m2 (upd H2 a' u) := ⟨eH2.mx, fun b u t q => ex.ts b u t (eH2.ts b u t q)⟩
          have rsU := rs2.unlockz ha2 hst zo lo.own hz2 nol notu fun _ => ro _ _ ex2 upd_same
          have eF : Ext m H m2 (upd H2 a' u) := ⟨ex2, fun b ob u' q => by
            have ne : b ≠ a' := fun w => by subst w; rw [hu] at q; exact nof ob u' (Option.some.inj q)
            rw [upd_ne ne]; exact eH2.fz _ _ _ q⟩
          have fin := r m2 (upd H2 a' u) eF rsU
          cases out with
          | nx fr' => exact fun σ' rf' => ⟨hz2, fin σ' (rf'.mono0 ex)⟩
          | ct fr' => exact fun σ' rf' => ⟨hz2, fin σ' (rf'.mono0 ex)⟩
          | bk fr' => exact fun σ' rf' => ⟨hz2, fin σ' (rf'.mono0 ex)⟩
          | rt d => exact fun v rv => ⟨hz2, fin v (rv.mono0 ex)⟩
        · exact r.elim
    · exact q.elim
  · exact q.elim
theorem relk_at {κ κ' : Type} {f : κ → κ'} {K : PySem.W.Frag} {k : List (κ × D)} {kv : List (κ' × V)} (h : RelK K H m f k kv) : ∀ {i : Nat} {p : κ × D}, k[i]? = some p → ∃ q, kv[i]? = some q ∧ f p.1 = q.1 ∧ RelD K H m p.2 q.2 := by
  induction h with
  | nil => intro i p e; simp at e
  | cons r t ih =>
    intro i p e
    cases i with
    | zero => simp only [List.getElem?_cons_zero, Option.some.injEq] at e; subst e; exact ⟨_, rfl, r⟩
    | succ j => simp only [List.getElem?_cons_succ] at e ⊢; exact ih e
theorem kyD_rel {K : PySem.W.Frag} (k : Ky) : RelD K H m (kyD k) (kV (kyK k)) := by
  cases k with
  | inl i => exact .int i
  | inr s => exact .str s
theorem kyDs_rel {K : PySem.W.Frag} : ∀ k : List Ky, RelL K H m (k.map kyD) ((k.map kyK).map kV)
  | [] => .nil
  | x :: r => .cons (kyD_rel x) (kyDs_rel r)
theorem wz_keyK {n : Nat} {z : O} {a : Addr} {od : Obj} {k : List (Ky × D)} {kv : List (L2.Key × V)} (h : H a = some (.frz od (.dK kv))) (r : RelK c.K H m kyK k kv) : WalkZ c (Itk a od kv) n z (k.map fun p => kyD p.1) m H where
  go := fun i m' S H' hi e rs st => ⟨e.fz _ _ _ h, by rw [List.length_map] at hi; rw [← Paired.length r]; exact hi⟩
  stop := fun m' S H' e rs st => ⟨e.fz _ _ _ h, by rw [List.length_map, ← Paired.length r]; exact Nat.le_refl _⟩
  yld := fun i m' S H' x H'' d hd e rs st y => by
    obtain ⟨rfl, kk, v, hv, rfl⟩ := y
    rw [List.getElem?_map] at hd
    obtain ⟨p, hp, rfl⟩ := Option.map_eq_some_iff.mp hd
    obtain ⟨q, hq, e1, _⟩ := relk_at r hp
    rw [hv] at hq
    obtain rfl := Option.some.inj hq
    refine ⟨Ext.refl _ _, rs, ?_⟩
    have e1 : kyK p.1 = kk := e1
    rw [← e1]
    exact kyD_rel _
theorem wz_keyT {n : Nat} {z : O} {a : Addr} {od : Obj} {k : List (List Ky × D)} {kv : List (List L2.Key × V)} (h : H a = some (.frz od (.dT kv))) (r : RelK c.K H m (fun x => x.map kyK) k kv) : WalkZ c (Itkt a od kv) n z (k.map fun p => .tup (p.1.map kyD)) m H where
  go := fun i m' S H' hi e rs st => ⟨e.fz _ _ _ h, by rw [List.length_map] at hi; rw [← Paired.length r]; exact hi⟩
  stop := fun m' S H' e rs st => ⟨e.fz _ _ _ h, by rw [List.length_map, ← Paired.length r]; exact Nat.le_refl _⟩
  yld := fun i m' S H' x H'' d hd e rs st y => by
    obtain ⟨rfl, kk, v, q, hv, rfl, hq2⟩ := y
    rw [List.getElem?_map] at hd
    obtain ⟨p, hp, rfl⟩ := Option.map_eq_some_iff.mp hd
    obtain ⟨q', hq, e1, _⟩ := relk_at r hp
    rw [hv] at hq
    obtain rfl := Option.some.inj hq
    refine ⟨Ext.refl _ _, rs, .tup hq2 ?_⟩
    have e1 : p.1.map kyK = kk := e1
    rw [← e1]
    exact kyDs_rel _
theorem wz_valK {n : Nat} {z : O} {a : Addr} {od : Obj} {k : List (Ky × D)} {kv : List (L2.Key × V)} (h : H a = some (.frz od (.dK kv))) (r : RelK c.K H m kyK k kv) : WalkZ c (Itd a od kv) n z (k.map fun p => p.2) m H where
  go := fun i m' S H' hi e rs st => ⟨e.fz _ _ _ h, by rw [List.length_map] at hi; rw [← Paired.length r]; exact hi⟩
  stop := fun m' S H' e rs st => ⟨e.fz _ _ _ h, by rw [List.length_map, ← Paired.length r]; exact Nat.le_refl _⟩
  yld := fun i m' S H' x H'' d hd e rs st y => by
    obtain ⟨rfl, kk, hv⟩ := y
    rw [List.getElem?_map] at hd
    obtain ⟨p, hp, rfl⟩ := Option.map_eq_some_iff.mp hd
    obtain ⟨q, hq, _, e2⟩ := relk_at r hp
    rw [hv] at hq
    obtain rfl := Option.some.inj hq
    exact ⟨Ext.refl _ _, rs, e2.mono e⟩
theorem wz_valT {n : Nat} {z : O} {a : Addr} {od : Obj} {k : List (List Ky × D)} {kv : List (List L2.Key × V)} (h : H a = some (.frz od (.dT kv))) (r : RelK c.K H m (fun x => x.map kyK) k kv) : WalkZ c (ItdT a od kv) n z (k.map fun p => p.2) m H where
  go := fun i m' S H' hi e rs st => ⟨e.fz _ _ _ h, by rw [List.length_map] at hi; rw [← Paired.length r]; exact hi⟩
  stop := fun m' S H' e rs st => ⟨e.fz _ _ _ h, by rw [List.length_map, ← Paired.length r]; exact Nat.le_refl _⟩
  yld := fun i m' S H' x H'' d hd e rs st y => by
    obtain ⟨rfl, kk, hv⟩ := y
    rw [List.getElem?_map] at hd
    obtain ⟨p, hp, rfl⟩ := Option.map_eq_some_iff.mp hd
    obtain ⟨q, hq, _, e2⟩ := relk_at r hp
    rw [hv] at hq
    obtain rfl := Option.some.inj hq
    exact ⟨Ext.refl _ _, rs, e2.mono e⟩
theorem wz_itmK {n : Nat} {z : O} {a : Addr} {od : Obj} {k : List (Ky × D)} {kv : List (L2.Key × V)} (h : H a = some (.frz od (.dK kv))) (r : RelK c.K H m kyK k kv) : WalkZ c (Iti a od kv) n z (k.map fun p => .tup [kyD p.1, p.2]) m H where
  go := fun i m' S H' hi e rs st => ⟨e.fz _ _ _ h, by rw [List.length_map] at hi; rw [← Paired.length r]; exact hi⟩
  stop := fun m' S H' e rs st => ⟨e.fz _ _ _ h, by rw [List.length_map, ← Paired.length r]; exact Nat.le_refl _⟩
  yld := fun i m' S H' x H'' d hd e rs st y => by
    obtain ⟨T, kk, v, hv, rfl, hT, rfl⟩ := y
    rw [List.getElem?_map] at hd
    obtain ⟨p, hp, rfl⟩ := Option.map_eq_some_iff.mp hd
    obtain ⟨q, hq, e1, e2⟩ := relk_at r hp
    rw [hv] at hq
    obtain rfl := Option.some.inj hq
    have e1 : kyK p.1 = kk := e1
    rw [← e1]
    exact rel_pair rs hT (kyD_rel _) (e2.mono e)
end
def ZI (w : Wk) (td : TE) : TI := match w with
  | .key => iKeys td
  | .val => fun σ H R => iVals td σ H R ∨ iValsT td σ H R
  | .itm => iItems td
theorem rdE_imp {c : Ct} {E : XK} {f : EM} {σ : L2.St} {H : Hp} {Q Q' : VK} (h : rdE c E f σ H Q) (k : ∀ v H1, Q v H1 → Q' v H1) : rdE c E f σ H Q' :=
  let ⟨fr, S, m, rf, rs, p⟩ := h
  ⟨fr, S, m, rf, rs, p.imp fun _ _ _ H' _ _ q v hv => k v H' (q v hv)⟩
section
variable {X : Cx} {E : XK} {pos : Pos}
theorem ss_forD {w : Wk} {tg iter : Expr} {body : List Stmt} {fe : EM} {g : GM} {b : SM} (hp : PassesOwn (model X.prog X.w) X.A X.env X.xe) (hc : X.calm = true) (hi : PI X tg iter (ZI w (rdE (cx X) E fe))) (hg : SG X E tg g) (hb : SSs X E body b)
    (hs : ∀ x, foldedSetIterable iter X.env x = pure x := by intro _; rfl) : SS X E (.For tg iter body [] pos) (sForD w fe g b) := by
  refine PS.mono (ps_lock (ps_for hp hc hi hg hb hs)) fun D σ H ⟨fr, S, m, rf, rs, p⟩ => ?_
  unfold sForD at p
  split at p
  · rename_i n S0 he
    split at p
    · rename_i o ho
      split at p
      · rename_i z hz
        split at p
        · rename_i l hl
          obtain ⟨a, ha⟩ := rs.adr ho
          cases o with
          | dK k =>
            obtain rfl := Option.some.inj hz
            obtain ⟨kv, h1, h2⟩ := rs.ob _ _ _ ha ho
            refine ⟨a, .dK kv, h1, trivial, fun od => ?_⟩
            have core := fun (J : It) (wz : ∀ m1 H1, Ext m H m1 H1 → H1 a = some (.frz od (.dK kv)) → WalkZ (cx X) J n (.zK k) l m1 H1) => forZ_core (J := J) (z := .zK k) (u := .dK kv) rf rs ha ho trivial trivial (fun _ => nofun) (fun _ _ => nofun) (fun _ => nofun) h1 p od (fun m' H' e hh => ⟨od, kv, hh, h2.mono e⟩) (fun m' H' e hh => ⟨kv, hh, RelK.mono0 e h2⟩) wz
            cases w with
            | key =>
              obtain rfl := Option.some.inj hl
              exact rdE_imp (core _ fun m1 H1 e hh => wz_keyK hh (h2.mono e)) fun v H1 ⟨e, hh, q⟩ => ⟨a, od, e, .inl ⟨kv, hh, q⟩⟩
            | val =>
              obtain rfl := Option.some.inj hl
              exact .inl (rdE_imp (core _ fun m1 H1 e hh => wz_valK hh (h2.mono e)) fun v H1 ⟨e, hh, q⟩ => ⟨a, od, kv, e, hh, q⟩)
            | itm =>
              obtain rfl := Option.some.inj hl
              exact rdE_imp (core _ fun m1 H1 e hh => wz_itmK hh (h2.mono e)) fun v H1 ⟨e, hh, q⟩ => ⟨a, od, kv, e, hh, q⟩
          | dT k =>
            obtain rfl := Option.some.inj hz
            obtain ⟨kv, h1, h2⟩ := rs.ob _ _ _ ha ho
            refine ⟨a, .dT kv, h1, trivial, fun od => ?_⟩
            have core := fun (J : It) (wz : ∀ m1 H1, Ext m H m1 H1 → H1 a = some (.frz od (.dT kv)) → WalkZ (cx X) J n (.zT k) l m1 H1) => forZ_core (J := J) (z := .zT k) (u := .dT kv) rf rs ha ho trivial trivial (fun _ => nofun) (fun _ _ => nofun) (fun _ => nofun) h1 p od (fun m' H' e hh => ⟨od, kv, hh, h2.mono e⟩) (fun m' H' e hh => ⟨kv, hh, RelK.mono0 e h2⟩) wz
            cases w with
            | key =>
              obtain rfl := Option.some.inj hl
              exact rdE_imp (core _ fun m1 H1 e hh => wz_keyT hh (h2.mono e)) fun v H1 ⟨e, hh, q⟩ => ⟨a, od, e, .inr ⟨kv, hh, q⟩⟩
            | val =>
              obtain rfl := Option.some.inj hl
              exact .inr (rdE_imp (core _ fun m1 H1 e hh => wz_valT hh (h2.mono e)) fun v H1 ⟨e, hh, q⟩ => ⟨a, od, kv, e, hh, q⟩)
            | itm => cases hl
          | _ => cases hz
        · exact p.elim
      · exact p.elim
    · exact p.elim
  · exact p.elim
theorem pi_or {tg e : Expr} {t t' : TI} (h : PI X tg e t) (h' : PI X tg e t') : PI X tg e fun σ H R => t σ H R ∨ t' σ H R :=
  ⟨fun pins s σ H R I q => q.elim (fun q => h.run pins s σ H R I q) fun q => h'.run pins s σ H R I q⟩
theorem zi_key {tg e : Expr} {fe : EM} (he : SE X E e fe) : PI X tg e (ZI .key (rdE (cx X) E fe)) := pi_keys he
theorem zi_val {tg e : Expr} {apos cpos : Pos} {fe : EM} (he : SE X E e fe) (hbase : attributeBase e "values" X.env (eval e X.env) = eval e X.env := by rfl) (hline : (apos.endLine == cpos.line) = true := by rfl) : PI X tg (.Call (.Attribute e "values" apos) [] [] cpos) (ZI .val (rdE (cx X) E fe)) := pi_or (pi_values he hbase hline) (pi_valuesT he hbase hline)
theorem zi_itm {elts : List Expr} {kk : Nat} {tpos : Pos} {e : Expr} {apos cpos : Pos} {fe : EM} (he : SE X E e fe) (hbase : attributeBase e "items" X.env (eval e X.env) = eval e X.env := by rfl) (hline : (apos.endLine == cpos.line) = true := by rfl) : PI X (.Tuple elts kk tpos) (.Call (.Attribute e "items" apos) [] [] cpos) (ZI .itm (rdE (cx X) E fe)) := pi_items he hbase hline
/-! ### == of dicts -/
theorem flat_same {c : Ct} {H H' : Hp} {m : List Addr} {d e : D} {x y : V} (hx : RelD c.K H m d x) (hy : RelD c.K H m e y) (h : scq d e = some true) (f : flatD d = true) (f' : flatD e = true) : x = y ∧ flatB x = true := by
  cases hx <;> cases hy <;> simp [scq, flatD] at h f f' <;> first | exact ⟨rfl, rfl⟩ | (subst h; exact ⟨rfl, rfl⟩)
theorem same_hits {c : Ct} {κ κ' : Type} [DecidableEq κ] [DecidableEq κ'] {f : κ → κ'} (inj : ∀ a b, f a = f b → a = b) {H : Hp} {m : List Addr} {k l : List (κ × D)} {kv lv : List (κ' × V)} (h : dSame k l = true) (r1 : RelK c.K H m f k kv) (r2 : RelK c.K H m f l lv) :
    kv.length = lv.length ∧ ∀ p ∈ kv, valV lv p.1 = some p.2 ∧ flatB p.2 = true := by
  unfold dSame at h
  rw [Bool.and_eq_true, List.all_eq_true] at h
  refine ⟨by rw [← Paired.length r1, ← Paired.length r2]; exact of_decide_eq_true h.1, ?_⟩
  have h2 := h.2
  clear h
  induction r1 with
  | nil => intro p hp; cases hp
  | @cons p q ps qs h t ih =>
    intro p' hp'
    rcases List.mem_cons.mp hp' with e | e
    · subst e
      have := h2 p List.mem_cons_self
      have g := RelK.get inj r2 p.1
      cases hd : dGet l p.1 with
      | none => rw [hd] at this; cases this
      | some v =>
        rw [hd] at this g
        dsimp only at this
        simp only [Bool.and_eq_true, decide_eq_true_eq] at this
        obtain ⟨v', e1, e2⟩ := g
        obtain ⟨e3, e4⟩ := flat_same (H' := H) h.2 e2 this.2 this.1.1 this.1.2
        exact ⟨by rw [← h.1, e1, e3], e4⟩
    · exact ih (fun p hp => h2 p (List.mem_cons_of_mem _ hp)) p' e
theorem same_cases {c : Ct} {H : Hp} {m : List Addr} {S : Store} {x y : D} {v w : V} (rs : RS c m S H) (hv : RelD c.K H m x v) (hw : RelD c.K H m y w) (h : oSame x y S = true) :
    (∃ a b ks ls, v = .ref a ∧ w = .ref b ∧ H a = some (.dK ks) ∧ H b = some (.dK ls) ∧ ks.length = ls.length ∧ (∀ p ∈ ks, valV ls p.1 = some p.2 ∧ flatB p.2 = true)) ∨
    (∃ a b ks ls, v = .ref a ∧ w = .ref b ∧ H a = some (.dT ks) ∧ H b = some (.dT ls) ∧ ks.length = ls.length ∧ (∀ p ∈ ks, valV ls p.1 = some p.2 ∧ flatB p.2 = true)) := by
  unfold oSame at h
  split at h
  · rename_i n n'
    cases hv with
    | ref h1 => cases hw with
      | ref h2 =>
        split at h
        · rename_i k l e1 e2
          obtain ⟨kv, a1, a2⟩ := rs.ob _ _ _ h1 e1
          obtain ⟨lv, b1, b2⟩ := rs.ob _ _ _ h2 e2
          obtain ⟨q1, q2⟩ := same_hits (fun _ _ => kyK_inj) h a2 b2
          exact .inl ⟨_, _, kv, lv, rfl, rfl, a1, b1, q1, q2⟩
        · rename_i k l e1 e2
          obtain ⟨kv, a1, a2⟩ := rs.ob _ _ _ h1 e1
          obtain ⟨lv, b1, b2⟩ := rs.ob _ _ _ h2 e2
          obtain ⟨q1, q2⟩ := same_hits (fun _ _ => kysK_inj) h a2 b2
          exact .inr ⟨_, _, kv, lv, rfl, rfl, a1, b1, q1, q2⟩
        · cases h
  · cases h
theorem om_eqD (hu : X.A.units + 65 < cLine) : OpM X E (compareOp .Eq) oEqD := by
  obtain ⟨r, h1, h2⟩ := om_eq (X := X) (E := E) hu
  refine ⟨_, opr_or h1 (opr_or (op_eq_dictA (by omega)) (op_eq_dictT (by omega))), fun x y v u S m H Q rs hv hw p => ?_⟩
  unfold oEqD at p
  split at p
  · rename_i h
    rcases same_cases rs hv hw h with ⟨a, b, ks, ls, e1, e2, e3, e4, e5, e6⟩ | ⟨a, b, ks, ls, e1, e2, e3, e4, e5, e6⟩
    · exact .inr (.inl ⟨a, b, ks, ls, e1, e2, e3, e4, e5, e6, post_bl rs p⟩)
    · exact .inr (.inr ⟨a, b, ks, ls, e1, e2, e3, e4, e5, e6, post_bl rs p⟩)
  · exact .inl (h2 _ _ _ _ S m H Q rs hv hw p)
theorem om_neD (hu : X.A.units + 65 < cLine) : OpM X E (compareOp .NotEq) oNeD := by
  obtain ⟨r, h1, h2⟩ := om_ne (X := X) (E := E) hu
  refine ⟨_, opr_or h1 (opr_or (op_ne_dictA (by omega)) (op_ne_dictT (by omega))), fun x y v u S m H Q rs hv hw p => ?_⟩
  unfold oNeD at p
  split at p
  · rename_i h
    rcases same_cases rs hv hw h with ⟨a, b, ks, ls, e1, e2, e3, e4, e5, e6⟩ | ⟨a, b, ks, ls, e1, e2, e3, e4, e5, e6⟩
    · exact .inr (.inl ⟨a, b, ks, ls, e1, e2, e3, e4, e5, e6, post_bl rs p⟩)
    · exact .inr (.inr ⟨a, b, ks, ls, e1, e2, e3, e4, e5, e6, post_bl rs p⟩)
  · exact .inl (h2 _ _ _ _ S m H Q rs hv hw p)
/-! ### clear -/
theorem mtr_or {id : String} {r r' : V → List V → Hp → VK → Prop} (h : MtR X id r) (h' : MtR X id r') : MtR X id fun x vs H Q => r x vs H Q ∨ r' x vs H Q := by
  intro pins s σ H x v vs us Q I rx rv q
  rcases q with q | q
  · exact h pins s σ H x v vs us Q I rx rv q
  · exact h' pins s σ H x v vs us Q I rx rv q
theorem mm_dclear : MtMm X E "dict.clear" dClear := by
  refine ⟨_, mtr_or mtd_clear mtd_clearT, fun x ds v vs S m H Q rs hv hvs p => ?_⟩
  unfold dClear at p
  split at p
  · split at p
    · cases hvs
      cases hv with
      | ref ha =>
        split at p
        · rename_i k hs
          obtain ⟨kv, h1, h2⟩ := rs.ob _ _ _ ha hs
          refine .inl ⟨_, kv, rfl, rfl, h1, ?_⟩
          obtain ⟨rs2, e2⟩ := rs.set (o' := .dK []) (u := .dK []) ha hs trivial trivial fun e => ⟨_, upd_same, .nil⟩
          exact p _ _ e2 rs2 _ .non
        · rename_i k hs
          obtain ⟨kv, h1, h2⟩ := rs.ob _ _ _ ha hs
          refine .inr ⟨_, kv, rfl, rfl, h1, ?_⟩
          obtain ⟨rs2, e2⟩ := rs.set (o' := .dT []) (u := .dT []) ha hs trivial trivial fun e => ⟨_, upd_same, .nil⟩
          exact p _ _ e2 rs2 _ .non
        · exact p.elim
    · exact p.elim
  · exact p.elim
end
end Sm

set_option Elab.async false
set_option linter.all false
set_option maxRecDepth 100000
set_option maxHeartbeats 2000000
/-! defs with defaults, against the layer -/
namespace Sm
open PySem PySem.Spec PyProof.Rows L2 Mi
section
variable {X : Cx} {E : XK} {pos : Pos} {e : Expr}
theorem rd_callD {f : AM} {g : Fn} {xds : List D} {dvs : List V} {fr : Fr} {S : Store} {m : List Addr} {σ : L2.St} {H : Hp} {Q : VK} {c : Ct} {E : XK}
    (hv : ∀ H m, RelL c.K H m xds dvs) (rf : RF c.K H m fr σ) (rs : RS c m S H) (p : Post c E m H ((f fr S).bind (mDfl g xds)) (kE c Q)) : rdA c E f σ H fun vs H1 => spM c g (vs ++ dvs) H1 Q E :=
  rdA_bind rf rs p fun ds S1 m1 H1 e1 rf1 rs1 p1 vs h => ⟨ds ++ xds, S1, m1, h.app (hv _ _), rs1, p1⟩
theorem se_callD {CX : CXT} {k : Nat} {f : Addr} {fd : FuncData} {ps : List Str} {g : Fn} {x : Str} {p : Pos} {es : List Expr} {fs : AM} {xds : List D} {dvs : List V} (F : FnOk X.prog X.w X.K X.mg X.base CX k f fd ps (spM (cx X) g)) (hr : Room k X.A) (hg : Gl X x) (hm : X.mg x = some (.ref f)) (hk : PySem.W.keepIn X.K (.ref f) = true) (hb : ∃ ds, Vals dvs ds ∧ Binds X.K fd ps ds) (hv : ∀ H m, RelL X.K H m xds dvs) (hx : Passes CX X E)
    (ha : SA X E (e :: es) fs) (hdb : (x == ("__debug__" : Str)) = false := by decide) (he : starEach (e :: es) X.env = (false, eval e X.env) :: starEach es X.env := by rfl) (hpl : (backTo pos (starEach es X.env)).any (·.1) = false := by rfl) :
    SE X E (.Call (.Name x p) (e :: es) [] pos) (mCall (mDfl g xds) fs) := by
  obtain ⟨ds, hd, hb⟩ := hb
  refine PE.mono (pe_call F hr hg hm hk hb hd hx ha hdb he hpl) fun σ H Q ⟨fr, S, m, rf, rs, p⟩ => ?_
  exact rd_callD hv rf rs p
end
section
variable {P : Program} {w : World} {K : PySem.W.Frag} {mg : Str → Option Value} {base : Heap}
theorem fnD_mk {x qual : Str} {st : Stmt} {f T : Addr} {oc : Value} {od an tdd : Option Addr} {osl tsl : Array (Option Value)} {kV doc pm cdv ct : Value} {its : List Value} {tn : Nat} {dvs : List V} (l : K.lookup f = some ⟨oc, od, .func (PySem.W.fnOf x qual (defArgs st) (defBody st) (defScope st) (.ref T) kV doc pm an cdv ct), osl⟩)
    (c : PySem.W.codeIn K cdv qual = true) (k : PySem.W.keepIn K (.ref f) = true) (lt : K.lookup T = some ⟨.type "tuple", tdd, .seq its.toArray tn, tsl⟩) (hv : Vals dvs its) (hn : dvs ≠ []) : FunD K x qual (defArgs st) (defBody st) (defScope st) dvs [] f (PySem.W.fnOf x qual (defArgs st) (defBody st) (defScope st) (.ref T) kV doc pm an cdv ct) :=
  ⟨⟨oc, od, .ref T, kV, doc, pm, an, cdv, ct, osl, rfl, l, c, .inr ⟨hn, T, _, its, tn, rfl, lt, rfl, hv⟩, .inl rfl⟩, k⟩
theorem fn_okD {x qual : Str} {st : Stmt} {f : Addr} {fd : FuncData} {N ps : List Str} {k : Nat} {b : SM} {dvs : List V} (F : FunD K x qual (defArgs st) (defBody st) (defScope st) dvs [] f fd) (S : FnScope N ps (defScope st))
    (hb : ∀ (cdv : Value) (A : Around) (outer : List Env) (s : Shared) (H : Hp) (E : XK), Room k (A.deeper (envOfC qual (defScope st) s.heap.objs.size f cdv)) → SSs (cxOf CX0 P w K mg base N qual (defScope st) f cdv A outer s H E).nox EF (defBody st) b) :
    FnOk P w K mg base CX0 (k + 1) f fd ps (spM ⟨K, mg⟩ (mDef ps.length N.length b)) := by
  refine F.ok S (fun vs H Q E h => ?_) (fun cdv A outer s H vs Q E hr h => ?_)
  · obtain ⟨ds, S', m, r, rs, p⟩ := h
    have p := post_quiet (E' := E) p
    unfold mDefX at p
    split at p
    · rename_i hl
      rw [← r.len]; exact hl
    · exact p.elim
  · obtain ⟨ds, S', m, r, rs, p⟩ := h
    have p := post_quiet (E' := EF) p
    unfold mDefX at p
    split at p
    · obtain ⟨t, h1, h2⟩ : ∃ t, PSs (cxOf CX0 P w K mg base N qual (defScope st) f cdv A outer s H E).nox (defBody st) t ∧ t { nx := fun _ H' => Q .non H', rt := Q } (L2.start N vs) H := by
        refine ⟨_, hb cdv A outer s H E hr, startF N.length ds, S', m, start_rel (c := ⟨K, mg⟩) r, rs, (post_bind p).imp fun o S1 m1 H1 e1 rs1 p1 => ?_⟩
        cases o with
        | nx fr => exact fun σ rf => p1.here rs1 _ .non
        | rt d => exact fun v hv => p1.here rs1 v hv
        | bk fr => exact p1.elim
        | ct fr => exact p1.elim
      exact ⟨t, h1.nox, h2⟩
    · exact p.elim
end
end Sm
namespace Sm
open PySem PySem.Spec PyProof.Rows L2 Mi
section
variable {K : PySem.W.Frag} {x qual : Str} {params : Arguments} {body : List Stmt} {scope : Scope} {dvs : List V} {f : Addr} {fd : FuncData} {ps : List Str}
theorem fnD_all {x qual : Str} {params : Arguments} {body : List Stmt} {scope : Scope} {d : V} {dvs : List V} {f : Addr} {fd : FuncData} {ps : List Str} (F : FunD K x qual params body scope (d :: dvs) [] f fd) (n : Nat)
    (h : ∀ (T : Addr) (kV doc pm : Value) (an : Option Addr) (cdv ct : Value) (us its : List Value), us.length = n → its.length = (d :: dvs).length →
      ∃ k, bindArgs (PySem.W.fnOf x qual params body scope (.ref T) kV doc pm an cdv ct) ⟨us, []⟩ = seqItems? (.ref T) >>= k ∧ k (some its.toArray) = pure (ps.zip us)) (hn : n = ps.length := by rfl) : Binds K fd ps [] := by
  obtain ⟨ds, hv, hb⟩ := F.binds1 (ps := ps) n (d :: dvs).length (List.cons_ne_nil _ _) (by rw [Nat.sub_self, Nat.add_zero]; exact hn) fun T kV doc pm an cdv ct us its h1 h2 => by
    obtain ⟨k, e1, e2⟩ := h T kV doc pm an cdv ct us its h1 h2
    refine ⟨k, e1, ?_⟩
    rw [e2, ← h2, List.drop_length, List.append_nil]
  rw [List.drop_length] at hv
  cases hv
  exact hb
theorem fnD_dfl {x qual : Str} {params : Arguments} {body : List Stmt} {scope : Scope} {d : V} {dvs : List V} {f : Addr} {fd : FuncData} {ps : List Str} (F : FunD K x qual params body scope (d :: dvs) [] f fd) (n : Nat)
    (h : ∀ (T : Addr) (kV doc pm : Value) (an : Option Addr) (cdv ct : Value) (us its : List Value), us.length = n → its.length = (d :: dvs).length →
      ∃ k, bindArgs (PySem.W.fnOf x qual params body scope (.ref T) kV doc pm an cdv ct) ⟨us, []⟩ = seqItems? (.ref T) >>= k ∧ k (some its.toArray) = pure (ps.zip (us ++ its))) (hn : n + (d :: dvs).length = ps.length := by rfl) : ∃ ds, Vals (d :: dvs) ds ∧ Binds K fd ps ds := by
  obtain ⟨ds, hv, hb⟩ := F.binds1 (ps := ps) n 0 (List.cons_ne_nil _ _) (by rw [Nat.sub_zero]; exact hn) fun T kV doc pm an cdv ct us its h1 h2 => h T kV doc pm an cdv ct us its h1 h2
  exact ⟨ds, hv, hb⟩
end
end Sm

set_option Elab.async false
set_option linter.all false
set_option maxRecDepth 100000
set_option maxHeartbeats 2000000
/-! tuples known as they stand, dict(..), against the layer -/
namespace Sm
open PySem PySem.Spec PyProof.Rows L2 Mi
section
variable {X : Cx} {E : XK} {H : Hp}
theorem call_tuple_ofX : CallR X (.type "tuple") (fun xs H Q => ∃ p ys, xs = [.ref p] ∧ ((SqL X.K H p ys ∧ ∀ l (o : Obj), o.dict = none → H l = none → Q (.ref l) (upd H l (.frz o (.tup ys)))) ∨ (SqT X.K H p ys ∧ Q (.ref p) H))) := by
  intro pins s σ H xs us Q I r h
  obtain ⟨p, ys, rfl, h⟩ := h
  obtain ⟨u, rfl, rx⟩ := vals1 r
  cases rx
  rcases h with ⟨hq, q⟩ | ⟨hq, q⟩
  · obtain ⟨its, r', pl, hz⟩ := I.list hq
    have hlen := r'.length
    refine call_tuple_list pl.isList (fun h' kp => ?_) (by simp only [List.size_toArray] <;> omega)
    have I1 : Inv X pins σ H { s with heap := h' } := I.kept (t' := s.toks) kp
    have I2 : Inv X pins σ (upd H h'.objs.size (.frz { cls := .type "tuple", data := .seq its.toArray } (.tup ys))) { s with heap := h'.push { cls := .type "tuple", data := .seq its.toArray } } :=
      I1.laid (t' := s.toks) (fun b o e => Heap.get?_push_of_some _ e) (Nat.le_refl _) (show ObjOk X.prog X.w _ _ _ (.frz { cls := .type "tuple", data := .seq its.toArray } (.tup ys)) from ⟨Heap.get?_push_size _ rfl, hz, its, r', IsTup.new _ _⟩)
    exact ⟨.ref h'.objs.size, _, I2, rfl, q _ _ rfl (I1.hok.fresh (Nat.le_refl _))⟩
  · obtain ⟨its, r', pl, hz⟩ := I.tuple hq
    exact call_tuple_same pl ⟨.ref p, H, I, rfl, q⟩
theorem post_wtp {c : Ct} {E : XK} {m : List Addr} {S : Store} {H : Hp} {l : List D} {Q : VK} {p : Addr} {xs : List V} {o : Obj} (rs : RS c m S H) (q : Post c E m H (.ok (.wtp l) S) (kE c Q)) (hp : H p = none) (ho : o.dict = none) (r : RelL c.K H m l xs) : Q (.ref p) (upd H p (.frz o (.tup xs))) := by
  have e : Ext m H m (upd H p (.frz o (.tup xs))) := ⟨⟨fun _ _ z => z, tstay_new hp⟩, fstay_new hp⟩
  exact q _ _ e (rs.fresh hp) _ (.wtp (.inl ⟨o, upd_same, ho⟩) (r.mono e))
theorem cm_tupX : CallM X E (.type "tuple") bTupX := by
  refine ⟨_, call_tuple_ofX, fun ds vs S m H Q rs hv p => ?_⟩
  unfold bTupX at p
  split at p
  · rename_i l
    obtain ⟨v, rfl, h⟩ := rel1 hv
    cases h with
    | tup ha r => exact ⟨_, _, rfl, .inr ⟨.inl (.inl ha), p.here rs _ (.tup ha r)⟩⟩
  · rename_i l
    obtain ⟨v, rfl, h⟩ := rel1 hv
    cases h with
    | wtp ha r => exact ⟨_, _, rfl, .inr ⟨ha.sq, p.here rs _ (.wtp ha r)⟩⟩
  · rename_i n
    obtain ⟨v, rfl, h⟩ := rel1 hv
    cases h with
    | ref ha =>
      split at p
      · rename_i l hl
        obtain ⟨xs, h1, h2⟩ := rs.lst ha hl
        exact ⟨_, xs, rfl, .inl ⟨h1, fun b o ho hb => post_wtp rs p hb ho h2⟩⟩
      · exact p.elim
  · exact p.elim
/-! ### dict(..) -/
theorem pairs_of2 {pins : List (Addr × Obj)} {σ : L2.St} {s : Shared} (I : Inv X pins σ H s) : ∀ {ps : List Addr} {kvs : List (L2.Key × V)}, Paired (fun p kv => SqT X.K H p [kV kv.1, kv.2]) ps kvs →
    ∃ (prs : List (L2.Key × Value)) (us : List (Value × Value)), KV kvs prs ∧ prs.length = ps.length ∧ us.length = ps.length ∧ ∀ (j : Nat) (k v : Value), us[j]? = some (k, v) → ∃ (b : Addr) (q : L2.Key), ps[j]? = some b ∧ prs[j]? = some (q, v) ∧ IsTup s.heap b #[k, v] ∧ keyIs q k = true
  | _, _, .nil => ⟨[], [], .nil, rfl, rfl, fun j k v e => by simp at e⟩
  | _, _, .cons (a := p) (b := kv) h t => by
    obtain ⟨prs, us, r, hl, hl2, hp⟩ := pairs_of2 I t
    obtain ⟨its, rv, ht, _⟩ := I.tuple h
    obtain ⟨u, y, ei, ru, ry⟩ := vals2 rv
    subst ei
    refine ⟨(kv.1, y) :: prs, (u, y) :: us, .cons ⟨rfl, ry⟩ r, by rw [List.length_cons, List.length_cons, hl], by rw [List.length_cons, List.length_cons, hl2], fun j k v e => ?_⟩
    cases j with
    | zero =>
      have e' : (u, y) = (k, v) := Option.some.inj e
      cases e'
      exact ⟨p, kv.1, rfl, rfl, ht, kV_is (P := X.prog) (w := X.w) ru⟩
    | succ j =>
      obtain ⟨b, q, e1, e2, e3, e4⟩ := hp j k v (by simpa using e)
      exact ⟨b, q, by simpa using e1, by simpa using e2, e3, e4⟩
theorem wt_plain {pins : List (Addr × Obj)} {σ : L2.St} {s : Shared} {a : Addr} {xs : List V} (I : Inv X pins σ H s) (h : Wt X.K H a xs) : ∃ its : List Value, Vals xs its ∧ PlainSeq "tuple" s.heap a its.toArray ∧ xs.length ≤ sizeLine := by
  rcases h with ⟨o, h, hd⟩ | ⟨h, o, hk, hd⟩
  · obtain ⟨ho, hz, its, r, o', ho', hc, n, hdat⟩ := I.hok a _ h
    rw [ho] at ho'
    cases ho'
    exact ⟨its, r, ⟨o, n, ho, hc, hd, hdat⟩, hz⟩
  · have h' : SqT X.K H a xs := (Wt.sq (.inr ⟨h, o, hk, hd⟩))
    obtain ⟨its, r, ⟨o', ho', hc, n, hdat⟩, hz⟩ := I.tuple h'
    have := I.kIn a o hk
    rw [this] at ho'
    cases ho'
    exact ⟨its, r, ⟨o, n, this, hc, hd, hdat⟩, hz⟩
theorem call_dictPT (hcalm : X.calm = true) : CallR X (.type "dict") (fun xs H Q => ∃ (a : Addr) (ps : List Addr) (kvs : List (L2.Key × V)), xs = [.ref a] ∧ Wt X.K H a (ps.map V.ref) ∧ Paired (fun p kv => SqT X.K H p [kV kv.1, kv.2]) ps kvs ∧
    ∀ p, H p = none → Q (.ref p) (upd H p (.dK (mergeK [] kvs)))) := by
  intro pins s σ H xs us Q I r q
  obtain ⟨a, ps, kvs, ex, hq, hp, q⟩ := q
  subst ex
  obtain ⟨u, eu, rx⟩ := vals1 r
  subst eu
  cases rx
  obtain ⟨its, rv, pl, hz⟩ := wt_plain I hq
  have ei := refs_at rv
  subst ei
  rw [List.length_map] at hz
  obtain ⟨prs, us, rel, hl, hl2, hpr⟩ := pairs_of2 I hp
  have ok : PlainSeq "tuple" s.heap a (ps.map Value.ref).toArray ∧ PairItems s.heap (ps.map Value.ref).toArray (fun j => ps.getD j 0) us := by
    refine ⟨pl, by simp [hl2], fun j k v e => ?_⟩
    obtain ⟨b, q', e1, e2, e3, e4⟩ := hpr j k v e
    refine ⟨by simp [e1, List.getD], .inl ?_⟩
    have : ps.getD j 0 = b := by simp [List.getD, e1]
    show s.heap.IsTuple (ps.getD j 0) #[k, v]
    rw [this]
    exact e3
  refine PySem.call_dict_pairs (knd := mixKind X.prog X.w) (kvs := prs) (PairArg.tuple a _ _ us) (I.ok.hd hcalm) ok ⟨by rw [hl, hl2], fun i key v h => ?_⟩ (by rw [hl2]; exact hz) fun h' tk hd' k => ?_
  · obtain ⟨b, q', e1, e2, e3, e4⟩ := hpr i key v h
    exact ⟨q', e2, e4⟩
  · have hm : (s.heap.objs.size == sysModules) = false := beq_eq_false_iff_ne.mpr (Nat.ne_of_gt I.big)
    have hlen : (mergeK [] kvs).length ≤ sizeLine := by
      refine Nat.le_trans (length_mergeK kvs []) ?_
      rw [List.length_nil, Nat.zero_add, rel.length, hl]
      exact hz
    exact ⟨.ref s.heap.objs.size, upd H s.heap.objs.size (.dK (mergeK [] kvs)), I.laid (t' := tk) (fun b o e => k b o (by simp) e) (Nat.le_refl _) (show ObjOk X.prog X.w _ _ _ (.dK (mergeK [] kvs)) from ⟨hlen, hm, merged [] prs, KV.merge rel .nil, hd'⟩), rfl, q _ (I.hok.fresh (Nat.le_refl _))⟩
theorem prs_rel {K : PySem.W.Frag} {m : List Addr} : ∀ {l : List D} {xs : List V} {ps : List (Ky × D)}, RelL K H m l xs → prsOf l = some ps → ∃ (as : List Addr) (kvs : List (L2.Key × V)), xs = as.map V.ref ∧ Paired (fun p kv => SqT K H p [kV kv.1, kv.2]) as kvs ∧ RelK K H m kyK ps kvs
  | _, _, _, .nil, e => by
    simp only [prsOf, Option.some.injEq] at e
    subst e
    exact ⟨[], [], rfl, .nil, .nil⟩
  | _, _, ps, .cons (d := d) (l := l) (v := v) (r := r) h t, e => by
    unfold prsOf at e
    split at e
    · rename_i e0; cases e0
    · rename_i k x r' e0
      cases e0
      obtain ⟨q, hq, e⟩ := Option.bind_eq_some_iff.mp e
      obtain ⟨ps', e', rfl⟩ := Option.map_eq_some_iff.mp e
      obtain ⟨as, kvs, rfl, p1, p2⟩ := prs_rel t e'
      cases h with
      | @tup _ a xs ha rr =>
        cases rr with
        | cons h1 t1 =>
          cases t1 with
          | cons h2 t2 =>
            cases t2
            have := ky_of h1 hq
            subst this
            exact ⟨a :: as, (kyK q, _) :: kvs, rfl, .cons (.inl (.inl ha)) p1, .cons ⟨rfl, h2⟩ p2⟩
    · cases e
theorem foldK {K : PySem.W.Frag} {m : List Addr} {ps : List (Ky × D)} {kvs : List (L2.Key × V)} (h : RelK K H m kyK ps kvs) : ∀ {acc : List (Ky × D)} {ac : List (L2.Key × V)}, RelK K H m kyK acc ac → RelK K H m kyK (ps.foldl (fun acc p => dPut acc p.1 p.2) acc) (mergeK ac kvs) := by
  induction h with
  | nil => intro acc ac r; exact r
  | @cons p q ps qs h t ih =>
    intro acc ac r
    obtain ⟨h1, h2⟩ := h
    have := RelK.put (fun _ _ => kyK_inj) r p.1 h2
    rw [h1] at this
    exact ih this
theorem cm_dict (hc : X.calm = true) : CallM X E (.type "dict") bDict := by
  refine ⟨_, callr_or (call_dictPT hc) call_dictD, fun ds vs S m H Q rs hv p => ?_⟩
  unfold bDict at p
  split at p
  · rename_i l
    obtain ⟨v, rfl, h⟩ := rel1 hv
    cases h with
    | wtp ha r =>
      split at p
      · rename_i ps hps
        obtain ⟨as, kvs, rfl, p1, p2⟩ := prs_rel r hps
        exact .inl ⟨_, as, kvs, rfl, ha, p1, fun b hb => post_new rs p hb fun e => ⟨_, upd_same, RelK.mono e (foldK p2 .nil)⟩⟩
      · exact p.elim
  · rename_i n
    obtain ⟨v, rfl, h⟩ := rel1 hv
    cases h with
    | @ref n a ha =>
      split at p
      · rename_i k hs
        obtain ⟨kv, h1, h2⟩ := rs.ob _ _ _ ha hs
        exact .inr ⟨a, kv, rfl, .inl h1, fun b hb => post_new rs p hb fun e => ⟨_, upd_same, RelK.mono e h2⟩⟩
      · exact p.elim
  · exact p.elim
end
end Sm

set_option Elab.async false
set_option linter.all false
/-! laws of the small language -/
namespace Mi
/-! ### stores -/
theorem get_app {α : Type} (S L : List α) (n : Nat) : (S ++ L)[n]? = S[n]?.or (L[n - S.length]?) := by
  rw [List.getElem?_append]
  split
  · rename_i h
    rw [List.getElem?_eq_getElem h]; rfl
  · rename_i h
    rw [List.getElem?_eq_none (l := S) (by omega)]; rfl
theorem get_len {α : Type} (S : List α) : S[S.length]? = none := List.getElem?_eq_none (Nat.le_refl _)
theorem get_len_add {α : Type} (S : List α) (k : Nat) : S[S.length + k]? = none := List.getElem?_eq_none (Nat.le_add_right _ _)
/-- the old part stands -/
def Pre (S S' : Store) : Prop := ∃ G, S' = S ++ G
theorem Pre.refl (S : Store) : Pre S S := ⟨[], by simp⟩
theorem Pre.trans {S S1 S2 : Store} (a : Pre S S1) (b : Pre S1 S2) : Pre S S2 := by
  obtain ⟨G, rfl⟩ := a
  obtain ⟨G', rfl⟩ := b
  exact ⟨G ++ G', by rw [List.append_assoc]⟩
theorem Pre.app (S G : Store) : Pre S (S ++ G) := ⟨G, rfl⟩
theorem Pre.get {S S' : Store} {n : Nat} {o : O} (p : Pre S S') (h : S[n]? = some o) : S'[n]? = some o := by
  obtain ⟨G, rfl⟩ := p
  rw [List.getElem?_append_left (List.getElem?_eq_some_iff.mp h).1]; exact h
theorem Pre.len {S S' : Store} (p : Pre S S') : S.length ≤ S'.length := by
  obtain ⟨G, rfl⟩ := p
  rw [List.length_append]; omega
/-- it ends well, the old part standing -/
def Gives {α : Type} (r : Res α) (S : Store) (P : α → Store → Prop) : Prop := ∃ a S', r = .ok a S' ∧ Pre S S' ∧ P a S'
theorem Gives.ok {α : Type} {a : α} {S : Store} {P : α → Store → Prop} (h : P a S) : Gives (.ok a S) S P := ⟨a, S, rfl, Pre.refl S, h⟩
theorem Gives.bind {α β : Type} {r : Res α} {S : Store} {P : α → Store → Prop} {f : α → Store → Res β} {Q : β → Store → Prop} (h : Gives r S P) (k : ∀ a S', Pre S S' → P a S' → Gives (f a S') S' Q) : Gives (r.bind f) S Q := by
  obtain ⟨a, S', rfl, p, q⟩ := h
  obtain ⟨b, S2, e, p2, q2⟩ := k a S' p q
  exact ⟨b, S2, e, p.trans p2, q2⟩
theorem Gives.mono {α : Type} {r : Res α} {S : Store} {P Q : α → Store → Prop} (h : Gives r S P) (k : ∀ a S', Pre S S' → P a S' → Q a S') : Gives r S Q := by
  obtain ⟨a, S', e, p, q⟩ := h
  exact ⟨a, S', e, p, k a S' p q⟩
/-! ### what stands -/
@[simp] theorem dec_nil (S : Store) : dec (stands [] S) = true := dec_true fun _ h => by cases h
theorem dec_one {S : Store} {n : Nat} {l : List D} (h : lstOf S n = some l) : dec (stands [(n, l)] S) = true := dec_true fun p hp => by
  have e : p = (n, l) := by simpa using hp
  subst e; exact h
/-! ### while -/
theorem whileN_mono {t : TM} {b : SM} : ∀ (n : Nat) (fr : Fr) (S : Store), whileN t b n fr S ≠ .bad → whileN t b (n + 1) fr S = whileN t b n fr S
  | 0, fr, S, h => absurd rfl h
  | n + 1, fr, S, h => by
    rw [whileN]
    conv => rhs; rw [whileN]
    unfold whileN at h
    cases ht : t fr S with
    | ok c S1 =>
      rw [ht] at h
      simp only [bind_ok] at h ⊢
      cases c with
      | false => rfl
      | true =>
        simp only [if_true] at h ⊢
        cases hb : b fr S1 with
        | ok o S2 =>
          rw [hb] at h
          simp only [bind_ok] at h ⊢
          cases o with
          | nx fr' => exact whileN_mono n fr' S2 h
          | ct fr' => exact whileN_mono n fr' S2 h
          | bk fr' => rfl
          | rt d => rfl
        | exc x S2 => rfl
        | bad => rfl
    | exc x S1 => rfl
    | bad => rfl
theorem whileN_le {t : TM} {b : SM} {n k : Nat} {fr : Fr} {S : Store} (h : whileN t b n fr S ≠ .bad) : whileN t b (n + k) fr S = whileN t b n fr S := by
  induction k with
  | zero => rfl
  | succ k ih => rw [← Nat.add_assoc, whileN_mono _ _ _ (by rw [ih]; exact h), ih]
theorem sWhile_of {t : TM} {b : SM} {n : Nat} {fr : Fr} {S : Store} (h : whileN t b n fr S ≠ .bad) : sWhile t b fr S = whileN t b n fr S := by
  have hex : ∃ n, whileN t b n fr S ≠ .bad := ⟨n, h⟩
  unfold sWhile
  rw [dif_pos hex]
  have h2 := Classical.choose_spec hex
  have e1 := whileN_le (k := n) h2
  have e2 := whileN_le (k := Classical.choose hex) h
  rw [← e1, Nat.add_comm, e2]
/-- one turn of a while -/
theorem sWhile_eq (t : TM) (b : SM) (fr : Fr) (S : Store) : sWhile t b fr S = (t fr S).bind fun c S1 => if c then (b fr S1).bind (goOn (sWhile t b)) else .ok (.nx fr) S1 := by
  have nbad : (∀ n, whileN t b (n + 1) fr S = .bad) → sWhile t b fr S = .bad := fun h => by
    unfold sWhile
    rw [dif_neg]
    rintro ⟨n, hn⟩
    cases n with
    | zero => exact hn rfl
    | succ n => exact hn (h n)
  cases ht : t fr S with
  | ok c S1 =>
    simp only [bind_ok]
    cases c with
    | false =>
      have one : whileN t b 1 fr S = .ok (.nx fr) S1 := by unfold whileN; rw [ht]; rfl
      rw [sWhile_of (n := 1) (by rw [one]; simp), one]; rfl
    | true =>
      simp only [if_true]
      cases hb : b fr S1 with
      | ok o S2 =>
        have one : ∀ n, whileN t b (n + 1) fr S = goOn (whileN t b n) o S2 := fun n => by
          rw [whileN, ht]
          simp only [bind_ok, if_true]
          rw [hb, bind_ok]
        have go : ∀ fr', (∀ n, whileN t b (n + 1) fr S = whileN t b n fr' S2) → sWhile t b fr S = sWhile t b fr' S2 := fun fr' one => by
          by_cases hex : ∃ n, whileN t b n fr' S2 ≠ .bad
          · obtain ⟨n, hn⟩ := hex
            rw [sWhile_of hn, sWhile_of (n := n + 1) (by rw [one]; exact hn), one]
          · have h1 : sWhile t b fr' S2 = .bad := by unfold sWhile; rw [dif_neg hex]
            rw [h1]
            exact nbad fun n => by rw [one]; exact Classical.byContradiction fun z => hex ⟨n, z⟩
        rw [bind_ok]
        cases o with
        | nx fr' => exact go fr' one
        | ct fr' => exact go fr' one
        | bk fr' => rw [sWhile_of (n := 1) (by rw [one]; simp [goOn]), one]; rfl
        | rt d => rw [sWhile_of (n := 1) (by rw [one]; simp [goOn]), one]; rfl
      | exc x S2 =>
        have one : whileN t b 1 fr S = .exc x S2 := by
          rw [whileN, ht]
          simp only [bind_ok, if_true]
          rw [hb]; rfl
        rw [sWhile_of (n := 1) (by rw [one]; simp), one]; rfl
      | bad =>
        rw [nbad fun n => by
          rw [whileN, ht]
          simp only [bind_ok, if_true]
          rw [hb]; rfl]
        rfl
  | exc x S1 =>
    have one : whileN t b 1 fr S = .exc x S1 := by rw [whileN, ht]; rfl
    rw [sWhile_of (n := 1) (by rw [one]; simp), one]; rfl
  | bad =>
    rw [nbad fun n => by rw [whileN, ht]; rfl]
    rfl
/-! ### for -/
/-- an invariant over the turn's number; no way out -/
theorem loop_inv {hs : List (Nat × List D)} {turn : D → SM} (I : Nat → Fr → Store → Prop) : ∀ (items : List D) (k : Nat) (fr : Fr) (S : Store), I k fr S →
    (∀ i fr S, I i fr S → stands hs S) →
    (∀ i d fr S, items[i]? = some d → I (k + i) fr S → ∃ fr' S', (turn d fr S = .ok (.nx fr') S' ∨ turn d fr S = .ok (.ct fr') S') ∧ I (k + i + 1) fr' S') →
    ∃ fr' S', loopM hs turn items fr S = .ok (.nx fr') S' ∧ I (k + items.length) fr' S'
  | [], k, fr, S, h, st, _ => ⟨fr, S, by rw [loopM, dec_true (st k fr S h)]; rfl, h⟩
  | d :: ds, k, fr, S, h, st, step => by
    obtain ⟨fr', S', e, h'⟩ := step 0 d fr S rfl h
    obtain ⟨fr2, S2, e2, h2⟩ := loop_inv I ds (k + 1) fr' S' h' st fun i d fr S hd hi => by
      have q := step (i + 1) d fr S hd (by rw [show k + (i + 1) = k + 1 + i by omega]; exact hi)
      rw [show k + (i + 1) = k + 1 + i by omega] at q
      exact q
    refine ⟨fr2, S2, ?_, by rw [List.length_cons, show k + (ds.length + 1) = k + 1 + ds.length by omega]; exact h2⟩
    rw [loopM, dec_true (st k fr S h)]
    rcases e with e | e <;> rw [e] <;> exact e2
/-- an invariant; a way out by return that is as is wanted -/
theorem loop_ret {hs : List (Nat × List D)} {turn : D → SM} (I : Nat → Fr → Store → Prop) (R : D → Store → Prop) : ∀ (items : List D) (k : Nat) (fr : Fr) (S : Store), I k fr S →
    (∀ i fr S, I i fr S → stands hs S) →
    (∀ i d fr S, items[i]? = some d → I (k + i) fr S → (∃ fr' S', (turn d fr S = .ok (.nx fr') S' ∨ turn d fr S = .ok (.ct fr') S') ∧ I (k + i + 1) fr' S') ∨ ∃ x S', turn d fr S = .ok (.rt x) S' ∧ R x S') →
    (∃ fr' S', loopM hs turn items fr S = .ok (.nx fr') S' ∧ I (k + items.length) fr' S') ∨ ∃ x S', loopM hs turn items fr S = .ok (.rt x) S' ∧ R x S'
  | [], k, fr, S, h, st, _ => .inl ⟨fr, S, by rw [loopM, dec_true (st k fr S h)]; rfl, h⟩
  | d :: ds, k, fr, S, h, st, step => by
    have un : loopM hs turn (d :: ds) fr S = (turn d fr S).bind (goOn (loopM hs turn ds)) := by rw [loopM, dec_true (st k fr S h)]; rfl
    rcases step 0 d fr S rfl h with ⟨fr', S', e, h'⟩ | ⟨x, S', e, h'⟩
    · have un2 : loopM hs turn (d :: ds) fr S = loopM hs turn ds fr' S' := by rw [un]; rcases e with e | e <;> rw [e] <;> rfl
      rw [un2]
      have := loop_ret I R ds (k + 1) fr' S' h' st fun i d fr S hd hi => by
        have q := step (i + 1) d fr S hd (by rw [show k + (i + 1) = k + 1 + i by omega]; exact hi)
        rw [show k + (i + 1) = k + 1 + i by omega] at q
        exact q
      rw [List.length_cons, show k + (ds.length + 1) = k + 1 + ds.length by omega]
      exact this
    · exact .inr ⟨x, S', by rw [un, e]; rfl, h'⟩
/-! ### comprehensions -/
/-- elements that change nothing that stood -/
theorem lc_map {hs : List (Nat × List D)} {g : GM} {t : TM} {e : EM} {fr : Fr} {S1 : Store} (f : D → Option D) :
    ∀ (items : List D) (acc : List D) (G : Store), (∀ p, p ∈ hs → lstOf S1 p.1 = some p.2) → acc.length + items.length ≤ LINE →
    (∀ d, d ∈ items → ∀ acc G, ∃ fr' G', g d fr (S1 ++ .lst acc :: G) = .ok fr' (S1 ++ .lst acc :: G) ∧
      ((f d = none ∧ t fr' (S1 ++ .lst acc :: G) = .ok false (S1 ++ .lst acc :: (G ++ G'))) ∨ ∃ x G'', f d = some x ∧ t fr' (S1 ++ .lst acc :: G) = .ok true (S1 ++ .lst acc :: (G ++ G'')) ∧ e fr' (S1 ++ .lst acc :: (G ++ G'')) = .ok x (S1 ++ .lst acc :: (G ++ G')))) →
    ∃ G', lcLoop hs S1.length g t e fr items (S1 ++ .lst acc :: G) = .ok (.ref S1.length) (S1 ++ .lst (acc ++ items.filterMap f) :: (G ++ G')) := by
  have stand : ∀ acc G, (∀ p, p ∈ hs → lstOf S1 p.1 = some p.2) → stands hs (S1 ++ .lst acc :: G) := fun acc G h p hp => by
    have q := h p hp
    unfold lstOf at q ⊢
    have hlt : p.1 < S1.length := by
      cases hh : S1[p.1]? with
      | none => rw [hh] at q; cases q
      | some o => exact (List.getElem?_eq_some_iff.mp hh).1
    rw [List.getElem?_append_left hlt]; exact q
  intro items
  induction items with
  | nil => exact fun acc G h _ _ => ⟨[], by rw [lcLoop, dec_true (stand acc G h)]; simp⟩
  | cons d ds ih =>
    intro acc G h hl step
    rw [List.length_cons] at hl
    obtain ⟨fr', G', e1, e2⟩ := step d List.mem_cons_self acc G
    have step' := fun d' hd' => step d' (List.mem_cons_of_mem _ hd')
    rcases e2 with ⟨ef, e2⟩ | ⟨x, G'', ef, e2, e3⟩
    · obtain ⟨G2, q⟩ := ih acc (G ++ G') h (by omega) step'
      refine ⟨G' ++ G2, ?_⟩
      rw [lcLoop, dec_true (stand acc G h)]
      simp only [if_true, e1, bind_ok, e2, if_neg Bool.false_ne_true]
      rw [q, List.filterMap_cons_none ef, List.append_assoc]
    · obtain ⟨G2, q⟩ := ih (acc ++ [x]) (G ++ G') h (by rw [List.length_append, List.length_singleton]; omega) step'
      refine ⟨G' ++ G2, ?_⟩
      rw [lcLoop, dec_true (stand acc G h)]
      have hget : (S1 ++ O.lst acc :: (G ++ G'))[S1.length]? = some (.lst acc) := by rw [List.getElem?_append_right (Nat.le_refl _), Nat.sub_self]; rfl
      have hset : (S1 ++ O.lst acc :: (G ++ G')).set S1.length (.lst (acc ++ [x])) = S1 ++ .lst (acc ++ [x]) :: (G ++ G') := by
        rw [List.set_append_right _ _ (Nat.le_refl _), Nat.sub_self, List.set_cons_zero]
      simp only [if_true, e1, bind_ok, e2, e3, hget]
      rw [if_pos (by omega), hset, q, List.filterMap_cons_some ef, List.append_assoc]
      simp
end Mi

set_option Elab.async false
set_option linter.all false
/-! the small language step by step: each step's continuation by a name, so that simp stops where a test is open -/
namespace Mi
variable {α β : Type}
/-! ### expressions -/
def varK (S : Store) : Option (Option D) → Res D
  | some (some d) => .ok d S
  | _ => .bad
@[simp] theorem varK_s (S : Store) (d : D) : varK S (some (some d)) = .ok d S := (rfl)
@[simp] theorem mVar_s (i : Nat) (fr : Fr) (S : Store) : mVar i fr S = varK S fr[i]? := (rfl)
@[simp] theorem mC_s (d : D) (fr : Fr) (S : Store) : mC d fr S = .ok d S := (rfl)
def opK2 (g : Op2) (x : D) (r : Res D) : Res D := r.bind fun y S2 => g x y S2
def opK1 (g : Op2) (b : EM) (fr : Fr) (r : Res D) : Res D := r.bind fun x S1 => opK2 g x (b fr S1)
@[simp] theorem opK2_s (g : Op2) (x y : D) (S : Store) : opK2 g x (.ok y S) = g x y S := (rfl)
@[simp] theorem opK1_s (g : Op2) (b : EM) (fr : Fr) (x : D) (S : Store) : opK1 g b fr (.ok x S) = opK2 g x (b fr S) := (rfl)
@[simp] theorem mOp_s (g : Op2) (a b : EM) (fr : Fr) (S : Store) : mOp g a b fr S = opK1 g b fr (a fr S) := (rfl)
def unK (g : D → Store → Res D) (r : Res D) : Res D := r.bind fun x S1 => g x S1
@[simp] theorem unK_s (g : D → Store → Res D) (x : D) (S : Store) : unK g (.ok x S) = g x S := (rfl)
@[simp] theorem mUn_s (g : D → Store → Res D) (a : EM) (fr : Fr) (S : Store) : mUn g a fr S = unK g (a fr S) := (rfl)
def notK (r : Res D) : Res D := r.bind fun x S1 => (toB x S1).bind fun b S2 => .ok (.bl (!b)) S2
@[simp] theorem notK_s (b : Bool) (S : Store) : notK (.ok (.bl b) S) = .ok (.bl (!b)) S := (rfl)
@[simp] theorem mNot_s (a : EM) (fr : Fr) (S : Store) : mNot a fr S = notK (a fr S) := (rfl)
def andK (b : EM) (fr : Fr) (r : Res D) : Res D := r.bind fun x S1 => (toB x S1).bind fun c S2 => if c then b fr S2 else .ok (.bl false) S2
@[simp] theorem andK_t (b : EM) (fr : Fr) (S : Store) : andK b fr (.ok (.bl true) S) = b fr S := (rfl)
@[simp] theorem andK_f (b : EM) (fr : Fr) (S : Store) : andK b fr (.ok (.bl false) S) = .ok (.bl false) S := (rfl)
@[simp] theorem mAnd_s (a b : EM) (fr : Fr) (S : Store) : mAnd a b fr S = andK b fr (a fr S) := (rfl)
def orK (b : EM) (fr : Fr) (r : Res D) : Res D := r.bind fun x S1 => (toB x S1).bind fun c S2 => if c then .ok (.bl true) S2 else b fr S2
@[simp] theorem orK_t (b : EM) (fr : Fr) (S : Store) : orK b fr (.ok (.bl true) S) = .ok (.bl true) S := (rfl)
@[simp] theorem orK_f (b : EM) (fr : Fr) (S : Store) : orK b fr (.ok (.bl false) S) = b fr S := (rfl)
@[simp] theorem mOr_s (a b : EM) (fr : Fr) (S : Store) : mOr a b fr S = orK b fr (a fr S) := (rfl)
def truB (S : Store) : Option Bool → Res Bool
  | some b => .ok b S
  | none => .bad
@[simp] theorem truB_s (S : Store) (b : Bool) : truB S (some b) = .ok b S := (rfl)
def truK (r : Res D) : Res Bool := r.bind fun x S1 => truB S1 (truth x S1)
@[simp] theorem truK_s (x : D) (S : Store) : truK (.ok x S) = truB S (truth x S) := (rfl)
@[simp] theorem tTru_s (a : EM) (fr : Fr) (S : Store) : tTru a fr S = truK (a fr S) := by
  unfold tTru truK
  congr 1
def blK (r : Res D) : Res Bool := r.bind fun x S1 => toB x S1
@[simp] theorem blK_s (b : Bool) (S : Store) : blK (.ok (.bl b) S) = .ok b S := (rfl)
@[simp] theorem tBl_s (a : EM) (fr : Fr) (S : Store) : tBl a fr S = blK (a fr S) := (rfl)
def tandK (b : TM) (fr : Fr) (r : Res Bool) : Res Bool := r.bind fun c S1 => if c then b fr S1 else .ok false S1
@[simp] theorem tandK_t (b : TM) (fr : Fr) (S : Store) : tandK b fr (.ok true S) = b fr S := (rfl)
@[simp] theorem tandK_f (b : TM) (fr : Fr) (S : Store) : tandK b fr (.ok false S) = .ok false S := (rfl)
@[simp] theorem tAnd_s (a b : TM) (fr : Fr) (S : Store) : tAnd a b fr S = tandK b fr (a fr S) := (rfl)
def torK (b : TM) (fr : Fr) (r : Res Bool) : Res Bool := r.bind fun c S1 => if c then .ok true S1 else b fr S1
@[simp] theorem torK_t (b : TM) (fr : Fr) (S : Store) : torK b fr (.ok true S) = .ok true S := (rfl)
@[simp] theorem torK_f (b : TM) (fr : Fr) (S : Store) : torK b fr (.ok false S) = b fr S := (rfl)
@[simp] theorem tOr_s (a b : TM) (fr : Fr) (S : Store) : tOr a b fr S = torK b fr (a fr S) := (rfl)
def tnotK (r : Res Bool) : Res Bool := r.bind fun c S1 => .ok (!c) S1
@[simp] theorem tnotK_s (b : Bool) (S : Store) : tnotK (.ok b S) = .ok (!b) S := (rfl)
@[simp] theorem tNot_s (a : TM) (fr : Fr) (S : Store) : tNot a fr S = tnotK (a fr S) := (rfl)
@[simp] theorem tYes_s (fr : Fr) (S : Store) : tYes fr S = .ok true S := (rfl)
def ifeK (a b : EM) (fr : Fr) (r : Res Bool) : Res D := r.bind fun c S1 => if c then a fr S1 else b fr S1
@[simp] theorem ifeK_t (a b : EM) (fr : Fr) (S : Store) : ifeK a b fr (.ok true S) = a fr S := (rfl)
@[simp] theorem ifeK_f (a b : EM) (fr : Fr) (S : Store) : ifeK a b fr (.ok false S) = b fr S := (rfl)
@[simp] theorem mIfE_s (t : TM) (a b : EM) (fr : Fr) (S : Store) : mIfE t a b fr S = ifeK a b fr (t fr S) := (rfl)
def chK3 (h : Op2) (y : D) (c : EM) (fr : Fr) (r : Res D) : Res D := r.bind fun z S3 => (toB z S3).bind fun k S4 => if k then opK2 h y (c fr S4) else .ok (.bl false) S4
def chK2 (g h : Op2) (x : D) (c : EM) (fr : Fr) (r : Res D) : Res D := r.bind fun y S2 => chK3 h y c fr (g x y S2)
def chK1 (g h : Op2) (b c : EM) (fr : Fr) (r : Res D) : Res D := r.bind fun x S1 => chK2 g h x c fr (b fr S1)
@[simp] theorem chK3_t (h : Op2) (y : D) (c : EM) (fr : Fr) (S : Store) : chK3 h y c fr (.ok (.bl true) S) = opK2 h y (c fr S) := (rfl)
@[simp] theorem chK3_f (h : Op2) (y : D) (c : EM) (fr : Fr) (S : Store) : chK3 h y c fr (.ok (.bl false) S) = .ok (.bl false) S := (rfl)
@[simp] theorem chK2_s (g h : Op2) (x y : D) (c : EM) (fr : Fr) (S : Store) : chK2 g h x c fr (.ok y S) = chK3 h y c fr (g x y S) := (rfl)
@[simp] theorem chK1_s (g h : Op2) (x : D) (b c : EM) (fr : Fr) (S : Store) : chK1 g h b c fr (.ok x S) = chK2 g h x c fr (b fr S) := (rfl)
@[simp] theorem mChain_s (g h : Op2) (a b c : EM) (fr : Fr) (S : Store) : mChain g h a b c fr S = chK1 g h b c fr (a fr S) := (rfl)
def acK2 (x : D) (r : Res (List D)) : Res (List D) := r.bind fun xs S2 => .ok (x :: xs) S2
def acK1 (q : AM) (fr : Fr) (r : Res D) : Res (List D) := r.bind fun x S1 => acK2 x (q fr S1)
@[simp] theorem acK2_s (x : D) (xs : List D) (S : Store) : acK2 x (.ok xs S) = .ok (x :: xs) S := (rfl)
@[simp] theorem acK1_s (q : AM) (fr : Fr) (x : D) (S : Store) : acK1 q fr (.ok x S) = acK2 x (q fr S) := (rfl)
@[simp] theorem aNil_s (fr : Fr) (S : Store) : aNil fr S = .ok [] S := (rfl)
@[simp] theorem aCons_s (a : EM) (q : AM) (fr : Fr) (S : Store) : aCons a q fr S = acK1 q fr (a fr S) := (rfl)
def tupK (r : Res (List D)) : Res D := r.bind fun xs S1 => if xs.length ≤ LINE then .ok (.tup xs) S1 else .bad
@[simp] theorem tupK_s (xs : List D) (S : Store) : tupK (.ok xs S) = if xs.length ≤ LINE then .ok (.tup xs) S else .bad := (rfl)
@[simp] theorem mTup_s (a : AM) (fr : Fr) (S : Store) : mTup a fr S = tupK (a fr S) := (rfl)
def lstK (r : Res (List D)) : Res D := r.bind fun xs S1 => if xs.length ≤ LINE then new (.lst xs) S1 else .bad
@[simp] theorem lstK_s (xs : List D) (S : Store) : lstK (.ok xs S) = if xs.length ≤ LINE then .ok (.ref S.length) (S ++ [.lst xs]) else .bad := (rfl)
@[simp] theorem mLst_s (a : AM) (fr : Fr) (S : Store) : mLst a fr S = lstK (a fr S) := (rfl)
def callK (f : Fn) (r : Res (List D)) : Res D := r.bind f
@[simp] theorem callK_s (f : Fn) (ds : List D) (S : Store) : callK f (.ok ds S) = f ds S := (rfl)
@[simp] theorem mCall_s (f : Fn) (a : AM) (fr : Fr) (S : Store) : mCall f a fr S = callK f (a fr S) := (rfl)
def mtB (f : D → Fn) (x : D) (a : AM) (fr : Fr) (S : Store) : Bool → Res D
  | true => callK (f x) (a fr S)
  | false => .bad
@[simp] theorem mtB_s (f : D → Fn) (x : D) (a : AM) (fr : Fr) (S : Store) : mtB f x a fr S true = callK (f x) (a fr S) := (rfl)
def mtK (T : D → Store → Bool) (f : D → Fn) (a : AM) (fr : Fr) (r : Res D) : Res D := r.bind fun x S1 => mtB f x a fr S1 (T x S1)
@[simp] theorem mtK_s (T : D → Store → Bool) (f : D → Fn) (a : AM) (fr : Fr) (x : D) (S : Store) : mtK T f a fr (.ok x S) = mtB f x a fr S (T x S) := (rfl)
@[simp] theorem mMt_s (T : D → Store → Bool) (f : D → Fn) (o : EM) (a : AM) (fr : Fr) (S : Store) : mMt T f o a fr S = mtK T f a fr (o fr S) := by
  unfold mMt mtK
  congr 1
  funext x S1
  cases T x S1 <;> rfl
@[simp] theorem mNewK_s (fr : Fr) (S : Store) : mNewK fr S = .ok (.ref S.length) (S ++ [.dK []]) := (rfl)
@[simp] theorem mNewT_s (fr : Fr) (S : Store) : mNewT fr S = .ok (.ref S.length) (S ++ [.dT []]) := (rfl)
def psK (r : Res D) : Res (Option Int) := r.bind fun x S1 => match x with
  | .int i => .ok (some i) S1
  | _ => .bad
@[simp] theorem psK_s (i : Int) (S : Store) : psK (.ok (.int i) S) = .ok (some i) S := (rfl)
@[simp] theorem pNo_s (fr : Fr) (S : Store) : pNo fr S = .ok none S := (rfl)
@[simp] theorem pSome_s (a : EM) (fr : Fr) (S : Store) : pSome a fr S = psK (a fr S) := (rfl)
def slK3 (x : D) (l : Option Int) (r : Res (Option Int)) : Res D := r.bind fun h S3 => oSl x l h S3
def slK2 (x : D) (hi : PM) (fr : Fr) (r : Res (Option Int)) : Res D := r.bind fun l S2 => slK3 x l (hi fr S2)
def slK1 (lo hi : PM) (fr : Fr) (r : Res D) : Res D := r.bind fun x S1 => slK2 x hi fr (lo fr S1)
@[simp] theorem slK3_s (x : D) (l h : Option Int) (S : Store) : slK3 x l (.ok h S) = oSl x l h S := (rfl)
@[simp] theorem slK2_s (x : D) (hi : PM) (fr : Fr) (l : Option Int) (S : Store) : slK2 x hi fr (.ok l S) = slK3 x l (hi fr S) := (rfl)
@[simp] theorem slK1_s (lo hi : PM) (fr : Fr) (x : D) (S : Store) : slK1 lo hi fr (.ok x S) = slK2 x hi fr (lo fr S) := (rfl)
@[simp] theorem mSl_s (a : EM) (lo hi : PM) (fr : Fr) (S : Store) : mSl a lo hi fr S = slK1 lo hi fr (a fr S) := (rfl)

/-! ### targets -/
@[simp] theorem gName_s (i : Nat) (d : D) (fr : Fr) (S : Store) : gName i d fr S = .ok (fr.set i (some d)) S := (rfl)
@[simp] theorem gNil_s (fr : Fr) (S : Store) : gNil [] fr S = .ok fr S := (rfl)
def gcK (gs : GMs) (q : List D) (r : Res Fr) : Res Fr := r.bind fun fr' S' => gs q fr' S'
@[simp] theorem gcK_s (gs : GMs) (q : List D) (fr : Fr) (S : Store) : gcK gs q (.ok fr S) = gs q fr S := (rfl)
@[simp] theorem gCons_s (g : GM) (gs : GMs) (d : D) (q : List D) (fr : Fr) (S : Store) : gCons g gs (d :: q) fr S = gcK gs q (g d fr S) := (rfl)
def gtK (n : Nat) (g : GMs) (fr : Fr) (S : Store) : Option (List D) → Res Fr
  | some l => if l.length = n then g l fr S else .bad
  | none => .bad
@[simp] theorem gtK_s (n : Nat) (g : GMs) (fr : Fr) (S : Store) (l : List D) : gtK n g fr S (some l) = if l.length = n then g l fr S else .bad := (rfl)
@[simp] theorem gTup_s (n : Nat) (g : GMs) (d : D) (fr : Fr) (S : Store) : gTup n g d fr S = gtK n g fr S (seqOf S d) := by
  unfold gTup gtK
  cases seqOf S d <;> rfl
def fuK (fr : Fr) (r : Res Unit) : Res Fr := r.bind fun _ S3 => .ok fr S3
def gsK2 (x v : D) (fr : Fr) (r : Res D) : Res Fr := r.bind fun y S2 => fuK fr (setIx x y v S2)
def gsK1 (i : EM) (v : D) (fr : Fr) (r : Res D) : Res Fr := r.bind fun x S1 => gsK2 x v fr (i fr S1)
@[simp] theorem fuK_s (fr : Fr) (u : Unit) (S : Store) : fuK fr (.ok u S) = .ok fr S := (rfl)
@[simp] theorem gsK2_s (x v y : D) (fr : Fr) (S : Store) : gsK2 x v fr (.ok y S) = fuK fr (setIx x y v S) := (rfl)
@[simp] theorem gsK1_s (i : EM) (v x : D) (fr : Fr) (S : Store) : gsK1 i v fr (.ok x S) = gsK2 x v fr (i fr S) := (rfl)
@[simp] theorem gSub_s (o i : EM) (v : D) (fr : Fr) (S : Store) : gSub o i v fr S = gsK1 i v fr (o fr S) := (rfl)

/-! ### statements -/
@[simp] theorem sNx_s (fr : Fr) (S : Store) : sNx fr S = .ok (.nx fr) S := (rfl)
def seqK (b : SM) (r : Res Out) : Res Out := r.bind fun o S1 => match o with
  | .nx fr' => b fr' S1
  | o => .ok o S1
@[simp] theorem seqK_n (b : SM) (fr : Fr) (S : Store) : seqK b (.ok (.nx fr) S) = b fr S := (rfl)
@[simp] theorem seqK_r (b : SM) (d : D) (S : Store) : seqK b (.ok (.rt d) S) = .ok (.rt d) S := (rfl)
@[simp] theorem seqK_b (b : SM) (fr : Fr) (S : Store) : seqK b (.ok (.bk fr) S) = .ok (.bk fr) S := (rfl)
@[simp] theorem seqK_c (b : SM) (fr : Fr) (S : Store) : seqK b (.ok (.ct fr) S) = .ok (.ct fr) S := (rfl)
@[simp] theorem sSeq_s (a b : SM) (fr : Fr) (S : Store) : sSeq a b fr S = seqK b (a fr S) := (rfl)
def nxK (r : Res Fr) : Res Out := r.bind fun fr' S2 => .ok (.nx fr') S2
def asK (g : GM) (fr : Fr) (r : Res D) : Res Out := r.bind fun x S1 => nxK (g x fr S1)
@[simp] theorem nxK_s (fr : Fr) (S : Store) : nxK (.ok fr S) = .ok (.nx fr) S := (rfl)
@[simp] theorem asK_s (g : GM) (fr : Fr) (x : D) (S : Store) : asK g fr (.ok x S) = nxK (g x fr S) := (rfl)
@[simp] theorem sAsg_s (e : EM) (g : GM) (fr : Fr) (S : Store) : sAsg e g fr S = asK g fr (e fr S) := (rfl)
def auK2 (i : Nat) (fr : Fr) (r : Res D) : Res Out := r.bind fun z S2 => .ok (.nx (fr.set i (some z))) S2
def auK1 (i : Nat) (g : Op2) (x : D) (fr : Fr) (r : Res D) : Res Out := r.bind fun y S1 => auK2 i fr (g x y S1)
def auK0 (i : Nat) (g : Op2) (e : EM) (fr : Fr) (S : Store) : Option (Option D) → Res Out
  | some (some x) => auK1 i g x fr (e fr S)
  | _ => .bad
@[simp] theorem auK2_s (i : Nat) (fr : Fr) (z : D) (S : Store) : auK2 i fr (.ok z S) = .ok (.nx (fr.set i (some z))) S := (rfl)
@[simp] theorem auK1_s (i : Nat) (g : Op2) (x y : D) (fr : Fr) (S : Store) : auK1 i g x fr (.ok y S) = auK2 i fr (g x y S) := (rfl)
@[simp] theorem auK0_s (i : Nat) (g : Op2) (e : EM) (fr : Fr) (S : Store) (x : D) : auK0 i g e fr S (some (some x)) = auK1 i g x fr (e fr S) := (rfl)
@[simp] theorem sAug_s (i : Nat) (g : Op2) (e : EM) (fr : Fr) (S : Store) : sAug i g e fr S = auK0 i g e fr S fr[i]? := by
  unfold sAug auK0
  cases fr[i]? with
  | none => rfl
  | some o => cases o <;> rfl
@[simp] theorem oAddI_s (a b : Int) (S : Store) : oAddI (.int a) (.int b) S = .ok (.int (a + b)) S := (rfl)
def exK (fr : Fr) (r : Res D) : Res Out := r.bind fun _ S1 => .ok (.nx fr) S1
@[simp] theorem exK_s (fr : Fr) (x : D) (S : Store) : exK fr (.ok x S) = .ok (.nx fr) S := (rfl)
@[simp] theorem sExp_s (e : EM) (fr : Fr) (S : Store) : sExp e fr S = exK fr (e fr S) := (rfl)
def reK (r : Res D) : Res Out := r.bind fun x S1 => .ok (.rt x) S1
@[simp] theorem reK_s (x : D) (S : Store) : reK (.ok x S) = .ok (.rt x) S := (rfl)
@[simp] theorem sRet_s (e : EM) (fr : Fr) (S : Store) : sRet e fr S = reK (e fr S) := (rfl)
@[simp] theorem sRetN_s (fr : Fr) (S : Store) : sRetN fr S = .ok (.rt .non) S := (rfl)
@[simp] theorem sBrk_s (fr : Fr) (S : Store) : sBrk fr S = .ok (.bk fr) S := (rfl)
@[simp] theorem sCnt_s (fr : Fr) (S : Store) : sCnt fr S = .ok (.ct fr) S := (rfl)
def ifK (a b : SM) (fr : Fr) (r : Res Bool) : Res Out := r.bind fun c S1 => if c then a fr S1 else b fr S1
@[simp] theorem ifK_t (a b : SM) (fr : Fr) (S : Store) : ifK a b fr (.ok true S) = a fr S := (rfl)
@[simp] theorem ifK_f (a b : SM) (fr : Fr) (S : Store) : ifK a b fr (.ok false S) = b fr S := (rfl)
@[simp] theorem sIf_s (t : TM) (a b : SM) (fr : Fr) (S : Store) : sIf t a b fr S = ifK a b fr (t fr S) := (rfl)
/-- a turn of a for -/
def tuK (b : SM) (r : Res Fr) : Res Out := r.bind fun fr' S' => b fr' S'
@[simp] theorem tuK_s (b : SM) (fr : Fr) (S : Store) : tuK b (.ok fr S) = b fr S := (rfl)
def turnM (g : GM) (b : SM) (d : D) (fr : Fr) (S : Store) : Res Out := tuK b (g d fr S)
theorem turnM_s (g : GM) (b : SM) (d : D) (fr : Fr) (S : Store) : turnM g b d fr S = tuK b (g d fr S) := (rfl)
noncomputable def forK (g : GM) (b : SM) (fr : Fr) (r : Res Its) : Res Out := r.bind fun I S1 => loopM I.hs (turnM g b) I.items fr S1
@[simp] theorem forK_s (g : GM) (b : SM) (fr : Fr) (l : List D) (hs : List (Nat × List D)) (S : Store) : forK g b fr (.ok ⟨l, hs⟩ S) = loopM hs (turnM g b) l fr S := (rfl)
@[simp] theorem sFor_s (i : IM) (g : GM) (b : SM) (fr : Fr) (S : Store) : sFor i g b fr S = forK g b fr (i fr S) := (rfl)
/-- the rest of a for -/
noncomputable def loK (hs : List (Nat × List D)) (turn : D → SM) (ds : List D) (r : Res Out) : Res Out := r.bind (goOn (loopM hs turn ds))
@[simp] theorem loK_n (hs : List (Nat × List D)) (turn : D → SM) (ds : List D) (fr : Fr) (S : Store) : loK hs turn ds (.ok (.nx fr) S) = loopM hs turn ds fr S := (rfl)
@[simp] theorem loK_c (hs : List (Nat × List D)) (turn : D → SM) (ds : List D) (fr : Fr) (S : Store) : loK hs turn ds (.ok (.ct fr) S) = loopM hs turn ds fr S := (rfl)
@[simp] theorem loK_b (hs : List (Nat × List D)) (turn : D → SM) (ds : List D) (fr : Fr) (S : Store) : loK hs turn ds (.ok (.bk fr) S) = .ok (.nx fr) S := (rfl)
@[simp] theorem loK_r (hs : List (Nat × List D)) (turn : D → SM) (ds : List D) (d : D) (S : Store) : loK hs turn ds (.ok (.rt d) S) = .ok (.rt d) S := (rfl)
theorem loop_nil {hs : List (Nat × List D)} {turn : D → SM} {fr : Fr} {S : Store} (h : stands hs S) : loopM hs turn [] fr S = .ok (.nx fr) S := by rw [loopM, dec_true h]; rfl
theorem loop_cons {hs : List (Nat × List D)} {turn : D → SM} {d : D} {ds : List D} {fr : Fr} {S : Store} (h : stands hs S) : loopM hs turn (d :: ds) fr S = loK hs turn ds (turn d fr S) := by rw [loopM, dec_true h]; rfl
theorem stands_nil (S : Store) : stands [] S := fun _ h => by cases h
theorem stands_one {S : Store} {n : Nat} {l : List D} (h : lstOf S n = some l) : stands [(n, l)] S := fun p hp => by
  have e : p = (n, l) := by simpa using hp
  subst e; exact h
/-- a while -/
noncomputable def whK (t : TM) (b : SM) (r : Res Out) : Res Out := r.bind (goOn (sWhile t b))
noncomputable def whT (t : TM) (b : SM) (fr : Fr) (r : Res Bool) : Res Out := r.bind fun c S1 => if c then whK t b (b fr S1) else .ok (.nx fr) S1
theorem while_s (t : TM) (b : SM) (fr : Fr) (S : Store) : sWhile t b fr S = whT t b fr (t fr S) := sWhile_eq t b fr S
@[simp] theorem whT_t (t : TM) (b : SM) (fr : Fr) (S : Store) : whT t b fr (.ok true S) = whK t b (b fr S) := (rfl)
@[simp] theorem whT_f (t : TM) (b : SM) (fr : Fr) (S : Store) : whT t b fr (.ok false S) = .ok (.nx fr) S := (rfl)
@[simp] theorem whK_n (t : TM) (b : SM) (fr : Fr) (S : Store) : whK t b (.ok (.nx fr) S) = sWhile t b fr S := (rfl)
@[simp] theorem whK_c (t : TM) (b : SM) (fr : Fr) (S : Store) : whK t b (.ok (.ct fr) S) = sWhile t b fr S := (rfl)
@[simp] theorem whK_b (t : TM) (b : SM) (fr : Fr) (S : Store) : whK t b (.ok (.bk fr) S) = .ok (.nx fr) S := (rfl)
@[simp] theorem whK_r (t : TM) (b : SM) (d : D) (S : Store) : whK t b (.ok (.rt d) S) = .ok (.rt d) S := (rfl)
/-- a def -/
@[simp] theorem quiet_s (a : α) (S : Store) : quiet (.ok a S) = .ok a S := (rfl)
def deK (r : Res Out) : Res D := r.bind fun o S1 => match o with
  | .rt x => .ok x S1
  | .nx _ => .ok .non S1
  | _ => .bad
@[simp] theorem deK_r (x : D) (S : Store) : deK (.ok (.rt x) S) = .ok x S := (rfl)
@[simp] theorem deK_n (fr : Fr) (S : Store) : deK (.ok (.nx fr) S) = .ok .non S := (rfl)
theorem mDef_s (np n : Nat) (b : SM) (ds : List D) (S : Store) (h : ds.length = np) : mDef np n b ds S = quiet (deK (b (startF n ds) S)) := by
  unfold mDef mDefX
  rw [if_pos h]; rfl
@[simp] theorem mDef_1 (n : Nat) (b : SM) (x0 : D) (S : Store) : mDef 1 n b [x0] S = quiet (deK (b ([some x0] ++ List.replicate (n - 1) none) S)) := (rfl)
@[simp] theorem mDef_2 (n : Nat) (b : SM) (x0 x1 : D) (S : Store) : mDef 2 n b [x0, x1] S = quiet (deK (b ([some x0, some x1] ++ List.replicate (n - 2) none) S)) := (rfl)
@[simp] theorem mDef_3 (n : Nat) (b : SM) (x0 x1 x2 : D) (S : Store) : mDef 3 n b [x0, x1, x2] S = quiet (deK (b ([some x0, some x1, some x2] ++ List.replicate (n - 3) none) S)) := (rfl)
@[simp] theorem mDef_4 (n : Nat) (b : SM) (x0 x1 x2 x3 : D) (S : Store) : mDef 4 n b [x0, x1, x2, x3] S = quiet (deK (b ([some x0, some x1, some x2, some x3] ++ List.replicate (n - 4) none) S)) := (rfl)
@[simp] theorem mDef_5 (n : Nat) (b : SM) (x0 x1 x2 x3 x4 : D) (S : Store) : mDef 5 n b [x0, x1, x2, x3, x4] S = quiet (deK (b ([some x0, some x1, some x2, some x3, some x4] ++ List.replicate (n - 5) none) S)) := (rfl)
@[simp] theorem mDef_6 (n : Nat) (b : SM) (x0 x1 x2 x3 x4 x5 : D) (S : Store) : mDef 6 n b [x0, x1, x2, x3, x4, x5] S = quiet (deK (b ([some x0, some x1, some x2, some x3, some x4, some x5] ++ List.replicate (n - 6) none) S)) := (rfl)
@[simp] theorem startF_s (n : Nat) (ds : List D) : startF n ds = ds.map some ++ List.replicate (n - ds.length) none := (rfl)

/-! ### what is walked -/
def isK (r : Res D) : Res Its := r.bind fun x S1 => match x with
  | .tup l => .ok ⟨l, []⟩ S1
  | .wtp l => .ok ⟨l, []⟩ S1
  | .ref n => match lstOf S1 n with
    | some l => .ok ⟨l, [(n, l)]⟩ S1
    | none => .bad
  | _ => .bad
def isR (n : Nat) (S : Store) : Option (List D) → Res Its
  | some l => .ok ⟨l, [(n, l)]⟩ S
  | none => .bad
@[simp] theorem isR_s (n : Nat) (S : Store) (l : List D) : isR n S (some l) = .ok ⟨l, [(n, l)]⟩ S := (rfl)
@[simp] theorem isK_t (l : List D) (S : Store) : isK (.ok (.tup l) S) = .ok ⟨l, []⟩ S := (rfl)
@[simp] theorem isK_w (l : List D) (S : Store) : isK (.ok (.wtp l) S) = .ok ⟨l, []⟩ S := (rfl)
@[simp] theorem isK_r (n : Nat) (S : Store) : isK (.ok (.ref n) S) = isR n S (lstOf S n) := by
  show (match lstOf S n with | some l => (.ok ⟨l, [(n, l)]⟩ S : Res Its) | none => .bad) = _
  cases lstOf S n <;> rfl
@[simp] theorem iSeq_s (e : EM) (fr : Fr) (S : Store) : iSeq e fr S = isK (e fr S) := (rfl)
def istK (r : Res D) : Res Its := r.bind fun x S1 => match x with
  | .str z => .ok ⟨z.map fun c => .str [c], []⟩ S1
  | _ => .bad
@[simp] theorem istK_s (z : Tx) (S : Store) : istK (.ok (.str z) S) = .ok ⟨z.map fun c => .str [c], []⟩ S := (rfl)
@[simp] theorem iStr_s (e : EM) (fr : Fr) (S : Store) : iStr e fr S = istK (e fr S) := (rfl)
def ir1K (r : Res (List D)) : Res Its := r.bind fun ds S1 => match ds with
  | [.int j] => if far j then .ok ⟨rng 0 j.toNat, []⟩ S1 else .bad
  | _ => .bad
@[simp] theorem ir1K_s (j : Int) (S : Store) : ir1K (.ok [.int j] S) = if far j then .ok ⟨rng 0 j.toNat, []⟩ S else .bad := (rfl)
@[simp] theorem iRng1_s (a : AM) (fr : Fr) (S : Store) : iRng1 a fr S = ir1K (a fr S) := (rfl)
def ir2K (r : Res (List D)) : Res Its := r.bind fun ds S1 => match ds with
  | [.int i, .int j] => if far i ∧ far j then .ok ⟨rng i (j - i).toNat, []⟩ S1 else .bad
  | _ => .bad
@[simp] theorem ir2K_s (i j : Int) (S : Store) : ir2K (.ok [.int i, .int j] S) = if far i ∧ far j then .ok ⟨rng i (j - i).toNat, []⟩ S else .bad := (rfl)
@[simp] theorem iRng2_s (a : AM) (fr : Fr) (S : Store) : iRng2 a fr S = ir2K (a fr S) := (rfl)
def irdK (r : Res (List D)) : Res Its := r.bind fun ds S1 => match ds with
  | [.int i, .int j, .int c] => if far i ∧ far j ∧ c = -1 then .ok ⟨(List.range (i - j).toNat).map fun k => .int (i - (k : Nat)), []⟩ S1 else .bad
  | _ => .bad
@[simp] theorem irdK_s (i j c : Int) (S : Store) : irdK (.ok [.int i, .int j, .int c] S) = if far i ∧ far j ∧ c = -1 then .ok ⟨(List.range (i - j).toNat).map fun k => .int (i - (k : Nat)), []⟩ S else .bad := (rfl)
@[simp] theorem iRngD_s (a : AM) (fr : Fr) (S : Store) : iRngD a fr S = irdK (a fr S) := (rfl)
def irrK (r : Res D) : Res Its := r.bind fun x S1 => match x with
  | .int j => if far j then .ok ⟨(List.range j.toNat).map fun k => .int ((j.toNat : Int) - 1 - (k : Nat)), []⟩ S1 else .bad
  | _ => .bad
@[simp] theorem irrK_s (j : Int) (S : Store) : irrK (.ok (.int j) S) = if far j then .ok ⟨(List.range j.toNat).map fun k => .int ((j.toNat : Int) - 1 - (k : Nat)), []⟩ S else .bad := (rfl)
@[simp] theorem iRevR_s (a : EM) (fr : Fr) (S : Store) : iRevR a fr S = irrK (a fr S) := (rfl)
def ienR (n : Nat) (S : Store) : Option (List D) → Res Its
  | some l => .ok ⟨prs 0 l, [(n, l)]⟩ S
  | none => .bad
def ienK (r : Res (List D)) : Res Its := r.bind fun ds S1 => match ds with
  | [.ref n] => ienR n S1 (lstOf S1 n)
  | _ => .bad
@[simp] theorem ienR_s (n : Nat) (S : Store) (l : List D) : ienR n S (some l) = .ok ⟨prs 0 l, [(n, l)]⟩ S := (rfl)
@[simp] theorem ienK_s (n : Nat) (S : Store) : ienK (.ok [.ref n] S) = ienR n S (lstOf S n) := (rfl)
@[simp] theorem iEnum_s (a : AM) (fr : Fr) (S : Store) : iEnum a fr S = ienK (a fr S) := by
  unfold iEnum ienK
  congr 1
def irvR (n : Nat) (S : Store) : Option (List D) → Res Its
  | some l => .ok ⟨l.reverse, [(n, l)]⟩ S
  | none => .bad
def irvK (r : Res (List D)) : Res Its := r.bind fun ds S1 => match ds with
  | [.ref n] => irvR n S1 (lstOf S1 n)
  | _ => .bad
@[simp] theorem irvR_s (n : Nat) (S : Store) (l : List D) : irvR n S (some l) = .ok ⟨l.reverse, [(n, l)]⟩ S := (rfl)
@[simp] theorem irvK_s (n : Nat) (S : Store) : irvK (.ok [.ref n] S) = irvR n S (lstOf S n) := (rfl)
@[simp] theorem iRev_s (a : AM) (fr : Fr) (S : Store) : iRev a fr S = irvK (a fr S) := by
  unfold iRev irvK
  congr 1
/-! ### comprehensions -/
noncomputable def lcK (vs : List Nat) (g : GM) (t : TM) (e : EM) (fr : Fr) (r : Res Its) : Res D := r.bind fun I S1 => lcLoop I.hs S1.length g (fun fr S => quiet (t fr S)) (fun fr S => quiet (e fr S)) (unset vs fr) I.items (S1 ++ [.lst []])
theorem lcK_s (vs : List Nat) (g : GM) (t : TM) (e : EM) (fr : Fr) (l : List D) (hs : List (Nat × List D)) (S : Store) : lcK vs g t e fr (.ok ⟨l, hs⟩ S) = lcLoop hs S.length g (fun fr S => quiet (t fr S)) (fun fr S => quiet (e fr S)) (unset vs fr) l (S ++ [.lst []]) := (rfl)
@[simp] theorem mLc_s (vs : List Nat) (i : IM) (g : GM) (t : TM) (e : EM) (fr : Fr) (S : Store) : mLc vs i g t e fr S = lcK vs g t e fr (i fr S) := (rfl)
/-- a comprehension whose elements change nothing that stood -/
theorem lc_is {vs : List Nat} {g : GM} {t : TM} {e : EM} {fr : Fr} {l : List D} {hs : List (Nat × List D)} {S : Store} (f : D → Option D) (h1 : ∀ p, p ∈ hs → lstOf S p.1 = some p.2) (h2 : l.length ≤ LINE)
    (h3 : ∀ d, d ∈ l → ∀ acc G, ∃ fr' G', g d (unset vs fr) (S ++ .lst acc :: G) = .ok fr' (S ++ .lst acc :: G) ∧
      ((f d = none ∧ t fr' (S ++ .lst acc :: G) = .ok false (S ++ .lst acc :: (G ++ G'))) ∨ ∃ x G'', f d = some x ∧ t fr' (S ++ .lst acc :: G) = .ok true (S ++ .lst acc :: (G ++ G'')) ∧ e fr' (S ++ .lst acc :: (G ++ G'')) = .ok x (S ++ .lst acc :: (G ++ G')))) :
    ∃ G', lcK vs g t e fr (.ok ⟨l, hs⟩ S) = .ok (.ref S.length) (S ++ .lst (l.filterMap f) :: G') := by
  have q := lc_map (g := g) (t := fun fr S => quiet (t fr S)) (e := fun fr S => quiet (e fr S)) (fr := unset vs fr) f l [] [] h1 (by simpa using h2) fun d hd acc G => by
    obtain ⟨fr', G', e1, e2⟩ := h3 d hd acc G
    refine ⟨fr', G', e1, ?_⟩
    rcases e2 with ⟨a, b⟩ | ⟨x, G'', a, b, c⟩
    · exact .inl ⟨a, by rw [b]; rfl⟩
    · exact .inr ⟨x, G'', a, by rw [b]; rfl, by rw [c]; rfl⟩
  exact q
/-! ### operators by their operands -/
section
variable (S : Store)
@[simp] theorem oAdd_i (i j : Int) : oAdd (.int i) (.int j) S = .ok (.int (i + j)) S := (rfl)
@[simp] theorem oAdd_s (a b : Tx) : oAdd (.str a) (.str b) S = if a.length + b.length ≤ LINE then .ok (.str (a ++ b)) S else .bad := (rfl)
@[simp] theorem oAdd_t (a b : List D) : oAdd (.tup a) (.tup b) S = if a ≠ [] ∧ a.length + b.length ≤ LINE then .ok (.tup (a ++ b)) S else .bad := (rfl)
def catK : Option O → Option O → Res D
  | some (.lst a), some (.lst b) => if a.length + b.length ≤ LINE then new (.lst (a ++ b)) S else .bad
  | _, _ => .bad
@[simp] theorem catK_s (a b : List D) : catK S (some (.lst a)) (some (.lst b)) = if a.length + b.length ≤ LINE then .ok (.ref S.length) (S ++ [.lst (a ++ b)]) else .bad := (rfl)
@[simp] theorem oAdd_r (m n : Nat) : oAdd (.ref m) (.ref n) S = catK S S[m]? S[n]? := by
  unfold oAdd catK
  rfl
@[simp] theorem oSub_i (i j : Int) : oSub (.int i) (.int j) S = .ok (.int (i - j)) S := (rfl)
@[simp] theorem oMul_i (i j : Int) : oMul (.int i) (.int j) S = if mulOk i j then .ok (.int (i * j)) S else .bad := (rfl)
def repK (k : Int) : Option O → Res D
  | some (.lst a) => if -(2 ^ 63) ≤ k ∧ k < 2 ^ 63 ∧ a.length * k.toNat ≤ LINE then new (.lst (List.replicate k.toNat a).flatten) S else .bad
  | _ => .bad
@[simp] theorem repK_s (k : Int) (a : List D) : repK S k (some (.lst a)) = if -(2 ^ 63) ≤ k ∧ k < 2 ^ 63 ∧ a.length * k.toNat ≤ LINE then .ok (.ref S.length) (S ++ [.lst (List.replicate k.toNat a).flatten]) else .bad := (rfl)
@[simp] theorem oMul_r (m : Nat) (k : Int) : oMul (.ref m) (.int k) S = repK S k S[m]? := by
  unfold oMul repK
  rfl
@[simp] theorem oDiv_i (i j : Int) : oDiv (.int i) (.int j) S = if divOk j then .ok (.int (i / j)) S else .bad := (rfl)
@[simp] theorem oMod_i (i j : Int) : oMod (.int i) (.int j) S = if 0 < j then .ok (.int (i % j)) S else .bad := (rfl)
@[simp] theorem oPow_i (i j : Int) : oPow (.int i) (.int j) S = if powOk i j then .ok (.int (i ^ j.toNat)) S else .bad := (rfl)
@[simp] theorem oShl_i (i j : Int) : oShl (.int i) (.int j) S = if powOk i j then .ok (.int (i * 2 ^ j.toNat)) S else .bad := (rfl)
@[simp] theorem oShr_i (i j : Int) : oShr (.int i) (.int j) S = if 0 ≤ j then .ok (.int (i / 2 ^ j.toNat)) S else .bad := (rfl)
@[simp] theorem oAnd_i (i j : Int) : oAnd (.int i) (.int j) S = if 0 ≤ i ∧ 0 ≤ j then .ok (.int (i.toNat &&& j.toNat : Nat)) S else .bad := (rfl)
@[simp] theorem oOr_i (i j : Int) : oOr (.int i) (.int j) S = if 0 ≤ i ∧ 0 ≤ j then .ok (.int (i.toNat ||| j.toNat : Nat)) S else .bad := (rfl)
@[simp] theorem oXor_i (i j : Int) : oXor (.int i) (.int j) S = if 0 ≤ i ∧ 0 ≤ j then .ok (.int (i.toNat ^^^ j.toNat : Nat)) S else .bad := (rfl)
@[simp] theorem oLt_i (i j : Int) : oLt (.int i) (.int j) S = .ok (.bl (decide (i < j))) S := (rfl)
@[simp] theorem oLe_i (i j : Int) : oLe (.int i) (.int j) S = .ok (.bl (decide (i ≤ j))) S := (rfl)
@[simp] theorem oGt_i (i j : Int) : oGt (.int i) (.int j) S = .ok (.bl (decide (j < i))) S := (rfl)
@[simp] theorem oGe_i (i j : Int) : oGe (.int i) (.int j) S = .ok (.bl (decide (j ≤ i))) S := (rfl)
@[simp] theorem uNeg_i (i : Int) : uNeg (.int i) S = .ok (.int (-i)) S := (rfl)
@[simp] theorem oIs_n (x : D) : oIs x .non S = .ok (.bl (isN x)) S := (rfl)
@[simp] theorem oIsNot_n (x : D) : oIsNot x .non S = .ok (.bl (!isN x)) S := (rfl)
@[simp] theorem isN_n : isN .non = true := (rfl)
@[simp] theorem isN_b (b : Bool) : isN (.bl b) = false := (rfl)
@[simp] theorem isN_i (b : Int) : isN (.int b) = false := (rfl)
@[simp] theorem isN_s (b : Tx) : isN (.str b) = false := (rfl)
@[simp] theorem isN_t (b : List D) : isN (.tup b) = false := (rfl)
@[simp] theorem isN_r (b : Nat) : isN (.ref b) = false := (rfl)
@[simp] theorem oEq_i (i j : Int) : oEq (.int i) (.int j) S = .ok (.bl (decide (i = j))) S := (rfl)
@[simp] theorem oEq_s (i j : Tx) : oEq (.str i) (.str j) S = .ok (.bl (decide (i = j))) S := (rfl)
@[simp] theorem oEq_b (i j : Bool) : oEq (.bl i) (.bl j) S = .ok (.bl (decide (i = j))) S := (rfl)
@[simp] theorem oEq_nn : oEq .non .non S = .ok (.bl true) S := (rfl)
@[simp] theorem oEq_sn (i : Tx) : oEq (.str i) .non S = .ok (.bl false) S := (rfl)
@[simp] theorem oEq_ns (i : Tx) : oEq .non (.str i) S = .ok (.bl false) S := (rfl)
@[simp] theorem oEq_is (i : Int) (j : Tx) : oEq (.int i) (.str j) S = .ok (.bl false) S := (rfl)
@[simp] theorem oEq_si (i : Int) (j : Tx) : oEq (.str j) (.int i) S = .ok (.bl false) S := (rfl)
@[simp] theorem oNe_i (i j : Int) : oNe (.int i) (.int j) S = .ok (.bl (!decide (i = j))) S := (rfl)
@[simp] theorem oNe_s (i j : Tx) : oNe (.str i) (.str j) S = .ok (.bl (!decide (i = j))) S := (rfl)
@[simp] theorem oNe_b (i j : Bool) : oNe (.bl i) (.bl j) S = .ok (.bl (!decide (i = j))) S := (rfl)
@[simp] theorem oNe_nn : oNe .non .non S = .ok (.bl false) S := (rfl)
@[simp] theorem oNe_sn (i : Tx) : oNe (.str i) .non S = .ok (.bl true) S := (rfl)
@[simp] theorem oNe_ns (i : Tx) : oNe .non (.str i) S = .ok (.bl true) S := (rfl)
def eqK (f : Bool → Bool) : Option Bool → Res D
  | some b => .ok (.bl (f b)) S
  | none => .bad
@[simp] theorem eqK_s (f : Bool → Bool) (b : Bool) : eqK S f (some b) = .ok (.bl (f b)) S := (rfl)
/-- not simp: where data of some depth are compared -/
theorem oEq_g (x y : D) : oEq x y S = eqK S (fun b => b) (pyEq x y S) := by
  unfold oEq eqK
  cases pyEq x y S <;> rfl
theorem oNe_g (x y : D) : oNe x y S = eqK S (fun b => !b) (pyEq x y S) := by
  unfold oNe eqK
  cases pyEq x y S <;> rfl
@[simp] theorem oIn_g (x y : D) : oIn x y S = eqK S (fun b => b) (isIn x y S) := by
  unfold oIn eqK
  cases isIn x y S <;> rfl
@[simp] theorem oNotIn_g (x y : D) : oNotIn x y S = eqK S (fun b => !b) (isIn x y S) := by
  unfold oNotIn eqK
  cases isIn x y S <;> rfl
@[simp] theorem isIn_t (x : D) (l : List D) : isIn x (.tup l) S = inSeq x l S := (rfl)
@[simp] theorem isIn_w (x : D) (l : List D) : isIn x (.wtp l) S = inSeq x l S := (rfl)
@[simp] theorem isIn_s (c : Nat) (z : Tx) : isIn (.str [c]) (.str z) S = some (decide (c ∈ z)) := (rfl)
def inR (x : D) : Option O → Option Bool
  | some (.lst l) => inSeq x l S
  | some (.fls l) => inSeq x l S
  | some (.dK kvs) => (kyOf x).map fun k => (dGet kvs k).isSome
  | some (.dT kvs) => (ktOf x).map fun k => (dGet kvs k).isSome
  | _ => none
@[simp] theorem inR_l (x : D) (l : List D) : inR S x (some (.lst l)) = inSeq x l S := (rfl)
@[simp] theorem inR_f (x : D) (l : List D) : inR S x (some (.fls l)) = inSeq x l S := (rfl)
@[simp] theorem inR_k (x : D) (l : List (Ky × D)) : inR S x (some (.dK l)) = (kyOf x).map fun k => (dGet l k).isSome := (rfl)
@[simp] theorem inR_t (x : D) (l : List (List Ky × D)) : inR S x (some (.dT l)) = (ktOf x).map fun k => (dGet l k).isSome := (rfl)
@[simp] theorem isIn_r (x : D) (n : Nat) : isIn x (.ref n) S = inR S x S[n]? := by
  show (match S[n]? with
    | some (.lst l) => inSeq x l S
    | some (.fls l) => inSeq x l S
    | some (.dK kvs) => (kyOf x).map fun k => (dGet kvs k).isSome
    | some (.dT kvs) => (ktOf x).map fun k => (dGet kvs k).isSome
    | _ => none) = _
  cases S[n]? with
  | none => rfl
  | some o => cases o <;> rfl
@[simp] theorem flat_n : flatD .non = true := (rfl)
@[simp] theorem flat_b (b : Bool) : flatD (.bl b) = true := (rfl)
@[simp] theorem flat_i (b : Int) : flatD (.int b) = true := (rfl)
@[simp] theorem flat_s (b : Tx) : flatD (.str b) = true := (rfl)
@[simp] theorem eqF_nn : eqF .non .non = true := (rfl)
@[simp] theorem eqF_ii (a b : Int) : eqF (.int a) (.int b) = (a == b) := (rfl)
@[simp] theorem eqF_ss (a b : Tx) : eqF (.str a) (.str b) = (a == b) := (rfl)
@[simp] theorem eqF_bb (a b : Bool) : eqF (.bl a) (.bl b) = (a == b) := (rfl)
@[simp] theorem eqF_is (a : Int) (b : Tx) : eqF (.int a) (.str b) = false := (rfl)
@[simp] theorem eqF_si (a : Int) (b : Tx) : eqF (.str b) (.int a) = false := (rfl)
@[simp] theorem eqF_ns (b : Tx) : eqF .non (.str b) = false := (rfl)
@[simp] theorem eqF_sn (b : Tx) : eqF (.str b) .non = false := (rfl)
@[simp] theorem eqF_ni (b : Int) : eqF .non (.int b) = false := (rfl)
@[simp] theorem eqF_in (b : Int) : eqF (.int b) .non = false := (rfl)
theorem inSeq_f {x : D} {l : List D} (h1 : flatD x = true) (h2 : l.all flatD = true) : inSeq x l S = some (l.any fun y => eqF y x) := by
  unfold inSeq
  rw [if_pos ⟨h1, h2⟩]
@[simp] theorem inSeq_nil {x : D} (h1 : flatD x = true) : inSeq x [] S = some false := inSeq_f S h1 rfl
@[simp] theorem inSeq_cons {x y : D} {l : List D} (h1 : flatD x = true) (h2 : flatD y = true) (h3 : l.all flatD = true) : inSeq x (y :: l) S = some (eqF y x || l.any fun y => eqF y x) := by
  rw [inSeq_f S h1 (by rw [List.all_cons, h2, h3]; rfl), List.any_cons]
def ixA (S : Store) : Option D → Res D
  | some v => .ok v S
  | none => .bad
@[simp] theorem ixA_s (v : D) : ixA S (some v) = .ok v S := (rfl)
def ixC (S : Store) : Option Nat → Res D
  | some c => .ok (.str [c]) S
  | none => .bad
@[simp] theorem ixC_s (v : Nat) : ixC S (some v) = .ok (.str [v]) S := (rfl)
@[simp] theorem oIx_t (l : List D) (i : Int) : oIx (.tup l) (.int i) S = ixA S (atI l i) := by
  show (match atI l i with | some v => Res.ok v S | none => .bad) = _
  cases atI l i <;> rfl
@[simp] theorem oIx_w (l : List D) (i : Int) : oIx (.wtp l) (.int i) S = ixA S (atI l i) := by
  show (match atI l i with | some v => Res.ok v S | none => .bad) = _
  cases atI l i <;> rfl
@[simp] theorem oIx_s (l : Tx) (i : Int) : oIx (.str l) (.int i) S = if l.length ≤ LINE then ixC S (atI l i) else .bad := by
  show (if l.length ≤ LINE then (match atI l i with | some c => (.ok (.str [c]) S : Res D) | none => .bad) else .bad) = _
  split
  · cases atI l i <;> rfl
  · rfl
def ixR (n : Nat) (k : D) : Option O → Res D
  | some (.lst l) => (match k with
    | .int i => ixA S (atI l i)
    | _ => .bad)
  | some (.fls l) => (match k with
    | .int i => ixA S (atI l i)
    | _ => .bad)
  | some (.dK kvs) => ixA S ((kyOf k).bind (dGet kvs))
  | some (.dT kvs) => ixA S ((ktOf k).bind (dGet kvs))
  | some (.zK kvs) => ixA S ((kyOf k).bind (dGet kvs))
  | some (.zT kvs) => ixA S ((ktOf k).bind (dGet kvs))
  | _ => .bad
@[simp] theorem ixR_zk (n : Nat) (k : D) (l : List (Ky × D)) : ixR S n k (some (.zK l)) = ixA S ((kyOf k).bind (dGet l)) := (rfl)
@[simp] theorem ixR_zt (n : Nat) (k : D) (l : List (List Ky × D)) : ixR S n k (some (.zT l)) = ixA S ((ktOf k).bind (dGet l)) := (rfl)
@[simp] theorem ixR_l (n : Nat) (i : Int) (l : List D) : ixR S n (.int i) (some (.lst l)) = ixA S (atI l i) := (rfl)
@[simp] theorem ixR_f (n : Nat) (i : Int) (l : List D) : ixR S n (.int i) (some (.fls l)) = ixA S (atI l i) := (rfl)
@[simp] theorem ixR_k (n : Nat) (k : D) (l : List (Ky × D)) : ixR S n k (some (.dK l)) = ixA S ((kyOf k).bind (dGet l)) := (rfl)
@[simp] theorem ixR_t (n : Nat) (k : D) (l : List (List Ky × D)) : ixR S n k (some (.dT l)) = ixA S ((ktOf k).bind (dGet l)) := (rfl)
@[simp] theorem oIx_r (n : Nat) (k : D) : oIx (.ref n) k S = ixR S n k S[n]? := by
  have e : oIx (.ref n) k S = (match S[n]? with
    | some (.lst l) => (match k with
      | .int i => (match atI l i with
        | some v => .ok v S
        | none => .bad)
      | _ => .bad)
    | some (.fls l) => (match k with
      | .int i => (match atI l i with
        | some v => .ok v S
        | none => .bad)
      | _ => .bad)
    | _ => match dLook S n k with
      | some (some v) => .ok v S
      | _ => .bad) := by
    unfold oIx
    cases k <;> rfl
  rw [e]
  unfold dLook
  cases h : S[n]? with
  | none => rfl
  | some o =>
    cases o with
    | lst l =>
      cases k with
      | int i => show (match atI l i with | some v => Res.ok v S | none => .bad) = ixA S (atI l i); cases atI l i <;> rfl
      | _ => rfl
    | fls l =>
      cases k with
      | int i => show (match atI l i with | some v => Res.ok v S | none => .bad) = ixA S (atI l i); cases atI l i <;> rfl
      | _ => rfl
    | dK l =>
      show (match (kyOf k).map (dGet l) with | some (some v) => Res.ok v S | _ => .bad) = ixA S ((kyOf k).bind (dGet l))
      cases kyOf k with
      | none => rfl
      | some q =>
        show (match some (dGet l q) with | some (some v) => Res.ok v S | _ => .bad) = ixA S (dGet l q)
        cases dGet l q <;> rfl
    | dT l =>
      show (match (ktOf k).map (dGet l) with | some (some v) => Res.ok v S | _ => .bad) = ixA S ((ktOf k).bind (dGet l))
      cases ktOf k with
      | none => rfl
      | some q =>
        show (match some (dGet l q) with | some (some v) => Res.ok v S | _ => .bad) = ixA S (dGet l q)
        cases dGet l q <;> rfl
    | zK l =>
      show (match (kyOf k).map (dGet l) with | some (some v) => Res.ok v S | _ => .bad) = ixA S ((kyOf k).bind (dGet l))
      cases kyOf k with
      | none => rfl
      | some q =>
        show (match some (dGet l q) with | some (some v) => Res.ok v S | _ => .bad) = ixA S (dGet l q)
        cases dGet l q <;> rfl
    | zT l =>
      show (match (ktOf k).map (dGet l) with | some (some v) => Res.ok v S | _ => .bad) = ixA S ((ktOf k).bind (dGet l))
      cases ktOf k with
      | none => rfl
      | some q =>
        show (match some (dGet l q) with | some (some v) => Res.ok v S | _ => .bad) = ixA S (dGet l q)
        cases dGet l q <;> rfl
    | ins C f => rfl
@[simp] theorem lstOf_s (n : Nat) : lstOf S n = (S[n]?).bind fun o => match o with
    | .lst l => some l
    | .fls l => some l
    | _ => none := by
  unfold lstOf
  cases S[n]? with
  | none => rfl
  | some o => cases o <;> rfl
@[simp] theorem seqOf_t (l : List D) : seqOf S (.tup l) = some l := (rfl)
@[simp] theorem seqOf_w (l : List D) : seqOf S (.wtp l) = some l := (rfl)
@[simp] theorem seqOf_r (n : Nat) : seqOf S (.ref n) = lstOf S n := (rfl)
@[simp] theorem truth_n : truth .non S = some false := (rfl)
@[simp] theorem truth_b (b : Bool) : truth (.bl b) S = some b := (rfl)
@[simp] theorem truth_i (i : Int) : truth (.int i) S = some (i != 0) := (rfl)
@[simp] theorem truth_t (l : List D) : truth (.tup l) S = some (!l.isEmpty) := (rfl)
/-! ### slices -/
@[simp] theorem oSl_s (z : Tx) (lo hi : Option Int) : oSl (.str z) lo hi S = if z.length ≤ LINE then .ok (.str (cut z lo hi)) S else .bad := (rfl)
@[simp] theorem oSl_t (l : List D) (lo hi : Option Int) : oSl (.tup l) lo hi S = if (cut l lo hi).length < l.length then .ok (.tup (cut l lo hi)) S else .bad := (rfl)
def slR (lo hi : Option Int) : Option (List D) → Res D
  | some l => new (.lst (cut l lo hi)) S
  | none => .bad
@[simp] theorem slR_s (lo hi : Option Int) (l : List D) : slR S lo hi (some l) = .ok (.ref S.length) (S ++ [.lst (cut l lo hi)]) := (rfl)
@[simp] theorem oSl_r (n : Nat) (lo hi : Option Int) : oSl (.ref n) lo hi S = slR S lo hi (lstOf S n) := by
  unfold oSl slR
  dsimp only
  all_goals cases lstOf S n <;> rfl
/-! ### stores -/
def stL (n : Nat) (v : D) (l : List D) : Option Nat → Res Unit
  | some j => .ok () (S.set n (.lst (l.set j v)))
  | none => .bad
@[simp] theorem stL_s (n : Nat) (v : D) (l : List D) (j : Nat) : stL S n v l (some j) = .ok () (S.set n (.lst (l.set j v))) := (rfl)
def stK (n : Nat) (v : D) (kvs : List (Ky × D)) : Option Ky → Res Unit
  | some k => if kvs.length < LINE then .ok () (S.set n (.dK (dPut kvs k v))) else .bad
  | none => .bad
@[simp] theorem stK_s (n : Nat) (v : D) (kvs : List (Ky × D)) (k : Ky) : stK S n v kvs (some k) = if kvs.length < LINE then .ok () (S.set n (.dK (dPut kvs k v))) else .bad := (rfl)
def stT (n : Nat) (v : D) (kvs : List (List Ky × D)) : Option (List Ky) → Res Unit
  | some k => if kvs.length < LINE then .ok () (S.set n (.dT (dPut kvs k v))) else .bad
  | none => .bad
@[simp] theorem stT_s (n : Nat) (v : D) (kvs : List (List Ky × D)) (k : List Ky) : stT S n v kvs (some k) = if kvs.length < LINE then .ok () (S.set n (.dT (dPut kvs k v))) else .bad := (rfl)
def stR (n : Nat) (i v : D) : Option O → Res Unit
  | some (.lst l) => (match i with
    | .int k => stL S n v l (ixN l.length k)
    | _ => .bad)
  | some (.dK kvs) => stK S n v kvs (kyOf i)
  | some (.dT kvs) => stT S n v kvs (ktOf i)
  | _ => .bad
@[simp] theorem stR_l (n : Nat) (k : Int) (v : D) (l : List D) : stR S n (.int k) v (some (.lst l)) = stL S n v l (ixN l.length k) := (rfl)
@[simp] theorem stR_k (n : Nat) (i v : D) (l : List (Ky × D)) : stR S n i v (some (.dK l)) = stK S n v l (kyOf i) := (rfl)
@[simp] theorem stR_t (n : Nat) (i v : D) (l : List (List Ky × D)) : stR S n i v (some (.dT l)) = stT S n v l (ktOf i) := (rfl)
@[simp] theorem setIx_r (n : Nat) (i v : D) : setIx (.ref n) i v S = stR S n i v S[n]? := by
  unfold setIx stR
  dsimp only
  cases S[n]? with
  | none => rfl
  | some o =>
    cases o with
    | lst l => cases i <;> first | rfl | (rename_i k; dsimp only; cases ixN l.length k <;> rfl)
    | dK l => dsimp only; cases kyOf i <;> rfl
    | dT l => dsimp only; cases ktOf i <;> rfl
    | _ => rfl
@[simp] theorem kyOf_i (i : Int) : kyOf (.int i) = some (.inl i) := (rfl)
@[simp] theorem kyOf_s (i : Tx) : kyOf (.str i) = some (.inr i) := (rfl)
/-! ### built-ins -/
@[simp] theorem bLen_s (s : Tx) : bLen [.str s] S = if s.length ≤ LINE then .ok (.int (s.length : Nat)) S else .bad := (rfl)
@[simp] theorem bLen_t (l : List D) : bLen [.tup l] S = .ok (.int (l.length : Nat)) S := (rfl)
@[simp] theorem bLen_w (l : List D) : bLen [.wtp l] S = .ok (.int (l.length : Nat)) S := (rfl)
def lenK : Option O → Res D
  | some (.lst l) => .ok (.int (l.length : Nat)) S
  | some (.fls l) => .ok (.int (l.length : Nat)) S
  | some (.dK k) => .ok (.int (k.length : Nat)) S
  | some (.dT k) => .ok (.int (k.length : Nat)) S
  | _ => .bad
@[simp] theorem lenK_l (l : List D) : lenK S (some (.lst l)) = .ok (.int (l.length : Nat)) S := (rfl)
@[simp] theorem lenK_f (l : List D) : lenK S (some (.fls l)) = .ok (.int (l.length : Nat)) S := (rfl)
@[simp] theorem lenK_k (l : List (Ky × D)) : lenK S (some (.dK l)) = .ok (.int (l.length : Nat)) S := (rfl)
@[simp] theorem lenK_t (l : List (List Ky × D)) : lenK S (some (.dT l)) = .ok (.int (l.length : Nat)) S := (rfl)
@[simp] theorem bLen_r (n : Nat) : bLen [.ref n] S = lenK S S[n]? := by
  unfold bLen lenK
  dsimp only
  all_goals cases S[n]? with
  | none => rfl
  | some o => cases o <;> rfl
@[simp] theorem bAbs_s (i : Int) : bAbs [.int i] S = .ok (.int (if i < 0 then -i else i)) S := (rfl)
@[simp] theorem bInt_i (i : Int) : bInt [.int i] S = .ok (.int i) S := (rfl)
@[simp] theorem bInt_b (i : Bool) : bInt [.bl i] S = .ok (.int (if i then 1 else 0)) S := (rfl)
@[simp] theorem bMax_s (i j : Int) : bMax [.int i, .int j] S = .ok (.int (if j > i then j else i)) S := (rfl)
@[simp] theorem bMin_s (i j : Int) : bMin [.int i, .int j] S = .ok (.int (if j < i then j else i)) S := (rfl)
def liK : Option (List D) → Res D
  | some l => new (.lst l) S
  | none => .bad
@[simp] theorem liK_s (l : List D) : liK S (some l) = .ok (.ref S.length) (S ++ [.lst l]) := (rfl)
theorem bList_q {x : D} {l : List D} (h : seqOf S x = some l) : bList [x] S = .ok (.ref S.length) (S ++ [.lst l]) := by
  unfold bList
  dsimp only
  rw [h]; rfl
@[simp] theorem bTuple_t (l : List D) : bTuple [.tup l] S = .ok (.tup l) S := (rfl)
theorem bTuple_r {n : Nat} {l : List D} (h : lstOf S n = some l) : bTuple [.ref n] S = .ok (.tup l) S := by
  unfold bTuple
  dsimp only
  rw [h]
theorem bAny_r {n : Nat} {l : List D} {bs : List Bool} (h : lstOf S n = some l) (hb : blsOf l = some bs) : bAny [.ref n] S = .ok (.bl (bs.any id)) S := by
  unfold bAny
  dsimp only
  rw [h, Option.bind_some, hb]
theorem bAll_r {n : Nat} {l : List D} {bs : List Bool} (h : lstOf S n = some l) (hb : blsOf l = some bs) : bAll [.ref n] S = .ok (.bl (bs.all id)) S := by
  unfold bAll
  dsimp only
  rw [h, Option.bind_some, hb]
theorem bSum_r {n : Nat} {l : List D} {bs : List Int} (h : lstOf S n = some l) (hb : intsOf l = some bs) : bSum [.ref n] S = .ok (.int bs.sum) S := by
  unfold bSum
  dsimp only
  rw [h, Option.bind_some, hb]
theorem bls_map (bs : List Bool) : blsOf (bs.map .bl) = some bs := by
  induction bs with
  | nil => rfl
  | cons b r ih => show (blsOf (r.map .bl)).map _ = _; rw [ih]; rfl
theorem ints_map (bs : List Int) : intsOf (bs.map .int) = some bs := by
  induction bs with
  | nil => rfl
  | cons b r ih => show (intsOf (r.map .int)).map _ = _; rw [ih]; rfl
theorem txs_map (bs : List Tx) : txsOf (bs.map .str) = some bs := by
  induction bs with
  | nil => rfl
  | cons b r ih => show (txsOf (r.map .str)).map _ = _; rw [ih]; rfl
def isiK : Option Bool → Res D
  | some b => .ok (.bl b) S
  | none => .bad
@[simp] theorem isiK_s (b : Bool) : isiK S (some b) = .ok (.bl b) S := (rfl)
@[simp] theorem bIsI_s (T : Ty) (x : D) : bIsI T x S = isiK S (isI T x S) := by
  unfold bIsI isiK
  cases isI T x S <;> rfl
def tyR : Option O → Option Ty
  | some (.lst _) => some .list
  | some (.fls _) => some .list
  | some (.dK _) => some .dict
  | some (.dT _) => some .dict
  | _ => none
@[simp] theorem tyR_l (l : List D) : tyR (some (.lst l)) = some .list := (rfl)
@[simp] theorem tyR_f (l : List D) : tyR (some (.fls l)) = some .list := (rfl)
@[simp] theorem tyR_k (l : List (Ky × D)) : tyR (some (.dK l)) = some .dict := (rfl)
@[simp] theorem tyR_t (l : List (List Ky × D)) : tyR (some (.dT l)) = some .dict := (rfl)
def isU (T : Ty) (U : Option Ty) : Option Bool := U.map fun U => decide (U = T) || (decide (U = .bool) && decide (T = .int))
@[simp] theorem isU_s (T U : Ty) : isU T (some U) = some (decide (U = T) || (decide (U = .bool) && decide (T = .int))) := (rfl)
@[simp] theorem isI_n (T : Ty) : isI T .non S = some false := (rfl)
@[simp] theorem isI_b (T : Ty) (b : Bool) : isI T (.bl b) S = isU T (some .bool) := (rfl)
@[simp] theorem isI_i (T : Ty) (b : Int) : isI T (.int b) S = isU T (some .int) := (rfl)
@[simp] theorem isI_s (T : Ty) (b : Tx) : isI T (.str b) S = isU T (some .str) := (rfl)
@[simp] theorem isI_t (T : Ty) (b : List D) : isI T (.tup b) S = isU T (some .tuple) := (rfl)
theorem tyOf_r (n : Nat) : tyOf S (.ref n) = tyR S[n]? := by
  show (match S[n]? with
    | some (.lst _) => some Ty.list
    | some (.fls _) => some Ty.list
    | some (.dK _) => some Ty.dict
    | some (.dT _) => some Ty.dict
    | _ => none) = _
  cases S[n]? with
  | none => rfl
  | some o => cases o <;> rfl
@[simp] theorem isI_r (T : Ty) (n : Nat) : isI T (.ref n) S = isU T (tyR S[n]?) := by
  rw [← tyOf_r]; rfl
/-! ### methods -/
@[simp] theorem isLst_r (n : Nat) : isLst (.ref n) S = (lstOf S n).isSome := (rfl)
@[simp] theorem isStr_s (s : Tx) : isStr (.str s) S = true := (rfl)
def dcR : Option O → Bool
  | some (.dK _) => true
  | some (.dT _) => true
  | _ => false
@[simp] theorem dcR_k (l : List (Ky × D)) : dcR (some (.dK l)) = true := (rfl)
@[simp] theorem dcR_t (l : List (List Ky × D)) : dcR (some (.dT l)) = true := (rfl)
@[simp] theorem isDct_r (n : Nat) : isDct (.ref n) S = dcR S[n]? := by
  unfold isDct dcR
  dsimp only
  all_goals cases S[n]? with
  | none => rfl
  | some o => cases o <;> rfl
def muK (n : Nat) (f : Nat → List D → Res D) : Option O → Res D
  | some (.lst l) => f n l
  | _ => .bad
@[simp] theorem muK_s (n : Nat) (f : Nat → List D → Res D) (l : List D) : muK n f (some (.lst l)) = f n l := (rfl)
theorem mutL_r (n : Nat) (f : Nat → List D → Res D) : mutL (.ref n) S f = muK n f S[n]? := by
  unfold mutL muK
  dsimp only
  all_goals cases S[n]? with
  | none => rfl
  | some o => cases o <;> rfl
def apF (x : D) : Nat → List D → Res D := fun n l => if l.length < LINE then .ok .non (S.set n (.lst (l ++ [x]))) else .bad
@[simp] theorem apF_s (x : D) (n : Nat) (l : List D) : apF S x n l = if l.length < LINE then .ok .non (S.set n (.lst (l ++ [x]))) else .bad := (rfl)
@[simp] theorem lAppend_s (n : Nat) (x : D) : lAppend (.ref n) [x] S = muK n (apF S x) S[n]? := by
  show mutL (.ref n) S (apF S x) = _
  exact mutL_r S n _
def poA (n : Nat) (l : List D) : Option D → Res D
  | some y => .ok y (S.set n (.lst l.dropLast))
  | none => .bad
@[simp] theorem poA_s (n : Nat) (l : List D) (y : D) : poA S n l (some y) = .ok y (S.set n (.lst l.dropLast)) := (rfl)
def poF : Nat → List D → Res D := fun n l => poA S n l l[l.length - 1]?
@[simp] theorem poF_s (n : Nat) (l : List D) : poF S n l = poA S n l l[l.length - 1]? := (rfl)
@[simp] theorem lPop_s (n : Nat) : lPop (.ref n) [] S = muK n (poF S) S[n]? := by
  show mutL (.ref n) S (fun k l => match l[l.length - 1]? with | some y => .ok y (S.set k (.lst l.dropLast)) | none => .bad) = _
  rw [mutL_r]
  congr 1
/-- pop(0) -/
def p0F : Nat → List D → Res D := fun n l => match l with
  | y :: r => .ok y (S.set n (.lst r))
  | [] => .bad
@[simp] theorem p0F_s (n : Nat) (y : D) (r : List D) : p0F S n (y :: r) = .ok y (S.set n (.lst r)) := (rfl)
@[simp] theorem lPop_0 (n : Nat) : lPop (.ref n) [.int 0] S = muK n (p0F S) S[n]? := by
  show mutL (.ref n) S (fun n l => if -(2 ^ 63) ≤ (0 : Int) ∧ (0 : Int) < 2 ^ 63 then (match (ixN l.length 0) with
    | some k => (match l[k]? with
      | some y => .ok y (S.set n (.lst (l.eraseIdx k)))
      | none => .bad)
    | none => .bad) else .bad) = _
  rw [mutL_r]
  congr 1
  funext k l
  cases l with
  | nil => rfl
  | cons y r =>
    have h : ixN (y :: r).length 0 = some 0 := by
      unfold ixN
      rw [if_pos (Int.le_refl 0), if_pos (by rw [List.length_cons]; omega)]
      rfl
    show (if _ then _ else _) = _
    rw [if_pos (by decide), h]
    rfl
def rvF : Nat → List D → Res D := fun n l => .ok .non (S.set n (.lst l.reverse))
@[simp] theorem rvF_s (n : Nat) (l : List D) : rvF S n l = .ok .non (S.set n (.lst l.reverse)) := (rfl)
@[simp] theorem lReverse_s (n : Nat) : lReverse (.ref n) [] S = muK n (rvF S) S[n]? := by
  show mutL (.ref n) S (rvF S) = _
  exact mutL_r S n _
def clF : Nat → List D → Res D := fun n _ => .ok .non (S.set n (.lst []))
@[simp] theorem clF_s (n : Nat) (l : List D) : clF S n l = .ok .non (S.set n (.lst [])) := (rfl)
@[simp] theorem lClear_s (n : Nat) : lClear (.ref n) [] S = muK n (clF S) S[n]? := by
  show mutL (.ref n) S (clF S) = _
  exact mutL_r S n _
def inF (i : Int) (x : D) : Nat → List D → Res D := fun n l => if l.length < LINE ∧ 0 ≤ i ∧ i < 2 ^ 63 then .ok .non (S.set n (.lst (l.take i.toNat ++ [x] ++ l.drop i.toNat))) else .bad
@[simp] theorem inF_s (i : Int) (x : D) (n : Nat) (l : List D) : inF S i x n l = if l.length < LINE ∧ 0 ≤ i ∧ i < 2 ^ 63 then .ok .non (S.set n (.lst (l.take i.toNat ++ [x] ++ l.drop i.toNat))) else .bad := (rfl)
@[simp] theorem lInsert_s (n : Nat) (i : Int) (x : D) : lInsert (.ref n) [.int i, x] S = muK n (inF S i x) S[n]? := by
  show mutL (.ref n) S (inF S i x) = _
  exact mutL_r S n _
def joK (a : Tx) : Option (List Tx) → Res D
  | some ys => if (ys.map List.length).sum + ys.length * a.length ≤ LINE then .ok (.str (joinT a ys)) S else .bad
  | none => .bad
@[simp] theorem joK_s (a : Tx) (ys : List Tx) : joK S a (some ys) = if (ys.map List.length).sum + ys.length * a.length ≤ LINE then .ok (.str (joinT a ys)) S else .bad := (rfl)
@[simp] theorem sJoin_s (a : Tx) (d : D) : sJoin (.str a) [d] S = joK S a ((seqOf S d).bind txsOf) := by
  show (match (seqOf S d).bind txsOf with | some ys => _ | none => _) = _
  cases (seqOf S d).bind txsOf <;> rfl
end
/-- one step of a store's look -/
theorem set_get {S : Store} {n : Nat} {o u : O} (h : S[n]? = some o) : (S.set n u)[n]? = some u := by
  rw [List.getElem?_set_self (List.getElem?_eq_some_iff.mp h).1]
end Mi

set_option Elab.async false
set_option linter.all false
set_option maxRecDepth 100000
/-! the defs of the text as steps of the small language (printed by gen.py) -/
namespace Lk94
open Mi
abbrev t_reckon : Tx := [114, 101, 99, 107, 111, 110]
abbrev t_copy : Tx := [99, 111, 112, 121]
abbrev t_go : Tx := [103, 111]
abbrev t_part : Tx := [112, 97, 114, 116]
abbrev t_end : Tx := [101, 110, 100]
abbrev t_x5_ : Tx := []
abbrev t_read : Tx := [114, 101, 97, 100]
abbrev t_keep : Tx := [107, 101, 101, 112]
abbrev t_own : Tx := [111, 119, 110]
abbrev t_x9_abcdefghijkl : Tx := [97, 98, 99, 100, 101, 102, 103, 104, 105, 106, 107, 108, 109, 110, 111, 112, 113, 114, 115, 116, 117, 118, 119, 120, 121, 122]
abbrev t_say : Tx := [115, 97, 121]
abbrev t_x : Tx := [120]
abbrev t_x12_ : Tx := [43, 45, 42, 38, 124, 94, 60, 61]
/-- 0 row -/
noncomputable def b_reckoning_of : SM := sSeq (sIf (tBl (mOp oEq (mOp oIx (mVar 0) (mC (.int 0))) (mC (.str t_reckon)))) (sRet (mTup (aCons (mOp oIx (mVar 0) (mC (.int 2))) (aCons (mOp oIx (mVar 0) (mC (.int 3))) (aCons (mOp oIx (mVar 0) (mC (.int 4))) aNil))))) (sNx)) (sRet (mC .non))
noncomputable def m_reckoning_of : Fn := mDef 1 1 b_reckoning_of
/-- 0 row -/
noncomputable def b_sets : SM := sSeq (sIf (tOr (tBl (mOp oEq (mOp oIx (mVar 0) (mC (.int 0))) (mC (.str t_reckon)))) (tBl (mOp oEq (mOp oIx (mVar 0) (mC (.int 0))) (mC (.str t_copy))))) (sRet (mOp oIx (mVar 0) (mC (.int 1)))) (sNx)) (sRet (mC .non))
noncomputable def m_sets : Fn := mDef 1 1 b_sets
/-- 0 row 1 reckoning 2 name -/
noncomputable def b_changes : SM := sSeq (sAsg (mCall m_sets (aCons (mVar 0) aNil)) (gName 2)) (sRet (mAnd (mOp oIsNot (mVar 2) (mC .non)) (mOp oIn (mVar 2) (mSl (mVar 1) (pSome (mC (.int 1))) (pNo)))))
noncomputable def m_changes : Fn := mDef 2 3 b_changes
/-- 0 program 1 n 2 row -/
noncomputable def b_followers : SM := sSeq (sAsg (mOp oIx (mVar 0) (mVar 1)) (gName 2)) (sSeq (sIf (tBl (mOp oEq (mOp oIx (mVar 2) (mC (.int 0))) (mC (.str t_go)))) (sRet (mLst (aCons (mOp oIx (mVar 2) (mC (.int 1))) aNil))) (sNx)) (sSeq (sIf (tBl (mOp oEq (mOp oIx (mVar 2) (mC (.int 0))) (mC (.str t_part)))) (sRet (mLst (aCons (mOp oAdd (mVar 1) (mC (.int 1))) (aCons (mOp oIx (mVar 2) (mC (.int 2))) aNil)))) (sNx)) (sSeq (sIf (tBl (mOp oEq (mOp oIx (mVar 2) (mC (.int 0))) (mC (.str t_end)))) (sRet (mLst (aNil))) (sNx)) (sRet (mLst (aCons (mOp oAdd (mVar 1) (mC (.int 1))) aNil))))))
noncomputable def m_followers : Fn := mDef 2 3 b_followers
/-- 0 program 1 found 2 n 3 m -/
noncomputable def l_places_1 : SM := sExp (mMt isLst lAppend (mVar 1) (aCons (mTup (aCons (mVar 2) (aCons (mVar 3) aNil))) aNil))
noncomputable def l_places_2 : SM := sFor (iSeq (mCall m_followers (aCons (mVar 0) (aCons (mVar 2) aNil)))) (gName 3) (l_places_1)
noncomputable def b_places : SM := sSeq (sAsg (mLst (aCons (mTup (aCons (mUn uNeg (mC (.int 1))) (aCons (mC (.int 0)) aNil))) aNil)) (gName 1)) (sSeq (sFor (iRng1 (aCons (mCall bLen (aCons (mVar 0) aNil)) aNil)) (gName 2) (l_places_2)) (sRet (mVar 1)))
noncomputable def m_places : Fn := mDef 1 4 b_places
/-- 0 program 1 found 2 row 3 reckoning -/
noncomputable def l_reckonings_1 : SM := sSeq (sAsg (mCall m_reckoning_of (aCons (mVar 2) aNil)) (gName 3)) (sIf (tBl (mOp oIsNot (mVar 3) (mC .non))) (sAsg (mC (.bl true)) (gSub (mVar 1) (mVar 3))) (sNx))
noncomputable def b_reckonings : SM := sSeq (sAsg (mNewT) (gName 1)) (sSeq (sFor (iSeq (mVar 0)) (gName 2) (l_reckonings_1)) (sRet (mCall bList (aCons (mVar 1) aNil))))
noncomputable def m_reckonings : Fn := mDef 1 4 b_reckonings
/-- 0 program -/
noncomputable def b_all_bits : SM := sRet (mOp oSub (mOp oShl (mC (.int 1)) (mCall bLen (aCons (mCall m_reckonings (aCons (mVar 0) aNil)) aNil))) (mC (.int 1)))
noncomputable def m_all_bits : Fn := mDef 1 1 b_all_bits
/-- 0 program 1 numbers 2 k 3 one 4 found 5 row -/
noncomputable def l_own_bits_1 : SM := sAsg (mVar 2) (gSub (mVar 1) (mVar 3))
noncomputable def l_own_bits_2 : SM := sSeq (sAsg (mCall m_reckoning_of (aCons (mVar 5) aNil)) (gName 3)) (sIf (tBl (mOp oIs (mVar 3) (mC .non))) (sExp (mMt isLst lAppend (mVar 4) (aCons (mC (.int 0)) aNil))) (sExp (mMt isLst lAppend (mVar 4) (aCons (mOp oShl (mC (.int 1)) (mOp oIx (mVar 1) (mVar 3))) aNil))))
noncomputable def b_own_bits : SM := sSeq (sAsg (mNewT) (gName 1)) (sSeq (sFor (iEnum (aCons (mCall m_reckonings (aCons (mVar 0) aNil)) aNil)) (gTup 2 (gCons (gName 2) (gCons (gName 3) gNil))) (l_own_bits_1)) (sSeq (sAsg (mLst (aNil)) (gName 4)) (sSeq (sFor (iSeq (mVar 0)) (gName 5) (l_own_bits_2)) (sRet (mVar 4)))))
noncomputable def m_own_bits : Fn := mDef 1 6 b_own_bits
/-- 0 program 1 known 2 found 3 row 4 bits 5 k 6 one -/
noncomputable def l_lost_bits_1 : SM := sIf (tTru (mCall m_changes (aCons (mVar 3) (aCons (mVar 6) aNil)))) (sAsg (mOp oOr (mVar 4) (mOp oShl (mC (.int 1)) (mVar 5))) (gName 4)) (sNx)
noncomputable def l_lost_bits_2 : SM := sSeq (sAsg (mC (.int 0)) (gName 4)) (sSeq (sFor (iEnum (aCons (mVar 1) aNil)) (gTup 2 (gCons (gName 5) (gCons (gName 6) gNil))) (l_lost_bits_1)) (sExp (mMt isLst lAppend (mVar 2) (aCons (mVar 4) aNil))))
noncomputable def b_lost_bits : SM := sSeq (sAsg (mCall m_reckonings (aCons (mVar 0) aNil)) (gName 1)) (sSeq (sAsg (mLst (aNil)) (gName 2)) (sSeq (sFor (iSeq (mVar 0)) (gName 3) (l_lost_bits_2)) (sRet (mVar 2))))
noncomputable def m_lost_bits : Fn := mDef 1 7 b_lost_bits
/-- 0 bits 1 k -/
noncomputable def b_has_bit : SM := sRet (mOp oEq (mOp oAnd (mOp oShr (mVar 0) (mVar 1)) (mC (.int 1))) (mC (.int 1)))
noncomputable def m_has_bit : Fn := mDef 2 2 b_has_bit
/-- 0 program 1 k 2 sheet 3 lost 4 kept 5 hows 6 found 7 n 8 more 9 m -/
noncomputable def e_asks_box_1 : EM := mOp oEq (mMt isDct dGetM (mVar 5) (aCons (mVar 7) (aCons (mC (.str t_x5_)) aNil))) (mC (.str t_read))
noncomputable def l_asks_box_2 : SM := sIf (tAnd (tTru (mOp oIx (mVar 6) (mVar 9))) (tAnd (tBl (mOp oNotIn (mTup (aCons (mVar 7) (aCons (mVar 9) aNil))) (mVar 4))) (tNot (tTru (mOp oIx (mVar 6) (mVar 7)))))) (sSeq (sAsg (mC (.bl true)) (gSub (mVar 6) (mVar 7))) (sAsg (mC (.bl true)) (gName 8))) (sNx)
noncomputable def l_asks_box_3 : SM := sIf (tAnd (tNot (tTru (mOp oIx (mVar 6) (mVar 7)))) (tAnd (tBl (mOp oNe (mMt isDct dGetM (mVar 5) (aCons (mVar 7) (aCons (mC (.str t_x5_)) aNil))) (mC (.str t_keep)))) (tNot (tTru (mCall m_has_bit (aCons (mOp oIx (mVar 3) (mVar 7)) (aCons (mVar 1) aNil))))))) (sFor (iSeq (mCall m_followers (aCons (mVar 0) (aCons (mVar 7) aNil)))) (gName 9) (l_asks_box_2)) (sNx)
noncomputable def l_asks_box_4 : SM := sSeq (sAsg (mC (.bl false)) (gName 8)) (sFor (iRng1 (aCons (mCall bLen (aCons (mVar 0) aNil)) aNil)) (gName 7) (l_asks_box_3))
noncomputable def c_asks_box_5 : TM := tTru (mVar 8)
noncomputable def b_asks_box : SM := sSeq (sAsg (mCall m_lost_bits (aCons (mVar 0) aNil)) (gName 3)) (sSeq (sAsg (mOp oIx (mVar 2) (mC (.int 0))) (gName 4)) (sSeq (sAsg (mCall bDict (aCons (mOp oIx (mVar 2) (mC (.int 1))) aNil)) (gName 5)) (sSeq (sAsg (mLc [7] (iRng1 (aCons (mCall bLen (aCons (mVar 0) aNil)) aNil)) (gName 7) (tYes) (e_asks_box_1)) (gName 6)) (sSeq (sAsg (mC (.bl true)) (gName 8)) (sSeq (sWhile (c_asks_box_5) (l_asks_box_4)) (sRet (mVar 6)))))))
noncomputable def m_asks_box : Fn := mDef 3 10 b_asks_box
/-- 0 program 1 k 2 sheet 3 asks 4 place -/
noncomputable def c_live_1 : TM := tTru (mOp oIx (mVar 3) (mOp oIx (mVar 4) (mC (.int 1))))
noncomputable def e_live_2 : EM := mVar 4
noncomputable def b_live : SM := sSeq (sAsg (mCall m_asks_box (aCons (mVar 0) (aCons (mVar 1) (aCons (mVar 2) aNil)))) (gName 3)) (sRet (mLc [4] (iSeq (mCall m_places (aCons (mVar 0) aNil))) (gName 4) (c_live_1) (e_live_2)))
noncomputable def m_live : Fn := mDef 3 5 b_live
/-- 0 program 1 found 2 row 3 n 4 m -/
noncomputable def e_ahead_of_1 : EM := mLst (aNil)
noncomputable def l_ahead_of_2 : SM := sIf (tBl (mOp oNe (mVar 3) (mUn uNeg (mC (.int 1))))) (sExp (mMt isLst lAppend (mOp oIx (mVar 1) (mVar 4)) (aCons (mVar 3) aNil))) (sNx)
noncomputable def b_ahead_of : SM := sSeq (sAsg (mLc [2] (iSeq (mVar 0)) (gName 2) (tYes) (e_ahead_of_1)) (gName 1)) (sSeq (sFor (iSeq (mCall m_places (aCons (mVar 0) aNil))) (gTup 2 (gCons (gName 3) (gCons (gName 4) gNil))) (l_ahead_of_2)) (sRet (mVar 1)))
noncomputable def m_ahead_of : Fn := mDef 1 5 b_ahead_of
/-- 0 program 1 whole 2 own 3 lost 4 came 5 found 6 row 7 more 8 m 9 ahead 10 n 11 bits -/
noncomputable def e_left_by_1 : EM := mVar 1
noncomputable def l_left_by_2 : SM := sAsg (mOp oAnd (mVar 9) (mOp oIx (mVar 5) (mVar 10))) (gName 9)
noncomputable def l_left_by_3 : SM := sSeq (sAsg (mVar 1) (gName 9)) (sSeq (sIf (tBl (mOp oEq (mVar 8) (mC (.int 0)))) (sAsg (mC (.int 0)) (gName 9)) (sNx)) (sSeq (sFor (iSeq (mOp oIx (mVar 4) (mVar 8))) (gName 10) (l_left_by_2)) (sSeq (sAsg (mOp oAnd (mOp oOr (mOp oIx (mVar 2) (mVar 8)) (mVar 9)) (mOp oXor (mVar 1) (mOp oIx (mVar 3) (mVar 8)))) (gName 11)) (sIf (tBl (mOp oNe (mVar 11) (mOp oIx (mVar 5) (mVar 8)))) (sSeq (sAsg (mVar 11) (gSub (mVar 5) (mVar 8))) (sAsg (mC (.bl true)) (gName 7))) (sNx)))))
noncomputable def l_left_by_4 : SM := sSeq (sAsg (mC (.bl false)) (gName 7)) (sFor (iRng1 (aCons (mCall bLen (aCons (mVar 0) aNil)) aNil)) (gName 8) (l_left_by_3))
noncomputable def c_left_by_5 : TM := tTru (mVar 7)
noncomputable def b_left_by : SM := sSeq (sAsg (mCall m_all_bits (aCons (mVar 0) aNil)) (gName 1)) (sSeq (sAsg (mCall m_own_bits (aCons (mVar 0) aNil)) (gName 2)) (sSeq (sAsg (mCall m_lost_bits (aCons (mVar 0) aNil)) (gName 3)) (sSeq (sAsg (mCall m_ahead_of (aCons (mVar 0) aNil)) (gName 4)) (sSeq (sAsg (mLc [6] (iSeq (mVar 0)) (gName 6) (tYes) (e_left_by_1)) (gName 5)) (sSeq (sAsg (mC (.bl true)) (gName 7)) (sSeq (sWhile (c_left_by_5) (l_left_by_4)) (sRet (mVar 5))))))))
noncomputable def m_left_by : Fn := mDef 1 12 b_left_by
/-- 0 program 1 behind 2 found 3 place -/
noncomputable def l_standing_1 : SM := sIf (tBl (mOp oEq (mOp oIx (mVar 3) (mC (.int 0))) (mUn uNeg (mC (.int 1))))) (sAsg (mC (.int 0)) (gSub (mVar 2) (mVar 3))) (sAsg (mOp oIx (mVar 1) (mOp oIx (mVar 3) (mC (.int 0)))) (gSub (mVar 2) (mVar 3)))
noncomputable def b_standing : SM := sSeq (sAsg (mCall m_left_by (aCons (mVar 0) aNil)) (gName 1)) (sSeq (sAsg (mNewT) (gName 2)) (sSeq (sFor (iSeq (mCall m_places (aCons (mVar 0) aNil))) (gName 3) (l_standing_1)) (sRet (mVar 2))))
noncomputable def m_standing : Fn := mDef 1 4 b_standing
/-- 0 program 1 whole 2 own 3 lost 4 found 5 row 6 more 7 n 8 behind 9 m 10 bits -/
noncomputable def e_asked_by_1 : EM := mVar 1
noncomputable def l_asked_by_2 : SM := sAsg (mOp oAnd (mVar 8) (mOp oIx (mVar 4) (mVar 9))) (gName 8)
noncomputable def l_asked_by_3 : SM := sSeq (sAsg (mVar 1) (gName 8)) (sSeq (sIf (tBl (mOp oEq (mOp oIx (mOp oIx (mVar 0) (mVar 7)) (mC (.int 0))) (mC (.str t_end)))) (sAsg (mC (.int 0)) (gName 8)) (sNx)) (sSeq (sFor (iSeq (mCall m_followers (aCons (mVar 0) (aCons (mVar 7) aNil)))) (gName 9) (l_asked_by_2)) (sSeq (sAsg (mOp oOr (mOp oIx (mVar 2) (mVar 7)) (mOp oAnd (mVar 8) (mOp oXor (mVar 1) (mOp oIx (mVar 3) (mVar 7))))) (gName 10)) (sIf (tBl (mOp oNe (mVar 10) (mOp oIx (mVar 4) (mVar 7)))) (sSeq (sAsg (mVar 10) (gSub (mVar 4) (mVar 7))) (sAsg (mC (.bl true)) (gName 6))) (sNx)))))
noncomputable def l_asked_by_4 : SM := sSeq (sAsg (mC (.bl false)) (gName 6)) (sFor (iRngD (aCons (mOp oSub (mCall bLen (aCons (mVar 0) aNil)) (mC (.int 1))) (aCons (mUn uNeg (mC (.int 1))) (aCons (mUn uNeg (mC (.int 1))) aNil)))) (gName 7) (l_asked_by_3))
noncomputable def c_asked_by_5 : TM := tTru (mVar 6)
noncomputable def b_asked_by : SM := sSeq (sAsg (mCall m_all_bits (aCons (mVar 0) aNil)) (gName 1)) (sSeq (sAsg (mCall m_own_bits (aCons (mVar 0) aNil)) (gName 2)) (sSeq (sAsg (mCall m_lost_bits (aCons (mVar 0) aNil)) (gName 3)) (sSeq (sAsg (mLc [5] (iSeq (mVar 0)) (gName 5) (tYes) (e_asked_by_1)) (gName 4)) (sSeq (sAsg (mC (.bl true)) (gName 6)) (sSeq (sWhile (c_asked_by_5) (l_asked_by_4)) (sRet (mVar 4)))))))
noncomputable def m_asked_by : Fn := mDef 1 11 b_asked_by
/-- 0 program 1 asked 2 found 3 place -/
noncomputable def l_wanted_1 : SM := sAsg (mOp oIx (mVar 1) (mOp oIx (mVar 3) (mC (.int 1)))) (gSub (mVar 2) (mVar 3))
noncomputable def b_wanted : SM := sSeq (sAsg (mCall m_asked_by (aCons (mVar 0) aNil)) (gName 1)) (sSeq (sAsg (mNewT) (gName 2)) (sSeq (sFor (iSeq (mCall m_places (aCons (mVar 0) aNil))) (gName 3) (l_wanted_1)) (sRet (mVar 2))))
noncomputable def m_wanted : Fn := mDef 1 4 b_wanted
/-- 0 program 1 wants 2 whole 3 own 4 lost 5 found 6 n 7 behind 8 m -/
noncomputable def l_kept_back_1 : SM := sAsg (mOp oAnd (mVar 7) (mOp oIx (mVar 1) (mTup (aCons (mVar 6) (aCons (mVar 8) aNil))))) (gName 7)
noncomputable def l_kept_back_2 : SM := sSeq (sAsg (mVar 2) (gName 7)) (sSeq (sFor (iSeq (mCall m_followers (aCons (mVar 0) (aCons (mVar 6) aNil)))) (gName 8) (l_kept_back_1)) (sExp (mMt isLst lAppend (mVar 5) (aCons (mOp oOr (mOp oIx (mVar 4) (mVar 6)) (mOp oAnd (mOp oXor (mVar 2) (mOp oIx (mVar 3) (mVar 6))) (mOp oXor (mVar 2) (mVar 7)))) aNil))))
noncomputable def b_kept_back : SM := sSeq (sAsg (mCall m_all_bits (aCons (mVar 0) aNil)) (gName 2)) (sSeq (sAsg (mCall m_own_bits (aCons (mVar 0) aNil)) (gName 3)) (sSeq (sAsg (mCall m_lost_bits (aCons (mVar 0) aNil)) (gName 4)) (sSeq (sAsg (mLst (aNil)) (gName 5)) (sSeq (sFor (iRng1 (aCons (mCall bLen (aCons (mVar 0) aNil)) aNil)) (gName 6) (l_kept_back_2)) (sRet (mVar 5))))))
noncomputable def m_kept_back : Fn := mDef 2 9 b_kept_back
/-- 0 program 1 wants 2 stood 3 back 4 found 5 place 6 bits -/
noncomputable def l_firsts_1 : SM := sSeq (sAsg (mOp oSub (mOp oIx (mVar 1) (mVar 5)) (mOp oAnd (mOp oIx (mVar 1) (mVar 5)) (mOp oIx (mVar 2) (mVar 5)))) (gName 6)) (sSeq (sIf (tBl (mOp oNe (mOp oIx (mVar 5) (mC (.int 0))) (mUn uNeg (mC (.int 1))))) (sAsg (mOp oAnd (mVar 6) (mOp oIx (mVar 3) (mOp oIx (mVar 5) (mC (.int 0))))) (gName 6)) (sNx)) (sAsg (mVar 6) (gSub (mVar 4) (mVar 5))))
noncomputable def b_firsts : SM := sSeq (sAsg (mCall m_wanted (aCons (mVar 0) aNil)) (gName 1)) (sSeq (sAsg (mCall m_standing (aCons (mVar 0) aNil)) (gName 2)) (sSeq (sAsg (mCall m_kept_back (aCons (mVar 0) (aCons (mVar 1) aNil))) (gName 3)) (sSeq (sAsg (mNewT) (gName 4)) (sSeq (sFor (iSeq (mCall m_places (aCons (mVar 0) aNil))) (gName 5) (l_firsts_1)) (sRet (mVar 4))))))
noncomputable def m_firsts : Fn := mDef 1 7 b_firsts
/-- 0 place 1 k 2 begins 3 own 4 rows_off 5 n -/
noncomputable def b_comes_off : SM := sSeq (sIf (tTru (mCall m_has_bit (aCons (mOp oIx (mVar 2) (mVar 0)) (aCons (mVar 1) aNil)))) (sRet (mC (.bl true))) (sNx)) (sSeq (sAsg (mOp oIx (mVar 0) (mC (.int 0))) (gName 5)) (sRet (mAnd (mOp oNe (mVar 5) (mUn uNeg (mC (.int 1)))) (mAnd (mOp oIx (mVar 4) (mVar 5)) (mNot (mCall m_has_bit (aCons (mOp oIx (mVar 3) (mVar 5)) (aCons (mVar 1) aNil))))))))
noncomputable def m_comes_off : Fn := mDef 5 6 b_comes_off
/-- 0 program 1 k 2 stops 3 begins 4 own 5 led 6 row 7 place 8 rows_off 9 more 10 m 11 found -/
noncomputable def e_put_off_1 : EM := mLst (aNil)
noncomputable def l_put_off_2 : SM := sExp (mMt isLst lAppend (mOp oIx (mVar 5) (mOp oIx (mVar 7) (mC (.int 1)))) (aCons (mVar 7) aNil))
noncomputable def e_put_off_3 : EM := mC (.bl true)
noncomputable def l_put_off_4 : SM := sIf (tAnd (tTru (mOp oIx (mVar 8) (mVar 10))) (tOr (tBl (mOp oIn (mVar 7) (mVar 2))) (tNot (tTru (mCall m_comes_off (aCons (mVar 7) (aCons (mVar 1) (aCons (mVar 3) (aCons (mVar 4) (aCons (mVar 8) aNil)))))))))) (sSeq (sAsg (mC (.bl false)) (gSub (mVar 8) (mVar 10))) (sAsg (mC (.bl true)) (gName 9))) (sNx)
noncomputable def l_put_off_5 : SM := sFor (iSeq (mOp oIx (mVar 5) (mVar 10))) (gName 7) (l_put_off_4)
noncomputable def l_put_off_6 : SM := sSeq (sAsg (mC (.bl false)) (gName 9)) (sFor (iRng1 (aCons (mCall bLen (aCons (mVar 0) aNil)) aNil)) (gName 10) (l_put_off_5))
noncomputable def c_put_off_7 : TM := tTru (mVar 9)
noncomputable def c_put_off_8 : TM := tTru (mCall m_comes_off (aCons (mVar 7) (aCons (mVar 1) (aCons (mVar 3) (aCons (mVar 4) (aCons (mVar 8) aNil))))))
noncomputable def e_put_off_9 : EM := mVar 7
noncomputable def c_put_off_10 : TM := tTru (mOp oIx (mVar 8) (mVar 10))
noncomputable def e_put_off_11 : EM := mVar 10
noncomputable def b_put_off : SM := sSeq (sIf (tBl (mOp oIs (mVar 2) (mC .non))) (sAsg (mLst (aNil)) (gName 2)) (sNx)) (sSeq (sAsg (mCall m_firsts (aCons (mVar 0) aNil)) (gName 3)) (sSeq (sAsg (mCall m_own_bits (aCons (mVar 0) aNil)) (gName 4)) (sSeq (sAsg (mLc [6] (iSeq (mVar 0)) (gName 6) (tYes) (e_put_off_1)) (gName 5)) (sSeq (sFor (iSeq (mCall m_places (aCons (mVar 0) aNil))) (gName 7) (l_put_off_2)) (sSeq (sAsg (mLc [6] (iSeq (mVar 0)) (gName 6) (tYes) (e_put_off_3)) (gName 8)) (sSeq (sAsg (mC (.bl true)) (gName 9)) (sSeq (sWhile (c_put_off_7) (l_put_off_6)) (sSeq (sAsg (mLc [7] (iSeq (mCall m_places (aCons (mVar 0) aNil))) (gName 7) (c_put_off_8) (e_put_off_9)) (gName 11)) (sRet (mTup (aCons (mVar 11) (aCons (mLc [10] (iRng1 (aCons (mCall bLen (aCons (mVar 0) aNil)) aNil)) (gName 10) (c_put_off_10) (e_put_off_11)) aNil))))))))))))
noncomputable def m_put_off : Fn := mDef 3 12 b_put_off
/-- 0 program 1 k 2 own 3 n -/
noncomputable def c_rows_of_1 : TM := tTru (mCall m_has_bit (aCons (mOp oIx (mVar 2) (mVar 3)) (aCons (mVar 1) aNil)))
noncomputable def e_rows_of_2 : EM := mVar 3
noncomputable def b_rows_of : SM := sSeq (sAsg (mCall m_own_bits (aCons (mVar 0) aNil)) (gName 2)) (sRet (mLc [3] (iRng1 (aCons (mCall bLen (aCons (mVar 0) aNil)) aNil)) (gName 3) (c_rows_of_1) (e_rows_of_2)))
noncomputable def m_rows_of : Fn := mDef 2 4 b_rows_of
/-- 0 program 1 n 2 kept 3 wished 4 m -/
noncomputable def l_is_kept_for_1 : SM := sIf (tAnd (tBl (mOp oIn (mTup (aCons (mVar 1) (aCons (mVar 4) aNil))) (mVar 3))) (tBl (mOp oNotIn (mTup (aCons (mVar 1) (aCons (mVar 4) aNil))) (mVar 2)))) (sRet (mC (.bl true))) (sNx)
noncomputable def b_is_kept_for : SM := sSeq (sFor (iSeq (mCall m_followers (aCons (mVar 0) (aCons (mVar 1) aNil)))) (gName 4) (l_is_kept_for_1)) (sRet (mC (.bl false)))
noncomputable def m_is_kept_for : Fn := mDef 4 5 b_is_kept_for
/-- 0 program 1 k 2 stops 3 off 4 rows_off 5 kept 6 place 7 lost 8 rough 9 n 10 wished 11 hows 12 how -/
noncomputable def c_paper_1 : TM := tBl (mOp oNotIn (mOp oIx (mVar 6) (mC (.int 1))) (mVar 4))
noncomputable def e_paper_2 : EM := mVar 6
noncomputable def l_paper_3 : SM := sIf (tBl (mOp oNotIn (mVar 9) (mVar 4))) (sExp (mMt isLst lAppend (mVar 8) (aCons (mTup (aCons (mVar 9) (aCons (mC (.str t_read)) aNil))) aNil))) (sIf (tTru (mCall m_has_bit (aCons (mOp oIx (mVar 7) (mVar 9)) (aCons (mVar 1) aNil)))) (sExp (mMt isLst lAppend (mVar 8) (aCons (mTup (aCons (mVar 9) (aCons (mC (.str t_own)) aNil))) aNil))) (sExp (mMt isLst lAppend (mVar 8) (aCons (mTup (aCons (mVar 9) (aCons (mC (.str t_keep)) aNil))) aNil))))
noncomputable def l_paper_4 : SM := sSeq (sIf (tAnd (tBl (mOp oEq (mVar 12) (mC (.str t_keep)))) (tNot (tTru (mCall m_is_kept_for (aCons (mVar 0) (aCons (mVar 9) (aCons (mVar 5) (aCons (mVar 10) aNil)))))))) (sAsg (mC (.str t_own)) (gName 12)) (sNx)) (sExp (mMt isLst lAppend (mVar 11) (aCons (mTup (aCons (mVar 9) (aCons (mVar 12) aNil))) aNil)))
noncomputable def b_paper : SM := sSeq (sAsg (mCall m_put_off (aCons (mVar 0) (aCons (mVar 1) (aCons (mVar 2) aNil)))) (gTup 2 (gCons (gName 3) (gCons (gName 4) gNil)))) (sSeq (sAsg (mCall bTupX (aCons (mLc [6] (iSeq (mVar 3)) (gName 6) (c_paper_1) (e_paper_2)) aNil)) (gName 5)) (sSeq (sAsg (mCall m_lost_bits (aCons (mVar 0) aNil)) (gName 7)) (sSeq (sAsg (mLst (aNil)) (gName 8)) (sSeq (sFor (iSeq (mCall m_rows_of (aCons (mVar 0) (aCons (mVar 1) aNil)))) (gName 9) (l_paper_3)) (sSeq (sAsg (mCall m_live (aCons (mVar 0) (aCons (mVar 1) (aCons (mTup (aCons (mVar 5) (aCons (mCall bTupX (aCons (mVar 8) aNil)) aNil))) aNil)))) (gName 10)) (sSeq (sAsg (mLst (aNil)) (gName 11)) (sSeq (sFor (iSeq (mVar 8)) (gTup 2 (gCons (gName 9) (gCons (gName 12) gNil))) (l_paper_4)) (sRet (mTup (aCons (mVar 5) (aCons (mCall bTupX (aCons (mVar 11) aNil)) aNil)))))))))))
noncomputable def m_paper : Fn := mDef 3 13 b_paper
/-- 0 script 1 k -/
noncomputable def b_law_cell : SM := sSeq (sIf (tBl (mOp oLt (mVar 1) (mCall bLen (aCons (mVar 0) aNil)))) (sRet (mOp oIx (mVar 0) (mVar 1))) (sNx)) (sRet (mOp oAdd (mOp oMul (mVar 1) (mC (.int 7919))) (mC (.int 11))))
noncomputable def m_law_cell : Fn := mDef 2 2 b_law_cell
/-- 0 cell_here 1 at 2 letters 3 primes 4 size 5 base 6 k 7 names_here 8 name 9 j 10 step -/
noncomputable def e_law_names_1 : EM := mOp oMod (mOp oMod (mOp oMul (mOp oDiv (mVar 0) (mC (.int 8))) (mC (.int 48271))) (mOp oIx (mVar 3) (mVar 6))) (mC (.int 26))
noncomputable def l_law_names_2 : SM := sSeq (sAsg (mOp oMul (mOp oMul (mC (.int 5)) (mVar 6)) (mCall bInt (aCons (mOp oEq (mVar 9) (mOp oMod (mVar 1) (mVar 4))) aNil))) (gName 10)) (sAsg (mOp oAdd (mVar 8) (mOp oIx (mVar 2) (mOp oMod (mOp oAdd (mOp oIx (mVar 5) (mVar 9)) (mVar 10)) (mC (.int 26))))) (gName 8))
noncomputable def l_law_names_3 : SM := sSeq (sAsg (mC (.str t_x5_)) (gName 8)) (sSeq (sFor (iRng1 (aCons (mVar 4) aNil)) (gName 9) (l_law_names_2)) (sSeq (sIf (tBl (mOp oIn (mVar 8) (mLst (aCons (mC (.str t_say)) (aCons (mC (.str t_go)) (aCons (mC (.str t_part)) (aCons (mC (.str t_end)) aNil))))))) (sAsg (mOp oAdd (mVar 8) (mC (.str t_x))) (gName 8)) (sNx)) (sExp (mMt isLst lAppend (mVar 7) (aCons (mVar 8) aNil)))))
noncomputable def b_law_names : SM := sSeq (sAsg (mC (.str t_x9_abcdefghijkl)) (gName 2)) (sSeq (sAsg (mLst (aCons (mC (.int 1009)) (aCons (mC (.int 1013)) (aCons (mC (.int 1019)) (aCons (mC (.int 1021)) (aCons (mC (.int 1031)) (aCons (mC (.int 1033)) (aCons (mC (.int 1039)) (aCons (mC (.int 1049)) aNil))))))))) (gName 3)) (sSeq (sAsg (mOp oAdd (mC (.int 1)) (mOp oMod (mVar 0) (mC (.int 8)))) (gName 4)) (sSeq (sAsg (mLc [6] (iRng1 (aCons (mVar 4) aNil)) (gName 6) (tYes) (e_law_names_1)) (gName 5)) (sSeq (sAsg (mLst (aNil)) (gName 7)) (sSeq (sFor (iRng1 (aCons (mC (.int 5)) aNil)) (gName 6) (l_law_names_3)) (sRet (mVar 7)))))))
noncomputable def m_law_names : Fn := mDef 2 11 b_law_names
/-- 0 cell_here 1 k 2 number -/
noncomputable def b_law_mixed : SM := sSeq (sAsg (mOp oMod (mOp oMul (mOp oAdd (mOp oMod (mVar 0) (mC (.int 2147483629))) (mC (.int 11))) (mOp oAdd (mC (.int 69621)) (mOp oMul (mC (.int 2)) (mVar 1)))) (mC (.int 2147483629))) (gName 2)) (sRet (mOp oAdd (mOp oMul (mOp oMod (mOp oMul (mVar 2) (mOp oAdd (mOp oMod (mVar 2) (mC (.int 104729))) (mC (.int 1)))) (mC (.int 2147483587))) (mC (.int 4294967291))) (mVar 2)))
noncomputable def m_law_mixed : Fn := mDef 2 3 b_law_mixed
/-- 0 script 1 k -/
noncomputable def b_law_drawn : SM := sSeq (sIf (tBl (mOp oEq (mOp oMod (mCall m_law_cell (aCons (mVar 0) (aCons (mC (.int 0)) aNil))) (mC (.int 2))) (mC (.int 1)))) (sRet (mCall m_law_mixed (aCons (mCall m_law_cell (aCons (mVar 0) (aCons (mVar 1) aNil))) (aCons (mVar 1) aNil)))) (sNx)) (sRet (mCall m_law_cell (aCons (mVar 0) (aCons (mVar 1) aNil))))
noncomputable def m_law_drawn : Fn := mDef 2 2 b_law_drawn
/-- 0 cell_here 1 names_here 2 rest -/
noncomputable def b_law_operand : SM := sSeq (sIf (tBl (mOp oEq (mOp oMod (mVar 0) (mC (.int 4))) (mC (.int 0)))) (sSeq (sAsg (mOp oDiv (mVar 0) (mC (.int 12))) (gName 2)) (sRet (mOp oIx (mLst (aCons (mOp oMod (mVar 2) (mC (.int 4))) (aCons (mOp oMod (mOp oMul (mVar 2) (mC (.int 2862933555777941757))) (mOp oPow (mC (.int 2)) (mC (.int 64)))) (aCons (mOp oSub (mOp oSub (mOp oPow (mC (.int 2)) (mC (.int 64))) (mC (.int 1))) (mOp oMod (mVar 2) (mC (.int 3)))) aNil)))) (mOp oMod (mOp oDiv (mVar 0) (mC (.int 4))) (mC (.int 3)))))) (sNx)) (sRet (mOp oIx (mVar 1) (mOp oMod (mOp oDiv (mVar 0) (mC (.int 4))) (mC (.int 5)))))
noncomputable def m_law_operand : Fn := mDef 2 3 b_law_operand
/-- 0 script 1 names_here 2 cell_here 3 mode 4 size 5 wide 6 pool_here 7 k 8 one -/
noncomputable def l_law_pool_1 : SM := sSeq (sIf (tBl (mOp oEq (mVar 3) (mC (.int 1)))) (sAsg (mCall m_law_mixed (aCons (mVar 2) (aCons (mVar 7) aNil))) (gName 2)) (sNx)) (sSeq (sAsg (mCall m_law_operand (aCons (mOp oMod (mOp oDiv (mVar 2) (mC (.int 8))) (mVar 5)) (aCons (mVar 1) aNil))) (gName 8)) (sSeq (sExp (mMt isLst lAppend (mVar 6) (aCons (mTup (aCons (mOp oIx (mC (.str t_x12_)) (mOp oMod (mVar 2) (mC (.int 8)))) (aCons (mVar 8) (aCons (mCall m_law_operand (aCons (mOp oMod (mOp oDiv (mOp oDiv (mVar 2) (mC (.int 8))) (mVar 5)) (mVar 5)) (aCons (mVar 1) aNil))) aNil)))) aNil))) (sIf (tBl (mOp oEq (mVar 3) (mC (.int 0)))) (sAsg (mOp oDiv (mOp oDiv (mOp oDiv (mVar 2) (mC (.int 8))) (mVar 5)) (mVar 5)) (gName 2)) (sNx))))
noncomputable def b_law_pool : SM := sSeq (sAsg (mCall m_law_drawn (aCons (mVar 0) (aCons (mC (.int 1)) aNil))) (gName 2)) (sSeq (sAsg (mOp oMod (mCall m_law_cell (aCons (mVar 0) (aCons (mC (.int 0)) aNil))) (mC (.int 2))) (gName 3)) (sSeq (sAsg (mOp oIx (mLst (aCons (mOp oAdd (mC (.int 1)) (mOp oMod (mVar 2) (mC (.int 11)))) (aCons (mOp oIx (mLst (aCons (mC (.int 3)) (aCons (mC (.int 3)) (aCons (mC (.int 3)) (aCons (mC (.int 3)) (aCons (mC (.int 3)) (aCons (mC (.int 3)) (aCons (mC (.int 3)) (aCons (mC (.int 11)) aNil))))))))) (mOp oMod (mVar 2) (mC (.int 8)))) aNil))) (mVar 3)) (gName 4)) (sSeq (sAsg (mOp oIx (mLst (aCons (mOp oMul (mOp oPow (mC (.int 2)) (mC (.int 64))) (mC (.int 64))) (aCons (mC (.int 4096)) aNil))) (mVar 3)) (gName 5)) (sSeq (sAsg (mOp oDiv (mVar 2) (mC (.int 88))) (gName 2)) (sSeq (sAsg (mLst (aNil)) (gName 6)) (sSeq (sFor (iRng1 (aCons (mVar 4) aNil)) (gName 7) (l_law_pool_1)) (sRet (mVar 6))))))))
noncomputable def m_law_pool : Fn := mDef 2 9 b_law_pool
/-- 0 cell_here 1 n 2 many 3 names_here 4 pool_here 5 kind 6 rest -/
noncomputable def b_law_row : SM := sSeq (sAsg (mOp oMod (mVar 0) (mC (.int 14))) (gName 5)) (sSeq (sAsg (mOp oDiv (mVar 0) (mC (.int 14))) (gName 6)) (sSeq (sIf (tBl (mOp oLt (mVar 5) (mC (.int 6)))) (sRet (mOp oAdd (mTup (aCons (mC (.str t_reckon)) (aCons (mOp oIx (mVar 3) (mOp oMod (mVar 6) (mC (.int 5)))) aNil))) (mOp oIx (mVar 4) (mOp oMod (mOp oDiv (mVar 6) (mC (.int 5))) (mCall bLen (aCons (mVar 4) aNil)))))) (sNx)) (sSeq (sIf (tBl (mOp oLt (mVar 5) (mC (.int 8)))) (sRet (mTup (aCons (mC (.str t_copy)) (aCons (mOp oIx (mVar 3) (mOp oMod (mVar 6) (mC (.int 5)))) (aCons (mCall m_law_operand (aCons (mOp oDiv (mVar 6) (mC (.int 5))) (aCons (mVar 3) aNil))) aNil))))) (sNx)) (sSeq (sIf (tBl (mOp oLt (mVar 5) (mC (.int 10)))) (sRet (mTup (aCons (mC (.str t_say)) (aCons (mCall m_law_operand (aCons (mVar 6) (aCons (mVar 3) aNil))) aNil)))) (sNx)) (sSeq (sIf (tAnd (tBl (mOp oLt (mVar 5) (mC (.int 12)))) (tBl (mOp oGt (mVar 2) (mC (.int 1))))) (sRet (mTup (aCons (mC (.str t_part)) (aCons (mCall m_law_operand (aCons (mOp oDiv (mVar 6) (mOp oSub (mVar 2) (mC (.int 1)))) (aCons (mVar 3) aNil))) (aCons (mOp oMod (mOp oAdd (mOp oAdd (mVar 1) (mC (.int 2))) (mOp oMod (mVar 6) (mOp oSub (mVar 2) (mC (.int 1))))) (mVar 2)) aNil))))) (sNx)) (sSeq (sIf (tBl (mOp oEq (mVar 5) (mC (.int 12)))) (sRet (mTup (aCons (mC (.str t_go)) (aCons (mOp oMod (mVar 6) (mVar 2)) aNil)))) (sNx)) (sRet (mTup (aCons (mC (.str t_end)) aNil)))))))))
noncomputable def m_law_row : Fn := mDef 5 7 b_law_row
/-- 0 program_here 1 n 2 row_here -/
noncomputable def b_law_followers : SM := sSeq (sAsg (mOp oIx (mVar 0) (mVar 1)) (gName 2)) (sSeq (sIf (tBl (mOp oEq (mOp oIx (mVar 2) (mC (.int 0))) (mC (.str t_go)))) (sRet (mLst (aCons (mOp oIx (mVar 2) (mC (.int 1))) aNil))) (sNx)) (sSeq (sIf (tBl (mOp oEq (mOp oIx (mVar 2) (mC (.int 0))) (mC (.str t_part)))) (sRet (mLst (aCons (mOp oAdd (mVar 1) (mC (.int 1))) (aCons (mOp oIx (mVar 2) (mC (.int 2))) aNil)))) (sNx)) (sSeq (sIf (tBl (mOp oEq (mOp oIx (mVar 2) (mC (.int 0))) (mC (.str t_end)))) (sRet (mLst (aNil))) (sNx)) (sRet (mLst (aCons (mOp oAdd (mVar 1) (mC (.int 1))) aNil))))))
noncomputable def m_law_followers : Fn := mDef 2 3 b_law_followers
/-- 0 rows 1 seen 2 left 3 m -/
noncomputable def l_law_reached_1 : SM := sIf (tBl (mOp oNotIn (mVar 3) (mVar 1))) (sSeq (sAsg (mC (.bl true)) (gSub (mVar 1) (mVar 3))) (sExp (mMt isLst lAppend (mVar 2) (aCons (mVar 3) aNil)))) (sNx)
noncomputable def l_law_reached_2 : SM := sFor (iSeq (mCall m_law_followers (aCons (mVar 0) (aCons (mMt isLst lPop (mVar 2) aNil) aNil)))) (gName 3) (l_law_reached_1)
noncomputable def c_law_reached_3 : TM := tBl (mOp oNe (mVar 2) (mLst (aNil)))
noncomputable def b_law_reached : SM := sSeq (sAsg (mDis [(mC (.int 0), mC (.bl true))]) (gName 1)) (sSeq (sAsg (mLst (aCons (mC (.int 0)) aNil)) (gName 2)) (sSeq (sWhile (c_law_reached_3) (l_law_reached_2)) (sRet (mVar 1))))
noncomputable def m_law_reached : Fn := mDef 1 4 b_law_reached
/-- 0 program_here 1 far_here 2 n 3 more 4 m -/
noncomputable def l_law_far_1 : SM := sIf (tBl (mOp oEq (mOp oIx (mOp oIx (mVar 0) (mVar 2)) (mC (.int 0))) (mC (.str t_end)))) (sAsg (mC (.int 0)) (gSub (mVar 1) (mVar 2))) (sNx)
noncomputable def l_law_far_2 : SM := sIf (tAnd (tBl (mOp oIn (mVar 4) (mVar 1))) (tOr (tBl (mOp oNotIn (mVar 2) (mVar 1))) (tBl (mOp oLt (mOp oAdd (mOp oIx (mVar 1) (mVar 4)) (mC (.int 1))) (mOp oIx (mVar 1) (mVar 2)))))) (sSeq (sAsg (mOp oAdd (mOp oIx (mVar 1) (mVar 4)) (mC (.int 1))) (gSub (mVar 1) (mVar 2))) (sAsg (mC (.bl true)) (gName 3))) (sNx)
noncomputable def l_law_far_3 : SM := sFor (iSeq (mCall m_law_followers (aCons (mVar 0) (aCons (mVar 2) aNil)))) (gName 4) (l_law_far_2)
noncomputable def l_law_far_4 : SM := sSeq (sAsg (mC (.bl false)) (gName 3)) (sFor (iRngD (aCons (mOp oSub (mCall bLen (aCons (mVar 0) aNil)) (mC (.int 1))) (aCons (mUn uNeg (mC (.int 1))) (aCons (mUn uNeg (mC (.int 1))) aNil)))) (gName 2) (l_law_far_3))
noncomputable def c_law_far_5 : TM := tTru (mVar 3)
noncomputable def b_law_far : SM := sSeq (sAsg (mNewK) (gName 1)) (sSeq (sFor (iRng1 (aCons (mCall bLen (aCons (mVar 0) aNil)) aNil)) (gName 2) (l_law_far_1)) (sSeq (sAsg (mC (.bl true)) (gName 3)) (sSeq (sWhile (c_law_far_5) (l_law_far_4)) (sRet (mVar 1)))))
noncomputable def m_law_far : Fn := mDef 1 5 b_law_far
/-- 0 rows 1 last 2 turn 3 seen 4 far_here 5 lost 6 n 7 dead -/
noncomputable def c_law_mended_1 : TM := tBl (mOp oNotIn (mVar 6) (mVar 3))
noncomputable def e_law_mended_2 : EM := mVar 6
noncomputable def c_law_mended_3 : TM := tBl (mOp oNotIn (mVar 6) (mVar 4))
noncomputable def e_law_mended_4 : EM := mVar 6
noncomputable def l_law_mended_5 : SM := sSeq (sAsg (mCall m_law_reached (aCons (mVar 0) aNil)) (gName 3)) (sSeq (sAsg (mCall m_law_far (aCons (mVar 0) aNil)) (gName 4)) (sSeq (sAsg (mLc [6] (iRng1 (aCons (mCall bLen (aCons (mVar 0) aNil)) aNil)) (gName 6) (c_law_mended_1) (e_law_mended_2)) (gName 5)) (sSeq (sAsg (mLc [6] (iRng1 (aCons (mCall bLen (aCons (mVar 0) aNil)) aNil)) (gName 6) (c_law_mended_3) (e_law_mended_4)) (gName 7)) (sIf (tBl (mOp oNe (mVar 5) (mLst (aNil)))) (sAsg (mTup (aCons (mC (.str t_say)) (aCons (mVar 2) aNil))) (gSub (mVar 0) (mOp oSub (mOp oIx (mVar 5) (mC (.int 0))) (mC (.int 1))))) (sIf (tAnd (tBl (mOp oNe (mVar 7) (mLst (aNil)))) (tBl (mOp oEq (mOp oIx (mVar 7) (mUn uNeg (mC (.int 1)))) (mVar 1)))) (sAsg (mTup (aCons (mC (.str t_end)) aNil)) (gSub (mVar 0) (mVar 1))) (sIf (tBl (mOp oNe (mVar 7) (mLst (aNil)))) (sAsg (mTup (aCons (mC (.str t_say)) (aCons (mVar 2) aNil))) (gSub (mVar 0) (mOp oIx (mVar 7) (mUn uNeg (mC (.int 1)))))) (sRet (mVar 0))))))))
noncomputable def b_law_mended : SM := sSeq (sAsg (mOp oSub (mCall bLen (aCons (mVar 0) aNil)) (mC (.int 1))) (gName 1)) (sSeq (sIf (tBl (mOp oNe (mOp oIx (mOp oIx (mVar 0) (mVar 1)) (mC (.int 0))) (mC (.str t_go)))) (sAsg (mTup (aCons (mC (.str t_end)) aNil)) (gSub (mVar 0) (mVar 1))) (sNx)) (sSeq (sFor (iRng1 (aCons (mOp oMul (mC (.int 2)) (mCall bLen (aCons (mVar 0) aNil))) aNil)) (gName 2) (l_law_mended_5)) (sRet (mVar 0))))
noncomputable def m_law_mended : Fn := mDef 1 8 b_law_mended
/-- 0 script 1 names_here 2 most 3 many 4 pool_here 5 n -/
noncomputable def e_law_program_1 : EM := mCall m_law_row (aCons (mCall m_law_drawn (aCons (mVar 0) (aCons (mOp oAdd (mC (.int 6)) (mVar 5)) aNil))) (aCons (mVar 5) (aCons (mVar 3) (aCons (mVar 1) (aCons (mVar 4) aNil)))))
noncomputable def b_law_program : SM := sSeq (sAsg (mOp oAdd (mC (.int 1)) (mOp oMod (mOp oDiv (mCall m_law_cell (aCons (mVar 0) (aCons (mC (.int 0)) aNil))) (mC (.int 2))) (mVar 2))) (gName 3)) (sSeq (sAsg (mCall m_law_pool (aCons (mVar 0) (aCons (mVar 1) aNil))) (gName 4)) (sRet (mCall m_law_mended (aCons (mLc [5] (iRng1 (aCons (mVar 3) aNil)) (gName 5) (tYes) (e_law_program_1)) aNil))))
noncomputable def m_law_program : Fn := mDef 3 6 b_law_program
/-- 0 program_here 1 cells 2 far_here 3 way_here 4 cell_here 5 some 6 n 7 m -/
noncomputable def l_law_way_1 : SM := sSeq (sAsg (mCall m_law_followers (aCons (mVar 0) (aCons (mOp oIx (mVar 3) (mUn uNeg (mC (.int 1)))) aNil))) (gName 5)) (sIf (tBl (mOp oNe (mVar 5) (mLst (aNil)))) (sExp (mMt isLst lAppend (mVar 3) (aCons (mOp oIx (mVar 5) (mOp oMod (mVar 4) (mCall bLen (aCons (mVar 5) aNil)))) aNil))) (sNx))
noncomputable def l_law_way_2 : SM := sIf (tBl (mOp oLt (mOp oIx (mVar 2) (mVar 7)) (mOp oIx (mVar 2) (mVar 6)))) (sAsg (mVar 7) (gName 6)) (sNx)
noncomputable def l_law_way_3 : SM := sSeq (sAsg (mCall m_law_followers (aCons (mVar 0) (aCons (mOp oIx (mVar 3) (mUn uNeg (mC (.int 1)))) aNil))) (gName 5)) (sSeq (sAsg (mOp oIx (mVar 5) (mC (.int 0))) (gName 6)) (sSeq (sFor (iSeq (mVar 5)) (gName 7) (l_law_way_2)) (sExp (mMt isLst lAppend (mVar 3) (aCons (mVar 6) aNil)))))
noncomputable def c_law_way_4 : TM := tBl (mOp oNe (mOp oIx (mOp oIx (mVar 0) (mOp oIx (mVar 3) (mUn uNeg (mC (.int 1))))) (mC (.int 0))) (mC (.str t_end)))
noncomputable def b_law_way : SM := sSeq (sAsg (mCall m_law_far (aCons (mVar 0) aNil)) (gName 2)) (sSeq (sAsg (mLst (aCons (mC (.int 0)) aNil)) (gName 3)) (sSeq (sFor (iSeq (mVar 1)) (gName 4) (l_law_way_1)) (sSeq (sWhile (c_law_way_4) (l_law_way_3)) (sRet (mVar 3)))))
noncomputable def m_law_way : Fn := mDef 2 8 b_law_way
/-- 0 script 1 names_here 2 program_here 3 known 4 way_here 5 k 6 one 7 hows 8 old 9 new 10 before 11 n -/
noncomputable def l_law_1 : SM := sSeq (sAsg (mOp oAdd (mVar 8) (mCall bInt (aCons (mAnd (mOp oEq (mOp oIx (mOp oIx (mVar 2) (mVar 11)) (mC (.int 0))) (mC (.str t_reckon))) (mOp oEq (mSl (mOp oIx (mVar 2) (mVar 11)) (pSome (mC (.int 2))) (pNo)) (mOp oIx (mVar 3) (mVar 5)))) aNil))) (gName 8)) (sSeq (sAsg (mOp oAdd (mOp oAdd (mVar 9) (mCall bInt (aCons (mOp oIn (mTup (aCons (mVar 10) (aCons (mVar 11) aNil))) (mOp oIx (mVar 6) (mC (.int 0)))) aNil))) (mCall bInt (aCons (mOp oNe (mMt isDct dGetM (mVar 7) (aCons (mVar 11) (aCons (mC (.str t_read)) aNil))) (mC (.str t_read))) aNil))) (gName 9)) (sSeq (sAsg (mVar 11) (gName 10)) (sIf (tBl (mOp oGt (mVar 9) (mOp oAdd (mVar 8) (mC (.int 1))))) (sRet (mC (.bl false))) (sNx))))
noncomputable def l_law_2 : SM := sSeq (sAsg (mCall bDict (aCons (mOp oIx (mVar 6) (mC (.int 1))) aNil)) (gName 7)) (sSeq (sAsg (mC (.int 0)) (gName 8)) (sSeq (sAsg (mC (.int 0)) (gName 9)) (sSeq (sAsg (mUn uNeg (mC (.int 1))) (gName 10)) (sSeq (sFor (iSeq (mVar 4)) (gName 11) (l_law_1)) (sIf (tBl (mOp oGt (mVar 9) (mVar 8))) (sRet (mC (.bl false))) (sNx))))))
noncomputable def l_law_3 : SM := sFor (iSeq (mLst (aCons (mCall (mDfl m_paper [.non]) (aCons (mVar 2) (aCons (mVar 5) aNil))) (aCons (mCall m_paper (aCons (mVar 2) (aCons (mVar 5) (aCons (mCall m_places (aCons (mVar 2) aNil)) aNil)))) aNil)))) (gName 6) (l_law_2)
noncomputable def b_law : SM := sSeq (sAsg (mCall m_law_names (aCons (mCall m_law_cell (aCons (mVar 0) (aCons (mC (.int 3)) aNil))) (aCons (mCall m_law_cell (aCons (mVar 0) (aCons (mC (.int 4)) aNil))) aNil))) (gName 1)) (sSeq (sAsg (mCall m_law_program (aCons (mVar 0) (aCons (mVar 1) (aCons (mC (.int 20)) aNil)))) (gName 2)) (sSeq (sAsg (mCall m_reckonings (aCons (mVar 2) aNil)) (gName 3)) (sSeq (sAsg (mCall m_law_way (aCons (mVar 2) (aCons (mSl (mVar 0) (pSome (mC (.int 30))) (pSome (mC (.int 63)))) aNil))) (gName 4)) (sSeq (sFor (iRng1 (aCons (mCall bLen (aCons (mVar 3) aNil)) aNil)) (gName 5) (l_law_3)) (sRet (mC (.bl true)))))))
noncomputable def m_law : Fn := mDef 1 12 b_law
end Lk94

set_option Elab.async false
set_option linter.all false
/-! rows, operands, reckonings as values of the small language; data by their keys -/
namespace Mi
/-! ### at a written place -/
theorem at_of {α : Type} {l : List α} {k : Nat} {d : α} (h : l[k]? = some d) : atI l (k : Int) = some d := by
  have hk := (List.getElem?_eq_some_iff.mp h).1
  unfold atI ixN
  rw [if_pos (Int.natCast_nonneg k), if_pos (by omega), Option.bind_some, Int.toNat_natCast, h]
@[simp] theorem at0 {α : Type} (a : α) (l : List α) : atI (a :: l) 0 = some a := at_of (k := 0) rfl
@[simp] theorem at1 {α : Type} (a b : α) (l : List α) : atI (a :: b :: l) 1 = some b := at_of (k := 1) rfl
@[simp] theorem at2 {α : Type} (a b c : α) (l : List α) : atI (a :: b :: c :: l) 2 = some c := at_of (k := 2) rfl
@[simp] theorem at3 {α : Type} (a b c d : α) (l : List α) : atI (a :: b :: c :: d :: l) 3 = some d := at_of (k := 3) rfl
@[simp] theorem at4 {α : Type} (a b c d e : α) (l : List α) : atI (a :: b :: c :: d :: e :: l) 4 = some e := at_of (k := 4) rfl
@[simp] theorem at5 {α : Type} (a b c d e f : α) (l : List α) : atI (a :: b :: c :: d :: e :: f :: l) 5 = some f := at_of (k := 5) rfl
theorem at_last {α : Type} (l : List α) (a : α) : atI (l ++ [a]) (-1) = some a := by
  have e : ixN (l ++ [a]).length (-1) = some l.length := by
    unfold ixN
    rw [if_neg (by decide), if_pos (by rw [List.length_append]; simp; omega)]
    congr 1
    rw [List.length_append, List.length_singleton]
    omega
  unfold atI
  rw [e]; simp
theorem div_ok {j : Int} (h : 0 < j) (h2 : j < 2 ^ 64) : divOk j := ⟨h, by
  have : j.natAbs < 2 ^ 64 := by omega
  have : j.natAbs.log2 < 64 := (Nat.log2_lt (by omega)).mpr this
  omega⟩
theorem mul_r {i j : Int} (h : small j) : mulOk i j := .inr (.inl h)
theorem mul_l {i j : Int} (h : small i) : mulOk i j := .inl h
theorem rng_at {lo : Int} {n i : Nat} {d : D} (h : (rng lo n)[i]? = some d) : i < n ∧ d = .int (lo + i) := by
  unfold rng at h
  rw [List.getElem?_map] at h
  by_cases hi : i < n
  · rw [List.getElem?_range hi] at h
    exact ⟨hi, (Option.some.inj h).symm⟩
  · rw [List.getElem?_eq_none (by simpa using hi)] at h
    cases h
@[simp] theorem rng_len (lo : Int) (n : Nat) : (rng lo n).length = n := by simp [rng]
/-- a look behind the old part -/
theorem get_at {α : Type} (S : List α) (x : α) (G : List α) : (S ++ x :: G)[S.length]? = some x := by
  rw [List.getElem?_append_right (Nat.le_refl _), Nat.sub_self]; rfl
theorem set_at {α : Type} (S : List α) (x y : α) (G : List α) : (S ++ x :: G).set S.length y = S ++ y :: G := by
  rw [List.set_append_right _ _ (Nat.le_refl _), Nat.sub_self, List.set_cons_zero]
theorem beq_dec {α : Type} [DecidableEq α] (a b : α) : (a == b) = decide (a = b) := by
  by_cases h : a = b
  · subst h; simp
  · simp [h]
theorem str_dec (a b : Tx) : ((⟨a.toArray⟩ : PySem.Str) == ⟨b.toArray⟩) = decide (a = b) := by
  rw [beq_dec]
  congr 1
  simp
theorem dec_false {p : Prop} (h : ¬ p) : dec p = false := @decide_eq_false p (Classical.propDecidable p) h
@[simp] theorem dec_iff {p : Prop} : (dec p = true) = p := propext ⟨of_dec, dec_true⟩
/-! ### keys -/
abbrev kp : Ky → PySem.PyData
  | .inl i => .int i
  | .inr s => .str ⟨s.toArray⟩
@[simp] theorem kyD_l (i : Int) : kyD (.inl i) = .int i := (rfl)
@[simp] theorem kyD_r (s : Tx) : kyD (.inr s) = .str s := (rfl)
def kOk : Ky → Bool
  | .inl _ => true
  | .inr s => s.all (· < 0x110000)
def kt (l : List Ky) : D := .tup (l.map kyD)
@[simp] theorem kyOf_kyD (k : Ky) : kyOf (kyD k) = some k := by cases k <;> rfl
@[simp] theorem kysOf_map (l : List Ky) : kysOf (l.map kyD) = some l := by
  induction l with
  | nil => rfl
  | cons k r ih => show (kyOf (kyD k)).bind _ = _; rw [kyOf_kyD, Option.bind_some, ih]; rfl
@[simp] theorem ktOf_t (l : List D) : ktOf (.tup l) = kysOf l := (rfl)
@[simp] theorem ktOf_kt (l : List Ky) : ktOf (kt l) = some l := kysOf_map l
@[simp] theorem flat_k (k : Ky) : flatD (kyD k) = true := by cases k <;> rfl
theorem eqF_k (a b : Ky) : eqF (kyD a) (kyD b) = decide (a = b) := by
  have h2 : ∀ s t : Tx, (s == t) = decide (s = t) := fun s t => by
    by_cases h : s = t
    · subst h; simp
    · simp [h]
  cases a <;> cases b <;> simp [kyD, eqF, beq_dec, h2]
theorem toP_k (rd : Nat → Option PySem.PyData) (k : Ky) : toP rd (kyD k) = some (kp k) := by cases k <;> rfl
theorem toPs_k (rd : Nat → Option PySem.PyData) (l : List Ky) : toPs rd (l.map kyD) = some (l.map kp) := by
  induction l with
  | nil => rfl
  | cons k r ih => rw [List.map_cons, toPs, toP_k, Option.bind_some, ih]; rfl
theorem toP_kt (rd : Nat → Option PySem.PyData) (l : List Ky) : toP rd (kt l) = some (.tuple (l.map kp)) := by
  unfold kt
  rw [toP, toPs_k]; rfl
theorem toPs_kt (rd : Nat → Option PySem.PyData) (L : List (List Ky)) : toPs rd (L.map kt) = some (L.map fun l => .tuple (l.map kp)) := by
  induction L with
  | nil => rfl
  | cons k r ih => rw [List.map_cons, toPs, toP_kt, Option.bind_some, ih]; rfl
theorem eqv_k (a b : Ky) : PySem.PyData.eqv (kp a) (kp b) = decide (a = b) := by
  cases a <;> cases b <;> simp [kp, PySem.PyData.eqv, beq_dec, str_dec]
theorem eqv_ks (a b : List Ky) : PySem.PyData.eqvAll (a.map kp) (b.map kp) = decide (a = b) := by
  induction a generalizing b with
  | nil => cases b <;> simp [PySem.PyData.eqvAll]
  | cons x r ih =>
    cases b with
    | nil => simp [PySem.PyData.eqvAll]
    | cons y q => simp [PySem.PyData.eqvAll, eqv_k, ih]
theorem eqv_kt (a b : List Ky) : PySem.PyData.eqv (.tuple (a.map kp)) (.tuple (b.map kp)) = decide (a = b) := by
  unfold PySem.PyData.eqv; exact eqv_ks a b
theorem eqv_kts (a b : List (List Ky)) : PySem.PyData.eqvAll (a.map fun l => .tuple (l.map kp)) (b.map fun l => .tuple (l.map kp)) = decide (a = b) := by
  induction a generalizing b with
  | nil => cases b <;> simp [PySem.PyData.eqvAll]
  | cons x r ih =>
    cases b with
    | nil => simp [PySem.PyData.eqvAll]
    | cons y q => simp [PySem.PyData.eqvAll, eqv_kt, ih]
theorem lay_k {k : Ky} (h : kOk k = true) : PySem.PyData.canLay0 (kp k) = true := by
  cases k with
  | inl i => simp [PySem.PyData.canLay0]
  | inr s =>
    simp only [PySem.PyData.canLay0, PySem.PyData.strOk]
    simpa [kOk] using h
theorem lay_ks {l : List Ky} (h : l.all kOk = true) : PySem.PyData.canLayAll0 (l.map kp) = true := by
  induction l with
  | nil => simp [PySem.PyData.canLayAll0]
  | cons k r ih =>
    rw [List.all_cons, Bool.and_eq_true] at h
    simp only [List.map_cons, PySem.PyData.canLayAll0, lay_k h.1, ih h.2, Bool.and_self]
theorem dep_ks (l : List Ky) : PySem.PyData.depthAll (l.map kp) = 0 := by
  induction l with
  | nil => simp [PySem.PyData.depthAll]
  | cons k r ih =>
    cases k <;> simp [PySem.PyData.depthAll, PySem.PyData.depth, ih]
theorem shp_kt {l : List Ky} (h : l.all kOk = true) : shp (.tuple (l.map kp)) = true := by
  unfold shp PySem.SeqAt.shaped
  simp [PySem.PyData.canLay0, PySem.PyData.depth, lay_ks h, dep_ks]
theorem lay_kts {L : List (List Ky)} (h : L.all (fun l => l.all kOk) = true) : PySem.PyData.canLayAll0 (L.map fun l => .tuple (l.map kp)) = true := by
  induction L with
  | nil => simp [PySem.PyData.canLayAll0]
  | cons k r ih =>
    rw [List.all_cons, Bool.and_eq_true] at h
    simp only [List.map_cons, PySem.PyData.canLayAll0, PySem.PyData.canLay0, lay_ks h.1, ih h.2, Bool.and_self]
theorem dep_kts (L : List (List Ky)) : PySem.PyData.depthAll (L.map fun l => .tuple (l.map kp)) ≤ 1 := by
  induction L with
  | nil => simp [PySem.PyData.depthAll]
  | cons k r ih =>
    simp only [List.map_cons, PySem.PyData.depthAll, PySem.PyData.depth, dep_ks]
    omega
theorem shp_kts {L : List (List Ky)} (h : L.all (fun l => l.all kOk) = true) : shp (.list (L.map fun l => .tuple (l.map kp))) = true := by
  unfold shp PySem.SeqAt.shaped
  have := dep_kts L
  simp only [PySem.PyData.canLay0, PySem.PyData.depth, lay_kts h, Bool.true_and, decide_eq_true_eq]
  exact decide_eq_true (Nat.le_trans (Nat.add_le_add_right this 1) (show 1 + 1 ≤ 64 by decide))
theorem eq_kt {a b : List Ky} (S : Store) (ha : a.all kOk = true) (hb : b.all kOk = true) : pyEq (kt a) (kt b) S = some (decide (a = b)) := by
  unfold pyEq
  have e : scq (kt a) (kt b) = none := rfl
  rw [e]
  simp only [pd, toP_kt, shp_kt ha, shp_kt hb, and_self, if_true, eqv_kt]
theorem in_kts {x : List Ky} {L : List (List Ky)} (S : Store) (hx : x.all kOk = true) (hL : L.all (fun l => l.all kOk) = true) : inSeq (kt x) (L.map kt) S = some (dec (x ∈ L)) := by
  unfold inSeq
  rw [if_neg (by unfold kt flatD; simp)]
  simp only [pd, toP_kt, toPs_kt, shp_kt hx, shp_kts hL, and_self, if_true, List.any_map]
  congr 1
  induction L with
  | nil => exact (dec_false (by simp)).symm
  | cons y r ih =>
    rw [List.all_cons, Bool.and_eq_true] at hL
    simp only [List.any_cons, Function.comp, eqv_kt] at ih ⊢
    rw [ih hL.2]
    by_cases h : y = x
    · subst h; simp [dec_true]
    · have : ¬ x = y := fun q => h q.symm
      simp [h, this]
theorem in_ks (x : Ky) (l : List Ky) (S : Store) : inSeq (kyD x) (l.map kyD) S = some (dec (x ∈ l)) := by
  rw [inSeq_f S (flat_k x) (by simp), List.any_map]
  congr 1
  induction l with
  | nil => exact (dec_false (by simp)).symm
  | cons y r ih =>
    simp only [List.any_cons, Function.comp, eqF_k] at ih ⊢
    rw [ih]
    by_cases h : y = x
    · subst h; simp [dec_true]
    · have : ¬ x = y := fun q => h q.symm
      simp [h, this]
/-- lists of such tuples against one another -/
theorem eq_lkts {m n : Nat} {A B : List (List Ky)} {S : Store} (ha : lstOf S m = some (A.map kt)) (hb : lstOf S n = some (B.map kt)) (hA : A.all (fun l => l.all kOk) = true) (hB : B.all (fun l => l.all kOk) = true) : pyEq (.ref m) (.ref n) S = some (decide (A = B)) := by
  have look : ∀ {n A}, lstOf S n = some (List.map kt A) → lookP 8 S n = some (.list (A.map fun l => .tuple (l.map kp))) := fun {n A} h => by
    unfold lookP
    unfold lstOf at h
    cases hn : S[n]? with
    | none => rw [hn] at h; cases h
    | some o =>
      rw [hn] at h
      cases o with
      | lst l => dsimp only at h ⊢; obtain rfl := Option.some.inj h; rw [toPs_kt]; rfl
      | fls l => dsimp only at h ⊢; obtain rfl := Option.some.inj h; rw [toPs_kt]; rfl
      | _ => cases h
  unfold pyEq
  have e : scq (.ref m) (.ref n) = none := rfl
  rw [e]
  simp only [pd, toP, look ha, look hb, shp_kts hA, shp_kts hB, and_self, if_true]
  unfold PySem.PyData.eqv
  rw [eqv_kts]
/-! ### stores by what is found in them -/
theorem Pre.lt {S S' : Store} {n : Nat} {o : O} (h : S[n]? = some o) : n < S.length := (List.getElem?_eq_some_iff.mp h).1
theorem Pre.set {S S' : Store} {p : Nat} {x : O} (h : Pre S S') (hp : S.length ≤ p) : Pre S (S'.set p x) := by
  obtain ⟨G, rfl⟩ := h
  rw [List.set_append_right _ _ hp]
  exact ⟨_, rfl⟩
theorem set_ne {S : Store} {p q : Nat} {x : O} (h : p ≠ q) : (S.set p x)[q]? = S[q]? := List.getElem?_set_ne h
theorem app_get {S : Store} {n : Nat} {o : O} {G : Store} (h : S[n]? = some o) : (S ++ G)[n]? = some o := (Pre.app S G).get h
theorem app_new (S : Store) (o : O) (G : Store) : (S ++ o :: G)[S.length]? = some o := get_at S o G
theorem ne_new {S : Store} {n : Nat} {o : O} (h : S[n]? = some o) : S.length ≠ n := by have := Pre.lt (S' := S) h; omega
theorem ixN_of {n : Nat} {i : Int} (h : 0 ≤ i) (h2 : i < n) : ixN n i = some i.toNat := by
  unfold ixN
  rw [if_pos h, if_pos h2]
theorem at_nat {α : Type} {l : List α} {i : Int} {d : α} (h0 : 0 ≤ i) (h : l[i.toNat]? = some d) : atI l i = some d := by
  have := at_of h
  rw [Int.toNat_of_nonneg h0] at this
  exact this
/-! ### texts of single signs -/
abbrev sgn (c : Nat) : D := .str [c]
theorem txs_sgn (cs : Tx) : txsOf (cs.map sgn) = some (cs.map fun c => [c]) := by
  have := txs_map (cs.map fun c => [c])
  rw [List.map_map] at this
  exact this
theorem join_nil (ys : List Tx) : joinT [] ys = ys.flatten := by
  induction ys with
  | nil => rfl
  | cons y r ih =>
    cases r with
    | nil => simp [joinT]
    | cons z q => rw [joinT, ih]; simp
theorem flat_sgn (cs : Tx) : (cs.map fun c => [c]).flatten = cs := by
  induction cs with
  | nil => rfl
  | cons c r ih => simp [ih]
theorem sum_sgn (cs : Tx) : ((cs.map fun c => [c]).map List.length).sum = cs.length := by
  induction cs with
  | nil => rfl
  | cons c r ih => simp at ih ⊢; omega
theorem join_sgn {S : Store} {p : Nat} {cs : Tx} (h : S[p]? = some (.lst (cs.map sgn))) (hl : cs.length ≤ LINE) : sJoin (.str []) [.ref p] S = .ok (.str cs) S := by
  rw [sJoin_s, seqOf_r, lstOf_s, h]
  simp only [Option.bind_some, txs_sgn, joK_s, sum_sgn, join_nil, flat_sgn, List.length_nil, Nat.mul_zero, Nat.add_zero, hl, if_true]
/-- a row -/
inductive Row where
  | rk (n s : Tx) (a b : Ky) | cp (n : Tx) (a : Ky) | sy (a : Ky) | go (t : Int) | pt (a : Ky) (t : Int) | en
abbrev w_rk : Tx := [114, 101, 99, 107, 111, 110]
abbrev w_cp : Tx := [99, 111, 112, 121]
abbrev w_sy : Tx := [115, 97, 121]
abbrev w_go : Tx := [103, 111]
abbrev w_pt : Tx := [112, 97, 114, 116]
abbrev w_en : Tx := [101, 110, 100]
def Row.ks : Row → List Ky
  | .rk n s a b => [.inr w_rk, .inr n, .inr s, a, b]
  | .cp n a => [.inr w_cp, .inr n, a]
  | .sy a => [.inr w_sy, a]
  | .go t => [.inr w_go, .inl t]
  | .pt a t => [.inr w_pt, a, .inl t]
  | .en => [.inr w_en]
def Row.d (r : Row) : D := kt r.ks
abbrev SG : Tx := [97, 98, 99, 100, 101, 102, 103, 104, 105, 106, 107, 108, 109, 110, 111, 112, 113, 114, 115, 116, 117, 118, 119, 120, 121, 122, 48, 49, 50, 51, 52, 53, 54, 55, 56, 57]
abbrev S8 : Tx := [43, 45, 42, 38, 124, 94, 60, 61]
/-- a name -/
structure Nm (t : Tx) : Prop where
  lo : 1 ≤ t.length
  hi : t.length ≤ 8
  fst : ∃ c, t[0]? = some c ∧ 97 ≤ c ∧ c ≤ 122
  all : ∀ c ∈ t, c ∈ SG
  no : t ≠ w_sy ∧ t ≠ w_go ∧ t ≠ w_pt ∧ t ≠ w_en
theorem Nm.ok {t : Tx} (h : Nm t) : kOk (.inr t) = true := by
  show t.all _ = true
  rw [List.all_eq_true]
  intro c hc
  have : ∀ c ∈ SG, decide (c < 0x110000) = true := by decide
  exact this c (h.all c hc)
/-- what a name's signs are -/
structure Cs (cs : Tx) : Prop where
  lo : 1 ≤ cs.length
  hi : cs.length ≤ 8
  fst : ∃ c, cs[0]? = some c ∧ 97 ≤ c ∧ c ≤ 122
  all : ∀ c ∈ cs, c ∈ SG
theorem Cs.set {cs : Tx} (h : Cs cs) (i c : Nat) (hc : 97 ≤ c ∧ c ≤ 122) (hs : c ∈ SG) : Cs (cs.set i c) := by
  refine ⟨by simpa using h.lo, by simpa using h.hi, ?_, ?_⟩
  · obtain ⟨d, e, q⟩ := h.fst
    rw [List.getElem?_set]
    by_cases h0 : i = 0
    · subst h0
      rw [if_pos rfl, if_pos (Nat.lt_of_lt_of_le Nat.zero_lt_one h.lo)]
      exact ⟨c, rfl, hc⟩
    · rw [if_neg h0]; exact ⟨d, e, q⟩
  · intro d hd
    rcases List.mem_or_eq_of_mem_set hd with z | z
    · exact h.all d z
    · exact z ▸ hs
/-- the name of such signs -/
def nmOf (cs : Tx) : Tx := if cs = w_sy ∨ cs = w_go ∨ cs = w_pt ∨ cs = w_en then cs ++ [48] else cs
theorem Cs.nm {cs : Tx} (h : Cs cs) : Nm (nmOf cs) := by
  unfold nmOf
  split
  · rename_i q
    rcases q with rfl | rfl | rfl | rfl <;> exact ⟨by decide, by decide, ⟨_, rfl, by decide⟩, by decide, by decide⟩
  · rename_i q
    refine ⟨h.lo, h.hi, h.fst, h.all, ?_⟩
    refine ⟨fun e => q (.inl e), fun e => q (.inr (.inl e)), fun e => q (.inr (.inr (.inl e))), fun e => q (.inr (.inr (.inr e)))⟩
theorem sg_lt {i : Int} (h0 : 0 ≤ i) (h : i < 36) : ∃ c, atI SG i = some c ∧ c ∈ SG ∧ (i < 26 → 97 ≤ c ∧ c ≤ 122) := by
  have hl : i.toNat < SG.length := by show i.toNat < 36; omega
  refine ⟨SG[i.toNat], at_nat h0 (List.getElem?_eq_getElem hl), List.getElem_mem _, fun h2 => ?_⟩
  have all : ∀ k : Nat, k < 26 → ∀ c, SG[k]? = some c → 97 ≤ c ∧ c ≤ 122 := by decide
  exact all i.toNat (by omega) _ (List.getElem?_eq_getElem hl)
/-! ### comprehensions whose elements are told by a property -/
theorem lc_rel_go {hs : List (Nat × List D)} {g : GM} {t : TM} {e : EM} {fr : Fr} {S1 : Store} (P : D → D → Prop) :
    ∀ (items : List D) (acc : List D) (S : Store), Pre S1 S → S[S1.length]? = some (.lst acc) → (∀ p, p ∈ hs → lstOf S1 p.1 = some p.2) → acc.length + items.length ≤ LINE →
    (∀ d, d ∈ items → ∀ S, Pre S1 S → S1.length < S.length → ∃ fr' S', g d fr S = .ok fr' S ∧ t fr' S = .ok true S ∧ ∃ x, e fr' S = .ok x S' ∧ Pre S S' ∧ P d x) →
    ∃ xs S', lcLoop hs S1.length g t e fr items S = .ok (.ref S1.length) S' ∧ Pre S1 S' ∧ S'[S1.length]? = some (.lst (acc ++ xs)) ∧ xs.length = items.length ∧ ∀ (i : Nat) (d x : D), items[i]? = some d → xs[i]? = some x → P d x := by
  have stand : ∀ S, Pre S1 S → (∀ p, p ∈ hs → lstOf S1 p.1 = some p.2) → stands hs S := fun S pr h p hp => by
    have q := h p hp
    unfold lstOf at q ⊢
    cases hh : S1[p.1]? with
    | none => rw [hh] at q; cases q
    | some o => rw [pr.get hh]; rw [hh] at q; exact q
  intro items
  induction items with
  | nil => exact fun acc S pr ha h _ _ => ⟨[], S, by rw [lcLoop, dec_true (stand S pr h)]; rfl, pr, by rw [List.append_nil]; exact ha, rfl, fun i d x hd _ => by cases hd⟩
  | cons d ds ih =>
    intro acc S pr ha h hl step
    rw [List.length_cons] at hl
    obtain ⟨fr', S', e1, e2, x, e3, pr2, px⟩ := step d List.mem_cons_self S pr (Pre.lt (S' := S) ha)
    have ha' : S'[S1.length]? = some (.lst acc) := pr2.get ha
    obtain ⟨xs, S2, q, pr3, hx, hxl, hp⟩ := ih (acc ++ [x]) (S'.set S1.length (.lst (acc ++ [x]))) ((pr.trans pr2).set (Nat.le_refl _)) (set_get ha') h (by rw [List.length_append, List.length_singleton]; omega) fun d' hd' => step d' (List.mem_cons_of_mem _ hd')
    refine ⟨x :: xs, S2, ?_, pr3, by rw [hx, List.append_assoc]; rfl, by rw [List.length_cons, List.length_cons, hxl], ?_⟩
    · rw [lcLoop, dec_true (stand S pr h)]
      simp only [if_true, e1, bind_ok, e2, e3, ha']
      rw [if_pos (by omega), q]
    · intro i d' x' hd hx
      cases i with
      | zero => obtain rfl := Option.some.inj hd; obtain rfl := Option.some.inj hx; exact px
      | succ i => exact hp i d' x' hd hx
theorem lc_rel {vs : List Nat} {g : GM} {e : EM} {fr : Fr} {l : List D} {hs : List (Nat × List D)} {S : Store} (P : D → D → Prop) (h1 : ∀ p, p ∈ hs → lstOf S p.1 = some p.2) (h2 : l.length ≤ LINE)
    (h3 : ∀ d, d ∈ l → ∀ S', Pre S S' → ∃ fr' S2, g d (unset vs fr) S' = .ok fr' S' ∧ ∃ x, e fr' S' = .ok x S2 ∧ Pre S' S2 ∧ P d x) :
    ∃ xs S', lcK vs g tYes e fr (.ok ⟨l, hs⟩ S) = .ok (.ref S.length) S' ∧ Pre S S' ∧ S'[S.length]? = some (.lst xs) ∧ xs.length = l.length ∧ ∀ (i : Nat) (d x : D), l[i]? = some d → xs[i]? = some x → P d x := by
  obtain ⟨xs, S', q, pr, hx, hxl, hp⟩ := lc_rel_go (g := g) (t := fun fr S => quiet (tYes fr S)) (e := fun fr S => quiet (e fr S)) (fr := unset vs fr) P l [] (S ++ [.lst []]) (Pre.app _ _) (app_new _ _ _) h1 (by simpa using h2) fun d hd S' pr _ => by
    obtain ⟨fr', S2, e1, x, e2, pr2, px⟩ := h3 d hd S' pr
    exact ⟨fr', S2, e1, rfl, x, by rw [e2]; rfl, pr2, px⟩
  exact ⟨xs, S', q, pr, hx, hxl, hp⟩
theorem lc_fil_go {α : Type} {hs : List (Nat × List D)} {g : GM} {t : TM} {e : EM} {fr : Fr} {S1 : Store} (F H : α → D) (keep : α → Bool) :
    ∀ (items : List α) (acc : List D) (S : Store), Pre S1 S → S[S1.length]? = some (.lst acc) → (∀ p, p ∈ hs → lstOf S1 p.1 = some p.2) → acc.length + items.length ≤ LINE →
    (∀ a, a ∈ items → ∀ S, Pre S1 S → ∃ fr' S2, g (F a) fr S = .ok fr' S ∧ t fr' S = .ok (keep a) S2 ∧ Pre S S2 ∧ (keep a = true → ∃ S3, e fr' S2 = .ok (H a) S3 ∧ Pre S2 S3)) →
    ∃ S', lcLoop hs S1.length g t e fr (items.map F) S = .ok (.ref S1.length) S' ∧ Pre S1 S' ∧ S'[S1.length]? = some (.lst (acc ++ (items.filter keep).map H)) := by
  have stand : ∀ S, Pre S1 S → (∀ p, p ∈ hs → lstOf S1 p.1 = some p.2) → stands hs S := fun S pr h p hp => by
    have q := h p hp
    unfold lstOf at q ⊢
    cases hh : S1[p.1]? with
    | none => rw [hh] at q; cases q
    | some o => rw [pr.get hh]; rw [hh] at q; exact q
  intro items
  induction items with
  | nil => exact fun acc S pr ha h _ _ => ⟨S, by rw [List.map_nil, lcLoop, dec_true (stand S pr h)]; rfl, pr, by simpa using ha⟩
  | cons a as ih =>
    intro acc S pr ha h hl step
    rw [List.length_cons] at hl
    obtain ⟨fr', S2, e1, e2, pr2, e3⟩ := step a List.mem_cons_self S pr
    have ha' : S2[S1.length]? = some (.lst acc) := pr2.get ha
    cases hk : keep a with
    | false =>
      obtain ⟨S', q, pr3, hx⟩ := ih acc S2 (pr.trans pr2) ha' h (by omega) fun d' hd' => step d' (List.mem_cons_of_mem _ hd')
      refine ⟨S', ?_, pr3, by rw [hx, List.filter_cons_of_neg (by rw [hk]; exact Bool.false_ne_true)]⟩
      rw [List.map_cons, lcLoop, dec_true (stand S pr h)]
      rw [hk] at e2
      simp only [if_true, e1, bind_ok, e2, Bool.false_eq_true, if_false]
      exact q
    | true =>
      obtain ⟨S3, e4, pr4⟩ := e3 hk
      have ha2 : S3[S1.length]? = some (.lst acc) := pr4.get ha'
      obtain ⟨S', q, pr3, hx⟩ := ih (acc ++ [H a]) (S3.set S1.length (.lst (acc ++ [H a]))) (((pr.trans pr2).trans pr4).set (Nat.le_refl _)) (set_get ha2) h (by rw [List.length_append, List.length_singleton]; omega) fun d' hd' => step d' (List.mem_cons_of_mem _ hd')
      refine ⟨S', ?_, pr3, by rw [hx, List.filter_cons_of_pos hk, List.append_assoc]; rfl⟩
      rw [List.map_cons, lcLoop, dec_true (stand S pr h)]
      rw [hk] at e2
      simp only [if_true, e1, bind_ok, e2, e4, ha2]
      rw [if_pos (by omega)]
      exact q
/-- a comprehension over values of a kind -/
theorem lc_fil {α : Type} {vs : List Nat} {g : GM} {t : TM} {e : EM} {fr : Fr} {l : List D} {hs : List (Nat × List D)} {S : Store} (as : List α) (F H : α → D) (keep : α → Bool) (hl : l = as.map F) (h1 : ∀ p, p ∈ hs → lstOf S p.1 = some p.2) (h2 : as.length ≤ LINE)
    (h3 : ∀ a, a ∈ as → ∀ S', Pre S S' → ∃ fr' S2, g (F a) (unset vs fr) S' = .ok fr' S' ∧ t fr' S' = .ok (keep a) S2 ∧ Pre S' S2 ∧ (keep a = true → ∃ S3, e fr' S2 = .ok (H a) S3 ∧ Pre S2 S3)) :
    ∃ S', lcK vs g t e fr (.ok ⟨l, hs⟩ S) = .ok (.ref S.length) S' ∧ Pre S S' ∧ S'[S.length]? = some (.lst ((as.filter keep).map H)) := by
  subst hl
  obtain ⟨S', q, pr, hx⟩ := lc_fil_go (g := g) (t := fun fr S => quiet (t fr S)) (e := fun fr S => quiet (e fr S)) (fr := unset vs fr) (hs := hs) F H keep as [] (S ++ [.lst []]) (Pre.app _ _) (app_new _ _ _) h1 (by simpa using h2) fun a ha S' pr => by
    obtain ⟨fr', S2, e1, e2, pr2, k⟩ := h3 a ha S' pr
    refine ⟨fr', S2, e1, by rw [e2]; rfl, pr2, fun hk => ?_⟩
    obtain ⟨S3, e3, pr3⟩ := k hk
    exact ⟨S3, by rw [e3]; rfl, pr3⟩
  exact ⟨S', q, pr, hx⟩
theorem stand_one {S : Store} {n : Nat} {l : List D} (h : lstOf S n = some l) : ∀ p, p ∈ [(n, l)] → lstOf S p.1 = some p.2 := stands_one h
theorem lst_of {S : Store} {n : Nat} {l : List D} (h : S[n]? = some (.lst l)) : lstOf S n = some l := by rw [lstOf_s, h]; rfl
/-- such a list, as values of a kind -/
theorem of_rel {α : Type} {f : α → D} {l xs : List D} {Q : α → Prop} (hl : xs.length = l.length) (h : ∀ (i : Nat) (d x : D), l[i]? = some d → xs[i]? = some x → ∃ a, x = f a ∧ Q a) : ∃ as : List α, xs = as.map f ∧ as.length = l.length ∧ ∀ a ∈ as, Q a := by
  induction xs generalizing l with
  | nil => exact ⟨[], rfl, by simpa using hl, by simp⟩
  | cons x r ih =>
    cases l with
    | nil => simp at hl
    | cons d q =>
      obtain ⟨as, rfl, hl2, ha⟩ := ih (l := q) (by simpa using hl) fun i d x h1 h2 => h (i + 1) d x h1 h2
      obtain ⟨a, rfl, qa⟩ := h 0 d x rfl rfl
      refine ⟨a :: as, rfl, by simp [hl2], ?_⟩
      intro b hb
      rcases List.mem_cons.mp hb with z | z
      · exact z ▸ qa
      · exact ha b z
/-! ### reckonings -/
@[simp] theorem oEq_sk (n : Tx) (k : Ky) (S : Store) : oEq (.str n) (kyD k) S = .ok (.bl (decide (k = .inr n))) S := by
  cases k with
  | inl i => simp [kyD]
  | inr s => simp [kyD, eq_comm]
@[simp] theorem eqF_ks (n : Tx) (k : Ky) : eqF (kyD k) (.str n) = decide (k = .inr n) := eqF_k k (.inr n)
theorem oEq_kt {a b : List Ky} (S : Store) (ha : a.all kOk = true) (hb : b.all kOk = true) : oEq (kt a) (kt b) S = .ok (.bl (decide (a = b))) S := by
  rw [oEq_g, eq_kt S ha hb]; rfl
theorem oNe_kt {a b : List Ky} (S : Store) (ha : a.all kOk = true) (hb : b.all kOk = true) : oNe (kt a) (kt b) S = .ok (.bl (!decide (a = b))) S := by
  rw [oNe_g, eq_kt S ha hb]; rfl
theorem dGet_map {κ α : Type} [DecidableEq κ] (l : List κ) (k : κ) (v : α) : dGet (l.map fun k => (k, v)) k = if k ∈ l then some v else none := by
  unfold dGet
  rw [List.find?_map]
  induction l with
  | nil => simp
  | cons x r ih =>
    by_cases h : x = k
    · subst h; simp
    · have : ¬ k = x := fun e => h e.symm
      simp [h, this] at ih ⊢
      exact ih
theorem dPut_map {κ α : Type} [DecidableEq κ] (l : List κ) (k : κ) (v : α) : dPut (l.map fun k => (k, v)) k v = (if dec (k ∈ l) = true then l else l ++ [k]).map fun k => (k, v) := by
  unfold dPut
  by_cases h : k ∈ l
  · rw [if_pos (by simpa using h), if_pos (dec_true h), List.map_map]
    apply List.map_congr_left
    intro x _
    simp only [Function.comp]
    split <;> rfl
  · rw [if_neg (by simpa using h), if_neg (by rw [dec_false h]; exact Bool.false_ne_true)]; simp
def Row.rkg : Row → Option (List Ky)
  | .rk _ s a b => some [.inr s, a, b]
  | _ => none
noncomputable def addK (acc : List (List Ky)) (r : Row) : List (List Ky) := match r.rkg with
  | some k => if dec (k ∈ acc) = true then acc else acc ++ [k]
  | none => acc
/-- an operand: one of the names, or a worth -/
def Opd (l : List Tx) (k : Ky) : Prop := (∃ t, t ∈ l ∧ k = .inr t) ∨ ∃ w : Int, k = .inl w ∧ 0 ≤ w ∧ w < 18446744073709551616
theorem Opd.ok {l : List Tx} {k : Ky} (h : Opd l k) (hl : ∀ t ∈ l, Nm t) : kOk k = true := by
  rcases h with ⟨t, ht, rfl⟩ | ⟨w, rfl, _⟩
  · exact (hl t ht).ok
  · rfl
/-- a reckoning -/
structure Rkg (l : List Tx) (s a b : Ky) : Prop where
  s1 : ∃ c, c ∈ S8 ∧ s = .inr [c]
  a1 : Opd l a
  b1 : Opd l b
end Mi

set_option Elab.async false
set_option linter.all false
/-! programs as they are built by the laws: what may stand in them, how each row is come to, how each leads to an end -/
namespace Mi
def Row.seq : Row → Bool
  | .go _ => false
  | .en => false
  | _ => true
def RowN (l : List Tx) : Row → Prop
  | .rk n s a b => n ∈ l ∧ Rkg l (.inr s) a b
  | .cp n a => n ∈ l ∧ Opd l a
  | .sy a => Opd l a
  | .go _ => True
  | .pt a _ => Opd l a
  | .en => True
/-- what comes behind row n -/
def fol (n : Nat) : Row → List Int
  | .go t => [t]
  | .pt _ t => [(n : Int) + 1, t]
  | .en => []
  | _ => [(n : Int) + 1]
/-- rows as they are being built: `outer` lie outside of stretches, `bg` begins an open one -/
structure Bld (l : List Tx) (rows : List Row) (outer : List Nat) (bg : Option Nat) : Prop where
  nm : ∀ r ∈ rows, RowN l r
  pts : ∀ (n : Nat) (a : Ky) (t : Int), rows[n]? = some (.pt a t) → 0 ≤ t
  out : ∀ o ∈ outer, o < rows.length
  bgn : ∀ b, bg = some b → b ∈ outer ∧ ∃ a, rows[b]? = some (.pt a 0)
  rch : ∀ i, 0 < i → i ≤ rows.length → (∃ r, rows[i - 1]? = some r ∧ r.seq = true) ∨ ∃ b a, b + 1 < i ∧ rows[b]? = some (.pt a (i : Nat))
  nxt : ∀ o ∈ outer, bg = some o ∨ ∃ r, rows[o]? = some r ∧ r.seq = true ∧ ((o + 1 ∈ outer ∨ (o + 1 = rows.length ∧ bg = none)) ∨ ∃ a t, r = .pt a (t : Nat) ∧ o + 1 < t ∧ (t ∈ outer ∨ (t = rows.length ∧ bg = none)))
  gos : ∀ (n : Nat) (t : Int), rows[n]? = some (.go t) → t < 0 ∨ ∃ o ∈ outer, t = (o : Int)
theorem Bld.start (l : List Tx) : Bld l [] [] none := by
  refine ⟨by simp, by simp, by simp, by simp, ?_, by simp, by simp⟩
  intro i h1 h2
  rw [List.length_nil] at h2
  omega
theorem get_snoc {α : Type} {l : List α} {a b : α} {n : Nat} (h : (l ++ [a])[n]? = some b) : l[n]? = some b ∨ (n = l.length ∧ b = a) := by
  rw [List.getElem?_append] at h
  split at h
  · exact .inl h
  · rename_i hn
    have := (List.getElem?_eq_some_iff.mp h).1
    rw [List.length_singleton] at this
    have hn : n = l.length := by omega
    subst hn
    rw [Nat.sub_self] at h
    exact .inr ⟨rfl, (Option.some.inj h).symm⟩
theorem snoc_lt {α : Type} {l : List α} {a b : α} {n : Nat} (h : l[n]? = some b) : (l ++ [a])[n]? = some b := by
  rw [List.getElem?_append_left (List.getElem?_eq_some_iff.mp h).1]; exact h
theorem snoc_eq {α : Type} (l : List α) (a : α) : (l ++ [a])[l.length]? = some a := by simp
/-- a row more: outside, or within an open stretch -/
theorem Bld.add {l : List Tx} {rows : List Row} {outer outer' : List Nat} {bg : Option Nat} (h : Bld l rows outer bg) {r : Row} (hr : RowN l r) (hs : r.seq = true) (hp : ∀ a t, r = .pt a t → 0 ≤ t)
    (ho : (bg = none ∧ outer' = outer ++ [rows.length]) ∨ (bg ≠ none ∧ outer' = outer)) : Bld l (rows ++ [r]) outer' bg := by
  have sub : ∀ o ∈ outer, o ∈ outer' := fun o hm => by
    rcases ho with ⟨_, rfl⟩ | ⟨_, rfl⟩
    · exact List.mem_append_left _ hm
    · exact hm
  refine ⟨?_, ?_, ?_, ?_, ?_, ?_, ?_⟩
  · intro r' hr'
    rcases List.mem_append.mp hr' with z | z
    · exact h.nm r' z
    · rw [List.mem_singleton.mp z]; exact hr
  · intro n a t e
    rcases get_snoc e with z | ⟨_, z⟩
    · exact h.pts n a t z
    · exact hp a t z.symm
  · intro o hm
    rw [List.length_append, List.length_singleton]
    rcases ho with ⟨_, rfl⟩ | ⟨_, rfl⟩
    · rcases List.mem_append.mp hm with z | z
      · have := h.out o z; omega
      · rw [List.mem_singleton.mp z]; omega
    · have := h.out o hm; omega
  · intro b e
    obtain ⟨m, a, q⟩ := h.bgn b e
    exact ⟨sub b m, a, snoc_lt q⟩
  · intro i h0 h1
    rw [List.length_append, List.length_singleton] at h1
    by_cases hi : i = rows.length + 1
    · exact .inl ⟨r, by subst hi; exact snoc_eq _ _, hs⟩
    · rcases h.rch i h0 (by omega) with ⟨r', e, q⟩ | ⟨b, a, q, e⟩
      · exact .inl ⟨r', snoc_lt e, q⟩
      · exact .inr ⟨b, a, q, snoc_lt e⟩
  · intro o hm
    have old : o ∈ outer → bg = some o ∨ ∃ r', (rows ++ [r])[o]? = some r' ∧ r'.seq = true ∧ ((o + 1 ∈ outer' ∨ (o + 1 = (rows ++ [r]).length ∧ bg = none)) ∨ ∃ a t, r' = .pt a (t : Nat) ∧ o + 1 < t ∧ (t ∈ outer' ∨ (t = (rows ++ [r]).length ∧ bg = none))) := fun z => by
      rcases h.nxt o z with e | ⟨r', e, q, c⟩
      · exact .inl e
      · refine .inr ⟨r', snoc_lt e, q, ?_⟩
        have up : ∀ t : Nat, t ∈ outer ∨ (t = rows.length ∧ bg = none) → t ∈ outer' := fun t c => by
          rcases c with c | ⟨c, e2⟩
          · exact sub t c
          · rcases ho with ⟨_, rfl⟩ | ⟨e3, _⟩
            · subst c; simp
            · exact absurd e2 e3
        rcases c with c | ⟨a, t, e2, lt, c⟩
        · exact .inl (.inl (up _ c))
        · exact .inr ⟨a, t, e2, lt, .inl (up _ c)⟩
    rcases ho with ⟨e, rfl⟩ | ⟨e, rfl⟩
    · rcases List.mem_append.mp hm with z | z
      · exact old z
      · rw [List.mem_singleton.mp z]
        exact .inr ⟨r, snoc_eq _ _, hs, .inl (.inr ⟨by simp, e⟩)⟩
    · exact old hm
  · intro n t e
    rcases get_snoc e with z | ⟨_, z⟩
    · rcases h.gos n t z with q | ⟨o, m, q⟩
      · exact .inl q
      · exact .inr ⟨o, sub o m, q⟩
    · rw [← z] at hs; cases hs
/-- a stretch is begun -/
theorem Bld.opened {l : List Tx} {rows : List Row} {outer : List Nat} (h : Bld l rows outer none) {a : Ky} (ha : Opd l a) : Bld l (rows ++ [.pt a 0]) (outer ++ [rows.length]) (some rows.length) := by
  have q := h.add (r := .pt a 0) ha rfl (fun _ _ e => by cases e; exact Int.le_refl 0) (.inl ⟨rfl, rfl⟩)
  refine ⟨q.nm, q.pts, q.out, ?_, q.rch, ?_, q.gos⟩
  · intro b e
    obtain rfl := Option.some.inj e
    exact ⟨by simp, a, snoc_eq _ _⟩
  · intro o hm
    by_cases ho : o = rows.length
    · exact .inl (by rw [ho])
    · rcases h.nxt o (by simpa [ho] using hm) with e | ⟨r, e, s, c⟩
      · cases e
      · have up : ∀ t : Nat, t ∈ outer ∨ (t = rows.length ∧ (none : Option Nat) = none) → t ∈ outer ++ [rows.length] := fun t c => by
          rcases c with c | ⟨c, _⟩
          · exact List.mem_append_left _ c
          · subst c; simp
        refine .inr ⟨r, snoc_lt e, s, ?_⟩
        rcases c with c | ⟨a', t, e2, lt, c⟩
        · exact .inl (.inl (up _ c))
        · exact .inr ⟨a', t, e2, lt, .inl (up _ c)⟩
/-- a stretch is closed -/
theorem Bld.closed {l : List Tx} {rows : List Row} {outer : List Nat} {b : Nat} (h : Bld l rows outer (some b)) {a : Ky} (hb : rows[b]? = some (.pt a 0)) {r : Row} (hr : r = .en ∨ ∃ t, r = .go t ∧ (t < 0 ∨ ∃ o ∈ outer, t = (o : Int))) :
    Bld l ((rows ++ [r]).set b (.pt a ((rows.length + 1 : Nat) : Int))) outer none := by
  have hbl : b < rows.length := (List.getElem?_eq_some_iff.mp hb).1
  have ha : Opd l a := h.nm _ (List.mem_of_getElem? hb)
  have len : ((rows ++ [r]).set b (.pt a ((rows.length + 1 : Nat) : Int))).length = rows.length + 1 := by simp
  have atb : ((rows ++ [r]).set b (.pt a ((rows.length + 1 : Nat) : Int)))[b]? = some (.pt a ((rows.length + 1 : Nat) : Int)) := List.getElem?_set_self (by simp; omega)
  have ne : ∀ n : Nat, n ≠ b → ((rows ++ [r]).set b (.pt a ((rows.length + 1 : Nat) : Int)))[n]? = (rows ++ [r])[n]? := fun n hn => List.getElem?_set_ne (Ne.symm hn)
  refine ⟨?_, ?_, ?_, by simp, ?_, ?_, ?_⟩
  · intro r' hm
    rcases List.mem_or_eq_of_mem_set hm with z | z
    · rcases List.mem_append.mp z with z | z
      · exact h.nm r' z
      · rw [List.mem_singleton.mp z]
        rcases hr with rfl | ⟨t, rfl, _⟩ <;> trivial
    · rw [z]; exact ha
  · intro n a' t e
    by_cases hn : n = b
    · subst hn
      rw [atb] at e
      cases e
      omega
    · rw [ne n hn] at e
      rcases get_snoc e with z | ⟨_, z⟩
      · exact h.pts n a' t z
      · rcases hr with rfl | ⟨t, rfl, _⟩ <;> cases z
  · intro o hm
    have := h.out o hm
    omega
  · intro i h0 h1
    rw [len] at h1
    by_cases hi : i = rows.length + 1
    · subst hi
      exact .inr ⟨b, a, by omega, atb⟩
    · rcases h.rch i h0 (by omega) with ⟨r', e, q⟩ | ⟨c, a', q, e⟩
      · by_cases hc : i - 1 = b
        · exact .inl ⟨_, by rw [hc]; exact atb, rfl⟩
        · exact .inl ⟨r', by rw [ne _ hc]; exact snoc_lt e, q⟩
      · by_cases hc : c = b
        · subst hc
          rw [hb] at e
          have : (0 : Int) = (i : Int) := by injection e with e; injection e
          omega
        · exact .inr ⟨c, a', q, by rw [ne _ hc]; exact snoc_lt e⟩
  · intro o hm
    right
    by_cases ho : o = b
    · subst ho
      exact ⟨_, atb, rfl, .inr ⟨a, rows.length + 1, rfl, by omega, .inr ⟨len.symm, rfl⟩⟩⟩
    · rcases h.nxt o hm with e | ⟨r', e, s, c⟩
      · exact absurd (Option.some.inj e).symm ho
      · refine ⟨r', by rw [ne _ ho]; exact snoc_lt e, s, ?_⟩
        rcases c with c | ⟨a', t, e2, lt, c⟩
        · rcases c with c | ⟨_, e2⟩
          · exact .inl (.inl c)
          · cases e2
        · rcases c with c | ⟨_, e2⟩
          · exact .inr ⟨a', t, e2, lt, .inl c⟩
          · cases e2
  · intro n t e
    by_cases hn : n = b
    · subst hn; rw [atb] at e; cases e
    · rw [ne n hn] at e
      rcases get_snoc e with z | ⟨_, z⟩
      · exact h.gos n t z
      · rcases hr with rfl | ⟨t', rfl, q⟩
        · cases z
        · cases z; exact q
/-! ### programs -/
inductive Reach (rows : List Row) : Nat → Prop
  | zero : Reach rows 0
  | step {i j : Nat} {r : Row} : Reach rows j → rows[j]? = some r → (i : Int) ∈ fol j r → Reach rows i
inductive Ends (rows : List Row) : Nat → Prop
  | en {n : Nat} : rows[n]? = some .en → Ends rows n
  | step {i j : Nat} {r : Row} : rows[j]? = some r → (i : Int) ∈ fol j r → Ends rows i → Ends rows j
structure Prg (l : List Tx) (rows : List Row) : Prop where
  nm : ∀ r ∈ rows, RowN l r
  last : ∃ q, rows = q ++ [.en]
  go : ∀ (n : Nat) (t : Int), rows[n]? = some (.go t) → 0 ≤ t ∧ t < rows.length
  pt : ∀ (n : Nat) (a : Ky) (t : Int), rows[n]? = some (.pt a t) → 0 ≤ t ∧ t < rows.length ∧ t ≠ n + 1
  rch : ∀ i, i < rows.length → Reach rows i
  ends : ∀ i, i < rows.length → Ends rows i
/-- the rows turned to where they lead -/
def turn (many n : Nat) : Row → Row
  | .go t => if t < 0 then .go ((n : Int) + 1 + (-1 - t) % ((many : Int) - n - 1)) else .go t
  | .pt a t => .pt a (if t % many = (n : Int) + 1 then n else t % many)
  | r => r
def turnAll (many : Nat) : Nat → List Row → List Row
  | _, [] => []
  | n, r :: rs => turn many n r :: turnAll many (n + 1) rs
theorem turnAll_get (many : Nat) : ∀ (rs : List Row) (n i : Nat), (turnAll many n rs)[i]? = (rs[i]?).map (turn many (n + i))
  | [], n, i => rfl
  | r :: rs, n, 0 => rfl
  | r :: rs, n, i + 1 => by
    show (turnAll many (n + 1) rs)[i]? = _
    rw [turnAll_get many rs (n + 1) i, show n + 1 + i = n + (i + 1) by omega]
    rfl
theorem turnAll_len (many : Nat) : ∀ (rs : List Row) (n : Nat), (turnAll many n rs).length = rs.length
  | [], n => rfl
  | r :: rs, n => by rw [turnAll, List.length_cons, List.length_cons, turnAll_len]
theorem turnAll_snoc (many : Nat) (r : Row) : ∀ (rs : List Row) (n : Nat), turnAll many n (rs ++ [r]) = turnAll many n rs ++ [turn many (n + rs.length) r]
  | [], n => rfl
  | x :: rs, n => by
    rw [List.cons_append, turnAll, turnAll_snoc many r rs (n + 1), turnAll, List.cons_append, List.length_cons, show n + 1 + rs.length = n + (rs.length + 1) by omega]
theorem Bld.prg {l : List Tx} {rows : List Row} {outer : List Nat} (h : Bld l rows outer none) : Prg l (turnAll (rows.length + 1) 0 (rows ++ [.en])) := by
  have len : (turnAll (rows.length + 1) 0 (rows ++ [.en])).length = rows.length + 1 := by rw [turnAll_len]; simp
  have get : ∀ (n : Nat) (r : Row), rows[n]? = some r → (turnAll (rows.length + 1) 0 (rows ++ [.en]))[n]? = some (turn (rows.length + 1) n r) := fun n r e => by
    rw [turnAll_get, snoc_lt e, Nat.zero_add]; rfl
  have getl : (turnAll (rows.length + 1) 0 (rows ++ [.en]))[rows.length]? = some .en := by
    rw [turnAll_get, snoc_eq]; rfl
  have inv : ∀ (n : Nat) (r : Row), (turnAll (rows.length + 1) 0 (rows ++ [.en]))[n]? = some r → (n = rows.length ∧ r = .en) ∨ ∃ r', rows[n]? = some r' ∧ r = turn (rows.length + 1) n r' := fun n r e => by
    rw [turnAll_get, Nat.zero_add] at e
    obtain ⟨r', e1, e2⟩ := Option.map_eq_some_iff.mp e
    rcases get_snoc e1 with z | ⟨z1, z2⟩
    · exact .inr ⟨r', z, e2.symm⟩
    · subst z2; exact .inl ⟨z1, e2.symm⟩
  have seqf : ∀ (n : Nat) (r : Row), r.seq = true → ((n + 1 : Nat) : Int) ∈ fol n (turn (rows.length + 1) n r) := fun n r hs => by
    cases r <;> first | (simp [turn, fol]; done) | cases hs
  have ptf : ∀ (n : Nat) (a : Ky) (t : Nat), n + 1 < t → t ≤ rows.length → (t : Int) ∈ fol n (turn (rows.length + 1) n (.pt a t)) := fun n a t h1 h2 => by
    have e1 : (t : Int) % ((rows.length + 1 : Nat) : Int) = t := Int.emod_eq_of_lt (by omega) (by omega)
    have e2 : ¬ (t : Int) = (n : Int) + 1 := by omega
    simp only [turn, e1, if_neg e2, fol, List.mem_cons, List.not_mem_nil, or_false]
    exact .inr trivial
  refine ⟨?_, ?_, ?_, ?_, ?_, ?_⟩
  · intro r hm
    obtain ⟨n, e⟩ := List.getElem?_of_mem hm
    rcases inv n r e with ⟨_, rfl⟩ | ⟨r', e2, rfl⟩
    · trivial
    · have q := h.nm r' (List.mem_of_getElem? e2)
      cases r' with
      | go t => simp only [turn]; split <;> trivial
      | pt a t => exact q
      | _ => exact q
  · exact ⟨turnAll (rows.length + 1) 0 rows, by rw [turnAll_snoc]; rfl⟩
  · intro n t e
    rw [len]
    rcases inv n _ e with ⟨_, z⟩ | ⟨r', e2, z⟩
    · cases z
    · have hn := (List.getElem?_eq_some_iff.mp e2).1
      cases r' with
      | go t' =>
        simp only [turn] at z
        split at z
        · injection z with z
          have h1 := Int.emod_nonneg (-1 - t') (show ((rows.length + 1 : Nat) : Int) - n - 1 ≠ 0 by omega)
          have h2 := Int.emod_lt_of_pos (-1 - t') (show 0 < ((rows.length + 1 : Nat) : Int) - n - 1 by omega)
          omega
        · injection z with z
          subst z
          rcases h.gos n _ e2 with q | ⟨o, m, q⟩
          · omega
          · have := h.out o m
            omega
      | _ => cases z
  · intro n a t e
    rw [len]
    rcases inv n _ e with ⟨_, z⟩ | ⟨r', e2, z⟩
    · cases z
    · have hn := (List.getElem?_eq_some_iff.mp e2).1
      cases r' with
      | pt a' t' =>
        simp only [turn] at z
        injection z with _ z
        have h1 := Int.emod_nonneg t' (show ((rows.length + 1 : Nat) : Int) ≠ 0 by omega)
        have h2 := Int.emod_lt_of_pos t' (show 0 < ((rows.length + 1 : Nat) : Int) by omega)
        split at z <;> omega
      | go t' => simp only [turn] at z; split at z <;> cases z
      | _ => cases z
  · intro i hi
    rw [len] at hi
    induction i using Nat.strongRecOn with
    | _ i ih =>
      by_cases h0 : i = 0
      · subst h0; exact .zero
      · rcases h.rch i (by omega) (by omega) with ⟨r, e, s⟩ | ⟨b, a, lt, e⟩
        · refine .step (ih (i - 1) (by omega) (by omega)) (get _ _ e) ?_
          have := seqf (i - 1) r s
          rw [show i - 1 + 1 = i by omega] at this
          exact this
        · exact .step (ih b (by omega) (by omega)) (get _ _ e) (ptf b a i lt (by omega))
  · -- outer rows first, from behind; then all
    have lastE : Ends (turnAll (rows.length + 1) 0 (rows ++ [.en])) rows.length := .en getl
    have outE : ∀ k o, o ∈ outer → rows.length - o ≤ k → Ends (turnAll (rows.length + 1) 0 (rows ++ [.en])) o := by
      intro k
      induction k with
      | zero => intro o hm hk; have := h.out o hm; omega
      | succ k ih =>
        intro o hm hk
        rcases h.nxt o hm with e | ⟨r, e, s, c⟩
        · cases e
        · have ho := h.out o hm
          have go : ∀ t : Nat, o < t → (t : Int) ∈ fol o (turn (rows.length + 1) o r) → t ∈ outer ∨ (t = rows.length ∧ (none : Option Nat) = none) → Ends (turnAll (rows.length + 1) 0 (rows ++ [.en])) o := fun t lt hf c => by
            rcases c with c | ⟨c, _⟩
            · exact .step (get _ _ e) hf (ih t c (by omega))
            · subst c; exact .step (get _ _ e) hf lastE
          rcases c with c | ⟨a, t, e2, lt, c⟩
          · exact go (o + 1) (by omega) (seqf o r s) c
          · refine go t (by omega) ?_ c
            rw [e2]
            refine ptf o a t lt ?_
            rcases c with c | ⟨c, _⟩
            · exact Nat.le_of_lt (h.out t c)
            · omega
    have allE : ∀ k i, i ≤ rows.length → rows.length - i ≤ k → Ends (turnAll (rows.length + 1) 0 (rows ++ [.en])) i := by
      intro k
      induction k with
      | zero => intro i hi hk; rw [show i = rows.length by omega]; exact lastE
      | succ k ih =>
        intro i hi hk
        by_cases h1 : i = rows.length
        · rw [h1]; exact lastE
        · have hlt : i < rows.length := by omega
          have e : rows[i]? = some rows[i] := List.getElem?_eq_getElem hlt
          generalize rows[i] = r at e
          by_cases hs : r.seq = true
          · exact .step (get _ _ e) (seqf i r hs) (ih (i + 1) (by omega) (by omega))
          · cases r with
            | en => exact .en (get _ _ e)
            | go t =>
              rcases h.gos i t e with q | ⟨o, m, q⟩
              · have h1 := Int.emod_nonneg (-1 - t) (show ((rows.length + 1 : Nat) : Int) - i - 1 ≠ 0 by omega)
                have h2 := Int.emod_lt_of_pos (-1 - t) (show 0 < ((rows.length + 1 : Nat) : Int) - i - 1 by omega)
                obtain ⟨m, hm⟩ : ∃ m : Nat, (i : Int) + 1 + (-1 - t) % (((rows.length + 1 : Nat) : Int) - i - 1) = m := ⟨((i : Int) + 1 + (-1 - t) % (((rows.length + 1 : Nat) : Int) - i - 1)).toNat, by omega⟩
                refine .step (i := m) (get _ _ e) ?_ (ih m (by omega) (by omega))
                simp only [turn, if_pos q, fol, List.mem_singleton]
                exact hm.symm
              · subst q
                refine .step (i := o) (get _ _ e) ?_ (outE _ o m (Nat.le_refl _))
                have : ¬ ((o : Int) < 0) := by omega
                simp only [turn, if_neg this, fol, List.mem_singleton]
            | _ => exact absurd rfl hs
    intro i hi
    rw [len] at hi
    exact allE _ i (by omega) (Nat.le_refl _)
/-- a row further down by one -/
def shift : Row → Row
  | .go t => .go (t + 1)
  | .pt a t => .pt a (t + 1)
  | r => r
theorem fol_shift {n i : Nat} {r : Row} (h : (i : Int) ∈ fol n r) : ((i + 1 : Nat) : Int) ∈ fol (n + 1) (shift r) := by
  cases r <;> simp [fol, shift] at h ⊢ <;> omega
def tst (nm : Tx) (q : List Row) : List Row := .go (q.length + 1) :: (q.map shift ++ [.pt (.inr nm) 1, .en])
theorem Prg.tested {l : List Tx} {q : List Row} (h : Prg l (q ++ [.en])) {nm : Tx} (hn : nm ∈ l) : Prg l (tst nm q) := by
  have len : (tst nm q).length = q.length + 3 := by simp [tst]
  have g0 : (tst nm q)[0]? = some (.go (q.length + 1)) := rfl
  have gs : ∀ (n : Nat) (r : Row), q[n]? = some r → (tst nm q)[n + 1]? = some (shift r) := fun n r e => by
    have hn := (List.getElem?_eq_some_iff.mp e).1
    show (q.map shift ++ [.pt (.inr nm) 1, .en])[n]? = _
    rw [List.getElem?_append_left (by simpa using hn), List.getElem?_map, e]; rfl
  have gp : (tst nm q)[q.length + 1]? = some (.pt (.inr nm) 1) := by
    show (q.map shift ++ [.pt (.inr nm) 1, .en])[q.length]? = _
    rw [List.getElem?_append_right (by simp), List.length_map, Nat.sub_self]; rfl
  have ge : (tst nm q)[q.length + 2]? = some .en := by
    show (q.map shift ++ [.pt (.inr nm) 1, .en])[q.length + 1]? = _
    rw [List.getElem?_append_right (by simp), List.length_map, show q.length + 1 - q.length = 1 by omega]; rfl
  have inv : ∀ (n : Nat) (r : Row), (tst nm q)[n]? = some r → (n = 0 ∧ r = .go (q.length + 1)) ∨ (∃ k r', n = k + 1 ∧ q[k]? = some r' ∧ r = shift r') ∨ (n = q.length + 1 ∧ r = .pt (.inr nm) 1) ∨ (n = q.length + 2 ∧ r = .en) := fun n r e => by
    have hn := (List.getElem?_eq_some_iff.mp e).1
    rw [len] at hn
    cases n with
    | zero => exact .inl ⟨rfl, (Option.some.inj e).symm⟩
    | succ k =>
      right
      by_cases h1 : k < q.length
      · have e1 := List.getElem?_eq_getElem h1
        have := gs k _ e1
        rw [e] at this
        exact .inl ⟨k, _, rfl, e1, Option.some.inj this⟩
      · by_cases h2 : k = q.length
        · subst h2; rw [gp] at e; exact .inr (.inl ⟨rfl, (Option.some.inj e).symm⟩)
        · obtain rfl : k = q.length + 1 := by omega
          rw [ge] at e; exact .inr (.inr ⟨rfl, (Option.some.inj e).symm⟩)
  have enE : Ends (tst nm q) (q.length + 2) := .en ge
  have ptE : Ends (tst nm q) (q.length + 1) := .step (i := q.length + 2) gp (by simp only [fol, List.mem_cons]; exact .inl (by omega)) enE
  have ptR : Reach (tst nm q) (q.length + 1) := .step .zero g0 (by simp [fol])
  have upR : ∀ i, Reach (q ++ [.en]) i → Reach (tst nm q) (i + 1) := fun i hr => by
    induction hr with
    | zero => exact .step ptR gp (by simp [fol])
    | step _ e f ih =>
      rcases get_snoc e with z | ⟨_, z⟩
      · exact .step ih (gs _ _ z) (fol_shift f)
      · subst z; cases f
  have upE : ∀ i, Ends (q ++ [.en]) i → Ends (tst nm q) (i + 1) := fun i hr => by
    induction hr with
    | en e =>
      rcases get_snoc e with z | ⟨z, _⟩
      · exact .en (gs _ _ z)
      · subst z; exact ptE
    | step e f _ ih =>
      rcases get_snoc e with z | ⟨_, z⟩
      · exact .step (gs _ _ z) (fol_shift f) ih
      · subst z; cases f
  have l1 : (q ++ [Row.en]).length = q.length + 1 := by simp
  refine ⟨?_, ⟨.go (q.length + 1) :: (q.map shift ++ [.pt (.inr nm) 1]), by simp [tst]⟩, ?_, ?_, ?_, ?_⟩
  · intro r hm
    obtain ⟨n, e⟩ := List.getElem?_of_mem hm
    rcases inv n r e with ⟨_, rfl⟩ | ⟨k, r', _, e2, rfl⟩ | ⟨_, rfl⟩ | ⟨_, rfl⟩
    · trivial
    · have := h.nm r' (List.mem_append_left _ (List.mem_of_getElem? e2))
      cases r' <;> exact this
    · exact .inl ⟨nm, hn, rfl⟩
    · trivial
  · intro n t e
    rw [len]
    rcases inv n _ e with ⟨_, z⟩ | ⟨k, r', _, e2, z⟩ | ⟨_, z⟩ | ⟨_, z⟩
    · injection z with z; omega
    · cases r' with
      | go t' =>
        have := h.go k t' (snoc_lt e2)
        simp only [shift] at z
        injection z with z
        omega
      | _ => cases z
    · cases z
    · cases z
  · intro n a t e
    rw [len]
    rcases inv n _ e with ⟨_, z⟩ | ⟨k, r', hk, e2, z⟩ | ⟨hk, z⟩ | ⟨_, z⟩
    · cases z
    · cases r' with
      | pt a' t' =>
        have := h.pt k a' t' (snoc_lt e2)
        simp only [shift] at z
        injection z with _ z
        omega
      | _ => cases z
    · injection z with _ z; omega
    · cases z
  · intro i hi
    rw [len] at hi
    cases i with
    | zero => exact .zero
    | succ k =>
      by_cases h2 : k = q.length + 1
      · subst h2
        exact .step ptR gp (by simp only [fol, List.mem_cons]; exact .inl (by omega))
      · exact upR k (h.rch k (by omega))
  · intro i hi
    rw [len] at hi
    cases i with
    | zero => exact .step (i := q.length + 1) g0 (by simp [fol]) ptE
    | succ k =>
      by_cases h2 : k = q.length + 1
      · subst h2; exact enE
      · exact upE k (h.ends k (by omega))
theorem Prg.pos {l : List Tx} {rows : List Row} (h : Prg l rows) : 0 < rows.length := by
  obtain ⟨q, rfl⟩ := h.last
  simp
/-! ### data of rows -/
theorem d_rk (n s : Tx) (a b : Ky) : (Row.rk n s a b).d = .tup [.str w_rk, .str n, .str s, kyD a, kyD b] := rfl
theorem d_cp (n : Tx) (a : Ky) : (Row.cp n a).d = .tup [.str w_cp, .str n, kyD a] := rfl
theorem d_sy (a : Ky) : (Row.sy a).d = .tup [.str w_sy, kyD a] := rfl
theorem d_go (t : Int) : (Row.go t).d = .tup [.str w_go, .int t] := rfl
theorem d_pt (a : Ky) (t : Int) : (Row.pt a t).d = .tup [.str w_pt, kyD a, .int t] := rfl
theorem d_en : Row.en.d = .tup [.str w_en] := rfl
theorem prs_get : ∀ (l : List D) (k i : Nat), (prs k l)[i]? = (l[i]?).map fun d => .tup [.int ((k + i : Nat) : Int), d]
  | [], k, i => rfl
  | d :: l, k, 0 => rfl
  | d :: l, k, i + 1 => by
    show (prs (k + 1) l)[i]? = _
    rw [prs_get l (k + 1) i, show k + 1 + i = k + (i + 1) by omega]
    rfl
theorem prs_len : ∀ (l : List D) (k : Nat), (prs k l).length = l.length
  | [], k => rfl
  | d :: l, k => by rw [prs, List.length_cons, List.length_cons, prs_len]
@[simp] theorem cut_m2 {α : Type} (a b : α) : cut [a, b] none (some (-1)) = [a] := rfl
@[simp] theorem cut_m3 {α : Type} (a b c : α) : cut [a, b, c] none (some (-1)) = [a, b] := rfl
theorem cut_last {α : Type} (l : List α) (a : α) : cut (l ++ [a]) none (some (-1)) = l := by
  have e : sIx (l ++ [a]).length (l ++ [a]).length (some (-1)) = l.length := by
    unfold sIx
    dsimp only
    rw [if_pos (by decide), List.length_append, List.length_singleton]
    omega
  unfold cut
  rw [e]
  simp [sIx]
@[simp] theorem at_m2 {α : Type} (a b : α) : atI [a, b] (-1) = some b := rfl
@[simp] theorem at_m3 {α : Type} (a b c : α) : atI [a, b, c] (-1) = some c := rfl
/-- lists of single data against one another -/
theorem shp_ks {l : List Ky} (h : l.all kOk = true) : shp (.list (l.map kp)) = true := by
  unfold shp PySem.SeqAt.shaped
  simp [PySem.PyData.canLay0, PySem.PyData.depth, lay_ks h, dep_ks]
theorem eq_lks {m n : Nat} {A B : List Ky} {S : Store} (ha : lstOf S m = some (A.map kyD)) (hb : lstOf S n = some (B.map kyD)) (hA : A.all kOk = true) (hB : B.all kOk = true) : pyEq (.ref m) (.ref n) S = some (decide (A = B)) := by
  have look : ∀ {n A}, lstOf S n = some (List.map kyD A) → lookP 8 S n = some (.list (A.map kp)) := fun {n A} h => by
    unfold lookP
    unfold lstOf at h
    cases hn : S[n]? with
    | none => rw [hn] at h; cases h
    | some o =>
      rw [hn] at h
      cases o with
      | lst l => dsimp only at h ⊢; obtain rfl := Option.some.inj h; rw [toPs_k]; rfl
      | fls l => dsimp only at h ⊢; obtain rfl := Option.some.inj h; rw [toPs_k]; rfl
      | _ => cases h
  unfold pyEq
  have e : scq (.ref m) (.ref n) = none := rfl
  rw [e]
  simp only [pd, toP, look ha, look hb, shp_ks hA, shp_ks hB, and_self, if_true]
  unfold PySem.PyData.eqv
  rw [eqv_ks]
theorem eq_ints {m n : Nat} {A B : List Int} {S : Store} (ha : lstOf S m = some (A.map D.int)) (hb : lstOf S n = some (B.map D.int)) : pyEq (.ref m) (.ref n) S = some (decide (A = B)) := by
  have e : ∀ A : List Int, A.map D.int = (A.map Sum.inl).map kyD := fun A => by rw [List.map_map]; rfl
  have o : ∀ A : List Int, (A.map (Sum.inl : Int → Ky)).all kOk = true := fun A => by rw [List.all_map]; simp [kOk]
  rw [e] at ha hb
  rw [eq_lks ha hb (o A) (o B)]
  congr 1
  rw [decide_eq_decide]
  exact List.map_inj_right fun x y h => by injection h
/-! ### truths in lists -/
theorem toPs_b (rd : Nat → Option PySem.PyData) (l : List Bool) : toPs rd (l.map .bl) = some (l.map .bool) := by
  induction l with
  | nil => rfl
  | cons k r ih => rw [List.map_cons, toPs, toP, Option.bind_some, ih]; rfl
theorem eqv_bs (a b : List Bool) : PySem.PyData.eqvAll (a.map .bool) (b.map .bool) = decide (a = b) := by
  induction a generalizing b with
  | nil => cases b <;> simp [PySem.PyData.eqvAll]
  | cons x r ih =>
    cases b with
    | nil => simp [PySem.PyData.eqvAll]
    | cons y q =>
      have : (x == y) = decide (x = y) := by cases x <;> cases y <;> rfl
      simp [PySem.PyData.eqvAll, PySem.PyData.eqv, this, ih]
theorem shp_bs (l : List Bool) : shp (.list (l.map .bool)) = true := by
  have h1 : PySem.PyData.canLayAll0 (l.map .bool) = true := by
    induction l with
    | nil => simp [PySem.PyData.canLayAll0]
    | cons k r ih => simp [PySem.PyData.canLayAll0, PySem.PyData.canLay0, ih]
  have h2 : PySem.PyData.depthAll (l.map .bool) = 0 := by
    induction l with
    | nil => simp [PySem.PyData.depthAll]
    | cons k r ih =>
      simp only [List.map_cons, PySem.PyData.canLayAll0, PySem.PyData.canLay0, Bool.true_and] at h1
      simp [PySem.PyData.depthAll, PySem.PyData.depth, ih h1]
  unfold shp PySem.SeqAt.shaped
  simp [PySem.PyData.canLay0, PySem.PyData.depth, h1, h2]
theorem eq_bls {m n : Nat} {A B : List Bool} {S : Store} (ha : lstOf S m = some (A.map D.bl)) (hb : lstOf S n = some (B.map D.bl)) : pyEq (.ref m) (.ref n) S = some (decide (A = B)) := by
  have look : ∀ {n A}, lstOf S n = some (List.map D.bl A) → lookP 8 S n = some (.list (A.map .bool)) := fun {n A} h => by
    unfold lookP
    unfold lstOf at h
    cases hn : S[n]? with
    | none => rw [hn] at h; cases h
    | some o =>
      rw [hn] at h
      cases o with
      | lst l => dsimp only at h ⊢; obtain rfl := Option.some.inj h; rw [toPs_b]; rfl
      | fls l => dsimp only at h ⊢; obtain rfl := Option.some.inj h; rw [toPs_b]; rfl
      | _ => cases h
  unfold pyEq
  have e : scq (.ref m) (.ref n) = none := rfl
  rw [e]
  simp only [pd, toP, look ha, look hb, shp_bs, and_self, if_true]
  unfold PySem.PyData.eqv
  rw [eqv_bs]
theorem in_ints (n : Int) (l : List Int) (S : Store) : inSeq (.int n) (l.map .int) S = some (dec (n ∈ l)) := by
  have q := in_ks (.inl n) (l.map .inl) S
  rw [List.map_map] at q
  have e : dec ((Sum.inl n : Ky) ∈ l.map Sum.inl) = dec (n ∈ l) := by
    congr 1
    simp
  rw [e] at q
  exact q
/-! ### ways -/
/-- number j of a list: a row's, and one that the number ahead leads to -/
def At (rows : List Row) (w : List Int) (j : Nat) : Prop := ∃ n, w[j]? = some n ∧ 0 ≤ n ∧ n < rows.length ∧ (0 < j → ∃ (a : Int) (r : Row), w[j - 1]? = some a ∧ rows[a.toNat]? = some r ∧ n ∈ fol a.toNat r)
def IsWay (rows : List Row) (w : List Int) : Prop := w ≠ [] ∧ ∀ j, j < w.length → At rows w j
def IsEnd (rows : List Row) (w : List Int) : Prop := w[0]? = some 0 ∧ ∃ n : Int, w[w.length - 1]? = some n ∧ rows[n.toNat]? = some .en
theorem Prg.fol_in {l : List Tx} {rows : List Row} (h : Prg l rows) {n : Nat} {r : Row} {m : Int} (e : rows[n]? = some r) (f : m ∈ fol n r) : 0 ≤ m ∧ m < rows.length := by
  have hn := (List.getElem?_eq_some_iff.mp e).1
  have nx : r ≠ .en → n + 1 < rows.length := fun ne => by
    obtain ⟨q, rfl⟩ := h.last
    rcases get_snoc e with z | ⟨_, z⟩
    · have := (List.getElem?_eq_some_iff.mp z).1
      rw [List.length_append, List.length_singleton]; omega
    · exact absurd z ne
  cases r with
  | go t => have := h.go n t e; simp only [fol, List.mem_singleton] at f; omega
  | pt a t =>
    have := h.pt n a t e
    have := nx (by simp)
    simp only [fol, List.mem_cons, List.not_mem_nil, or_false] at f
    rcases f with f | f <;> omega
  | en => cases f
  | rk _ _ _ _ => have := nx (by simp); simp only [fol, List.mem_singleton] at f; omega
  | cp _ _ => have := nx (by simp); simp only [fol, List.mem_singleton] at f; omega
  | sy _ => have := nx (by simp); simp only [fol, List.mem_singleton] at f; omega
theorem IsWay.snoc {l : List Tx} {rows : List Row} {w : List Int} (h : IsWay rows w) (p : Prg l rows) {a m : Int} {r : Row} (ha : w[w.length - 1]? = some a) (hr : rows[a.toNat]? = some r) (f : m ∈ fol a.toNat r) : IsWay rows (w ++ [m]) := by
  have hp : 0 < w.length := List.length_pos_iff.mpr h.1
  refine ⟨by simp, fun j hj => ?_⟩
  rw [List.length_append, List.length_singleton] at hj
  have old : ∀ i, i < w.length → (w ++ [m])[i]? = w[i]? := fun i hi => List.getElem?_append_left hi
  by_cases h1 : j < w.length
  · obtain ⟨n, e, a0, a1, q⟩ := h.2 j h1
    refine ⟨n, by rw [old j h1, e], a0, a1, fun h0 => ?_⟩
    obtain ⟨a, r, z, q⟩ := q h0
    exact ⟨a, r, by rw [old _ (by omega), z], q⟩
  · obtain rfl : j = w.length := by omega
    have := p.fol_in hr f
    exact ⟨m, snoc_eq _ _, this.1, this.2, fun _ => ⟨a, r, by rw [old _ (by omega), ha], hr, f⟩⟩
theorem IsWay.one {rows : List Row} {n : Int} (h : 0 ≤ n ∧ n < rows.length) : IsWay rows [n] := by
  refine ⟨by simp, fun j hj => ?_⟩
  have : j = 0 := by simpa using hj
  subst this
  exact ⟨n, rfl, h.1, h.2, fun z => absurd z (by decide)⟩
theorem at_m1 {α : Type} {l : List α} (h : l ≠ []) : atI l (-1) = l[l.length - 1]? := by
  have hp : 0 < l.length := List.length_pos_iff.mpr h
  unfold atI ixN
  rw [if_neg (by decide), if_pos (by omega), Option.bind_some]
  congr 1
  omega
end Mi

set_option Elab.async false
set_option linter.all false
/-! rows come to from one, each by the first that led to it -/
namespace Mi
/-! ### dict displays by simp -/
@[simp] theorem mDis_one (a b : EM) (fr : Fr) (S : Store) : mDis [(a, b)] fr S = (a fr (S ++ [.dK []])).bind fun x S1 => (b fr S1).bind fun y S2 => disK S.length S2 (kvsM [(x, y)]) S2[S.length]? := by
  show ((a fr (S ++ [.dK []])).bind fun x S1 => (b fr S1).bind fun y S2 => (mPairs [] fr S2).bind fun ps S3 => .ok ((x, y) :: ps) S3).bind _ = _
  rw [Res.bind_assoc]
  congr 1; funext x S1
  rw [Res.bind_assoc]
  congr 1
theorem dis_one (n : Nat) (S : Store) (k : Ky) (v : D) (h : S[n]? = some (.dK [])) : disK n S (kvsM [(kyD k, v)]) S[n]? = .ok (.ref n) (S.set n (.dK [(k, v)])) := by
  rw [h]
  unfold kvsM
  rw [kyOf_kyD]
  rfl
/-! ### what a dict of numbers holds -/
def oD : Option Int → D
  | none => .non
  | some a => .int a
abbrev CM := List (Int × Option Int)
def cmD (cm : CM) : O := .dK (cm.map fun p => (.inl p.1, oD p.2))
theorem cm_get (cm : CM) (x : Int) : dGet (cm.map fun p => ((Sum.inl p.1 : Ky), oD p.2)) (.inl x) = (dGet cm x).map oD := by
  unfold dGet
  induction cm with
  | nil => rfl
  | cons p r ih =>
    by_cases h : p.1 = x
    · subst h; simp
    · have h2 : ¬ ((Sum.inl p.1 : Ky) = Sum.inl x) := fun z => h (Sum.inl.inj z)
      simp [List.find?_cons, h]
      simpa using ih
theorem cm_put (cm : CM) (x : Int) (v : Option Int) (h : dGet cm x = none) : dPut (cm.map fun p => ((Sum.inl p.1 : Ky), oD p.2)) (.inl x) (oD v) = (cm ++ [(x, v)]).map fun p => ((Sum.inl p.1 : Ky), oD p.2) := by
  unfold dPut
  rw [if_neg]
  · simp
  · unfold dGet at h
    simp only [Option.map_eq_none_iff, List.find?_eq_none, decide_eq_true_eq] at h
    simp only [List.any_map, List.any_eq_true, Function.comp, decide_eq_true_eq, not_exists, not_and]
    intro p hp z
    exact h p hp (Sum.inl.inj z)
theorem dGet_some {cm : CM} {x : Int} : (dGet cm x).isSome = true ↔ x ∈ cm.map Prod.fst := by
  unfold dGet
  rw [Option.isSome_map, List.find?_isSome]
  simp
theorem dGet_app {cm : CM} {x m : Int} {v : Option Int} (h : x ∈ cm.map Prod.fst) : dGet (cm ++ [(m, v)]) x = dGet cm x := by
  have := dGet_some.mpr h
  unfold dGet at this ⊢
  rw [List.find?_append]
  rw [Option.isSome_map] at this
  obtain ⟨p, hp⟩ := Option.isSome_iff_exists.mp this
  rw [hp]; rfl
theorem dGet_new {cm : CM} {m : Int} {v : Option Int} (h : m ∉ cm.map Prod.fst) : dGet (cm ++ [(m, v)]) m = some v := by
  unfold dGet
  rw [List.find?_append]
  have : cm.find? (fun kv => decide (kv.1 = m)) = none := by
    rw [List.find?_eq_none]
    intro p hp
    simp only [decide_eq_true_eq]
    intro z
    exact h (List.mem_map.mpr ⟨p, hp, z⟩)
  rw [this]
  simp
/-! ### trees -/
inductive Tree (rows : List Row) (st : Int) : CM → Prop
  | base : 0 ≤ st → st < rows.length → Tree rows st [(st, none)]
  | snoc {cm : CM} {h m : Int} {r : Row} : Tree rows st cm → h ∈ cm.map Prod.fst → m ∉ cm.map Prod.fst → rows[h.toNat]? = some r → m ∈ fol h.toNat r → Tree rows st (cm ++ [(m, some h)])
def Up (cm : CM) : List Int → Prop
  | [] => False
  | [x] => dGet cm x = some none
  | x :: y :: r => dGet cm x = some (some y) ∧ Up cm (y :: r)
theorem Up.keys {cm : CM} : ∀ {w : List Int}, Up cm w → ∀ x ∈ w, x ∈ cm.map Prod.fst
  | [], h, _, _ => h.elim
  | [x], h, y, hy => by
    rw [List.mem_singleton.mp hy]
    exact dGet_some.mp (by rw [show dGet cm x = some none from h]; rfl)
  | x :: y :: r, h, z, hz => by
    rcases List.mem_cons.mp hz with e | e
    · rw [e]; exact dGet_some.mp (by rw [h.1]; rfl)
    · exact Up.keys h.2 z e
theorem Up.mono {cm : CM} {m : Int} {v : Option Int} : ∀ {w : List Int}, Up cm w → Up (cm ++ [(m, v)]) w
  | [], h => h
  | [x], h => by
    show dGet _ x = _
    rw [dGet_app (Up.keys (w := [x]) h x (by simp))]; exact h
  | x :: y :: r, h => ⟨by rw [dGet_app (Up.keys h x (by simp))]; exact h.1, Up.mono h.2⟩
theorem Tree.inr {l : List Tx} {rows : List Row} {st : Int} {cm : CM} (t : Tree rows st cm) (pg : Prg l rows) : ∀ x ∈ cm.map Prod.fst, (0 : Int) ≤ x ∧ x < (rows.length : Int) := by
  induction t with
  | base h0 h1 => intro x hx; rw [List.mem_singleton.mp hx]; exact ⟨h0, h1⟩
  | snoc _ _ _ hr hf ih =>
    intro x hx
    rw [List.map_append] at hx
    rcases List.mem_append.mp hx with z | z
    · exact ih x z
    · rw [List.mem_singleton.mp z]; exact pg.fol_in hr hf
theorem Tree.nodup {rows : List Row} {st : Int} {cm : CM} (t : Tree rows st cm) : (cm.map Prod.fst).Nodup := by
  induction t with
  | base => simp
  | @snoc cm h m r _ _ hm _ _ ih =>
    rw [List.map_append, List.nodup_append]
    refine ⟨ih, by simp, ?_⟩
    intro a ha b hb
    rw [List.mem_singleton.mp hb]
    intro z
    have z : a = m := z
    exact hm (z ▸ ha)
theorem nodup_range : ∀ (n : Nat) (l : List Int), l.Nodup → (∀ x ∈ l, 0 ≤ x ∧ x < n) → l.length ≤ n := by
  intro n
  induction n with
  | zero =>
    intro l _ h
    cases l with
    | nil => simp
    | cons x r => have := h x (by simp); omega
  | succ n ih =>
    intro l nd h
    by_cases hn : (n : Int) ∈ l
    · have h2 := ih (l.erase n) (nd.erase _) (fun x hx => by
        have h3 := h x (List.mem_of_mem_erase hx)
        have h4 : x ≠ n := fun z => by
          subst z
          exact (List.Nodup.not_mem_erase nd) hx
        omega)
      have := List.length_erase_of_mem hn
      have : 0 < l.length := List.length_pos_of_mem hn
      omega
    · have h2 := ih l nd (fun x hx => by
        have h3 := h x hx
        have h4 : x ≠ n := fun z => hn (z ▸ hx)
        omega)
      omega
theorem Tree.len {l : List Tx} {rows : List Row} {st : Int} {cm : CM} (t : Tree rows st cm) (pg : Prg l rows) : cm.length ≤ rows.length := by
  have := nodup_range rows.length _ t.nodup (t.inr pg)
  rwa [List.length_map] at this
/-- the way that a tree tells -/
theorem Tree.way {l : List Tx} {rows : List Row} {st : Int} {cm : CM} (t : Tree rows st cm) (pg : Prg l rows) : ∀ n ∈ cm.map Prod.fst, ∃ w, IsWay rows w ∧ w[0]? = some st ∧ w[w.length - 1]? = some n ∧ w.length ≤ cm.length ∧ Up cm w.reverse := by
  induction t with
  | base h0 h1 =>
    intro n hn
    rw [List.mem_singleton.mp hn]
    refine ⟨[st], IsWay.one ⟨h0, h1⟩, rfl, rfl, Nat.le_refl _, ?_⟩
    show dGet [(st, none)] st = some none
    simp [dGet]
  | @snoc cm h m r t hh hm hr hf ih =>
    intro n hn
    rw [List.map_append] at hn
    rcases List.mem_append.mp hn with z | z
    · obtain ⟨w, a, b, c, d, u⟩ := ih n z
      exact ⟨w, a, b, c, by rw [List.length_append, List.length_singleton]; omega, u.mono⟩
    · rw [List.mem_singleton.mp z]
      obtain ⟨w, a, b, c, d, u⟩ := ih h hh
      have hp : 0 < w.length := List.length_pos_iff.mpr a.1
      refine ⟨w ++ [m], a.snoc pg c hr hf, by rw [List.getElem?_append_left hp]; exact b, by simp, by simp; omega, ?_⟩
      rw [List.reverse_append, List.reverse_singleton]
      have hd : w.reverse[0]? = some h := by
        rw [List.getElem?_reverse hp]; exact c
      have um := u.mono (m := m) (v := some h)
      cases hw : w.reverse with
      | nil => rw [hw] at hd; cases hd
      | cons y q =>
        rw [hw] at hd um
        obtain rfl := Option.some.inj hd
        exact ⟨dGet_new hm, um⟩
/-- what is done, what waits -/
structure Bfs (rows : List Row) (st : Int) (cm : CM) (done wt : List Int) : Prop where
  tree : Tree rows st cm
  ks : cm.map Prod.fst = done ++ wt
  cl : ∀ h ∈ done, ∀ r m, rows[h.toNat]? = some r → m ∈ fol h.toNat r → m ∈ cm.map Prod.fst
theorem Tree.st_in {rows : List Row} {st : Int} {cm : CM} (t : Tree rows st cm) : st ∈ cm.map Prod.fst := by
  induction t with
  | base => simp
  | snoc _ _ _ _ _ ih => rw [List.map_append]; exact List.mem_append_left _ ih
/-- nothing waits: all that is reached from a key is a key -/
theorem Bfs.shut_reach {rows : List Row} {cm : CM} {done : List Int} (b : Bfs rows 0 cm done []) {n : Nat} (h : Reach rows n) : (n : Int) ∈ cm.map Prod.fst := by
  have kd := b.ks
  rw [List.append_nil] at kd
  induction h with
  | zero => exact b.tree.st_in
  | @step i j r _ hr hf ih =>
    rw [kd] at ih
    exact b.cl _ ih r _ (by simpa using hr) (by simpa using hf)
theorem Bfs.shut_ends {rows : List Row} {st : Int} {cm : CM} {done : List Int} (b : Bfs rows st cm done []) (ne : ∀ h ∈ done, rows[h.toNat]? ≠ some .en) {n : Nat} (h : Ends rows n) : (n : Int) ∉ cm.map Prod.fst := by
  have kd := b.ks
  rw [List.append_nil] at kd
  induction h with
  | en e => intro z; rw [kd] at z; exact ne _ z (by simpa using e)
  | @step i j r hr hf _ ih =>
    intro z
    rw [kd] at z
    exact ih (b.cl _ z r _ (by simpa using hr) (by simpa using hf))
@[simp] theorem oD_n : oD none = .non := rfl
@[simp] theorem oD_s (a : Int) : oD (some a) = .int a := rfl
theorem cm_put' {cm : CM} {x v : Int} (h : x ∉ cm.map Prod.fst) : dPut (cm.map fun p => ((Sum.inl p.1 : Ky), oD p.2)) (.inl x) (.int v) = (cm ++ [(x, some v)]).map fun p => ((Sum.inl p.1 : Ky), oD p.2) := by
  have : dGet cm x = none := by
    cases e : dGet cm x with
    | none => rfl
    | some y => exact absurd (dGet_some.mp (by rw [e]; rfl)) h
  exact cm_put cm x (some v) this
theorem cm_none {cm : CM} {x : Int} (h : x ∉ cm.map Prod.fst) : dGet cm x = none := by
  cases e : dGet cm x with
  | none => rfl
  | some y => exact absurd (dGet_some.mp (by rw [e]; rfl)) h
end Mi

set_option Elab.async false
set_option linter.all false
/-! what a check of a program finds -/
namespace Mi
abbrev LTS : Tx := [97, 98, 99, 100, 101, 102, 103, 104, 105, 106, 107, 108, 109, 110, 111, 112, 113, 114, 115, 116, 117, 118, 119, 120, 121, 122]
abbrev FG : Tx := [48, 49, 50, 51, 52, 53, 54, 55, 56, 57]
theorem sg_or {c : Nat} (h : c ∈ SG) : c ∈ LTS ∨ c ∈ FG := by
  have : ∀ c ∈ SG, c ∈ LTS ∨ c ∈ FG := by decide
  exact this c h
theorem lt_of {c : Nat} (h : 97 ≤ c ∧ c ≤ 122) : c ∈ LTS := by
  have : ∀ k : Nat, k < 26 → 97 + k ∈ LTS := by decide
  have q := this (c - 97) (by omega)
  rwa [show 97 + (c - 97) = c by omega] at q
theorem snoc_or {α : Type} (l : List α) : l = [] ∨ ∃ q a, l = q ++ [a] := by
  induction l with
  | nil => exact .inl rfl
  | cons x r ih =>
    right
    rcases ih with h | ⟨q, a, h⟩
    · exact ⟨[], x, by rw [h]; rfl⟩
    · exact ⟨x :: q, a, by rw [h]; rfl⟩
/-! ### dicts that keep what was found -/
def bmD (ks : List Int) : O := .dK (ks.map fun x => ((Sum.inl x : Ky), D.bl true))
theorem bm_get (ks : List Int) (x : Int) : (dGet (ks.map fun x => ((Sum.inl x : Ky), D.bl true)) (.inl x)).isSome = dec (x ∈ ks) := by
  by_cases h : x ∈ ks
  · rw [dec_true h]
    unfold dGet
    rw [Option.isSome_map, List.find?_isSome]
    exact ⟨(.inl x, .bl true), List.mem_map.mpr ⟨x, h, rfl⟩, by simp⟩
  · rw [dec_false h]
    unfold dGet
    have : (ks.map fun x => ((Sum.inl x : Ky), D.bl true)).find? (fun kv => decide (kv.1 = .inl x)) = none := by
      rw [List.find?_eq_none]
      intro p hp
      obtain ⟨y, hy, rfl⟩ := List.mem_map.mp hp
      simp only [decide_eq_true_eq]
      intro z
      exact h (Sum.inl.inj z ▸ hy)
    rw [this]; rfl
theorem bm_put {ks : List Int} {x : Int} (h : x ∉ ks) : dPut (ks.map fun x => ((Sum.inl x : Ky), D.bl true)) (.inl x) (.bl true) = (ks ++ [x]).map fun x => ((Sum.inl x : Ky), D.bl true) := by
  unfold dPut
  rw [if_neg]
  · simp
  · simp only [List.any_map, List.any_eq_true, Function.comp, decide_eq_true_eq, not_exists, not_and]
    intro p hp z
    exact h (Sum.inl.inj z ▸ hp)
structure Ks (rows : List Row) (ks : List Int) : Prop where
  nd : ks.Nodup
  rg : ∀ x ∈ ks, (0 : Int) ≤ x ∧ x < (rows.length : Int)
theorem Ks.len {rows : List Row} {ks : List Int} (h : Ks rows ks) : ks.length ≤ rows.length := nodup_range _ _ h.nd h.rg
theorem Ks.snoc {rows : List Row} {ks : List Int} (h : Ks rows ks) {x : Int} (hx : x ∉ ks) (hr : 0 ≤ x ∧ x < (rows.length : Int)) : Ks rows (ks ++ [x]) := by
  refine ⟨?_, ?_⟩
  · rw [List.nodup_append]
    refine ⟨h.nd, by simp, ?_⟩
    intro a ha b hb
    rw [List.mem_singleton.mp hb]
    intro z
    exact hx (z ▸ ha)
  · intro y hy
    rcases List.mem_append.mp hy with z | z
    · exact h.rg y z
    · rw [List.mem_singleton.mp z]; exact hr
structure Dfs (rows : List Row) (ks wt : List Int) : Prop extends Ks rows ks where
  zero : (0 : Int) ∈ ks
  sub : ∀ x ∈ wt, x ∈ ks
  cl : ∀ h ∈ ks, h ∈ wt ∨ ∀ r m, rows[h.toNat]? = some r → m ∈ fol h.toNat r → m ∈ ks
theorem Dfs.all {rows : List Row} {ks : List Int} (h : Dfs rows ks []) {n : Nat} (r : Reach rows n) : (n : Int) ∈ ks := by
  induction r with
  | zero => exact h.zero
  | @step i j r _ hr hf ih =>
    rcases h.cl _ ih with z | z
    · cases z
    · exact z r _ (by simpa using hr) (by simpa using hf)
/-- nothing more leads to an end -/
def Closed (rows : List Row) (ks : List Int) : Prop := ∀ (n : Nat) (r : Row), rows[n]? = some r → (n : Int) ∈ ks ∨ (r ≠ .en ∧ ∀ m ∈ fol n r, m ∉ ks)
theorem Closed.all {rows : List Row} {ks : List Int} (h : Closed rows ks) {n : Nat} (e : Ends rows n) : (n : Int) ∈ ks := by
  induction e with
  | @en n hr =>
    rcases h n _ hr with z | z
    · exact z
    · exact absurd rfl z.1
  | @step i j r hr hf _ ih =>
    rcases h j r hr with z | z
    · exact z
    · exact absurd ih (z.2 _ hf)
end Mi

set_option Elab.async false
set_option linter.all false
/-! k10's own operators by simp -/
namespace Mi
@[simp] theorem oEqX_s (a : Tx) (y : D) (S : Store) : oEqX (.str a) y S = oEq (.str a) y S := (rfl)
@[simp] theorem oEqX_i (a : Int) (y : D) (S : Store) : oEqX (.int a) y S = oEq (.int a) y S := (rfl)
@[simp] theorem oEqX_n (y : D) (S : Store) : oEqX .non y S = oEq .non y S := (rfl)
@[simp] theorem oEqX_b (a : Bool) (y : D) (S : Store) : oEqX (.bl a) y S = oEq (.bl a) y S := (rfl)
@[simp] theorem oEqX_t (a : List D) (y : D) (S : Store) : oEqX (.tup a) y S = oEq (.tup a) y S := (rfl)
def slA3 (x : D) (l : Option Int) (r : Res (Option Int)) : Res D := r.bind fun h S3 => oSlA x l h S3
@[simp] theorem slA3_s (x : D) (l h : Option Int) (S : Store) : slA3 x l (.ok h S) = oSlA x l h S := (rfl)
def slA2 (x : D) (hi : PM) (fr : Fr) (r : Res (Option Int)) : Res D := r.bind fun l S2 => slA3 x l (hi fr S2)
@[simp] theorem slA2_s (x : D) (hi : PM) (fr : Fr) (l : Option Int) (S : Store) : slA2 x hi fr (.ok l S) = slA3 x l (hi fr S) := (rfl)
def slA1 (lo hi : PM) (fr : Fr) (r : Res D) : Res D := r.bind fun x S1 => slA2 x hi fr (lo fr S1)
@[simp] theorem slA1_s (lo hi : PM) (fr : Fr) (x : D) (S : Store) : slA1 lo hi fr (.ok x S) = slA2 x hi fr (lo fr S) := (rfl)
@[simp] theorem mSlA_s (a : EM) (lo hi : PM) (fr : Fr) (S : Store) : mSlA a lo hi fr S = slA1 lo hi fr (a fr S) := (rfl)
@[simp] theorem oSlA_t (l : List D) (lo hi : Option Int) (S : Store) : oSlA (.tup l) lo hi S = .ok (.tup (cut l lo hi)) S := (rfl)
@[simp] theorem oAddA_t (a b : List D) (S : Store) : oAddA (.tup a) (.tup b) S = if a.length + b.length ≤ LINE then .ok (.tup (a ++ b)) S else .bad := (rfl)
@[simp] theorem oAddA_i (a : Int) (y : D) (S : Store) : oAddA (.int a) y S = oAdd (.int a) y S := (rfl)
@[simp] theorem sUpper_s (w : Tx) (S : Store) : sUpper (.str w) [] S = if w ∈ sixW then .ok (.str (w.map fun c => c - 32)) S else .bad := (rfl)
end Mi

set_option Elab.async false
set_option linter.all false
set_option maxHeartbeats 1000000
/-! sets as bits; reckonings of rows; places; dicts by places -/
namespace Mi
/-! ### bits -/
def bitsOf (p : Nat → Bool) : Nat → Nat
  | 0 => 0
  | m + 1 => bitsOf p m + if p m then 2 ^ m else 0
theorem bits_lt (p : Nat → Bool) : ∀ m, bitsOf p m < 2 ^ m
  | 0 => by simp [bitsOf]
  | m + 1 => by
    have := bits_lt p m
    unfold bitsOf
    rw [Nat.pow_succ]
    split <;> omega
theorem bits_test (p : Nat → Bool) : ∀ m k, (bitsOf p m).testBit k = (decide (k < m) && p k)
  | 0, k => by simp [bitsOf]
  | m + 1, k => by
    have lt := bits_lt p m
    have ih := bits_test p m k
    unfold bitsOf
    cases hp : p m with
    | true =>
      have e : bitsOf p m + 2 ^ m = 2 ^ m * 1 + bitsOf p m := by omega
      simp only [if_true]
      rw [e]
      by_cases hk : k < m
      · rw [Nat.testBit_two_pow_mul_add 1 lt k, if_pos hk, ih]
        simp [hk, show k < m + 1 by omega]
      · rw [Nat.testBit_two_pow_mul_add 1 lt k, if_neg hk]
        by_cases h2 : k = m
        · subst h2
          simp [hp]
        · have : k - m ≠ 0 := by omega
          have h3 : ¬ k < m + 1 := by omega
          simp [h3]
          have e1 := Nat.testBit_two_pow_of_ne (n := 0) (m := k - m) (by omega)
          simpa using e1
    | false =>
      simp only [Bool.false_eq_true, if_false, Nat.add_zero]
      rw [ih]
      by_cases h2 : k = m
      · subst h2; simp [hp]
      · by_cases hk : k < m
        · simp [hk, show k < m + 1 by omega]
        · simp [hk, show ¬ k < m + 1 by omega]
theorem bits_congr {p q : Nat → Bool} : ∀ {m}, (∀ k, k < m → p k = q k) → bitsOf p m = bitsOf q m
  | 0, _ => rfl
  | m + 1, h => by
    unfold bitsOf
    rw [bits_congr fun k hk => h k (by omega), h m (by omega)]
theorem bits_inj {p q : Nat → Bool} {m : Nat} (h : bitsOf p m = bitsOf q m) : ∀ k, k < m → p k = q k := fun k hk => by
  have e := congrArg (fun x => x.testBit k) h
  simpa [bits_test, hk] using e
theorem bits_eq {p : Nat → Bool} {m n : Nat} (h : ∀ k, n.testBit k = (decide (k < m) && p k)) : n = bitsOf p m := by
  apply Nat.eq_of_testBit_eq
  intro k
  rw [h, bits_test]
theorem bits_and (p q : Nat → Bool) (m : Nat) : bitsOf p m &&& bitsOf q m = bitsOf (fun k => p k && q k) m := bits_eq fun k => by
  rw [Nat.testBit_and, bits_test, bits_test]
  cases decide (k < m) <;> simp
theorem bits_or (p q : Nat → Bool) (m : Nat) : bitsOf p m ||| bitsOf q m = bitsOf (fun k => p k || q k) m := bits_eq fun k => by
  rw [Nat.testBit_or, bits_test, bits_test]
  cases decide (k < m) <;> simp
theorem bits_xor (p q : Nat → Bool) (m : Nat) : bitsOf p m ^^^ bitsOf q m = bitsOf (fun k => p k ^^ q k) m := bits_eq fun k => by
  rw [Nat.testBit_xor, bits_test, bits_test]
  cases decide (k < m) <;> simp
theorem bits_all : ∀ m, bitsOf (fun _ => true) m = 2 ^ m - 1
  | 0 => rfl
  | m + 1 => by
    unfold bitsOf
    rw [bits_all m]
    have := Nat.one_le_two_pow (n := m)
    simp only [if_true]
    rw [Nat.pow_succ]
    omega
theorem bits_none : ∀ m, bitsOf (fun _ => false) m = 0
  | 0 => rfl
  | m + 1 => by unfold bitsOf; rw [bits_none m]; rfl
theorem bits_one {m i : Nat} (h : i < m) : 2 ^ i = bitsOf (fun k => decide (k = i)) m := bits_eq fun k => by
  rw [Nat.testBit_two_pow]
  by_cases e : i = k
  · subst e; simp [h]
  · have : ¬ k = i := fun z => e z.symm
    simp [e, this]
theorem bits_le {p q : Nat → Bool} : ∀ {m}, (∀ k, k < m → p k = true → q k = true) → bitsOf p m ≤ bitsOf q m
  | 0, _ => Nat.le_refl _
  | m + 1, h => by
    have ih := bits_le (m := m) fun k hk => h k (by omega)
    unfold bitsOf
    by_cases hp : p m = true
    · rw [if_pos hp, if_pos (h m (by omega) hp)]; omega
    · rw [if_neg hp]; omega
theorem bits_shr (p : Nat → Bool) (m k : Nat) : bitsOf p m / 2 ^ k % 2 = if (decide (k < m) && p k) = true then 1 else 0 := by
  have e := bits_test p m k
  rw [← e, Nat.testBit_eq_decide_div_mod_eq]
  have := Nat.mod_two_eq_zero_or_one (bitsOf p m / 2 ^ k)
  rcases this with h | h <;> simp [h]
/-- 1 << k -/
theorem shl_1 (k : Nat) (hk : k ≤ 1000000) (S : Store) : oShl (.int 1) (.int k) S = .ok (.int ((2 ^ k : Nat) : Int)) S := by
  have h : powOk 1 (k : Int) := by unfold powOk; refine ⟨by omega, by omega, by decide⟩
  rw [oShl_i, if_pos h]
  simp
/-- (x >> k) & 1 -/
theorem shr_bit (p : Nat → Bool) (m k : Nat) (S : Store) : oShr (.int ((bitsOf p m : Nat) : Int)) (.int k) S = .ok (.int ((bitsOf p m / 2 ^ k : Nat) : Int)) S := by
  rw [oShr_i, if_pos (by omega)]
  simp
theorem and_one (n : Nat) (S : Store) : oAnd (.int (n : Int)) (.int 1) S = .ok (.int ((n % 2 : Nat) : Int)) S := by
  rw [oAnd_i, if_pos ⟨by omega, by omega⟩]
  congr 3
  rw [Int.toNat_natCast, show (1 : Int).toNat = 1 from rfl, Nat.and_one_is_mod]
/-! ### reckonings -/
noncomputable def recs (rows : List Row) : List (List Ky) := rows.foldl addK []
theorem addK_nd {acc : List (List Ky)} {r : Row} (h : acc.Nodup) : (addK acc r).Nodup := by
  unfold addK
  split
  · rename_i k _
    by_cases hk : k ∈ acc
    · rw [if_pos (dec_true hk)]; exact h
    · rw [if_neg (by rw [dec_false hk]; exact Bool.false_ne_true), List.nodup_append]
      refine ⟨h, by simp, ?_⟩
      intro a ha b hb
      rw [List.mem_singleton.mp hb]
      intro z
      exact hk (z ▸ ha)
  · exact h
theorem recs_nd (rows : List Row) : (recs rows).Nodup := by
  unfold recs
  have : ∀ (l : List Row) (acc : List (List Ky)), acc.Nodup → (l.foldl addK acc).Nodup := by
    intro l
    induction l with
    | nil => exact fun _ h => h
    | cons r q ih => exact fun acc h => ih _ (addK_nd h)
  exact this rows [] List.nodup_nil
theorem addK_mem {acc : List (List Ky)} {r : Row} {k : List Ky} : k ∈ addK acc r ↔ k ∈ acc ∨ r.rkg = some k := by
  unfold addK
  cases h : r.rkg with
  | none => simp
  | some x =>
    dsimp only
    by_cases hk : x ∈ acc
    · rw [if_pos (dec_true hk)]
      constructor
      · exact fun z => .inl z
      · rintro (z | z)
        · exact z
        · obtain rfl := Option.some.inj z; exact hk
    · rw [if_neg (by rw [dec_false hk]; exact Bool.false_ne_true), List.mem_append, List.mem_singleton]
      constructor
      · rintro (z | z)
        · exact .inl z
        · exact .inr (by rw [z])
      · rintro (z | z)
        · exact .inl z
        · exact .inr (Option.some.inj z).symm
theorem recs_mem {rows : List Row} {k : List Ky} : k ∈ recs rows ↔ ∃ r ∈ rows, r.rkg = some k := by
  unfold recs
  have : ∀ (l : List Row) (acc : List (List Ky)), k ∈ l.foldl addK acc ↔ k ∈ acc ∨ ∃ r ∈ l, r.rkg = some k := by
    intro l
    induction l with
    | nil => intro acc; simp
    | cons r q ih =>
      intro acc
      rw [List.foldl_cons, ih, addK_mem]
      simp only [List.mem_cons, exists_eq_or_imp]
      constructor
      · rintro ((z | z) | z)
        · exact .inl z
        · exact .inr (.inl z)
        · exact .inr (.inr z)
      · rintro (z | z | z)
        · exact .inl (.inl z)
        · exact .inl (.inr z)
        · exact .inr z
  rw [this]; simp
theorem recs_snoc (q : List Row) (r : Row) : recs (q ++ [r]) = addK (recs q) r := by
  unfold recs
  rw [List.foldl_append]; rfl
theorem addK_len (acc : List (List Ky)) (r : Row) : (addK acc r).length ≤ acc.length + 1 := by
  unfold addK
  split
  · split
    · omega
    · simp
  · omega
theorem recs_len (rows : List Row) : (recs rows).length ≤ rows.length := by
  unfold recs
  have : ∀ (l : List Row) (acc : List (List Ky)), (l.foldl addK acc).length ≤ acc.length + l.length := by
    intro l
    induction l with
    | nil => intro acc; simp
    | cons r q ih =>
      intro acc
      have h1 := ih (addK acc r)
      have h2 := addK_len acc r
      rw [List.foldl_cons, List.length_cons]
      omega
  have := this rows []
  simpa using this
/-- the name that a row sets -/
def Row.set : Row → Option Tx
  | .rk n _ _ _ => some n
  | .cp n _ => some n
  | _ => none
/-- whether a row changes a reckoning -/
noncomputable def chg (r : Row) (k : List Ky) : Bool := match r.set with
  | some n => dec ((.inr n : Ky) ∈ k.drop 1)
  | none => false
noncomputable def hasK (r : Row) (k : List Ky) : Bool := dec (r.rkg = some k)
/-- numbers of reckonings -/
def numK : Nat → List (List Ky) → List (List Ky × D)
  | _, [] => []
  | i, k :: r => (k, .int (i : Nat)) :: numK (i + 1) r
theorem numK_len : ∀ (i : Nat) (L : List (List Ky)), (numK i L).length = L.length
  | _, [] => rfl
  | i, k :: r => by rw [numK, List.length_cons, List.length_cons, numK_len]
theorem numK_keys : ∀ (i : Nat) (L : List (List Ky)), (numK i L).map (·.1) = L
  | _, [] => rfl
  | i, k :: r => by rw [numK, List.map_cons, numK_keys]
theorem numK_snoc : ∀ (i : Nat) (L : List (List Ky)) (k : List Ky), numK i (L ++ [k]) = numK i L ++ [(k, .int ((i + L.length : Nat) : Int))]
  | i, [], k => rfl
  | i, x :: r, k => by
    rw [List.cons_append, numK, numK_snoc (i + 1) r k, numK, List.cons_append, List.length_cons]
    congr 5
    omega
theorem numK_put {i : Nat} {L : List (List Ky)} {k : List Ky} (h : k ∉ L) (v : D) : dPut (numK i L) k v = numK i L ++ [(k, v)] := by
  unfold dPut
  rw [if_neg]
  simp only [List.any_eq_true, decide_eq_true_eq, not_exists, not_and]
  intro p hp z
  have : p.1 ∈ (numK i L).map (·.1) := List.mem_map.mpr ⟨p, hp, rfl⟩
  rw [numK_keys] at this
  exact h (z ▸ this)
theorem numK_get : ∀ (i : Nat) {L : List (List Ky)} {k : List Ky} {j : Nat}, L.Nodup → L[j]? = some k → dGet (numK i L) k = some (.int ((i + j : Nat) : Int))
  | i, [], k, j, _, e => by cases e
  | i, x :: r, k, 0, _, e => by
    obtain rfl := Option.some.inj e
    simp [numK, dGet]
  | i, x :: r, k, j + 1, nd, e => by
    have hx : ¬ x = k := fun z => by
      subst z
      exact (List.nodup_cons.mp nd).1 (List.mem_of_getElem? (i := j) (by simpa using e))
    have ih := numK_get (i + 1) (List.nodup_cons.mp nd).2 (j := j) (by simpa using e)
    unfold dGet at ih ⊢
    rw [numK, List.find?_cons]
    simp only [hx, decide_false]
    rw [ih]
    congr 3
    omega
/-! ### places -/
def pk (p : Int × Int) : List Ky := [.inl p.1, .inl p.2]
theorem pk_inj {p q : Int × Int} (h : pk p = pk q) : p = q := by
  obtain ⟨a, b⟩ := p
  obtain ⟨c, d⟩ := q
  simp [pk] at h
  rw [h.1, h.2]
theorem pk_ok (p : Int × Int) : (pk p).all kOk = true := rfl
def plcFrom : Nat → List Row → List (Int × Int)
  | _, [] => []
  | n, r :: q => (fol n r).map (fun m => ((n : Int), m)) ++ plcFrom (n + 1) q
def plc (rows : List Row) : List (Int × Int) := (-1, 0) :: plcFrom 0 rows
theorem plcFrom_snoc : ∀ (n : Nat) (q : List Row) (r : Row), plcFrom n (q ++ [r]) = plcFrom n q ++ (fol (n + q.length) r).map (fun m => (((n + q.length : Nat) : Int), m))
  | n, [], r => by simp [plcFrom]
  | n, x :: q, r => by
    rw [List.cons_append, plcFrom, plcFrom_snoc (n + 1) q r, plcFrom, List.append_assoc, List.length_cons]
    rw [show n + 1 + q.length = n + (q.length + 1) by omega]
theorem fol_len (n : Nat) (r : Row) : (fol n r).length ≤ 2 := by cases r <;> simp [fol]
theorem plcFrom_len : ∀ (n : Nat) (q : List Row), (plcFrom n q).length ≤ 2 * q.length
  | n, [] => by simp [plcFrom]
  | n, x :: q => by
    have := plcFrom_len (n + 1) q
    have := fol_len n x
    rw [plcFrom, List.length_append, List.length_map, List.length_cons]
    omega
theorem plc_len (rows : List Row) : (plc rows).length ≤ 2 * rows.length + 1 := by
  have := plcFrom_len 0 rows
  rw [plc, List.length_cons]; omega
theorem plcFrom_mem : ∀ (n : Nat) (q : List Row) (a b : Int), (a, b) ∈ plcFrom n q ↔ ∃ (i : Nat) (r : Row), q[i]? = some r ∧ a = ((n + i : Nat) : Int) ∧ b ∈ fol (n + i) r
  | n, [], a, b => by simp [plcFrom]
  | n, x :: q, a, b => by
    rw [plcFrom, List.mem_append, List.mem_map, plcFrom_mem (n + 1) q a b]
    constructor
    · rintro (⟨m, hm, e⟩ | ⟨i, r, e, h1, h2⟩)
      · injection e with e1 e2
        subst e2
        exact ⟨0, x, rfl, e1.symm, hm⟩
      · exact ⟨i + 1, r, by simpa using e, by rw [h1, show n + 1 + i = n + (i + 1) by omega], by rw [show n + (i + 1) = n + 1 + i by omega]; exact h2⟩
    · rintro ⟨i, r, e, h1, h2⟩
      cases i with
      | zero =>
        obtain rfl := Option.some.inj e
        exact .inl ⟨b, h2, by rw [h1]; rfl⟩
      | succ i => exact .inr ⟨i, r, by simpa using e, by rw [h1, show n + 1 + i = n + (i + 1) by omega], by rw [show n + 1 + i = n + (i + 1) by omega]; exact h2⟩
theorem plc_mem {rows : List Row} {a b : Int} : (a, b) ∈ plc rows ↔ (a = -1 ∧ b = 0) ∨ ∃ (i : Nat) (r : Row), rows[i]? = some r ∧ a = (i : Int) ∧ b ∈ fol i r := by
  rw [plc, List.mem_cons, plcFrom_mem]
  simp
/-! ### dicts by places -/
def dOf (f : Int × Int → D) (L : List (Int × Int)) : List (List Ky × D) := L.foldl (fun acc p => dPut acc (pk p) (f p)) []
theorem dOf_snoc (f : Int × Int → D) (L : List (Int × Int)) (p : Int × Int) : dOf f (L ++ [p]) = dPut (dOf f L) (pk p) (f p) := by
  unfold dOf
  rw [List.foldl_append]; rfl
theorem dPut_get {κ α : Type} [DecidableEq κ] (l : List (κ × α)) (k k' : κ) (v : α) : dGet (dPut l k v) k' = if k = k' then some v else dGet l k' := by
  unfold dPut dGet
  by_cases h : (l.any fun kv => decide (kv.1 = k)) = true
  · rw [if_pos h]
    induction l with
    | nil => simp at h
    | cons x r ih =>
      by_cases hx : x.1 = k
      · by_cases hk : k = k'
        · subst hk; simp [hx]
        · have h1 : ¬ x.1 = k' := fun z => hk (hx.symm.trans z)
          simp only [List.map_cons, if_pos hx, List.find?_cons, h1, decide_false, if_neg hk]
          have q : ∀ (l : List (κ × α)), ((l.map fun kv => if kv.1 = k then (kv.1, v) else kv).find? fun kv => decide (kv.1 = k')).map (·.2) = (l.find? fun kv => decide (kv.1 = k')).map (·.2) := by
            intro l
            induction l with
            | nil => rfl
            | cons y q ih2 =>
              by_cases hy : y.1 = k
              · have h2 : ¬ y.1 = k' := fun z => hk (hy.symm.trans z)
                simp only [List.map_cons, if_pos hy, List.find?_cons, h2, decide_false]
                exact ih2
              · simp only [List.map_cons, if_neg hy, List.find?_cons]
                cases decide (y.1 = k')
                · exact ih2
                · rfl
          exact q r
      · have h' : (r.any fun kv => decide (kv.1 = k)) = true := by simpa [hx] using h
        have := ih h'
        simp only [List.map_cons, if_neg hx, List.find?_cons]
        by_cases h1 : x.1 = k'
        · have hk : ¬ k = k' := fun z => hx (h1.trans z.symm)
          simp [h1, hk]
        · simp only [h1, decide_false]
          exact this
  · rw [if_neg h, List.find?_append]
    by_cases hk : k = k'
    · subst hk
      have : l.find? (fun kv => decide (kv.1 = k)) = none := by
        rw [List.find?_eq_none]
        intro p hp z
        exact h (List.any_eq_true.mpr ⟨p, hp, z⟩)
      simp [this]
    · simp only [if_neg hk]
      have : ([(k, v)] : List (κ × α)).find? (fun kv => decide (kv.1 = k')) = none := by simp [hk]
      rw [this, Option.or_none]
theorem dPut_mem {κ α : Type} [DecidableEq κ] {l : List (κ × α)} {k : κ} {v : α} {p : κ × α} (h : p ∈ dPut l k v) : p = (k, v) ∨ p ∈ l := by
  unfold dPut at h
  split at h
  · obtain ⟨q, hq, rfl⟩ := List.mem_map.mp h
    split
    · rename_i e; exact .inl (by rw [e])
    · exact .inr hq
  · rcases List.mem_append.mp h with z | z
    · exact .inr z
    · exact .inl (List.mem_singleton.mp z)
theorem dPut_len {κ α : Type} [DecidableEq κ] (l : List (κ × α)) (k : κ) (v : α) : (dPut l k v).length ≤ l.length + 1 := by
  unfold dPut
  split <;> simp
theorem snoc_ind {α : Type} {P : List α → Prop} (h0 : P []) (h1 : ∀ l a, P l → P (l ++ [a])) (l : List α) : P l := by
  have : ∀ n, ∀ l : List α, l.length = n → P l := by
    intro n
    induction n with
    | zero => intro l hl; rw [List.length_eq_zero_iff.mp hl]; exact h0
    | succ n ih =>
      intro l hl
      rcases snoc_or l with rfl | ⟨q, a, rfl⟩
      · simp at hl
      · rw [List.length_append, List.length_singleton] at hl
        exact h1 q a (ih q (by omega))
  exact this l.length l rfl
theorem dOf_get (f : Int × Int → D) (L : List (Int × Int)) (p : Int × Int) : dGet (dOf f L) (pk p) = if p ∈ L then some (f p) else none := by
  refine snoc_ind (P := fun L => dGet (dOf f L) (pk p) = if p ∈ L then some (f p) else none) rfl ?_ L
  intro L q ih
  rw [dOf_snoc, dPut_get, ih]
  by_cases h : q = p
  · subst h; simp
  · have h1 : ¬ pk q = pk p := fun z => h (pk_inj z)
    have h2 : ¬ p = q := fun z => h z.symm
    rw [if_neg h1]
    simp [h2]
theorem dOf_mem (f : Int × Int → D) (L : List (Int × Int)) : ∀ e ∈ dOf f L, ∃ p ∈ L, e = (pk p, f p) := by
  refine snoc_ind (P := fun L => ∀ e ∈ dOf f L, ∃ p ∈ L, e = (pk p, f p)) (fun e h => by cases h) ?_ L
  intro L q ih e he
  rw [dOf_snoc] at he
  rcases dPut_mem he with z | z
  · exact ⟨q, by simp, z⟩
  · obtain ⟨p, hp, z⟩ := ih e z
    exact ⟨p, List.mem_append_left _ hp, z⟩
theorem dOf_len (f : Int × Int → D) (L : List (Int × Int)) : (dOf f L).length ≤ L.length := by
  refine snoc_ind (P := fun L => (dOf f L).length ≤ L.length) (Nat.le_refl _) ?_ L
  intro L q ih
  have := dPut_len (dOf f L) (pk q) (f q)
  rw [dOf_snoc, List.length_append, List.length_singleton]
  omega
theorem dOf_congr {f g : Int × Int → D} {L : List (Int × Int)} (h : ∀ p ∈ L, f p = g p) : dOf f L = dOf g L := by
  unfold dOf
  have : ∀ (L : List (Int × Int)) (acc : List (List Ky × D)), (∀ p ∈ L, f p = g p) → L.foldl (fun acc p => dPut acc (pk p) (f p)) acc = L.foldl (fun acc p => dPut acc (pk p) (g p)) acc := by
    intro L
    induction L with
    | nil => intro acc _; rfl
    | cons x r ih =>
      intro acc h
      rw [List.foldl_cons, List.foldl_cons, h x (by simp), ih _ fun p hp => h p (List.mem_cons_of_mem _ hp)]
  exact this L [] h
theorem dOf_same (f : Int × Int → Nat) (L : List (Int × Int)) : dSame (dOf (fun p => .int ((f p : Nat) : Int)) L) (dOf (fun p => .int ((f p : Nat) : Int)) L) = true := by
  unfold dSame
  simp only [decide_true, Bool.true_and, List.all_eq_true]
  intro e he
  obtain ⟨p, hp, rfl⟩ := dOf_mem _ _ e he
  dsimp only
  rw [dOf_get, if_pos hp]
  simp [scq]
end Mi

set_option Elab.async false
set_option linter.all false
/-! Mini5's and Mini6's operators by simp -/
namespace Mi
def rvA2 (x : D) (r : Res (Option Int)) : Res D := r.bind fun o S2 => if o = some (-1) then oRev x S2 else .bad
@[simp] theorem rvA2_s (x : D) (S : Store) : rvA2 x (.ok (some (-1)) S) = oRev x S := (rfl)
def rvA1 (st : PM) (fr : Fr) (r : Res D) : Res D := r.bind fun x S1 => rvA2 x (st fr S1)
@[simp] theorem rvA1_s (st : PM) (fr : Fr) (x : D) (S : Store) : rvA1 st fr (.ok x S) = rvA2 x (st fr S) := (rfl)
@[simp] theorem mRev_s (a : EM) (st : PM) (fr : Fr) (S : Store) : mRev a st fr S = rvA1 st fr (a fr S) := (rfl)
def rvO (S : Store) : Option (List D) → Res D
  | some l => new (.lst l.reverse) S
  | none => .bad
@[simp] theorem rvO_s (S : Store) (l : List D) : rvO S (some l) = .ok (.ref S.length) (S ++ [.lst l.reverse]) := (rfl)
@[simp] theorem oRev_r (n : Nat) (S : Store) : oRev (.ref n) S = rvO S (lstOf S n) := by
  unfold oRev rvO
  first
  | (cases lstOf S n <;> rfl)
  | (dsimp only; cases lstOf S n <;> rfl)
  | dsimp only
theorem oNeD_same {x y : D} {S : Store} (h : oSame x y S = true) : oNeD x y S = .ok (.bl false) S := by unfold oNeD; rw [if_pos h]
theorem oEqD_same {x y : D} {S : Store} (h : oSame x y S = true) : oEqD x y S = .ok (.bl true) S := by unfold oEqD; rw [if_pos h]
theorem same_T {m n : Nat} {k l : List (List Ky × D)} {S : Store} (h1 : S[m]? = some (.dT k)) (h2 : S[n]? = some (.dT l)) (h : dSame k l = true) : oSame (.ref m) (.ref n) S = true := by
  unfold oSame
  dsimp only
  rw [h1, h2]
  exact h
theorem same_K {m n : Nat} {k l : List (Ky × D)} {S : Store} (h1 : S[m]? = some (.dK k)) (h2 : S[n]? = some (.dK l)) (h : dSame k l = true) : oSame (.ref m) (.ref n) S = true := by
  unfold oSame
  dsimp only
  rw [h1, h2]
  exact h
theorem dClear_T {n : Nat} {k : List (List Ky × D)} {S : Store} (h : S[n]? = some (.dT k)) : dClear (.ref n) [] S = .ok .non (S.set n (.dT [])) := by
  unfold dClear
  dsimp only
  rw [h]
/-! ### a locked walk -/
theorem loopZ_inv {n : Nat} {z : O} {turn : D → SM} (I : Nat → Fr → Store → Prop) : ∀ (items : List D) (k : Nat) (fr : Fr) (S : Store), I k fr S →
    (∀ i fr S, I i fr S → S[n]? = some z) →
    (∀ i d fr S, items[i]? = some d → I (k + i) fr S → ∃ fr' S', (turn d fr S = .ok (.nx fr') S' ∨ turn d fr S = .ok (.ct fr') S') ∧ I (k + i + 1) fr' S') →
    ∃ fr' S', loopZ n z turn items fr S = .ok (.nx fr') S' ∧ I (k + items.length) fr' S'
  | [], k, fr, S, h, st, _ => ⟨fr, S, by rw [loopZ, dec_true (st k fr S h)]; rfl, h⟩
  | d :: ds, k, fr, S, h, st, step => by
    obtain ⟨fr', S', e, h'⟩ := step 0 d fr S rfl h
    obtain ⟨fr2, S2, e2, h2⟩ := loopZ_inv I ds (k + 1) fr' S' h' st fun i d fr S hd hi => by
      have q := step (i + 1) d fr S hd (by rw [show k + (i + 1) = k + 1 + i by omega]; exact hi)
      rw [show k + (i + 1) = k + 1 + i by omega] at q
      exact q
    refine ⟨fr2, S2, ?_, by rw [List.length_cons, show k + (ds.length + 1) = k + 1 + ds.length by omega]; exact h2⟩
    rw [loopZ, dec_true (st k fr S h)]
    rcases e with e | e <;> rw [e] <;> exact e2
/-- a walk over the values of a dict of places that changes no store -/
theorem forD_valT {e : EM} {g : GM} {b : SM} {fr : Fr} {S : Store} {n : Nat} {k : List (List Ky × D)} (hs : S[n]? = some (.dT k)) (he : ∀ S, e fr S = .ok (.ref n) S) (I : Fr → Prop) (h0 : I fr)
    (step : ∀ d fr S, d ∈ k.map (·.2) → I fr → ∃ fr', turnM g b d fr S = .ok (.nx fr') S ∧ I fr') : ∃ fr', sForD .val e g b fr S = .ok (.nx fr') S ∧ I fr' := by
  have hl := (List.getElem?_eq_some_iff.mp hs).1
  obtain ⟨fr', S', q, rfl, hI⟩ := loopZ_inv (n := n) (z := .zT k) (turn := turnM g b) (fun _ fr S' => S' = S.set n (.zT k) ∧ I fr) (k.map (·.2)) 0 fr (S.set n (.zT k)) ⟨rfl, h0⟩ (fun _ _ S' h => by rw [h.1]; exact set_get hs) (fun i d fr S' hd h => by
    obtain ⟨fr', e1, e2⟩ := step d fr S' (List.mem_of_getElem? hd) h.2
    exact ⟨fr', S', .inl e1, h.1, e2⟩)
  refine ⟨fr', ?_, hI⟩
  unfold sForD
  rw [he S]
  dsimp only
  rw [hs]
  simp only [zOf, zItems]
  unfold runZ
  rw [he]
  simp only [bind_ok, if_true]
  have : loopZ n (.zT k) (fun d fr S => (g d fr S).bind fun fr' S' => b fr' S') (k.map fun p => p.2) fr (S.set n (.zT k)) = .ok (.nx fr') (S.set n (.zT k)) := q
  rw [this]
  simp only [bind_ok]
  rw [if_pos (dec_true (set_get hs)), List.set_set]
  congr 1
  obtain ⟨hl, e⟩ := List.getElem?_eq_some_iff.mp hs
  rw [← e, List.set_getElem_self]
end Mi

set_option Elab.async false
set_option linter.all false
set_option maxHeartbeats 1000000
/-! where a reckoning is not wanted, not standing; greatest sets -/
namespace Mi
/-- a way leads on to a change or an end without it -/
inductive Mis (rows : List Row) (k : List Ky) : Nat → Prop
  | out {n : Nat} {r : Row} : rows[n]? = some r → r.rkg ≠ some k → (chg r k = true ∨ r = .en) → Mis rows k n
  | step {n j : Nat} {r : Row} : rows[n]? = some r → r.rkg ≠ some k → (j : Int) ∈ fol n r → Mis rows k j → Mis rows k n
/-- a way leads back to a change or the begin without it -/
inductive Mst (rows : List Row) (k : List Ky) : Nat → Prop
  | out {n : Nat} {r : Row} : rows[n]? = some r → chg r k = true → Mst rows k n
  | zero {r : Row} : rows[0]? = some r → r.rkg ≠ some k → Mst rows k 0
  | step {n j : Nat} {r q : Row} : rows[n]? = some r → r.rkg ≠ some k → rows[j]? = some q → (n : Int) ∈ fol j q → Mst rows k j → Mst rows k n
abbrev BF := Nat → Bool
def fsAt (fs : List BF) (m : Int) : BF := fs.getD m.toNat fun _ => false
def bD (m : Nat) (p : BF) : D := .int ((bitsOf p m : Nat) : Int)
def sumB (m : Nat) (fs : List BF) : Nat := (fs.map fun p => bitsOf p m).sum
theorem sum_set {L : List Nat} {i : Nat} {x y : Nat} (h : L[i]? = some x) (hy : y < x) : (L.set i y).sum < L.sum := by
  induction L generalizing i with
  | nil => cases h
  | cons a r ih =>
    cases i with
    | zero => obtain rfl := Option.some.inj h; simp; omega
    | succ i => have := ih (i := i) (by simpa using h); simp; omega
theorem sumB_set {m : Nat} {fs : List BF} {i : Nat} {p q : BF} (h : fs[i]? = some p) (hq : bitsOf q m < bitsOf p m) : sumB m (fs.set i q) < sumB m fs := by
  unfold sumB
  rw [List.map_set]
  exact sum_set (by rw [List.getElem?_map, h]; rfl) hq
theorem fsAt_set {fs : List BF} {i : Nat} {q : BF} (hi : i < fs.length) (m : Int) : fsAt (fs.set i q) m = if m.toNat = i then q else fsAt fs m := by
  unfold fsAt
  simp only [List.getD_eq_getElem?_getD, List.getElem?_set]
  by_cases h : i = m.toNat
  · subst h; simp [hi]
  · have : ¬ m.toNat = i := fun z => h z.symm
    simp [h, this]
theorem fsAt_of {fs : List BF} {i : Nat} {p : BF} (h : fs[i]? = some p) : fsAt fs (i : Int) = p := by
  unfold fsAt
  rw [List.getD_eq_getElem?_getD, Int.toNat_natCast, h]; rfl
/-- all of some rows' bits -/
def allF (fs : List BF) (L : List Int) : BF := fun k => L.all fun m => fsAt fs m k
theorem bit_lt {m : Nat} {p q : BF} (h : ∀ k, k < m → p k = true → q k = true) (ne : bitsOf p m ≠ bitsOf q m) : bitsOf p m < bitsOf q m := by
  have := bits_le h
  omega
/-- what a rule makes of the sets, row by row -/
structure Rule (rows : List Row) where
  g : List BF → Nat → BF
  mono : ∀ (fs fs' : List BF) (n : Nat) (k : Nat), (∀ m, fsAt fs m k = true → fsAt fs' m k = true) → g fs n k = true → g fs' n k = true
/-- sets on their way down to the greatest that fit -/
structure Down {rows : List Row} (R : Rule rows) (m : Nat) (W : Nat → Nat → Prop) (fs : List BF) : Prop where
  len : fs.length = rows.length
  up : ∀ n k, n < rows.length → k < m → W n k → fsAt fs (n : Int) k = true
  post : ∀ n k, n < rows.length → k < m → R.g fs n k = true → fsAt fs (n : Int) k = true
theorem Down.put {rows : List Row} {R : Rule rows} {m : Nat} {W : Nat → Nat → Prop} {fs : List BF} (d : Down R m W fs) {n : Nat} (hn : n < rows.length) (hw : ∀ k, k < m → W n k → R.g fs n k = true) : Down R m W (fs.set n (R.g fs n)) := by
  have hl : n < fs.length := by rw [d.len]; exact hn
  have sub : ∀ j k, k < m → j < rows.length → fsAt (fs.set n (R.g fs n)) (j : Int) k = true → fsAt fs (j : Int) k = true := fun j k hk hj h => by
    rw [fsAt_set hl] at h
    split at h
    · rename_i e
      rw [Int.toNat_natCast] at e
      subst e
      exact d.post j k hj hk h
    · exact h
  have sub2 : ∀ (x : Int) k, k < m → fsAt (fs.set n (R.g fs n)) x k = true → fsAt fs x k = true := fun x k hk h => by
    rw [fsAt_set hl] at h
    split at h
    · rename_i e
      have q := d.post n k hn hk h
      unfold fsAt at q ⊢
      rw [Int.toNat_natCast] at q
      rw [e]; exact q
    · exact h
  refine ⟨by rw [List.length_set]; exact d.len, fun j k hj hk w => ?_, fun j k hj hk h => ?_⟩
  · rw [fsAt_set hl]
    split
    · rename_i e
      rw [Int.toNat_natCast] at e
      subst e
      exact hw k hk w
    · exact d.up j k hj hk w
  · have h2 := R.mono _ fs j k (fun x => sub2 x k hk) h
    rw [fsAt_set hl]
    split
    · rename_i e
      rw [Int.toNat_natCast] at e
      subst e
      exact h2
    · exact d.post j k hj hk h2
/-- the bits wanted at a row -/
noncomputable def wantP (rows : List Row) (n : Nat) : BF := fun k => match (recs rows)[k]? with
  | some x => !dec (Mis rows x n)
  | none => false
noncomputable def wantD (rows : List Row) (n : Nat) : D := bD (recs rows).length (wantP rows n)
noncomputable def ownF (rows : List Row) (r : Row) : BF := fun k => dec (r.rkg ≠ none ∧ r.rkg = (recs rows)[k]?)
noncomputable def lostF (rows : List Row) (r : Row) : BF := fun k => match (recs rows)[k]? with
  | some x => chg r x
  | none => false
noncomputable def gAsk (rows : List Row) (fs : List BF) (n : Nat) : BF := fun k => match rows[n]? with
  | some r => ownF rows r k || ((dec (r ≠ .en) && allF fs (fol n r) k) && (true ^^ lostF rows r k))
  | none => false
theorem allF_mono {fs fs' : List BF} {k : Nat} (h : ∀ m, fsAt fs m k = true → fsAt fs' m k = true) {L : List Int} (a : allF fs L k = true) : allF fs' L k = true := by
  unfold allF at a ⊢
  rw [List.all_eq_true] at a ⊢
  exact fun m hm => h m (a m hm)
noncomputable def ruleA (rows : List Row) : Rule rows where
  g := gAsk rows
  mono := fun fs fs' n k h a => by
    unfold gAsk at a ⊢
    split at a
    · rename_i r e
      simp only [Bool.or_eq_true, Bool.and_eq_true] at a ⊢
      rcases a with a | ⟨⟨a1, a2⟩, a3⟩
      · exact .inl a
      · exact .inr ⟨⟨a1, allF_mono h a2⟩, a3⟩
    · cases a
/-- what is wanted fits -/
theorem ask_up {rows : List Row} {fs : List BF} (d : Down (ruleA rows) (recs rows).length (fun n k => wantP rows n k = true) fs) (hin : ∀ (n : Nat) (r : Row) (m : Int), rows[n]? = some r → m ∈ fol n r → 0 ≤ m ∧ m < rows.length) {n : Nat} (hn : n < rows.length) : ∀ k, k < (recs rows).length → wantP rows n k = true → (ruleA rows).g fs n k = true := by
  intro k hk w
  obtain ⟨x, hx⟩ : ∃ x, (recs rows)[k]? = some x := ⟨_, List.getElem?_eq_getElem hk⟩
  obtain ⟨r, hr⟩ : ∃ r, rows[n]? = some r := ⟨_, List.getElem?_eq_getElem hn⟩
  have wx : ∀ j, wantP rows j k = !dec (Mis rows x j) := fun j => by unfold wantP; rw [hx]
  rw [wx] at w
  have nm : ¬ Mis rows x n := fun z => by rw [dec_true z] at w; cases w
  show gAsk rows fs n k = true
  unfold gAsk
  rw [hr]
  simp only [Bool.or_eq_true, Bool.and_eq_true]
  by_cases ho : r.rkg = some x
  · exact .inl (by unfold ownF; exact dec_true ⟨by rw [ho]; simp, by rw [ho, hx]⟩)
  · right
    refine ⟨⟨dec_true fun z => nm (.out hr ho (.inr z)), ?_⟩, ?_⟩
    · unfold allF
      rw [List.all_eq_true]
      intro m hm
      have hi := hin n r m hr hm
      obtain ⟨j, rfl⟩ : ∃ j : Nat, m = (j : Int) := ⟨m.toNat, by omega⟩
      refine d.up j k (by omega) hk ?_
      rw [wx, dec_false fun z => nm (.step hr ho hm z)]
      rfl
    · unfold lostF
      rw [hx]
      dsimp only
      cases hc : chg r x with
      | false => rfl
      | true => exact absurd (.out hr ho (.inl hc)) nm
/-- what stays is wanted -/
theorem ask_fix {rows : List Row} {fs : List BF} (hf : ∀ n k, n < rows.length → k < (recs rows).length → gAsk rows fs n k = fsAt fs (n : Int) k) {k : Nat} {x : List Ky} (hx : (recs rows)[k]? = some x) {n : Nat} (m : Mis rows x n) : fsAt fs (n : Int) k = false := by
  have hk := (List.getElem?_eq_some_iff.mp hx).1
  have own : ∀ r : Row, r.rkg ≠ some x → ownF rows r k = false := fun r h => by
    unfold ownF
    exact dec_false fun z => h (by rw [z.2, hx])
  induction m with
  | @out n r hr ho h =>
    have hn := (List.getElem?_eq_some_iff.mp hr).1
    rw [← hf n k hn hk]
    unfold gAsk
    rw [hr]
    dsimp only
    rw [own r ho, Bool.false_or]
    rcases h with h | h
    · have : lostF rows r k = true := by unfold lostF; rw [hx]; exact h
      rw [this]; simp
    · rw [dec_false fun z => z h]; simp
  | @step n j r hr ho hj _ ih =>
    have hn := (List.getElem?_eq_some_iff.mp hr).1
    rw [← hf n k hn hk]
    unfold gAsk
    rw [hr]
    dsimp only
    rw [own r ho, Bool.false_or]
    have : allF fs (fol n r) k = false := by
      unfold allF
      rw [List.all_eq_false]
      exact ⟨(j : Int), hj, by rw [ih]; simp⟩
    rw [this]; simp
/-! ### bits as data -/
theorem bD_and (m : Nat) (p q : BF) (S : Store) : oAnd (bD m p) (bD m q) S = .ok (bD m fun k => p k && q k) S := by
  unfold bD
  rw [oAnd_i, if_pos ⟨by omega, by omega⟩]
  simp only [Int.toNat_natCast]
  rw [bits_and]
theorem bD_or (m : Nat) (p q : BF) (S : Store) : oOr (bD m p) (bD m q) S = .ok (bD m fun k => p k || q k) S := by
  unfold bD
  rw [oOr_i, if_pos ⟨by omega, by omega⟩]
  simp only [Int.toNat_natCast]
  rw [bits_or]
theorem bD_xor (m : Nat) (p q : BF) (S : Store) : oXor (bD m p) (bD m q) S = .ok (bD m fun k => p k ^^ q k) S := by
  unfold bD
  rw [oXor_i, if_pos ⟨by omega, by omega⟩]
  simp only [Int.toNat_natCast]
  rw [bits_xor]
theorem bD_ne (m : Nat) (p q : BF) (S : Store) : oNe (bD m p) (bD m q) S = .ok (.bl (!decide (bitsOf p m = bitsOf q m))) S := by
  unfold bD
  rw [oNe_i]
  congr 3
  rw [decide_eq_decide]
  omega
theorem bD_zero (m : Nat) : (D.int 0) = bD m fun _ => false := by
  unfold bD
  rw [bits_none]; rfl
theorem bD_congr {m : Nat} {p q : BF} (h : ∀ k, k < m → p k = q k) : bD m p = bD m q := by
  unfold bD
  rw [bits_congr h]
theorem bD_funext {m : Nat} {p q : BF} (h : ∀ k, p k = q k) : bD m p = bD m q := bD_congr fun k _ => h k
theorem allF_nil (fs : List BF) (k : Nat) : allF fs [] k = true := rfl
theorem allF_snoc (fs : List BF) (L : List Int) (m : Int) (k : Nat) : allF fs (L ++ [m]) k = (allF fs L k && fsAt fs m k) := by
  unfold allF
  rw [List.all_append]
  simp
end Mi

set_option Elab.async false
set_option linter.all false
set_option maxHeartbeats 1000000
/-! rows by the rows from which they are come to; where a reckoning is standing -/
namespace Mi
/-- [[] for x in xs] -/
theorem lc_fresh_go {hs : List (Nat × List D)} {g : GM} {t : TM} {e : EM} {fr : Fr} {S1 : Store} (hg : ∀ d S, ∃ fr', g d fr S = .ok fr' S ∧ t fr' S = .ok true S ∧ e fr' S = .ok (.ref S.length) (S ++ [.lst []])) (h : ∀ p, p ∈ hs → lstOf S1 p.1 = some p.2) :
    ∀ (items : List D) (j : Nat), j + items.length ≤ LINE →
    lcLoop hs S1.length g t e fr items (S1 ++ .lst ((List.range j).map fun i => .ref (S1.length + 1 + i)) :: List.replicate j (.lst [])) = .ok (.ref S1.length) (S1 ++ .lst ((List.range (j + items.length)).map fun i => .ref (S1.length + 1 + i)) :: List.replicate (j + items.length) (.lst [])) := by
  have stand : ∀ G, stands hs (S1 ++ G) := fun G p hp => by
    have q := h p hp
    unfold lstOf at q ⊢
    cases hh : S1[p.1]? with
    | none => rw [hh] at q; cases q
    | some o => rw [app_get hh]; rw [hh] at q; exact q
  intro items
  induction items with
  | nil => intro j _; rw [lcLoop, dec_true (stand _)]; rfl
  | cons d ds ih =>
    intro j hj
    rw [List.length_cons] at hj
    obtain ⟨fr', e1, e2, e3⟩ := hg d (S1 ++ .lst ((List.range j).map fun i => .ref (S1.length + 1 + i)) :: List.replicate j (.lst []))
    rw [lcLoop, dec_true (stand _)]
    simp only [if_true, e1, bind_ok, e2, e3]
    have gl : (S1 ++ .lst ((List.range j).map fun i => D.ref (S1.length + 1 + i)) :: List.replicate j (O.lst []) ++ [.lst []])[S1.length]? = some (.lst ((List.range j).map fun i => D.ref (S1.length + 1 + i))) := by
      rw [List.append_assoc, List.cons_append]; exact app_new _ _ _
    rw [gl]
    dsimp only
    have hl : ((List.range j).map fun i => D.ref (S1.length + 1 + i)).length < LINE := by rw [List.length_map, List.length_range]; omega
    rw [if_pos hl]
    have len : (S1 ++ .lst ((List.range j).map fun i => D.ref (S1.length + 1 + i)) :: List.replicate j (O.lst [])).length = S1.length + 1 + j := by
      rw [List.length_append, List.length_cons, List.length_replicate]; omega
    have st : (S1 ++ O.lst ((List.range j).map fun i => D.ref (S1.length + 1 + i)) :: List.replicate j (O.lst []) ++ [O.lst []]).set S1.length (O.lst ((List.range j).map (fun i => D.ref (S1.length + 1 + i)) ++ [D.ref (S1 ++ O.lst ((List.range j).map fun i => D.ref (S1.length + 1 + i)) :: List.replicate j (O.lst [])).length])) = S1 ++ O.lst ((List.range (j + 1)).map fun i => D.ref (S1.length + 1 + i)) :: List.replicate (j + 1) (O.lst []) := by
      rw [len, List.append_assoc, List.cons_append, set_at, List.range_succ, List.map_append, List.replicate_succ']
      rfl
    rw [st, ih (j + 1) (by omega), List.length_cons, show j + 1 + ds.length = j + (ds.length + 1) by omega]
theorem lc_fresh {vs : List Nat} {g : GM} {e : EM} {fr : Fr} {l : List D} {hs : List (Nat × List D)} {S : Store} (hg : ∀ d S, ∃ fr', g d (unset vs fr) S = .ok fr' S ∧ e fr' S = .ok (.ref S.length) (S ++ [.lst []])) (h : ∀ p, p ∈ hs → lstOf S p.1 = some p.2) (hl : l.length ≤ LINE) :
    lcK vs g tYes e fr (.ok ⟨l, hs⟩ S) = .ok (.ref S.length) (S ++ .lst ((List.range l.length).map fun i => .ref (S.length + 1 + i)) :: List.replicate l.length (.lst [])) := by
  have q := lc_fresh_go (g := g) (t := fun fr S => quiet (tYes fr S)) (e := fun fr S => quiet (e fr S)) (fr := unset vs fr) (hs := hs) (S1 := S) (fun d S' => by
    obtain ⟨fr', e1, e2⟩ := hg d S'
    exact ⟨fr', e1, rfl, by rw [e2]; rfl⟩) h l 0 (by omega)
  rw [Nat.zero_add] at q
  exact q
/-- lists within a list -/
structure Cm (S : Store) (A : Nat) (n : Nat) (L : Nat → List Int) : Prop where
  a : S[A]? = some (.lst ((List.range n).map fun i => .ref (A + 1 + i)))
  at_ : ∀ i, i < n → S[A + 1 + i]? = some (.lst ((L i).map .int))
theorem Cm.mono {S S' : Store} {A n : Nat} {L : Nat → List Int} (c : Cm S A n L) (p : Pre S S') : Cm S' A n L := ⟨p.get c.a, fun i hi => p.get (c.at_ i hi)⟩
theorem Cm.ix {S : Store} {A n : Nat} {L : Nat → List Int} (c : Cm S A n L) {i : Nat} (hi : i < n) : atI ((List.range n).map fun i => D.ref (A + 1 + i)) (i : Int) = some (.ref (A + 1 + i)) := at_of (by rw [List.getElem?_map, List.getElem?_range hi]; rfl)
theorem Cm.start {S : Store} {n : Nat} : Cm (S ++ .lst ((List.range n).map fun i => .ref (S.length + 1 + i)) :: List.replicate n (.lst [])) S.length n fun _ => [] := by
  refine ⟨app_new _ _ _, fun i hi => ?_⟩
  rw [List.getElem?_append_right (by omega), show S.length + 1 + i - S.length = i + 1 by omega, List.getElem?_cons_succ, List.getElem?_replicate, if_pos hi]
  rfl
theorem Cm.put {S : Store} {A n : Nat} {L : Nat → List Int} (c : Cm S A n L) {i : Nat} (hi : i < n) (x : Int) : Cm (S.set (A + 1 + i) (.lst ((L i ++ [x]).map .int))) A n fun j => if j = i then L j ++ [x] else L j := by
  refine ⟨by rw [set_ne (by omega)]; exact c.a, fun j hj => ?_⟩
  by_cases h : j = i
  · subst h
    rw [if_pos rfl]
    exact set_get (c.at_ j hj)
  · rw [if_neg h, set_ne (by omega)]
    exact c.at_ j hj
/-- the rows from which row m is come to, by places -/
def cameL (L : List (Int × Int)) (m : Nat) : List Int := (L.filter fun p => decide (p.1 ≠ -1 ∧ p.2 = (m : Int))).map (·.1)
theorem cameL_snoc (L : List (Int × Int)) (p : Int × Int) (m : Nat) : cameL (L ++ [p]) m = if p.1 ≠ -1 ∧ p.2 = (m : Int) then cameL L m ++ [p.1] else cameL L m := by
  unfold cameL
  rw [List.filter_append]
  split
  · rename_i h; simp [h]
  · rename_i h
    have : ([p].filter fun p => decide (p.1 ≠ -1 ∧ p.2 = (m : Int))) = [] := by
      rw [List.filter_cons_of_neg (by simpa using h)]; rfl
    rw [this, List.append_nil]
def cameR (rows : List Row) (m : Nat) : List Int := cameL (plc rows) m
theorem cameR_mem {rows : List Row} {m : Nat} {n : Int} : n ∈ cameR rows m ↔ ∃ (i : Nat) (r : Row), rows[i]? = some r ∧ n = (i : Int) ∧ (m : Int) ∈ fol i r := by
  unfold cameR cameL
  simp only [List.mem_map, List.mem_filter, decide_eq_true_eq]
  constructor
  · rintro ⟨⟨a, b⟩, ⟨h1, h2, h3⟩, rfl⟩
    have h2 : a ≠ -1 := h2
    have h3 : b = (m : Int) := h3
    subst h3
    rcases plc_mem.mp h1 with ⟨z, _⟩ | ⟨i, r, e, h4, h5⟩
    · exact absurd z h2
    · exact ⟨i, r, e, h4, h5⟩
  · rintro ⟨i, r, e, rfl, h⟩
    exact ⟨((i : Int), (m : Int)), ⟨plc_mem.mpr (.inr ⟨i, r, e, rfl, h⟩), by show ((i : Int)) ≠ -1; omega, rfl⟩, rfl⟩
theorem cameL_len (L : List (Int × Int)) (m : Nat) : (cameL L m).length ≤ L.length := by
  unfold cameL
  rw [List.length_map]
  exact List.length_filter_le _ _
theorem cameR_len (rows : List Row) (m : Nat) : (cameR rows m).length ≤ 2 * rows.length + 1 := Nat.le_trans (cameL_len _ _) (plc_len rows)
/-- the bits standing behind a row -/
noncomputable def standP (rows : List Row) (n : Nat) : BF := fun k => match (recs rows)[k]? with
  | some x => !dec (Mst rows x n)
  | none => false
noncomputable def gStd (rows : List Row) (fs : List BF) (n : Nat) : BF := fun k => match rows[n]? with
  | some r => (ownF rows r k || (decide (n ≠ 0) && allF fs (cameR rows n) k)) && (true ^^ lostF rows r k)
  | none => false
noncomputable def ruleS (rows : List Row) : Rule rows where
  g := gStd rows
  mono := fun fs fs' n k h a => by
    unfold gStd at a ⊢
    split at a
    · rename_i r e
      simp only [Bool.or_eq_true, Bool.and_eq_true] at a ⊢
      obtain ⟨a, a3⟩ := a
      refine ⟨?_, a3⟩
      rcases a with a | ⟨a1, a2⟩
      · exact .inl a
      · exact .inr ⟨a1, allF_mono h a2⟩
    · cases a
theorem std_up {rows : List Row} {fs : List BF} (d : Down (ruleS rows) (recs rows).length (fun n k => standP rows n k = true) fs) {n : Nat} (hn : n < rows.length) : ∀ k, k < (recs rows).length → standP rows n k = true → (ruleS rows).g fs n k = true := by
  intro k hk w
  obtain ⟨x, hx⟩ : ∃ x, (recs rows)[k]? = some x := ⟨_, List.getElem?_eq_getElem hk⟩
  obtain ⟨r, hr⟩ : ∃ r, rows[n]? = some r := ⟨_, List.getElem?_eq_getElem hn⟩
  have wx : ∀ j, standP rows j k = !dec (Mst rows x j) := fun j => by unfold standP; rw [hx]
  rw [wx] at w
  have nm : ¬ Mst rows x n := fun z => by rw [dec_true z] at w; cases w
  show gStd rows fs n k = true
  unfold gStd
  rw [hr]
  simp only [Bool.or_eq_true, Bool.and_eq_true]
  refine ⟨?_, ?_⟩
  · by_cases ho : r.rkg = some x
    · exact .inl (by unfold ownF; exact dec_true ⟨by rw [ho]; simp, by rw [ho, hx]⟩)
    · right
      refine ⟨decide_eq_true fun z => nm (by subst z; exact .zero hr ho), ?_⟩
      unfold allF
      rw [List.all_eq_true]
      intro m hm
      obtain ⟨j, q, hq, rfl, hf⟩ := cameR_mem.mp hm
      refine d.up j k (List.getElem?_eq_some_iff.mp hq).1 hk ?_
      rw [wx, dec_false fun z => nm (.step hr ho hq hf z)]
      rfl
  · unfold lostF
    rw [hx]
    dsimp only
    cases hc : chg r x with
    | false => rfl
    | true => exact absurd (.out hr hc) nm
theorem std_fix {rows : List Row} {fs : List BF} (hf : ∀ n k, n < rows.length → k < (recs rows).length → gStd rows fs n k = fsAt fs (n : Int) k) {k : Nat} {x : List Ky} (hx : (recs rows)[k]? = some x) {n : Nat} (m : Mst rows x n) : fsAt fs (n : Int) k = false := by
  have hk := (List.getElem?_eq_some_iff.mp hx).1
  have own : ∀ r : Row, r.rkg ≠ some x → ownF rows r k = false := fun r h => by
    unfold ownF
    exact dec_false fun z => h (by rw [z.2, hx])
  induction m with
  | @out n r hr h =>
    have hn := (List.getElem?_eq_some_iff.mp hr).1
    rw [← hf n k hn hk]
    unfold gStd
    rw [hr]
    dsimp only
    have : lostF rows r k = true := by unfold lostF; rw [hx]; exact h
    rw [this]; simp
  | @zero r hr ho =>
    have hn := (List.getElem?_eq_some_iff.mp hr).1
    rw [← hf 0 k hn hk]
    unfold gStd
    rw [hr]
    dsimp only
    rw [own r ho]; simp
  | @step n j r q hr ho hq hj _ ih =>
    have hn := (List.getElem?_eq_some_iff.mp hr).1
    rw [← hf n k hn hk]
    unfold gStd
    rw [hr]
    dsimp only
    rw [own r ho, Bool.false_or]
    have : allF fs (cameR rows n) k = false := by
      unfold allF
      rw [List.all_eq_false]
      exact ⟨(j : Int), cameR_mem.mpr ⟨j, q, hq, rfl, hj⟩, by rw [ih]; simp⟩
    rw [this]; simp
theorem dPut_put {κ α : Type} [DecidableEq κ] (l : List (κ × α)) (k : κ) (v w : α) : dPut (dPut l k v) k w = dPut l k w := by
  unfold dPut
  by_cases h : (l.any fun kv => decide (kv.1 = k)) = true
  · have h2 : ((l.map fun kv => if kv.1 = k then (kv.1, v) else kv).any fun kv => decide (kv.1 = k)) = true := by
      rw [List.any_eq_true] at h ⊢
      obtain ⟨p, hp, e⟩ := h
      refine ⟨_, List.mem_map.mpr ⟨p, hp, rfl⟩, ?_⟩
      have e : p.1 = k := of_decide_eq_true e
      rw [if_pos e]
      exact decide_eq_true e
    rw [if_pos h, if_pos h2, if_pos h, List.map_map]
    apply List.map_congr_left
    intro p _
    simp only [Function.comp]
    by_cases e : p.1 = k
    · rw [if_pos e, if_pos e, if_pos e]
    · rw [if_neg e, if_neg e]
  · rw [if_neg h, if_neg h]
    have h2 : ((l ++ [(k, v)]).any fun kv => decide (kv.1 = k)) = true := by simp
    rw [if_pos h2, List.map_append]
    congr 1
    · have : ∀ p ∈ l, (if p.1 = k then (p.1, w) else p) = p := fun p hp => if_neg fun z => h (List.any_eq_true.mpr ⟨p, hp, decide_eq_true z⟩)
      rw [List.map_congr_left this, List.map_id']
    · simp
end Mi

set_option Elab.async false
set_option linter.all false
set_option maxHeartbeats 1000000
/-! first places -/
namespace Mi
theorem bits_sub_add (p q : BF) : ∀ m, bitsOf (fun k => p k && !q k) m + bitsOf (fun k => p k && q k) m = bitsOf p m
  | 0 => rfl
  | m + 1 => by
    have ih := bits_sub_add p q m
    unfold bitsOf
    cases hp : p m <;> cases hq : q m <;> simp [hp, hq] <;> omega
theorem bD_sub (m : Nat) (p q : BF) (S : Store) : oSub (bD m p) (bD m fun k => p k && q k) S = .ok (bD m fun k => p k && !q k) S := by
  unfold bD
  rw [oSub_i]
  have := bits_sub_add p q m
  congr 2
  omega
/-- x >> k, as it stands -/
def shD (m : Nat) (p : BF) (k : Nat) : D := .int ((bitsOf p m / 2 ^ k : Nat) : Int)
theorem bD_shr (m : Nat) (p : BF) (k : Nat) (S : Store) : oShr (bD m p) (.int (k : Int)) S = .ok (shD m p k) S := shr_bit p m k S
theorem shD_and (m : Nat) (p : BF) (k : Nat) (hk : k < m) (S : Store) : oAnd (shD m p k) (.int 1) S = .ok (.int (if p k = true then 1 else 0)) S := by
  unfold shD
  rw [and_one, bits_shr]
  simp only [hk, decide_true, Bool.true_and]
  cases p k <;> rfl
/-- whether row n keeps it from going further ahead -/
noncomputable def backP (rows : List Row) (n : Nat) : BF := fun k => match rows[n]? with
  | some r => lostF rows r k || ((true ^^ ownF rows r k) && (true ^^ (fol n r).all fun m => wantP rows m.toNat k))
  | none => false
noncomputable def stdB (rows : List Row) (p : Int × Int) : BF := if p.1 = -1 then fun _ => false else standP rows p.1.toNat
noncomputable def firstB (rows : List Row) (p : Int × Int) : BF := fun k => (wantP rows p.2.toNat k && !stdB rows p k) && (decide (p.1 = -1) || backP rows p.1.toNat k)
end Mi

set_option Elab.async false
set_option linter.all false
set_option maxHeartbeats 1000000
/-! rows put off: the greatest sets that fit -/
namespace Mi
/-- lists of any things within a list -/
structure CmD (S : Store) (A : Nat) (n : Nat) (L : Nat → List D) : Prop where
  a : S[A]? = some (.lst ((List.range n).map fun i => .ref (A + 1 + i)))
  at_ : ∀ i, i < n → S[A + 1 + i]? = some (.lst (L i))
theorem CmD.mono {S S' : Store} {A n : Nat} {L : Nat → List D} (c : CmD S A n L) (p : Pre S S') : CmD S' A n L := ⟨p.get c.a, fun i hi => p.get (c.at_ i hi)⟩
theorem CmD.ix {S : Store} {A n : Nat} {L : Nat → List D} (c : CmD S A n L) {i : Nat} (hi : i < n) : atI ((List.range n).map fun i => D.ref (A + 1 + i)) (i : Int) = some (.ref (A + 1 + i)) := at_of (by rw [List.getElem?_map, List.getElem?_range hi]; rfl)
theorem CmD.start {S : Store} {n : Nat} : CmD (S ++ .lst ((List.range n).map fun i => .ref (S.length + 1 + i)) :: List.replicate n (.lst [])) S.length n fun _ => [] := by
  refine ⟨app_new _ _ _, fun i hi => ?_⟩
  rw [List.getElem?_append_right (by omega), show S.length + 1 + i - S.length = i + 1 by omega, List.getElem?_cons_succ, List.getElem?_replicate, if_pos hi]
theorem CmD.put {S : Store} {A n : Nat} {L : Nat → List D} (c : CmD S A n L) {i : Nat} (hi : i < n) (x : D) : CmD (S.set (A + 1 + i) (.lst (L i ++ [x]))) A n fun j => if j = i then L j ++ [x] else L j := by
  refine ⟨by rw [set_ne (by omega)]; exact c.a, fun j hj => ?_⟩
  by_cases h : j = i
  · subst h
    rw [if_pos rfl]
    exact set_get (c.at_ j hj)
  · rw [if_neg h, set_ne (by omega)]
    exact c.at_ j hj
/-- places that lead to a row -/
def ledL (L : List (Int × Int)) (m : Nat) : List (Int × Int) := L.filter fun p => decide (p.2 = (m : Int))
theorem ledL_snoc (L : List (Int × Int)) (p : Int × Int) (m : Nat) : ledL (L ++ [p]) m = if p.2 = (m : Int) then ledL L m ++ [p] else ledL L m := by
  unfold ledL
  rw [List.filter_append]
  by_cases h : p.2 = (m : Int)
  · simp [h]
  · simp [h]
theorem ledL_len (L : List (Int × Int)) (m : Nat) : (ledL L m).length ≤ L.length := List.length_filter_le _ _
theorem ledL_mem {L : List (Int × Int)} {p : Int × Int} {m : Nat} : p ∈ ledL L m ↔ p ∈ L ∧ p.2 = (m : Int) := by
  unfold ledL
  rw [List.mem_filter, decide_eq_true_eq]
section
variable {bg st : Int × Int → Bool} {ow : Nat → Bool} {L : List (Int × Int)}
/-- whether it comes put off to a place -/
def comesF (bg : Int × Int → Bool) (ow : Nat → Bool) (F : BF) (p : Int × Int) : Bool := bg p || (decide (p.1 ≠ -1) && (F p.1.toNat && !ow p.1.toNat))
theorem comesF_mono {F G : BF} (h : ∀ m, F m = true → G m = true) {p : Int × Int} (c : comesF bg ow F p = true) : comesF bg ow G p = true := by
  unfold comesF at c ⊢
  rw [Bool.or_eq_true] at c ⊢
  rcases c with c | c
  · exact .inl c
  · rw [Bool.and_eq_true, Bool.and_eq_true] at c ⊢
    exact .inr ⟨c.1, h _ c.2.1, c.2.2⟩
def goodF (bg st : Int × Int → Bool) (ow : Nat → Bool) (L : List (Int × Int)) (F : BF) : Prop := ∀ p ∈ L, F p.2.toNat = true → st p = false ∧ comesF bg ow F p = true
noncomputable def offF (bg st : Int × Int → Bool) (ow : Nat → Bool) (L : List (Int × Int)) : BF := fun m => dec (∃ G, goodF bg st ow L G ∧ G m = true)
theorem offF_max {G : BF} (g : goodF bg st ow L G) {m : Nat} (h : G m = true) : offF bg st ow L m = true := dec_true ⟨G, g, h⟩
theorem offF_good : goodF bg st ow L (offF bg st ow L) := fun p hp h => by
  obtain ⟨G, g, hg⟩ := of_dec h
  obtain ⟨a, b⟩ := g p hp hg
  exact ⟨a, comesF_mono (fun m hm => offF_max g hm) b⟩
def clr (F : BF) (j : Nat) : BF := fun m => if m = j then false else F m
/-- rows on their way down -/
structure OffI (bg st : Int × Int → Bool) (ow : Nat → Bool) (L : List (Int × Int)) (n : Nat) (F0 F : BF) (b : Bool) (Dn : Int × Int → Prop) : Prop where
  up : ∀ m, offF bg st ow L m = true → F m = true
  le : bitsOf F n ≤ bitsOf F0 n
  lt : b = true → bitsOf F n < bitsOf F0 n
  eq : b = false → F = F0 ∧ ∀ p, Dn p → F p.2.toNat = true → st p = false ∧ comesF bg ow F p = true
theorem OffI.start {n : Nat} {F : BF} (up : ∀ m, offF bg st ow L m = true → F m = true) {Dn : Int × Int → Prop} (h : ∀ p, ¬ Dn p) : OffI bg st ow L n F F false Dn := ⟨up, Nat.le_refl _, (fun h => by cases h), fun _ => ⟨rfl, fun p hp => absurd hp (h p)⟩⟩
theorem OffI.of {n : Nat} {F0 F : BF} {b : Bool} {Dn Dn' : Int × Int → Prop} (h : OffI bg st ow L n F0 F b Dn) (hd : ∀ p, Dn' p → Dn p) : OffI bg st ow L n F0 F b Dn' := ⟨h.up, h.le, h.lt, fun hb => ⟨(h.eq hb).1, fun p hp => (h.eq hb).2 p (hd p hp)⟩⟩
theorem OffI.keep {n : Nat} {F0 F : BF} {b : Bool} {Dn Dn' : Int × Int → Prop} (h : OffI bg st ow L n F0 F b Dn) {p : Int × Int} (c : (F p.2.toNat && (st p || !comesF bg ow F p)) = false) (hd : ∀ q, Dn' q → Dn q ∨ q = p) : OffI bg st ow L n F0 F b Dn' :=
  ⟨h.up, h.le, h.lt, fun hb => ⟨(h.eq hb).1, fun q hq hf => by
    rcases hd q hq with z | z
    · exact (h.eq hb).2 q z hf
    · subst z
      rw [hf, Bool.true_and, Bool.or_eq_false_iff] at c
      exact ⟨c.1, by simpa using c.2⟩⟩⟩
theorem clr_lt {F : BF} {j n : Nat} (hj : j < n) (h : F j = true) : bitsOf (clr F j) n < bitsOf F n := bit_lt (fun k _ e => by
    unfold clr at e
    split at e
    · cases e
    · exact e) fun e => by
    have := bits_inj e j hj
    unfold clr at this
    rw [if_pos rfl, h] at this
    cases this
theorem OffI.cut {n : Nat} {F0 F : BF} {b : Bool} {Dn Dn' : Int × Int → Prop} (h : OffI bg st ow L n F0 F b Dn) {p : Int × Int} (hp : p ∈ L) (hn : p.2.toNat < n) (c : (F p.2.toNat && (st p || !comesF bg ow F p)) = true) : OffI bg st ow L n F0 (clr F p.2.toNat) true Dn' := by
  rw [Bool.and_eq_true] at c
  have lt := clr_lt hn c.1
  refine ⟨fun m hm => ?_, Nat.le_trans (Nat.le_of_lt lt) h.le, fun _ => Nat.lt_of_lt_of_le lt h.le, (fun h => by cases h)⟩
  unfold clr
  by_cases e : m = p.2.toNat
  · subst e
    obtain ⟨a, z⟩ := offF_good p hp hm
    rw [a, comesF_mono h.up z] at c
    exact absurd c.2 (by simp)
  · rw [if_neg e]
    exact h.up m hm
theorem OffI.done {n : Nat} {F0 F : BF} {Dn : Int × Int → Prop} (h : OffI bg st ow L n F0 F false Dn) (hd : ∀ p ∈ L, Dn p) : F = offF bg st ow L := by
  have g : goodF bg st ow L F := fun p hp hf => (h.eq rfl).2 p (hd p hp) hf
  funext m
  cases h1 : F m with
  | true => rw [offF_max g h1]
  | false =>
    cases h2 : offF bg st ow L m with
    | false => rfl
    | true => rw [h.up m h2] at h1; cases h1
end
theorem off_congr {bg bg' st st' : Int × Int → Bool} {ow ow' : Nat → Bool} {L : List (Int × Int)} (h1 : ∀ p ∈ L, bg p = bg' p) (h2 : ∀ p ∈ L, st p = st' p) (h3 : ∀ p ∈ L, p.1 ≠ -1 → ow p.1.toNat = ow' p.1.toNat) : offF bg st ow L = offF bg' st' ow' L := by
  have e : ∀ F p, p ∈ L → comesF bg ow F p = comesF bg' ow' F p := fun F p hp => by
    unfold comesF
    rw [h1 p hp]
    by_cases c : p.1 = -1
    · simp [c]
    · rw [h3 p hp c]
  have g : goodF bg st ow L = goodF bg' st' ow' L := by
    funext F
    refine propext ⟨fun h p hp hf => ?_, fun h p hp hf => ?_⟩
    · have := h p hp hf
      rw [← h2 p hp, ← e F p hp]; exact this
    · have := h p hp hf
      rw [h2 p hp, e F p hp]; exact this
  unfold offF
  rw [g]
/-! ### a tuple of two lists, compared -/
theorem look_of {S : Store} {n : Nat} {l : List D} {r : List PySem.PyData} (h : lstOf S n = some l) (e : toPs (lookP 7 S) l = some r) : lookP 8 S n = some (.list r) := by
  unfold lookP
  unfold lstOf at h
  cases hn : S[n]? with
  | none => rw [hn] at h; cases h
  | some o =>
    rw [hn] at h
    cases o with
    | lst l => dsimp only at h ⊢; obtain rfl := Option.some.inj h; rw [e]; rfl
    | fls l => dsimp only at h ⊢; obtain rfl := Option.some.inj h; rw [e]; rfl
    | _ => cases h
theorem eq_two {S : Store} {a b a' b' : Nat} {A : List (List Ky)} {B : List Ky} (ha : lstOf S a = some (A.map kt)) (hb : lstOf S b = some (B.map kyD)) (ha' : lstOf S a' = some (A.map kt)) (hb' : lstOf S b' = some (B.map kyD)) (hA : A.all (fun l => l.all kOk) = true) (hB : B.all kOk = true) :
    pyEq (.tup [.ref a, .ref b]) (.tup [.ref a', .ref b']) S = some true := by
  have l1 := look_of ha (toPs_kt _ A)
  have l2 := look_of hb (toPs_k _ B)
  have l3 := look_of ha' (toPs_kt _ A)
  have l4 := look_of hb' (toPs_k _ B)
  have sh : shp (.tuple [.list (A.map fun l => .tuple (l.map kp)), .list (B.map kp)]) = true := by
    unfold shp PySem.SeqAt.shaped
    have d1 := dep_kts A
    have d2 := dep_ks B
    simp only [PySem.PyData.canLay0, PySem.PyData.canLayAll0, PySem.PyData.depth, PySem.PyData.depthAll, lay_kts hA, lay_ks hB, Bool.true_and, Bool.and_self]
    refine decide_eq_true ?_
    simp only [Nat.max_def]
    split <;> split <;> omega
  unfold pyEq
  have e : scq (.tup [.ref a, .ref b]) (.tup [.ref a', .ref b']) = none := rfl
  rw [e]
  simp only [pd, toP, toPs, l1, l2, l3, l4, Option.bind_some, Option.map_some, sh, and_self, if_true]
  unfold PySem.PyData.eqv PySem.PyData.eqvAll PySem.PyData.eqvAll PySem.PyData.eqvAll PySem.PyData.eqv
  rw [eqv_kts, eqv_ks]
  simp
end Mi

set_option Elab.async false
set_option linter.all false
set_option maxHeartbeats 1000000
/-! where a row is come to that asks -/
namespace Mi
inductive RdI (rd dd : Nat → Bool) (nx : Nat → List Int) : Nat → Prop
  | read {n : Nat} (h : rd n = true) : RdI rd dd nx n
  | step {n m : Nat} (h : dd n = false) (hm : (m : Int) ∈ nx n) (r : RdI rd dd nx m) : RdI rd dd nx n
noncomputable def rdF (rd dd : Nat → Bool) (nx : Nat → List Int) : BF := fun m => dec (RdI rd dd nx m)
def setT (F : BF) (j : Nat) : BF := fun m => if m = j then true else F m
section
variable {rd dd : Nat → Bool} {nx : Nat → List Int}
/-- rows on their way up -/
structure AskI (rd dd : Nat → Bool) (nx : Nat → List Int) (n : Nat) (F0 F : BF) (b : Bool) (Dn : Nat → Int → Prop) : Prop where
  sd : ∀ m, F m = true → RdI rd dd nx m
  base : ∀ m, rd m = true → F m = true
  le : bitsOf (fun i => !F i) n ≤ bitsOf (fun i => !F0 i) n
  lt : b = true → bitsOf (fun i => !F i) n < bitsOf (fun i => !F0 i) n
  eq : b = false → F = F0 ∧ ∀ (i m : Nat), Dn i (m : Int) → dd i = false → (m : Int) ∈ nx i → F m = true → F i = true
theorem AskI.start {n : Nat} {F : BF} (sd : ∀ m, F m = true → RdI rd dd nx m) (base : ∀ m, rd m = true → F m = true) {Dn : Nat → Int → Prop} (h : ∀ i j, ¬ Dn i j) : AskI rd dd nx n F F false Dn := ⟨sd, base, Nat.le_refl _, (fun h => by cases h), fun _ => ⟨rfl, fun i m hd => absurd hd (h i m)⟩⟩
theorem AskI.of {n : Nat} {F0 F : BF} {b : Bool} {Dn Dn' : Nat → Int → Prop} (h : AskI rd dd nx n F0 F b Dn) (hd : ∀ (i m : Nat), Dn' i m → Dn i m ∨ dd i = true ∨ (m : Int) ∉ nx i ∨ F m = false ∨ F i = true) : AskI rd dd nx n F0 F b Dn' := ⟨h.sd, h.base, h.le, h.lt, fun hb => ⟨(h.eq hb).1, fun i m hm h1 h2 h3 => by
  rcases hd i m hm with z | z | z | z | z
  · exact (h.eq hb).2 i m z h1 h2 h3
  · rw [h1] at z; cases z
  · exact absurd h2 z
  · rw [h3] at z; cases z
  · exact z⟩⟩
theorem AskI.put {n : Nat} {F0 F : BF} {b : Bool} {Dn Dn' : Nat → Int → Prop} (h : AskI rd dd nx n F0 F b Dn) {i m : Nat} (hi : i < n) (h1 : dd i = false) (h2 : (m : Int) ∈ nx i) (h3 : F m = true) (h4 : F i = false) : AskI rd dd nx n F0 (setT F i) true Dn' := by
  have lt : bitsOf (fun j => !setT F i j) n < bitsOf (fun j => !F j) n := bit_lt (fun k _ e => by
    unfold setT at e
    split at e
    · cases e
    · exact e) fun e => by
    have := bits_inj e i hi
    unfold setT at this
    rw [if_pos rfl, h4] at this
    cases this
  refine ⟨fun k hk => ?_, fun k hk => ?_, Nat.le_trans (Nat.le_of_lt lt) h.le, fun _ => Nat.lt_of_lt_of_le lt h.le, (fun h => by cases h)⟩
  · unfold setT at hk
    split at hk
    · rename_i e
      subst e
      exact .step h1 h2 (h.sd m h3)
    · exact h.sd k hk
  · unfold setT
    split
    · rfl
    · exact h.base k hk
theorem AskI.done {n : Nat} {F0 F : BF} {Dn : Nat → Int → Prop} (h : AskI rd dd nx n F0 F false Dn) (hd : ∀ (i m : Nat), i < n → (m : Int) ∈ nx i → Dn i m) (hx : ∀ (i m : Nat), (m : Int) ∈ nx i → m < n) : ∀ m, m < n → F m = rdF rd dd nx m := by
  have up : ∀ m, RdI rd dd nx m → m < n → F m = true := by
    intro m r
    induction r with
    | read z => intro _; exact h.base _ z
    | @step i j z hm r ih =>
      intro hi
      exact (h.eq rfl).2 i j (hd i j hi hm) z hm (ih (hx i j hm))
  intro m hm
  unfold rdF
  by_cases r : RdI rd dd nx m
  · rw [dec_true r, up m r hm]
  · rw [dec_false r]
    cases hf : F m with
    | false => rfl
    | true => exact absurd (h.sd m hf) r
end
/-- what a search on keeps -/
structure Sea (rows : List Row) (rd dd : Nat → Bool) (nx : Nat → List Int) (m0 : Nat) (ks left : List Int) : Prop where
  kss : Ks rows ks
  rg : ∀ y ∈ left, (0 : Int) ≤ y ∧ y < (rows.length : Int)
  sound : ∀ n : Nat, (n : Int) ∈ left → RdI rd dd nx n → RdI rd dd nx m0
  quiet : ∀ n : Nat, (n : Int) ∈ ks → rd n = false ∧ ∀ j : Nat, (j : Int) ∈ nx n → (j : Int) ∈ ks ∨ (j : Int) ∈ left ∨ (rd j = false ∧ dd j = true)
  start : (m0 : Int) ∈ ks ∨ (m0 : Int) ∈ left ∨ (rd m0 = false ∧ dd m0 = true)
theorem rdI_dead {rd dd : Nat → Bool} {nx : Nat → List Int} {n : Nat} (h1 : rd n = false) (h2 : dd n = true) : ¬ RdI rd dd nx n := by
  intro r
  cases r with
  | read h => rw [h1] at h; cases h
  | step h _ _ => rw [h2] at h; cases h
theorem Sea.done {rows : List Row} {rd dd : Nat → Bool} {nx : Nat → List Int} {m0 : Nat} {ks : List Int} (s : Sea rows rd dd nx m0 ks []) : ¬ RdI rd dd nx m0 := by
  have no : ∀ n, RdI rd dd nx n → (n : Int) ∉ ks := by
    intro n r
    induction r with
    | @read n h =>
      intro z
      rw [(s.quiet n z).1] at h; cases h
    | @step n m h hm r ih =>
      intro z
      rcases (s.quiet n z).2 m hm with y | y | ⟨y, w⟩
      · exact ih y
      · cases y
      · exact rdI_dead y w r
  intro r
  rcases s.start with h | h | ⟨y, w⟩
  · exact no _ r h
  · cases h
  · exact rdI_dead y w r
theorem Sea.init {rows : List Row} {rd dd : Nat → Bool} {nx : Nat → List Int} {m0 : Nat} (h : m0 < rows.length) : Sea rows rd dd nx m0 [] [(m0 : Int)] := ⟨⟨by simp, by simp⟩, fun y hy => by simp at hy; omega, fun n hn m => (by
  have : n = m0 := by simp at hn; omega
  exact this ▸ m), fun n hn => (by cases hn), .inr (.inl (by simp))⟩
/-- one that is seen or dead is left out -/
theorem Sea.skip {rows : List Row} {rd dd : Nat → Bool} {nx : Nat → List Int} {m0 : Nat} {ks q : List Int} {n : Nat} (s : Sea rows rd dd nx m0 ks (q ++ [(n : Int)])) (h : (n : Int) ∈ ks ∨ (rd n = false ∧ dd n = true)) : Sea rows rd dd nx m0 ks q := by
  have f : ∀ j : Nat, (j : Int) ∈ q ++ [(n : Int)] → (j : Int) ∈ ks ∨ (j : Int) ∈ q ∨ (rd j = false ∧ dd j = true) := fun j hj => by
    rcases List.mem_append.mp hj with z | z
    · exact .inr (.inl z)
    · have : j = n := by have := List.mem_singleton.mp z; omega
      subst this
      rcases h with h | h
      · exact .inl h
      · exact .inr (.inr h)
  refine ⟨s.kss, fun y hy => s.rg y (by simp [hy]), fun j hj => s.sound j (by simp [hj]), fun j hj => ⟨(s.quiet j hj).1, fun i hi => ?_⟩, ?_⟩
  · rcases (s.quiet j hj).2 i hi with z | z | z
    · exact .inl z
    · exact f i z
    · exact .inr (.inr z)
  · rcases s.start with z | z | z
    · exact .inl z
    · exact f m0 z
    · exact .inr (.inr z)
theorem Sea.go {rows : List Row} {rd dd : Nat → Bool} {nx : Nat → List Int} {m0 : Nat} {ks q : List Int} {n : Nat} (s : Sea rows rd dd nx m0 ks (q ++ [(n : Int)])) (hn : (n : Int) ∉ ks) (h1 : rd n = false) (h2 : dd n = false) (hx : ∀ y ∈ nx n, (0 : Int) ≤ y ∧ y < (rows.length : Int)) : Sea rows rd dd nx m0 (ks ++ [(n : Int)]) (q ++ nx n) := by
  have hrg := s.rg n (by simp)
  have f : ∀ j : Nat, (j : Int) ∈ q ++ [(n : Int)] → (j : Int) ∈ ks ++ [(n : Int)] ∨ (j : Int) ∈ q ++ nx n ∨ (rd j = false ∧ dd j = true) := fun j hj => by
    rcases List.mem_append.mp hj with z | z
    · exact .inr (.inl (by simp [z]))
    · exact .inl (by rw [List.mem_append]; exact .inr z)
  refine ⟨s.kss.snoc hn hrg, fun y hy => ?_, fun j hj r => ?_, fun j hj => ?_, ?_⟩
  · rcases List.mem_append.mp hy with z | z
    · exact s.rg y (by simp [z])
    · exact hx y z
  · rcases List.mem_append.mp hj with z | z
    · exact s.sound j (by simp [z]) r
    · exact s.sound n (by simp) (.step h2 z r)
  · rcases List.mem_append.mp hj with z | z
    · refine ⟨(s.quiet j z).1, fun i hi => ?_⟩
      rcases (s.quiet j z).2 i hi with y | y | y
      · exact .inl (by simp [y])
      · exact f i y
      · exact .inr (.inr y)
    · have : j = n := by have := List.mem_singleton.mp z; omega
      subst this
      exact ⟨h1, fun i hi => .inr (.inl (by simp [hi]))⟩
  · rcases s.start with z | z | z
    · exact .inl (by simp [z])
    · exact f m0 z
    · exact .inr (.inr z)
/-! ### what rows do, told by pairs -/
def HD (L : List (Nat × Tx)) : List D := L.map fun p => .tup [.int (p.1 : Int), .str p.2]
def TL (L : List (Nat × Tx)) : List (Ky × D) := L.foldl (fun acc p => dPut acc (.inl (p.1 : Int)) (.str p.2)) []
def hwL (L : List (Nat × Tx)) (n : Nat) : Tx := L.foldl (fun acc p => if p.1 = n then p.2 else acc) []
theorem prs_HD (L : List (Nat × Tx)) : prsOf (HD L) = some (L.map fun p => ((Sum.inl (p.1 : Int) : Ky), D.str p.2)) := by
  induction L with
  | nil => rfl
  | cons p r ih =>
    show ((kyOf (.int (p.1 : Int))).bind fun q => (prsOf (HD r)).map fun l => (q, D.str p.2) :: l) = _
    rw [ih]; rfl
theorem bDict_HD (L : List (Nat × Tx)) (S : Store) : bDict [.wtp (HD L)] S = .ok (.ref S.length) (S ++ [.dK (TL L)]) := by
  unfold bDict
  dsimp only
  rw [prs_HD]
  dsimp only
  rw [List.foldl_map]
  rfl
theorem TL_get (L : List (Nat × Tx)) (n : Nat) : (dGet (TL L) (.inl (n : Int))).getD (.str []) = .str (hwL L n) := by
  refine snoc_ind (P := fun L => (dGet (TL L) (.inl (n : Int))).getD (.str []) = .str (hwL L n)) rfl (fun L p ih => ?_) L
  have e1 : TL (L ++ [p]) = dPut (TL L) (.inl (p.1 : Int)) (.str p.2) := by unfold TL; rw [List.foldl_append]; rfl
  have e2 : hwL (L ++ [p]) n = if p.1 = n then p.2 else hwL L n := by unfold hwL; rw [List.foldl_append]; rfl
  rw [e1, e2, dPut_get]
  by_cases h : p.1 = n
  · rw [if_pos (by rw [h]), if_pos h]; rfl
  · rw [if_neg (fun z => h (by injection z with z; omega)), if_neg h]
    exact ih
theorem dGetM_2 {n : Nat} {T : List (Ky × D)} {S : Store} (h : S[n]? = some (.dK T)) (i : Int) (x : D) : dGetM (.ref n) [.int i, x] S = .ok ((dGet T (.inl i)).getD x) S := by
  unfold dGetM dLook
  dsimp only
  rw [h]
  rfl
end Mi

set_option Elab.async false
set_option linter.all false
set_option maxHeartbeats 1000000
/-! how far rows are from an end -/
namespace Mi
def TF (ks : List Int) (G : Nat → Nat) : List (Ky × D) := ks.map fun x => ((Sum.inl x : Ky), D.int ((G x.toNat : Nat) : Int))
def upG (G : Nat → Nat) (n v : Nat) : Nat → Nat := fun i => if i = n then v else G i
theorem TF_get (ks : List Int) (G : Nat → Nat) (n : Nat) : dGet (TF ks G) (.inl (n : Int)) = if (n : Int) ∈ ks then some (.int ((G n : Nat) : Int)) else none := by
  unfold TF dGet
  induction ks with
  | nil => rfl
  | cons x r ih =>
    rw [List.map_cons, List.find?_cons]
    by_cases h : x = (n : Int)
    · subst h
      simp
    · have h1 : decide ((Sum.inl x : Ky) = .inl (n : Int)) = false := decide_eq_false fun e => h (by injection e)
      dsimp only
      rw [h1]
      dsimp only
      rw [ih]
      have h2 : ¬ (n : Int) = x := fun e => h e.symm
      by_cases m : (n : Int) ∈ r
      · rw [if_pos m, if_pos (by simp [m])]
      · rw [if_neg m, if_neg (by simp [m, h2])]
theorem TF_any (ks : List Int) (G : Nat → Nat) (n : Nat) : ((TF ks G).any fun kv => decide (kv.1 = (Sum.inl (n : Int) : Ky))) = decide ((n : Int) ∈ ks) := by
  unfold TF
  rw [List.any_map]
  induction ks with
  | nil => rfl
  | cons x r ih =>
    rw [List.any_cons, ih]
    by_cases h : x = (n : Int)
    · subst h; simp
    · have h2 : ¬ (n : Int) = x := fun e => h e.symm
      simp [h, h2]
theorem TF_old {ks : List Int} {G : Nat → Nat} {n v : Nat} (h : (n : Int) ∈ ks) (hz : ∀ x ∈ ks, (0 : Int) ≤ x) : dPut (TF ks G) (.inl (n : Int)) (.int (v : Int)) = TF ks (upG G n v) := by
  unfold dPut
  rw [TF_any, if_pos (decide_eq_true h)]
  unfold TF
  rw [List.map_map]
  apply List.map_congr_left
  intro x hx
  have := hz x hx
  by_cases e : x = (n : Int)
  · subst e
    simp [upG]
  · have e2 : ¬ x.toNat = n := by omega
    simp [upG, e, e2]
theorem TF_new {ks : List Int} {G : Nat → Nat} {n v : Nat} (h : (n : Int) ∉ ks) (hz : ∀ x ∈ ks, (0 : Int) ≤ x) : dPut (TF ks G) (.inl (n : Int)) (.int (v : Int)) = TF (ks ++ [(n : Int)]) (upG G n v) := by
  unfold dPut
  rw [TF_any, if_neg (by simp [h])]
  unfold TF
  rw [List.map_append]
  congr 1
  · apply List.map_congr_left
    intro x hx
    have := hz x hx
    have e : ¬ x.toNat = n := fun z => h (by rw [show (n : Int) = x by omega]; exact hx)
    simp [upG, e]
  · simp [upG]
theorem TF_len (ks : List Int) (G : Nat → Nat) : (TF ks G).length = ks.length := by unfold TF; rw [List.length_map]
/-! ### rounds -/
def sumTo (f : Nat → Nat) : Nat → Nat
  | 0 => 0
  | n + 1 => sumTo f n + f n
theorem sumTo_le {f g : Nat → Nat} : ∀ {N : Nat}, (∀ i, i < N → f i ≤ g i) → sumTo f N ≤ sumTo g N
  | 0, _ => Nat.le_refl _
  | N + 1, h => Nat.add_le_add (sumTo_le fun i hi => h i (by omega)) (h N (by omega))
theorem sumTo_lt {f g : Nat → Nat} {n : Nat} : ∀ {N : Nat}, (∀ i, i < N → f i ≤ g i) → n < N → f n < g n → sumTo f N < sumTo g N
  | N + 1, h, hn, hl => by
    by_cases e : n = N
    · subst e
      exact Nat.add_lt_add_of_le_of_lt (sumTo_le fun i hi => h i (by omega)) hl
    · exact Nat.add_lt_add_of_lt_of_le (sumTo_lt (fun i hi => h i (by omega)) (by omega) hl) (h N (by omega))
def mu (N : Nat) (ks : List Int) (G : Nat → Nat) : Nat := sumTo (fun n => if (n : Int) ∈ ks then G n else N) N
structure FarI (rows : List Row) (ks : List Int) (G : Nat → Nat) : Prop where
  kss : Ks rows ks
  bd : ∀ n : Nat, (n : Int) ∈ ks → G n < ks.length
  snd : ∀ (n : Nat) (r : Row), (n : Int) ∈ ks → rows[n]? = some r → r = .en ∨ ∃ m : Nat, (m : Int) ∈ fol n r ∧ (m : Int) ∈ ks ∧ G m + 1 ≤ G n
  ends : ∀ n : Nat, rows[n]? = some .en → (n : Int) ∈ ks
def putK (ks : List Int) (n : Int) : List Int := if n ∈ ks then ks else ks ++ [n]
theorem putK_mem {ks : List Int} {n x : Int} : x ∈ putK ks n ↔ x ∈ ks ∨ x = n := by
  unfold putK
  split
  · rename_i h
    exact ⟨.inl, fun z => z.elim id fun e => e ▸ h⟩
  · simp
theorem FarI.put {rows : List Row} {ks : List Int} {G : Nat → Nat} (h : FarI rows ks G) {n m : Nat} {r : Row} (hr : rows[n]? = some r) (hm : (m : Int) ∈ fol n r) (hmk : (m : Int) ∈ ks) (hc : (n : Int) ∉ ks ∨ G m + 1 < G n) : FarI rows (putK ks n) (upG G n (G m + 1)) ∧ mu rows.length (putK ks n) (upG G n (G m + 1)) < mu rows.length ks G := by
  have hn := (List.getElem?_eq_some_iff.mp hr).1
  have bm := h.bd m hmk
  have nm : m ≠ n := by
    intro e
    subst e
    rcases hc with c | c
    · exact c hmk
    · omega
  have len : ks.length ≤ (putK ks n).length := by unfold putK; split <;> simp
  have lenn : (n : Int) ∉ ks → ks.length < (putK ks n).length := fun z => by unfold putK; rw [if_neg z]; simp
  have kl := h.kss.len
  have K' : Ks rows (putK ks n) := by
    unfold putK
    split
    · exact h.kss
    · rename_i z
      exact h.kss.snoc z (by omega)
  have klt : (n : Int) ∉ ks → ks.length < rows.length := fun z => Nat.lt_of_lt_of_le (lenn z) K'.len
  refine ⟨⟨K', fun i hi => ?_, fun i q hi hq => ?_, fun i hi => putK_mem.mpr (.inl (h.ends i hi))⟩, ?_⟩
  · unfold upG
    by_cases e : i = n
    · rw [if_pos e]
      rcases hc with c | c
      · have := lenn c; omega
      · by_cases z : (n : Int) ∈ ks
        · have := h.bd n z; omega
        · have := lenn z; omega
    · rw [if_neg e]
      rcases putK_mem.mp hi with z | z
      · have := h.bd i z; omega
      · exact absurd (by omega) e
  · by_cases e : i = n
    · subst e
      rw [hr] at hq
      obtain rfl := Option.some.inj hq
      exact .inr ⟨m, hm, putK_mem.mpr (.inl hmk), by unfold upG; rw [if_neg nm, if_pos rfl]; omega⟩
    · rcases putK_mem.mp hi with z | z
      · rcases h.snd i q z hq with w | ⟨m', w1, w2, w3⟩
        · exact .inl w
        · refine .inr ⟨m', w1, putK_mem.mpr (.inl w2), ?_⟩
          unfold upG
          rw [if_neg e]
          by_cases e2 : m' = n
          · subst e2
            rw [if_pos rfl]
            rcases hc with c | c
            · exact absurd w2 c
            · omega
          · rw [if_neg e2]; exact w3
      · exact absurd (by omega) e
  · unfold mu
    refine sumTo_lt (n := n) (fun i hi => ?_) hn ?_
    · by_cases e : i = n
      · subst e
        rw [if_pos (putK_mem.mpr (.inr rfl))]
        unfold upG
        rw [if_pos rfl]
        by_cases z : (i : Int) ∈ ks
        · rw [if_pos z]
          rcases hc with c | c
          · exact absurd z c
          · omega
        · rw [if_neg z]; have := klt z; omega
      · have : upG G n (G m + 1) i = G i := by unfold upG; rw [if_neg e]
        by_cases z : (i : Int) ∈ ks
        · rw [if_pos z, if_pos (putK_mem.mpr (.inl z)), this]; exact Nat.le_refl _
        · rw [if_neg z, if_neg (fun w => (putK_mem.mp w).elim z fun w => e (by omega))]; exact Nat.le_refl _
    · rw [if_pos (putK_mem.mpr (.inr rfl))]
      unfold upG
      rw [if_pos rfl]
      by_cases z : (n : Int) ∈ ks
      · rw [if_pos z]
        rcases hc with c | c
        · exact absurd z c
        · exact c
      · rw [if_neg z]; have := klt z; omega
structure FarP (rows : List Row) (ks0 : List Int) (G0 : Nat → Nat) (ks : List Int) (G : Nat → Nat) (b : Bool) (Dn : Nat → Int → Prop) : Prop where
  inv : FarI rows ks G
  le : mu rows.length ks G ≤ mu rows.length ks0 G0
  lt : b = true → mu rows.length ks G < mu rows.length ks0 G0
  eq : b = false → ∀ i m : Nat, Dn i (m : Int) → (m : Int) ∈ ks → (i : Int) ∈ ks ∧ G i ≤ G m + 1
theorem FarP.keep {rows : List Row} {ks0 ks : List Int} {G0 G : Nat → Nat} {b : Bool} {Dn Dn' : Nat → Int → Prop} (h : FarP rows ks0 G0 ks G b Dn) (hd : ∀ i m : Nat, Dn' i m → Dn i m ∨ ((m : Int) ∈ ks → (i : Int) ∈ ks ∧ G i ≤ G m + 1)) : FarP rows ks0 G0 ks G b Dn' := ⟨h.inv, h.le, h.lt, fun hb i m hm hk => (hd i m hm).elim (fun z => h.eq hb i m z hk) fun z => z hk⟩
theorem FarP.put {rows : List Row} {ks0 ks : List Int} {G0 G : Nat → Nat} {b : Bool} {Dn Dn' : Nat → Int → Prop} (h : FarP rows ks0 G0 ks G b Dn) {n m : Nat} {r : Row} (hr : rows[n]? = some r) (hm : (m : Int) ∈ fol n r) (hmk : (m : Int) ∈ ks) (hc : (n : Int) ∉ ks ∨ G m + 1 < G n) : FarP rows ks0 G0 (putK ks n) (upG G n (G m + 1)) true Dn' := by
  obtain ⟨a, b⟩ := h.inv.put hr hm hmk hc
  have le := h.le
  exact ⟨a, by omega, fun _ => by omega, fun z => by cases z⟩
structure FarD (rows : List Row) (ks : List Int) (G : Nat → Nat) : Prop where
  inv : FarI rows ks G
  cl : ∀ (n m : Nat) (r : Row), rows[n]? = some r → (m : Int) ∈ fol n r → (m : Int) ∈ ks → (n : Int) ∈ ks ∧ G n ≤ G m + 1
/-- what one table holds, each other table holds -/
theorem FarD.sub {rows : List Row} {ks ks' : List Int} {G G' : Nat → Nat} (a : FarD rows ks G) (b : FarD rows ks' G') : ∀ (c n : Nat), G n ≤ c → (n : Int) ∈ ks → (n : Int) ∈ ks' := by
  intro c
  induction c with
  | zero =>
    intro n hc hn
    have hl := (a.inv.kss.rg _ hn).2
    have hr : rows[n]? = some rows[n] := List.getElem?_eq_getElem (by omega)
    rcases a.inv.snd n _ hn hr with e | ⟨m, _, _, h3⟩
    · rw [e] at hr
      exact b.inv.ends n hr
    · omega
  | succ c ih =>
    intro n hc hn
    have hl := (a.inv.kss.rg _ hn).2
    have hr : rows[n]? = some rows[n] := List.getElem?_eq_getElem (by omega)
    rcases a.inv.snd n _ hn hr with e | ⟨m, h1, h2, h3⟩
    · rw [e] at hr
      exact b.inv.ends n hr
    · exact (b.cl n m _ hr h1 (ih m (by omega) h2)).1
end Mi

set_option Elab.async false
set_option linter.all false
set_option maxHeartbeats 1000000
namespace Lk94
open Mi
/-! ### the script's cells -/
theorem cell_ok {ns : List Int} {S : Store} (h : S[0]? = some (.fls (ns.map .int))) (k : Nat) : ∃ v, m_law_cell [.ref 0, .int k] S = .ok (.int v) S := by
  by_cases hl : k < ns.length
  · refine ⟨ns[k], ?_⟩
    have e : atI (ns.map D.int) (k : Int) = some (.int ns[k]) := at_of (by simp [hl])
    simp [m_law_cell, b_law_cell, h, hl, e]
  · refine ⟨k * 7919 + 11, ?_⟩
    have e : mulOk (k : Int) 7919 := .inr (.inl (by decide))
    simp [m_law_cell, b_law_cell, h, hl, e]
theorem mixed_ok (c : Int) (k : Nat) (hk : k ≤ 1000) (S : Store) : ∃ v, m_law_mixed [.int c, .int (k : Int)] S = .ok (.int v) S := by
  have h1 : 0 ≤ c % 2147483629 := Int.emod_nonneg _ (by decide)
  have h2 : c % 2147483629 < 2147483629 := Int.emod_lt_of_pos _ (by decide)
  have m2 : mulOk 2 (k : Int) := mul_l ⟨by decide, by decide⟩
  obtain ⟨n, hn⟩ : ∃ n, (c % 2147483629 + 11) * (69621 + 2 * (k : Int)) % 2147483629 = n := ⟨_, rfl⟩
  have h3 : 0 ≤ n := by rw [← hn]; exact Int.emod_nonneg _ (by decide)
  have h4 : n < 2147483629 := by rw [← hn]; exact Int.emod_lt_of_pos _ (by decide)
  have m1 : mulOk (c % 2147483629 + 11) (69621 + 2 * (k : Int)) := mul_l ⟨by omega, by omega⟩
  have m3 : mulOk n (n % 104729 + 1) := mul_l ⟨by omega, by omega⟩
  have m4 : ∀ x, mulOk x 4294967291 := fun x => mul_r ⟨by decide, by decide⟩
  refine ⟨n * (n % 104729 + 1) % 2147483587 * 4294967291 + n, ?_⟩
  simp [m_law_mixed, b_law_mixed, m2, m1, hn, m3, m4]
theorem drawn_ok {ns : List Int} {S : Store} (h : S[0]? = some (.fls (ns.map .int))) (k : Nat) (hk : k ≤ 1000) : ∃ v, m_law_drawn [.ref 0, .int (k : Int)] S = .ok (.int v) S := by
  obtain ⟨c0, e0⟩ := cell_ok h 0
  have e0' : m_law_cell [.ref 0, .int 0] S = .ok (.int c0) S := e0
  obtain ⟨c, e⟩ := cell_ok h k
  by_cases hc : c0 % 2 = 1
  · obtain ⟨v, ev⟩ := mixed_ok c k hk S
    exact ⟨v, by simp [m_law_drawn, b_law_drawn, e0', hc, e, ev]⟩
  · exact ⟨c, by simp [m_law_drawn, b_law_drawn, e0', hc, e]⟩
/-! ### the names -/
theorem lts_at {i : Int} (h0 : 0 ≤ i) (h : i < 26) : ∃ c, atI LTS i = some c ∧ c ∈ SG ∧ 97 ≤ c ∧ c ≤ 122 := by
  have hl : i.toNat < LTS.length := by show i.toNat < 26; omega
  have all : ∀ k : Nat, k < 26 → ∀ c, LTS[k]? = some c → c ∈ SG ∧ 97 ≤ c ∧ c ≤ 122 := by decide
  exact ⟨LTS[i.toNat], at_nat h0 (List.getElem?_eq_getElem hl), all i.toNat (by omega) _ (List.getElem?_eq_getElem hl)⟩
structure CsI (i : Nat) (cs : Tx) : Prop where
  len : cs.length = i
  fst : 0 < i → ∃ c, cs[0]? = some c ∧ 97 ≤ c ∧ c ≤ 122
  all : ∀ c ∈ cs, c ∈ SG
theorem CsI.snoc {i : Nat} {cs : Tx} (h : CsI i cs) {c : Nat} (hc : c ∈ SG) (h0 : i = 0 → 97 ≤ c ∧ c ≤ 122) : CsI (i + 1) (cs ++ [c]) := by
  refine ⟨by simp [h.len], fun _ => ?_, ?_⟩
  · by_cases hi : i = 0
    · have : cs = [] := List.length_eq_zero_iff.mp (by rw [h.len, hi])
      subst this
      exact ⟨c, rfl, h0 hi⟩
    · obtain ⟨d, e, q⟩ := h.fst (by omega)
      exact ⟨d, by rw [List.getElem?_append_left (by rw [h.len]; omega)]; exact e, q⟩
  · intro d hd
    rcases List.mem_append.mp hd with z | z
    · exact h.all d z
    · rw [List.mem_singleton.mp z]; exact hc
/-- the name of such signs, an x behind a word -/
def nmOfx (cs : Tx) : Tx := if cs = w_sy ∨ cs = w_go ∨ cs = w_pt ∨ cs = w_en then cs ++ [120] else cs
theorem nmOfx_ok {cs : Tx} (h : Cs cs) : Nm (nmOfx cs) := by
  unfold nmOfx
  split
  · rename_i q
    rcases q with rfl | rfl | rfl | rfl <;> exact ⟨by decide, by decide, ⟨_, rfl, by decide⟩, by decide, by decide⟩
  · rename_i q
    refine ⟨h.lo, h.hi, h.fst, h.all, ?_⟩
    refine ⟨fun e => q (.inl e), fun e => q (.inr (.inl e)), fun e => q (.inr (.inr (.inl e))), fun e => q (.inr (.inr (.inr e)))⟩
abbrev PRI : List Int := [1009, 1013, 1019, 1021, 1031, 1033, 1039, 1049]
theorem names_ok (c a : Int) (S : Store) : ∃ (l : List Tx) (m : Nat) (S' : Store), m_law_names [.int c, .int a] S = .ok (.ref m) S' ∧ Pre S S' ∧ S.length ≤ m ∧ S'[m]? = some (.lst (l.map .str)) ∧ l.length = 5 ∧ ∀ t ∈ l, Nm t := by
  obtain ⟨sz, hsz, hs0, hs8⟩ : ∃ sz : Nat, 1 + c % 8 = (sz : Int) ∧ 1 ≤ sz ∧ sz ≤ 8 := ⟨(1 + c % 8).toNat, by omega, by omega, by omega⟩
  have hs0' : 0 < sz := hs0
  generalize hat : a % (sz : Int) = sp
  have d8 : divOk 8 := div_ok (by decide) (by decide)
  have mo : ∀ x : Int, mulOk x 48271 := fun x => mul_r ⟨by decide, by decide⟩
  have fsz : far (sz : Int) := by unfold far; omega
  obtain ⟨S1, hS1⟩ : ∃ S1 : Store, S1 = S ++ [.lst (PRI.map .int)] := ⟨_, rfl⟩
  have p1 : Pre S S1 := by rw [hS1]; exact Pre.app _ _
  have g1 : S1[S.length]? = some (.lst (PRI.map .int)) := by rw [hS1]; exact app_new _ _ _
  have pri : ∀ j : Nat, j < 8 → ∃ p : Int, PRI[j]? = some p ∧ 0 < p := by decide
  obtain ⟨S2, e2, p2, g2⟩ := lc_fil (vs := [6]) (g := gName 6) (t := tYes) (e := e_law_names_1) (fr := [some (.int c), some (.int a), some (.str LTS), some (.ref S.length), some (.int sz), none, none, none, none, none, none]) (l := rng 0 sz) (hs := []) (S := S1) (List.range sz) (fun k => .int (0 + (k : Nat))) (fun j => .int (c / 8 * 48271 % (PRI.getD j 1) % 26)) (fun _ => true) rfl (fun _ h => by cases h) (by rw [List.length_range]; exact Nat.le_trans hs8 (by decide)) (by
    intro j hj S' pr
    have e0 : (0 : Int) + (j : Int) = (j : Int) := by omega
    have hj' : j < 8 := by have := List.mem_range.mp hj; omega
    obtain ⟨p, hp, hp0⟩ := pri j hj'
    have ep : atI (PRI.map D.int) (j : Int) = some (.int p) := at_of (by rw [List.getElem?_map, hp]; rfl)
    have gd : PRI.getD j 1 = p := by simp only [List.getD, hp]; rfl
    refine ⟨[some (.int c), some (.int a), some (.str LTS), some (.ref S.length), some (.int sz), none, some (.int (j : Int)), none, none, none, none], S', by simp [unset, e0], by simp, Pre.refl _, fun _ => ⟨S', ?_, Pre.refl _⟩⟩
    rw [gd]
    have g1' := pr.get g1
    generalize PRI = R at *
    simp [e_law_names_1, d8, mo, g1', ep, hp0])
  have ff : (List.range sz).filter (fun _ => true) = List.range sz := by simp
  rw [ff] at g2
  have inner : ∀ (k : Nat) (x9 x10 : Option D) (M : Nat) (S3 : Store), k ≤ 10 → S3[S1.length]? = some (.lst ((List.range sz).map fun j => D.int (c / 8 * 48271 % (PRI.getD j 1) % 26))) → ∃ cs y9 y10, loopM [] (turnM (gName 9) l_law_names_2) (rng 0 sz) [some (.int c), some (.int a), some (.str LTS), some (.ref S.length), some (.int sz), some (.ref S1.length), some (.int (k : Int)), some (.ref M), some (.str []), x9, x10] S3 = .ok (.nx [some (.int c), some (.int a), some (.str LTS), some (.ref S.length), some (.int sz), some (.ref S1.length), some (.int (k : Int)), some (.ref M), some (.str cs), y9, y10]) S3 ∧ CsI sz cs := by
    intro k x9 x10 M S3 hk g3
    have key := loop_inv (hs := []) (turn := turnM (gName 9) l_law_names_2)
      (fun i fr S' => ∃ cs y9 y10, fr = [some (.int c), some (.int a), some (.str LTS), some (.ref S.length), some (.int sz), some (.ref S1.length), some (.int (k : Int)), some (.ref M), some (.str cs), y9, y10] ∧ S' = S3 ∧ CsI i cs)
      (rng 0 sz) 0 [some (.int c), some (.int a), some (.str LTS), some (.ref S.length), some (.int sz), some (.ref S1.length), some (.int (k : Int)), some (.ref M), some (.str []), x9, x10] S3
      ⟨[], x9, x10, rfl, rfl, ⟨rfl, fun h => absurd h (by decide), by simp⟩⟩ (fun _ _ S _ => stands_nil S) (by
        rintro i d fr S' hd ⟨cs, y9, y10, rfl, rfl, hcs⟩
        obtain ⟨hi, rfl⟩ := rng_at hd
        rw [show 0 + i = i by omega] at *
        have e0 : (0 : Int) + (i : Int) = (i : Int) := by omega
        have m5 : mulOk 5 (k : Int) := mul_l ⟨by decide, by decide⟩
        have cl : cs.length + 1 ≤ 16777216 := by rw [hcs.len]; omega
        obtain ⟨bs, hbs⟩ : ∃ bs : Int, c / 8 * 48271 % (PRI.getD i 1) % 26 = bs := ⟨_, rfl⟩
        have eb : atI ((List.range sz).map fun j => D.int (c / 8 * 48271 % (PRI.getD j 1) % 26)) (i : Int) = some (.int bs) := at_of (by rw [List.getElem?_map, List.getElem?_range hi, ← hbs]; rfl)
        generalize ((List.range sz).map fun j => D.int (c / 8 * 48271 % (PRI.getD j 1) % 26)) = BL at *
        have h1 : ∀ z : Int, 0 ≤ z % 26 ∧ z % 26 < 26 := fun z => ⟨Int.emod_nonneg _ (by decide), Int.emod_lt_of_pos _ (by decide)⟩
        by_cases h2 : (i : Int) = sp
        · obtain ⟨x, ex, mx, qx⟩ := lts_at (h1 (bs + 5 * (k : Int))).1 (h1 _).2
          have m6 : mulOk (5 * (k : Int)) 1 := mul_r ⟨by decide, by decide⟩
          refine ⟨_, S', .inl ?_, cs ++ [x], some (.int (i : Int)), some (.int (5 * (k : Int))), rfl, rfl, hcs.snoc mx fun _ => qx⟩
          rw [h2] at eb
          simp [turnM_s, l_law_names_2, e0, m5, hs0', hat, h2, m6, LINE, g3, eb, ex, cl]
        · obtain ⟨x, ex, mx, qx⟩ := lts_at (h1 bs).1 (h1 _).2
          have m6 : mulOk (5 * (k : Int)) 0 := mul_r ⟨by decide, by decide⟩
          refine ⟨_, S', .inl ?_, cs ++ [x], some (.int (i : Int)), some (.int 0), rfl, rfl, hcs.snoc mx fun _ => qx⟩
          simp [turnM_s, l_law_names_2, e0, m5, hs0', hat, h2, m6, LINE, g3, eb, ex, cl])
    obtain ⟨fr', S', e, cs, y9, y10, rfl, rfl, hcs⟩ := key
    rw [rng_len, Nat.zero_add] at hcs
    exact ⟨cs, y9, y10, e, hcs⟩
  have f5 : far 5 := by unfold far; omega
  have key := loop_inv (hs := []) (turn := turnM (gName 6) l_law_names_3)
    (fun i fr S' => ∃ k6 k8 k9 k10 l, fr = [some (.int c), some (.int a), some (.str LTS), some (.ref S.length), some (.int sz), some (.ref S1.length), k6, some (.ref S2.length), k8, k9, k10] ∧ Pre S2 S' ∧ S'[S2.length]? = some (.lst (l.map .str)) ∧ l.length = i ∧ ∀ t ∈ l, Nm t)
    (rng 0 5) 0 [some (.int c), some (.int a), some (.str LTS), some (.ref S.length), some (.int sz), some (.ref S1.length), none, some (.ref S2.length), none, none, none] (S2 ++ [.lst []])
    ⟨none, none, none, none, [], rfl, Pre.app _ _, app_new _ _ _, rfl, by simp⟩ (fun _ _ S _ => stands_nil S) (by
      rintro i d fr S' hd ⟨k6, k8, k9, k10, l, rfl, pr, ga, hl, hnm⟩
      obtain ⟨hi, rfl⟩ := rng_at hd
      rw [show 0 + i = i by omega] at *
      have e0 : (0 : Int) + (i : Int) = (i : Int) := by omega
      obtain ⟨cs, y9, y10, e, hcs⟩ := inner i k9 k10 S2.length S' (by omega) (pr.get g2)
      have cs0 : Cs cs := ⟨by rw [hcs.len]; exact hs0, by rw [hcs.len]; exact hs8, hcs.fst hs0, hcs.all⟩
      have hl' : l.length < 16777216 := by omega
      have cl : cs.length + 1 ≤ 16777216 := by rw [hcs.len]; omega
      obtain ⟨S3, hS3⟩ : ∃ S3 : Store, S3 = S' ++ [.lst [.str w_sy, .str w_go, .str w_pt, .str w_en]] := ⟨_, rfl⟩
      have p3 : Pre S' S3 := by rw [hS3]; exact Pre.app _ _
      have g3 : S3[S'.length]? = some (.lst [.str w_sy, .str w_go, .str w_pt, .str w_en]) := by rw [hS3]; exact app_new _ _ _
      have hS3' : S' ++ [.lst [.str w_sy, .str w_go, .str w_pt, .str w_en]] = S3 := hS3.symm
      have ga3 := p3.get ga
      refine ⟨[some (.int c), some (.int a), some (.str LTS), some (.ref S.length), some (.int sz), some (.ref S1.length), some (.int i), some (.ref S2.length), some (.str (nmOfx cs)), y9, y10], S3.set S2.length (.lst ((l ++ [nmOfx cs]).map .str)), .inl ?_, _, _, _, _, _, rfl, (pr.trans p3).set (Nat.le_refl _), set_get ga3, by simp [hl], ?_⟩
      · simp [turnM_s, l_law_names_3, e0, fsz]
        rw [e]
        by_cases hw : cs = w_sy ∨ cs = w_go ∨ cs = w_pt ∨ cs = w_en
        · have : nmOfx cs = cs ++ [120] := by unfold nmOfx; rw [if_pos hw]
          have hw' : ((w_sy == cs) || ((w_go == cs) || ((w_pt == cs) || (w_en == cs)))) = true := by
            simp only [Bool.or_eq_true, beq_iff_eq]
            rcases hw with z | z | z | z <;> simp [z]
          rw [this]
          simp [hS3', g3, hw', LINE, ga3, hl', cl]
        · have : nmOfx cs = cs := by unfold nmOfx; rw [if_neg hw]
          have hw' : ((w_sy == cs) || ((w_go == cs) || ((w_pt == cs) || (w_en == cs)))) = false := by
            simp only [not_or] at hw
            simp only [Bool.or_eq_false_iff, beq_eq_false_iff_ne, ne_eq]
            exact ⟨fun e => hw.1 e.symm, fun e => hw.2.1 e.symm, fun e => hw.2.2.1 e.symm, fun e => hw.2.2.2 e.symm⟩
          rw [this]
          simp [hS3', g3, hw', LINE, ga3, hl']
      · intro t ht
        rcases List.mem_append.mp ht with z | z
        · exact hnm t z
        · rw [List.mem_singleton.mp z]; exact nmOfx_ok cs0)
  obtain ⟨fr', S', e, k6, k8, k9, k10, l, rfl, pr, ga, hl, hnm⟩ := key
  rw [rng_len, Nat.zero_add] at hl
  refine ⟨l, S2.length, S', ?_, (p1.trans p2).trans pr, (p1.trans p2).len, ga, hl, hnm⟩
  have hS1' : S ++ [.lst (PRI.map .int)] = S1 := hS1.symm
  have hS1'' : S ++ [.lst [.int 1009, .int 1013, .int 1019, .int 1021, .int 1031, .int 1033, .int 1039, .int 1049]] = S1 := hS1'
  simp [m_law_names, b_law_names, LINE, hsz, fsz, hS1'']
  rw [e2]
  simp [LINE, f5]
  rw [e]
  simp
end Lk94

set_option Elab.async false
set_option linter.all false
set_option maxHeartbeats 1000000
namespace Lk94
open Mi
/-! ### operands, the pool, rows -/
theorem div_big {j : Int} (h : 0 < j) (h2 : j < 2 ^ 200) : divOk j := ⟨h, by
  have : j.natAbs < 2 ^ 200 := by omega
  have : j.natAbs.log2 < 200 := (Nat.log2_lt (by omega)).mpr this
  omega⟩
theorem at_mod {l : List Tx} {c : Int} (h0 : 0 < l.length) : ∃ t, atI (l.map D.str) (c % (l.length : Int)) = some (.str t) ∧ t ∈ l := by
  have h1 := Int.emod_nonneg c (show (l.length : Int) ≠ 0 by omega)
  have h2 := Int.emod_lt_of_pos c (show (0 : Int) < l.length by omega)
  have hl : (c % (l.length : Int)).toNat < l.length := by omega
  exact ⟨l[(c % (l.length : Int)).toNat], at_nat h1 (by rw [List.getElem?_map, List.getElem?_eq_getElem hl]; rfl), List.getElem_mem hl⟩
theorem operand_ok (c : Int) (N : Nat) (S : Store) (l : List Tx) (h : S[N]? = some (.lst (l.map .str))) (h5 : l.length = 5) : ∃ (k : Ky) (S' : Store), m_law_operand [.int c, .ref N] S = .ok (kyD k) S' ∧ Pre S S' ∧ Opd l k := by
  have d12 : divOk 12 := div_ok (by decide) (by decide)
  have d4 : divOk 4 := div_ok (by decide) (by decide)
  by_cases hc : c % 4 = 0
  · have p2 : powOk 2 64 := by unfold powOk; decide
    have mo : ∀ x : Int, mulOk x 2862933555777941757 := fun x => mul_r ⟨by decide, by decide⟩
    have w1 : 0 ≤ c / 12 % 4 ∧ c / 12 % 4 < 18446744073709551616 := ⟨Int.emod_nonneg _ (by decide), by have := Int.emod_lt_of_pos (c / 12) (show (0 : Int) < 4 by decide); omega⟩
    have w2 : 0 ≤ c / 12 * 2862933555777941757 % 18446744073709551616 ∧ c / 12 * 2862933555777941757 % 18446744073709551616 < 18446744073709551616 := ⟨Int.emod_nonneg _ (by decide), Int.emod_lt_of_pos _ (by decide)⟩
    have w3 : 0 ≤ 18446744073709551615 - c / 12 % 3 ∧ 18446744073709551615 - c / 12 % 3 < 18446744073709551616 := by have := Int.emod_lt_of_pos (c / 12) (show (0 : Int) < 3 by decide); have := Int.emod_nonneg (c / 12) (show (3 : Int) ≠ 0 by decide); omega
    have cases3 : c / 4 % 3 = 0 ∨ c / 4 % 3 = 1 ∨ c / 4 % 3 = 2 := by omega
    rcases cases3 with i | i | i
    · exact ⟨.inl (c / 12 % 4), _, by simp [m_law_operand, b_law_operand, hc, d12, d4, p2, mo, LINE, i]; rfl, Pre.app _ _, .inr ⟨_, rfl, w1⟩⟩
    · exact ⟨.inl (c / 12 * 2862933555777941757 % 18446744073709551616), _, by simp [m_law_operand, b_law_operand, hc, d12, d4, p2, mo, LINE, i]; rfl, Pre.app _ _, .inr ⟨_, rfl, w2⟩⟩
    · exact ⟨.inl (18446744073709551615 - c / 12 % 3), _, by simp [m_law_operand, b_law_operand, hc, d12, d4, p2, mo, LINE, i]; rfl, Pre.app _ _, .inr ⟨_, rfl, w3⟩⟩
  · obtain ⟨t, et, ht⟩ := at_mod (l := l) (c := c / 4) (by omega)
    rw [h5] at et
    refine ⟨.inr t, S, ?_, Pre.refl _, .inl ⟨t, ht, rfl⟩⟩
    have et' : atI (l.map D.str) (c / 4 % 5) = some (.str t) := et
    simp [m_law_operand, b_law_operand, hc, d4, h, et']
def DsOk (l : List Tx) (ds : List (List Ky)) : Prop := ∀ d ∈ ds, ∃ s a b, d = [s, a, b] ∧ Rkg l s a b
theorem s8_at {i : Int} (h : 0 ≤ i ∧ i < 8) : ∃ c, atI S8 i = some c ∧ c ∈ S8 := by
  have hl : i.toNat < S8.length := by show i.toNat < 8; omega
  exact ⟨S8[i.toNat], at_nat h.1 (List.getElem?_eq_getElem hl), List.getElem_mem hl⟩
theorem pool_loop (N M md sz : Nat) (W : Int) (S : Store) (l : List Tx) (hN : S[N]? = some (.lst (l.map .str))) (h5 : l.length = 5) (hM : S.length ≤ M) (hW : divOk W) (hsz : sz ≤ 11) (S1 : Store) (p1 : Pre S S1) (g1 : S1[M]? = some (.lst [])) (c : Int) :
    ∃ (y2 y7 y8 : Option D) (ds : List (List Ky)) (S' : Store), loopM [] (turnM (gName 7) l_law_pool_1) (rng 0 sz) [some (.ref 0), some (.ref N), some (.int c), some (.int md), some (.int sz), some (.int W), some (.ref M), none, none] S1 = .ok (.nx [some (.ref 0), some (.ref N), y2, some (.int md), some (.int sz), some (.int W), some (.ref M), y7, y8]) S' ∧ Pre S S' ∧ S'[M]? = some (.lst (ds.map kt)) ∧ ds.length = sz ∧ DsOk l ds := by
  have d8 : divOk 8 := div_ok (by decide) (by decide)
  have W0 : 0 < W := hW.1
  have key := loop_inv (hs := []) (turn := turnM (gName 7) l_law_pool_1)
    (fun i fr S' => ∃ (c : Int) (y7 y8 : Option D) (ds : List (List Ky)), fr = [some (.ref 0), some (.ref N), some (.int c), some (.int md), some (.int sz), some (.int W), some (.ref M), y7, y8] ∧ Pre S S' ∧ S'[M]? = some (.lst (ds.map kt)) ∧ ds.length = i ∧ DsOk l ds)
    (rng 0 sz) 0 [some (.ref 0), some (.ref N), some (.int c), some (.int md), some (.int sz), some (.int W), some (.ref M), none, none] S1
    ⟨c, none, none, [], rfl, p1, g1, rfl, by simp [DsOk]⟩ (fun _ _ S _ => stands_nil S) (by
      rintro i d fr S' hd ⟨c, y7, y8, ds, rfl, pr, g, hl, dk⟩
      obtain ⟨hi, rfl⟩ := rng_at hd
      rw [show 0 + i = i by omega] at *
      have e0 : (0 : Int) + (i : Int) = (i : Int) := by omega
      obtain ⟨c2, hc2⟩ := mixed_ok c i (by omega) S'
      have go : ∀ c' : Int, (if md = 1 then c2 else c) = c' → ∃ fr' S2, turnM (gName 7) l_law_pool_1 (.int (i : Int)) [some (.ref 0), some (.ref N), some (.int c), some (.int md), some (.int sz), some (.int W), some (.ref M), y7, y8] S' = .ok (.nx fr') S2 ∧ ∃ (c : Int) (y7 y8 : Option D) (ds : List (List Ky)), fr' = [some (.ref 0), some (.ref N), some (.int c), some (.int md), some (.int sz), some (.int W), some (.ref M), y7, y8] ∧ Pre S S2 ∧ S2[M]? = some (.lst (ds.map kt)) ∧ ds.length = i + 1 ∧ DsOk l ds := by
        intro c' hc'
        obtain ⟨x, ex, mx⟩ := s8_at (i := c' % 8) ⟨Int.emod_nonneg _ (by decide), Int.emod_lt_of_pos _ (by decide)⟩
        obtain ⟨a, S2, qa, pa, oa⟩ := operand_ok (c' / 8 % W) N S' l (pr.get hN) h5
        obtain ⟨b, S3, qb, pb, ob⟩ := operand_ok (c' / 8 / W % W) N S2 l (pa.get (pr.get hN)) h5
        have g2 := pa.get g
        have g3 := pb.get g2
        have hl' : ds.length < 16777216 := by omega
        have snoc : (ds ++ [[.inr [x], a, b]]).map kt = ds.map kt ++ [.tup [.str [x], kyD a, kyD b]] := by rw [List.map_append]; rfl
        by_cases hm1 : md = 1
        · rw [if_pos hm1] at hc'
          subst hc'
          subst hm1
          refine ⟨_, S3.set M (.lst ((ds ++ [[.inr [x], a, b]]).map kt)), ?_, c2, some (.int (i : Int)), some (kyD a), ds ++ [[.inr [x], a, b]], rfl, ((pr.trans pa).trans pb).set hM, set_get g3, by simp [hl], ?_⟩
          · rw [snoc]
            simp [turnM_s, l_law_pool_1, hc2, d8, W0, hW, qa, ex, qb, g2, g3, hl', LINE]
          · intro d hd
            rcases List.mem_append.mp hd with z | z
            · exact dk d z
            · rw [List.mem_singleton.mp z]; exact ⟨_, _, _, rfl, ⟨x, mx, rfl⟩, oa, ob⟩
        · rw [if_neg hm1] at hc'
          subst hc'
          have hm1' : ¬ (md : Int) = 1 := by omega
          refine ⟨[some (.ref 0), some (.ref N), some (.int (if md = 0 then c / 8 / W / W else c)), some (.int md), some (.int sz), some (.int W), some (.ref M), some (.int (i : Int)), some (kyD a)], S3.set M (.lst ((ds ++ [[.inr [x], a, b]]).map kt)), ?_, _, some (.int (i : Int)), some (kyD a), ds ++ [[.inr [x], a, b]], rfl, ((pr.trans pa).trans pb).set hM, set_get g3, by simp [hl], ?_⟩
          · rw [snoc]
            by_cases hm0 : md = 0
            · subst hm0
              simp [turnM_s, l_law_pool_1, d8, W0, hW, qa, ex, qb, g2, g3, hl', LINE]
            · have hm0' : ¬ (md : Int) = 0 := by omega
              simp [turnM_s, l_law_pool_1, hm1, hm1', hm0, hm0', d8, W0, hW, qa, ex, qb, g2, g3, hl', LINE]
          · intro d hd
            rcases List.mem_append.mp hd with z | z
            · exact dk d z
            · rw [List.mem_singleton.mp z]; exact ⟨_, _, _, rfl, ⟨x, mx, rfl⟩, oa, ob⟩
      obtain ⟨fr', S2, e, q⟩ := go _ rfl
      exact ⟨fr', S2, .inl (by rw [e0]; exact e), q⟩)
  obtain ⟨fr', S', e, c', y7, y8, ds, rfl, pr, g, hl, dk⟩ := key
  rw [rng_len, Nat.zero_add] at hl
  exact ⟨_, y7, y8, ds, S', e, pr, g, hl, dk⟩
theorem pool_ok {ns : List Int} (N : Nat) (S : Store) (l : List Tx) (h : S[0]? = some (.fls (ns.map .int))) (hN : S[N]? = some (.lst (l.map .str))) (h5 : l.length = 5) : ∃ (ds : List (List Ky)) (m : Nat) (S' : Store), m_law_pool [.ref 0, .ref N] S = .ok (.ref m) S' ∧ Pre S S' ∧ S'[m]? = some (.lst (ds.map kt)) ∧ 0 < ds.length ∧ ds.length ≤ 11 ∧ DsOk l ds := by
  obtain ⟨c, ec⟩ := drawn_ok h 1 (by decide)
  have ec' : m_law_drawn [.ref 0, .int 1] S = .ok (.int c) S := ec
  obtain ⟨c0, ec0⟩ := cell_ok h 0
  have ec0' : m_law_cell [.ref 0, .int 0] S = .ok (.int c0) S := ec0
  have d88 : divOk 88 := div_ok (by decide) (by decide)
  have p2 : powOk 2 64 := by unfold powOk; decide
  have m64 : ∀ x, mulOk x 64 := fun x => mul_r ⟨by decide, by decide⟩
  have c8 : 0 ≤ c % 8 ∧ c % 8 < 8 := ⟨Int.emod_nonneg _ (by decide), Int.emod_lt_of_pos _ (by decide)⟩
  obtain ⟨s3, hs3, hs31, hs32⟩ : ∃ s3 : Nat, atI [D.int 3, .int 3, .int 3, .int 3, .int 3, .int 3, .int 3, .int 11] (c % 8) = some (.int (s3 : Int)) ∧ 1 ≤ s3 ∧ s3 ≤ 11 := by
    rcases (by omega : c % 8 = 0 ∨ c % 8 = 1 ∨ c % 8 = 2 ∨ c % 8 = 3 ∨ c % 8 = 4 ∨ c % 8 = 5 ∨ c % 8 = 6 ∨ c % 8 = 7) with z | z | z | z | z | z | z | z <;> rw [z]
    · exact ⟨3, rfl, by decide, by decide⟩
    · exact ⟨3, rfl, by decide, by decide⟩
    · exact ⟨3, rfl, by decide, by decide⟩
    · exact ⟨3, rfl, by decide, by decide⟩
    · exact ⟨3, rfl, by decide, by decide⟩
    · exact ⟨3, rfl, by decide, by decide⟩
    · exact ⟨3, rfl, by decide, by decide⟩
    · exact ⟨11, rfl, by decide, by decide⟩
  obtain ⟨s1, hs1, hs11, hs12⟩ : ∃ s1 : Nat, 1 + c % 11 = (s1 : Int) ∧ 1 ≤ s1 ∧ s1 ≤ 11 := ⟨(1 + c % 11).toNat, by omega, by omega, by omega⟩
  obtain ⟨S1, hS1⟩ : ∃ S1 : Store, S1 = S ++ [.lst [.int 3, .int 3, .int 3, .int 3, .int 3, .int 3, .int 3, .int 11], .lst [.int (s1 : Int), .int (s3 : Int)], .lst [.int 1180591620717411303424, .int 4096], .lst []] := ⟨_, rfl⟩
  have p1 : Pre S S1 := by rw [hS1]; exact Pre.app _ _
  have g1 : S1[S.length + 3]? = some (.lst []) := by rw [hS1]; simp [get_app]
  have f1 : far (s1 : Int) := by unfold far; omega
  have f3 : far (s3 : Int) := by unfold far; omega
  rcases (by omega : c0 % 2 = 0 ∨ c0 % 2 = 1) with z | z
  · obtain ⟨y2, y7, y8, ds, S', e, pr, g, hl, dk⟩ := pool_loop N (S.length + 3) 0 s1 1180591620717411303424 S l hN h5 (by omega) (div_big (by decide) (by decide)) hs12 S1 p1 g1 (c / 88)
    refine ⟨ds, S.length + 3, S', ?_, pr, g, by omega, by omega, dk⟩
    have hS1' : S ++ [.lst [.int 3, .int 3, .int 3, .int 3, .int 3, .int 3, .int 3, .int 11], .lst [.int (s1 : Int), .int (s3 : Int)], .lst [.int 1180591620717411303424, .int 4096], .lst []] = S1 := hS1.symm
    simp [m_law_pool, b_law_pool, ec', ec0', z, LINE, hs1, hs3, get_app, get_len, d88, p2, m64, f1, f3, hS1', at0]
    rw [show ((0 : Nat) : Int) = 0 from rfl] at e
    rw [e]
    simp
  · obtain ⟨y2, y7, y8, ds, S', e, pr, g, hl, dk⟩ := pool_loop N (S.length + 3) 1 s3 4096 S l hN h5 (by omega) (div_big (by decide) (by decide)) hs32 S1 p1 g1 (c / 88)
    refine ⟨ds, S.length + 3, S', ?_, pr, g, by omega, by omega, dk⟩
    have hS1' : S ++ [.lst [.int 3, .int 3, .int 3, .int 3, .int 3, .int 3, .int 3, .int 11], .lst [.int (s1 : Int), .int (s3 : Int)], .lst [.int 1180591620717411303424, .int 4096], .lst []] = S1 := hS1.symm
    simp [m_law_pool, b_law_pool, ec', ec0', z, LINE, hs1, hs3, get_app, get_len, d88, p2, m64, f1, f3, hS1', at0]
    rw [show ((1 : Nat) : Int) = 1 from rfl] at e
    rw [e]
    simp
theorem at_deed {l : List Tx} {ds : List (List Ky)} (c : Int) (dk : DsOk l ds) (h0 : 0 < ds.length) : ∃ x a b, atI (ds.map kt) (c % (ds.length : Int)) = some (.tup [.str [x], kyD a, kyD b]) ∧ Rkg l (.inr [x]) a b := by
  have h1 := Int.emod_nonneg c (show (ds.length : Int) ≠ 0 by omega)
  have h2 := Int.emod_lt_of_pos c (show (0 : Int) < ds.length by omega)
  have hl : (c % (ds.length : Int)).toNat < ds.length := by omega
  obtain ⟨s, a, b, e, rk⟩ := dk _ (List.getElem_mem hl)
  obtain ⟨x, _, rfl⟩ := rk.s1
  refine ⟨x, a, b, at_nat h1 (by rw [List.getElem?_map, List.getElem?_eq_getElem hl, e]; rfl), rk⟩
theorem row_ok (c : Int) (n many : Nat) (N M : Nat) (S : Store) (l : List Tx) (ds : List (List Ky)) (hN : S[N]? = some (.lst (l.map .str))) (hM : S[M]? = some (.lst (ds.map kt))) (h5 : l.length = 5) (d0 : 0 < ds.length) (dk : DsOk l ds) (hm : 0 < many) (hm2 : many ≤ 1000) (hn : n ≤ 1000) : ∃ (r : Row) (S' : Store), m_law_row [.int c, .int (n : Int), .int (many : Int), .ref N, .ref M] S = .ok r.d S' ∧ Pre S S' ∧ RowN l r ∧ (∀ t, r = .go t → 0 ≤ t ∧ t < many) ∧ ∀ a t, r = .pt a t → 0 ≤ t ∧ t < many := by
  have d14 : divOk 14 := div_ok (by decide) (by decide)
  have d5 : divOk 5 := div_ok (by decide) (by decide)
  obtain ⟨nm, en, hnm⟩ := at_mod (l := l) (c := c / 14) (by omega)
  rw [h5] at en
  have en' : atI (l.map D.str) (c / 14 % 5) = some (.str nm) := en
  obtain ⟨x, a, b, ed, rk⟩ := at_deed (c / 14 / 5) dk d0
  have d0' : (0 : Int) < (ds.length : Int) := by omega
  by_cases h6 : c % 14 < 6
  · refine ⟨.rk nm [x] a b, S, ?_, Pre.refl _, ⟨hnm, rk⟩, (fun t e => by cases e), fun a t e => by cases e⟩
    simp [m_law_row, b_law_row, d14, h6, hN, en', d5, hM, d0, ed, LINE, d_rk]
  by_cases h8 : c % 14 < 8
  · obtain ⟨k, S1, qk, pk, ok⟩ := operand_ok (c / 14 / 5) N S l hN h5
    refine ⟨.cp nm k, S1, ?_, pk, ⟨hnm, ok⟩, (fun t e => by cases e), fun a t e => by cases e⟩
    simp [m_law_row, b_law_row, d14, h6, h8, hN, en', d5, qk, LINE, d_cp]
  by_cases h10 : c % 14 < 10
  · obtain ⟨k, S1, qk, pk, ok⟩ := operand_ok (c / 14) N S l hN h5
    refine ⟨.sy k, S1, ?_, pk, ok, (fun t e => by cases e), fun a t e => by cases e⟩
    simp [m_law_row, b_law_row, d14, h6, h8, h10, qk, LINE, d_sy]
  by_cases h12 : c % 14 < 12 ∧ 1 < many
  · obtain ⟨k, S1, qk, pk, ok⟩ := operand_ok (c / 14 / ((many : Int) - 1)) N S l hN h5
    have dm : divOk ((many : Int) - 1) := div_ok (by omega) (by omega)
    have hm1 : (0 : Int) < (many : Int) - 1 := by omega
    have hm' : (0 : Int) < (many : Int) := by omega
    have h12' : (1 : Int) < (many : Int) := by omega
    refine ⟨.pt k (((n : Int) + 2 + c / 14 % ((many : Int) - 1)) % (many : Int)), S1, ?_, pk, ok, (fun t e => by cases e), fun a t e => by cases e; exact ⟨Int.emod_nonneg _ (by omega), Int.emod_lt_of_pos _ hm'⟩⟩
    simp [m_law_row, b_law_row, d14, h6, h8, h10, h12.1, h12.2, h12', dm, hm1, hm', hm, qk, LINE, d_pt]
  · have hm' : (0 : Int) < (many : Int) := by omega
    have h12c : (decide (c % 14 < 12) && decide ((1 : Int) < (many : Int))) = false := by
      rw [Bool.and_eq_false_iff]
      by_cases z : c % 14 < 12
      · exact .inr (decide_eq_false fun y => h12 ⟨z, by omega⟩)
      · exact .inl (decide_eq_false z)
    by_cases h13 : c % 14 = 12
    · refine ⟨.go (c / 14 % (many : Int)), S, ?_, Pre.refl _, trivial, (fun t e => by cases e; exact ⟨Int.emod_nonneg _ (by omega), Int.emod_lt_of_pos _ hm'⟩), fun a t e => by cases e⟩
      simp [m_law_row, b_law_row, d14, h13, hm', hm, LINE, d_go]
    · refine ⟨.en, S, ?_, Pre.refl _, trivial, (fun t e => by cases e), fun a t e => by cases e⟩
      by_cases z : c % 14 < 12
      · have z2 : ¬ 1 < many := fun y => h12 ⟨z, y⟩
        have z3 : ¬ (1 : Int) < (many : Int) := by omega
        simp [m_law_row, b_law_row, d14, h6, h8, h10, z, z2, z3, h13, LINE, d_en]
      · simp [m_law_row, b_law_row, d14, h6, h8, h10, z, h13, LINE, d_en]
end Lk94

set_option Elab.async false
set_option linter.all false
set_option maxHeartbeats 1000000
namespace Lk94
open Mi
theorem tk_succ {α : Type} {l : List α} {i : Nat} {r : α} (h : l[i]? = some r) : l.take (i + 1) = l.take i ++ [r] := by
  obtain ⟨hi, rfl⟩ := List.getElem?_eq_some_iff.mp h
  rw [List.take_succ_eq_append_getElem hi]
structure Gd (l : List Tx) (rows : List Row) : Prop where
  nm : ∀ r ∈ rows, RowN l r
  lst : ∃ q r, rows = q ++ [r] ∧ (r = .en ∨ ∃ t, r = .go t)
  go : ∀ (n : Nat) (t : Int), rows[n]? = some (.go t) → 0 ≤ t ∧ t < rows.length
  pt : ∀ (n : Nat) (a : Ky) (t : Int), rows[n]? = some (.pt a t) → 0 ≤ t ∧ t < rows.length
theorem Gd.pos {l : List Tx} {rows : List Row} (h : Gd l rows) : 0 < rows.length := by
  obtain ⟨q, r, rfl, _⟩ := h.lst
  simp
theorem Gd.nx {l : List Tx} {rows : List Row} (h : Gd l rows) {n : Nat} {r : Row} (e : rows[n]? = some r) (ne : r ≠ .en) (ng : ∀ t, r ≠ .go t) : n + 1 < rows.length := by
  obtain ⟨q, z, rfl, hz⟩ := h.lst
  rcases get_snoc e with k | ⟨_, k⟩
  · have := (List.getElem?_eq_some_iff.mp k).1
    rw [List.length_append, List.length_singleton]; omega
  · subst k
    rcases hz with k | ⟨t, k⟩
    · exact absurd k ne
    · exact absurd k (ng t)
theorem Gd.fol_in {l : List Tx} {rows : List Row} (h : Gd l rows) {n : Nat} {r : Row} {m : Int} (e : rows[n]? = some r) (f : m ∈ fol n r) : 0 ≤ m ∧ m < rows.length := by
  cases r with
  | go t => have := h.go n t e; simp only [fol, List.mem_singleton] at f; omega
  | pt a t =>
    have := h.pt n a t e
    have := h.nx e (by simp) (by simp)
    simp only [fol, List.mem_cons, List.not_mem_nil, or_false] at f
    rcases f with f | f <;> omega
  | en => cases f
  | rk _ _ _ _ => have := h.nx e (by simp) (by simp); simp only [fol, List.mem_singleton] at f; omega
  | cp _ _ => have := h.nx e (by simp) (by simp); simp only [fol, List.mem_singleton] at f; omega
  | sy _ => have := h.nx e (by simp) (by simp); simp only [fol, List.mem_singleton] at f; omega
theorem Gd.set {l : List Tx} {rows : List Row} (h : Gd l rows) {i : Nat} (hi : i + 1 < rows.length) {r : Row} (hr : RowN l r) (hg : ∀ t, r = .go t → 0 ≤ t ∧ t < rows.length) (hp : ∀ a t, r = .pt a t → 0 ≤ t ∧ t < rows.length) : Gd l (rows.set i r) := by
  have inv : ∀ (n : Nat) (x : Row), (rows.set i r)[n]? = some x → rows[n]? = some x ∨ x = r := fun n x e => by
    rw [List.getElem?_set] at e
    split at e
    · split at e
      · exact .inr (Option.some.inj e).symm
      · cases e
    · exact .inl e
  refine ⟨?_, ?_, ?_, ?_⟩
  · intro x hx
    rcases List.mem_or_eq_of_mem_set hx with z | z
    · exact h.nm x z
    · exact z ▸ hr
  · obtain ⟨q, z, rfl, hz⟩ := h.lst
    rw [List.length_append, List.length_singleton] at hi
    exact ⟨q.set i r, z, by rw [List.set_append_left _ _ (by omega)], hz⟩
  · intro n t e
    rw [List.length_set]
    rcases inv n _ e with z | z
    · exact h.go n t z
    · exact hg t z.symm
  · intro n a t e
    rw [List.length_set]
    rcases inv n _ e with z | z
    · exact h.pt n a t z
    · exact hp a t z.symm
/-- the last one made an end -/
theorem Gd.endLast {l : List Tx} {rows : List Row} (h : Gd l rows) : Gd l (rows.set (rows.length - 1) .en) := by
  have inv : ∀ (n : Nat) (x : Row), (rows.set (rows.length - 1) .en)[n]? = some x → rows[n]? = some x ∨ x = .en := fun n x e => by
    rw [List.getElem?_set] at e
    split at e
    · split at e
      · exact .inr (Option.some.inj e).symm
      · cases e
    · exact .inl e
  refine ⟨?_, ?_, ?_, ?_⟩
  · intro x hx
    rcases List.mem_or_eq_of_mem_set hx with z | z
    · exact h.nm x z
    · rw [z]; trivial
  · obtain ⟨q, z, rfl, hz⟩ := h.lst
    exact ⟨q, .en, by rw [List.length_append, List.length_singleton, Nat.add_sub_cancel, List.set_append_right _ _ (Nat.le_refl _), Nat.sub_self, List.set_cons_zero], .inl rfl⟩
  · intro n t e
    rw [List.length_set]
    rcases inv n _ e with z | z
    · exact h.go n t z
    · cases z
  · intro n a t e
    rw [List.length_set]
    rcases inv n _ e with z | z
    · exact h.pt n a t z
    · cases z
structure Gd0 (l : List Tx) (rows : List Row) : Prop where
  nm : ∀ r ∈ rows, RowN l r
  pos : 0 < rows.length
  go : ∀ (n : Nat) (t : Int), rows[n]? = some (.go t) → 0 ≤ t ∧ t < rows.length
  pt : ∀ (n : Nat) (a : Ky) (t : Int), rows[n]? = some (.pt a t) → 0 ≤ t ∧ t < rows.length
theorem snoc_of {α : Type} {l : List α} (h : 0 < l.length) : ∃ q a, l = q ++ [a] ∧ l[l.length - 1]? = some a := by
  rcases snoc_or l with rfl | ⟨q, a, rfl⟩
  · simp at h
  · exact ⟨q, a, rfl, by simp⟩
theorem Gd0.gd {l : List Tx} {rows : List Row} (h : Gd0 l rows) (hl : ∃ t, rows[rows.length - 1]? = some (.go t)) : Gd l rows := by
  obtain ⟨q, a, e, ea⟩ := snoc_of h.pos
  obtain ⟨t, et⟩ := hl
  rw [ea] at et
  exact ⟨h.nm, ⟨q, a, e, .inr ⟨t, Option.some.inj et⟩⟩, h.go, h.pt⟩
theorem Gd0.fix {l : List Tx} {rows : List Row} (h : Gd0 l rows) : Gd l (rows.set (rows.length - 1) .en) := by
  have inv : ∀ (n : Nat) (x : Row), (rows.set (rows.length - 1) .en)[n]? = some x → rows[n]? = some x ∨ x = .en := fun n x e => by
    rw [List.getElem?_set] at e
    split at e
    · split at e
      · exact .inr (Option.some.inj e).symm
      · cases e
    · exact .inl e
  refine ⟨?_, ?_, ?_, ?_⟩
  · intro x hx
    rcases List.mem_or_eq_of_mem_set hx with z | z
    · exact h.nm x z
    · rw [z]; trivial
  · obtain ⟨q, z, rfl, hz⟩ := snoc_of h.pos
    exact ⟨q, .en, by rw [List.length_append, List.length_singleton, Nat.add_sub_cancel, List.set_append_right _ _ (Nat.le_refl _), Nat.sub_self, List.set_cons_zero], .inl rfl⟩
  · intro n t e
    rw [List.length_set]
    rcases inv n _ e with z | z
    · exact h.go n t z
    · cases z
  · intro n a t e
    rw [List.length_set]
    rcases inv n _ e with z | z
    · exact h.pt n a t z
    · cases z
theorem lfol_ok (P n : Nat) (rows : List Row) (r : Row) (S : Store) (hP : S[P]? = some (.lst (rows.map Row.d))) (hr : rows[n]? = some r) : m_law_followers [.ref P, .int n] S = .ok (.ref S.length) (S ++ [.lst ((fol n r).map .int)]) := by
  have e : atI (rows.map Row.d) (n : Int) = some r.d := at_of (by rw [List.getElem?_map, hr]; rfl)
  cases r <;> simp [m_law_followers, b_law_followers, hP, e, d_rk, d_cp, d_sy, d_go, d_pt, d_en, LINE, fol]
/-! ### rows that are come to -/
structure Rch (rows : List Row) (ks left : List Int) : Prop where
  kss : Ks rows ks
  zero : (0 : Int) ∈ ks
  sub : ∀ x ∈ left, x ∈ ks
  cl : ∀ (n : Nat) (r : Row), (n : Int) ∈ ks → (n : Int) ∉ left → rows[n]? = some r → ∀ m ∈ fol n r, m ∈ ks
theorem ne_nil (a : Nat) (A : List Int) (S : Store) (h : S[a]? = some (.lst (A.map .int))) : oNe (.ref a) (.ref S.length) (S ++ [.lst []]) = .ok (.bl (!decide (A = []))) (S ++ [.lst []]) := by
  have h2 : lstOf (S ++ [.lst []]) S.length = some (([] : List Int).map D.int) := lst_of (app_new _ _ _)
  rw [oNe_g, eq_ints (A := A) (B := []) (lst_of (app_get h)) h2]
  rfl
theorem reached_inner (R Dn Lf n : Nat) (x3 : Option D) (r : Row) (l : List Tx) (rows : List Row) (ks left : List Int) (S S0 : Store) (gd : Gd l rows) (hl : rows.length ≤ 1000) (hr : rows[n]? = some r) (p0 : Pre S0 S) (hD0 : S0.length ≤ Dn) (hL0 : S0.length ≤ Lf) (hne : Lf ≠ Dn) (kss : Ks rows ks) (sub : ∀ x ∈ left, x ∈ ks) (ll : left.length ≤ ks.length)
    (hD : S[Dn]? = some (bmD ks)) (hL : S[Lf]? = some (.lst (left.map .int))) :
    ∃ (y3 : Option D) (ks' new : List Int) (S' : Store), loopM [(S.length, (fol n r).map D.int)] (turnM (gName 3) l_law_reached_1) ((fol n r).map D.int) [some (.ref R), some (.ref Dn), some (.ref Lf), x3] (S ++ [.lst ((fol n r).map .int)]) = .ok (.nx [some (.ref R), some (.ref Dn), some (.ref Lf), y3]) S' ∧ Pre S0 S' ∧ S'[Dn]? = some (bmD ks') ∧ S'[Lf]? = some (.lst ((left ++ new).map .int)) ∧ ks' = ks ++ new ∧ Ks rows ks' ∧ ∀ m ∈ fol n r, m ∈ ks' := by
  have hlt1 := Pre.lt (S' := S) hD
  have hlt2 := Pre.lt (S' := S) hL
  have key := loop_inv (hs := [(S.length, (fol n r).map D.int)]) (turn := turnM (gName 3) l_law_reached_1)
    (fun j fr S2 => ∃ (y3 : Option D) (ks' new : List Int), fr = [some (.ref R), some (.ref Dn), some (.ref Lf), y3] ∧ Pre S0 S2 ∧ S2[S.length]? = some (.lst ((fol n r).map .int)) ∧ S2[Dn]? = some (bmD ks') ∧ S2[Lf]? = some (.lst ((left ++ new).map .int)) ∧ ks' = ks ++ new ∧ Ks rows ks' ∧ ∀ m ∈ (fol n r).take j, m ∈ ks')
    ((fol n r).map D.int) 0 [some (.ref R), some (.ref Dn), some (.ref Lf), x3] (S ++ [.lst ((fol n r).map .int)])
    ⟨x3, ks, [], rfl, p0.trans (Pre.app _ _), app_new _ _ _, app_get hD, by rw [List.append_nil]; exact app_get hL, by simp, kss, by simp⟩
    (by
      rintro j fr S2 ⟨y3, ks', new, rfl, _, gl, _⟩
      exact stands_one (lst_of gl))
    (by
      rintro j d fr S2 hd ⟨y3, ks', new, rfl, pr, gl, gD, gL, rfl, K', hm'⟩
      rw [List.getElem?_map] at hd
      obtain ⟨m, hm, rfl⟩ := Option.map_eq_some_iff.mp hd
      rw [show 0 + j = j by omega] at *
      have hin := gd.fol_in hr (List.mem_of_getElem? hm)
      have bg := bm_get (ks ++ new) m
      have gD' := gD
      unfold bmD at gD'
      have kl := K'.len
      by_cases h : m ∈ ks ++ new
      · rw [dec_true h] at bg
        refine ⟨_, S2, .inl ?_, some (.int m), ks ++ new, new, rfl, pr, gl, gD, gL, rfl, K', fun x hx => ?_⟩
        · generalize ((ks ++ new).map fun x => ((Sum.inl x : Ky), D.bl true)) = T at *
          simp [turnM_s, l_law_reached_1, gD', bg]
        · rw [tk_succ hm, List.mem_append, List.mem_singleton] at hx
          rcases hx with hx | rfl
          · exact hm' x hx
          · exact h
      · rw [dec_false h] at bg
        have pu := bm_put h
        have K2 := K'.snoc h hin
        have kl' : (ks ++ new).length < 16777216 := by omega
        have ll' : (left ++ new).length < 16777216 := by
          rw [List.length_append] at kl ⊢
          omega
        refine ⟨[some (.ref R), some (.ref Dn), some (.ref Lf), some (.int m)], (S2.set Dn (bmD (ks ++ (new ++ [m])))).set Lf (.lst ((left ++ (new ++ [m])).map .int)), .inl ?_, some (.int m), ks ++ (new ++ [m]), new ++ [m], rfl, (pr.set hD0).set hL0, by rw [set_ne (by omega), set_ne (by omega)]; exact gl, by rw [set_ne hne]; exact set_get gD, set_get (by rw [set_ne (Ne.symm hne)]; exact gL), rfl, by rw [← List.append_assoc]; exact K2, fun x hx => ?_⟩
        · have gL2 : (S2.set Dn (bmD (ks ++ (new ++ [m]))))[Lf]? = some (.lst ((left ++ new).map .int)) := by rw [set_ne (Ne.symm hne)]; exact gL
          have e1 : bmD (ks ++ (new ++ [m])) = .dK ((ks ++ new ++ [m]).map fun x => ((Sum.inl x : Ky), D.bl true)) := by unfold bmD; rw [← List.append_assoc]
          rw [e1] at gL2 ⊢
          have ll2 : ((left ++ new).map D.int).length < 16777216 := by rw [List.length_map]; exact ll'
          rw [← List.append_assoc left new [m], List.map_append (l₁ := left ++ new)]
          generalize (left ++ new).map D.int = Z at *
          have kl2 : ((ks ++ new).map fun x => ((Sum.inl x : Ky), D.bl true)).length < 16777216 := by rw [List.length_map]; exact kl'
          rw [← pu] at gL2 ⊢
          generalize ((ks ++ new).map fun x => ((Sum.inl x : Ky), D.bl true)) = T at *
          simp [turnM_s, l_law_reached_1, gD', bg, LINE, kl2, gL2, ll2]
        · rw [tk_succ hm, List.mem_append, List.mem_singleton] at hx
          rcases hx with hx | rfl
          · rw [← List.append_assoc]; exact List.mem_append.mpr (.inl (hm' x hx))
          · simp)
  obtain ⟨fr', S3, e3, y3, ks', new, rfl, p3, _, gD, gL, e, K', hm'⟩ := key
  rw [List.length_map, Nat.zero_add, List.take_length] at hm'
  exact ⟨y3, ks', new, S3, e3, p3, gD, gL, e, K', hm'⟩
theorem reached_while (R Dn : Nat) (l : List Tx) (rows : List Row) (S0 : Store) (gd : Gd l rows) (hl : rows.length ≤ 1000) (hP : S0[R]? = some (.lst (rows.map Row.d))) (hD0 : S0.length ≤ Dn) (Lf : Nat) (hL0 : S0.length ≤ Lf) (hne : Lf ≠ Dn) :
    ∀ (c : Nat) (x3 : Option D) (ks left : List Int) (S : Store), 2 * (rows.length - ks.length) + left.length ≤ c → Rch rows ks left → left.length ≤ ks.length → Pre S0 S → S[Dn]? = some (bmD ks) → S[Lf]? = some (.lst (left.map .int)) →
    ∃ (y3 : Option D) (ks' : List Int) (S' : Store), sWhile c_law_reached_3 l_law_reached_2 [some (.ref R), some (.ref Dn), some (.ref Lf), x3] S = .ok (.nx [some (.ref R), some (.ref Dn), some (.ref Lf), y3]) S' ∧ Pre S0 S' ∧ S'[Dn]? = some (bmD ks') ∧ Rch rows ks' [] := by
  have stop : ∀ (x3 : Option D) (ks : List Int) (S : Store), Rch rows ks [] → Pre S0 S → S[Dn]? = some (bmD ks) → S[Lf]? = some (.lst []) → ∃ (y3 : Option D) (ks' : List Int) (S' : Store), sWhile c_law_reached_3 l_law_reached_2 [some (.ref R), some (.ref Dn), some (.ref Lf), x3] S = .ok (.nx [some (.ref R), some (.ref Dn), some (.ref Lf), y3]) S' ∧ Pre S0 S' ∧ S'[Dn]? = some (bmD ks') ∧ Rch rows ks' [] := by
    intro x3 ks S rc p0 hD hL
    have q : oNe (.ref Lf) (.ref S.length) (S ++ [.lst []]) = .ok (.bl false) (S ++ [.lst []]) := by
      rw [ne_nil Lf [] S hL]
      simp
    refine ⟨x3, ks, S ++ [.lst []], ?_, p0.trans (Pre.app _ _), app_get hD, rc⟩
    rw [while_s]
    simp [c_law_reached_3, LINE, q]
  intro c
  induction c with
  | zero =>
    intro x3 ks left S hc rc hlk p0 hD hL
    have : left = [] := List.length_eq_zero_iff.mp (by omega)
    subst this
    exact stop x3 ks S rc p0 hD hL
  | succ c ih =>
    intro x3 ks left S hc rc hlk p0 hD hL
    rcases snoc_or left with rfl | ⟨q, n', rfl⟩
    · exact stop x3 ks S rc p0 hD hL
    · have hnk := rc.sub n' (by simp)
      have hrg := rc.kss.rg n' hnk
      obtain ⟨n, rfl⟩ : ∃ n : Nat, n' = (n : Int) := ⟨n'.toNat, by omega⟩
      have hn : n < rows.length := by omega
      have hr : rows[n]? = some rows[n] := List.getElem?_eq_getElem hn
      generalize rows[n] = r at hr
      rw [List.length_append, List.length_singleton] at hc hlk
      have ne : oNe (.ref Lf) (.ref S.length) (S ++ [.lst []]) = .ok (.bl true) (S ++ [.lst []]) := by
        rw [ne_nil Lf (q ++ [(n : Int)]) S hL]
        simp
      obtain ⟨S1, hS1⟩ : ∃ S1 : Store, S1 = (S ++ [O.lst []]).set Lf (.lst (q.map .int)) := ⟨_, rfl⟩
      have p1 : Pre S0 S1 := by rw [hS1]; exact (p0.trans (Pre.app _ _)).set hL0
      have hL1 : S1[Lf]? = some (.lst (q.map .int)) := by rw [hS1]; exact set_get (app_get hL)
      have hD1 : S1[Dn]? = some (bmD ks) := by rw [hS1, set_ne hne]; exact app_get hD
      have f := lfol_ok R n rows r S1 (p1.get hP) hr
      obtain ⟨y3, ks', new, S2, e2, p2, gD, gL, rfl, K', hm⟩ := reached_inner R Dn Lf n x3 r l rows ks q S1 S0 gd hl hr p1 hD0 hL0 hne rc.kss (fun x hx => rc.sub x (by simp [hx])) (by omega) hD1 hL1
      have kl := K'.len
      rw [List.length_append] at kl
      have rc' : Rch rows (ks ++ new) (q ++ new) := by
        refine ⟨K', by simp [rc.zero], fun x hx => ?_, fun i w hi hni hw m hmm => ?_⟩
        · rcases List.mem_append.mp hx with z | z
          · exact List.mem_append.mpr (.inl (rc.sub x (by simp [z])))
          · exact List.mem_append.mpr (.inr z)
        · by_cases e : i = n
          · subst e
            rw [hr] at hw
            obtain rfl := Option.some.inj hw
            exact hm m hmm
          · have hik : (i : Int) ∈ ks := by
              rcases List.mem_append.mp hi with z | z
              · exact z
              · exact absurd (List.mem_append.mpr (.inr z)) hni
            exact List.mem_append.mpr (.inl (rc.cl i w hik (fun z => by
              rcases List.mem_append.mp z with y | y
              · exact hni (List.mem_append.mpr (.inl y))
              · exact e (by have := List.mem_singleton.mp y; omega)) hw m hmm))
      obtain ⟨z3, ks2, S3, e3, q3⟩ := ih y3 (ks ++ new) (q ++ new) S2 (by rw [List.length_append, List.length_append]; omega) rc' (by rw [List.length_append, List.length_append]; omega) p2 gD gL
      refine ⟨z3, ks2, S3, ?_, q3⟩
      have hLm : (S ++ [O.lst []])[Lf]? = some (.lst (q.map D.int ++ [D.int (n : Int)])) := by rw [app_get hL]; simp
      have hS1' : (S ++ [O.lst []]).set Lf (.lst (q.map .int)) = S1 := hS1.symm
      rw [while_s]
      simp [c_law_reached_3, LINE, ne, l_law_reached_2, hLm, hS1', f, get_len]
      rw [e2]
      exact e3
theorem reached_ok (R : Nat) (l : List Tx) (rows : List Row) (S : Store) (gd : Gd l rows) (hl : rows.length ≤ 1000) (hP : S[R]? = some (.lst (rows.map Row.d))) : ∃ (ks : List Int) (f : Nat) (S' : Store), m_law_reached [.ref R] S = .ok (.ref f) S' ∧ Pre S S' ∧ S.length ≤ f ∧ S'[f]? = some (bmD ks) ∧ Rch rows ks [] := by
  have hp := gd.pos
  obtain ⟨y3, ks, S', e, pr, g, rc⟩ := reached_while R S.length l rows S gd hl hP (Nat.le_refl _) (S.length + 1) (by omega) (by omega) (2 * rows.length + 1) none [0] [0] (S ++ [bmD [0], .lst [.int 0]]) (by simp; omega) ⟨⟨by simp, by simp; omega⟩, by simp, by simp, fun n r h1 h2 _ => by
    simp at h1 h2; omega⟩ (by simp) (Pre.app _ _) (app_new _ _ _) (by simp [get_app])
  refine ⟨ks, S.length, S', ?_, pr, Nat.le_refl _, g, rc⟩
  have e' := e
  unfold bmD at e'
  simp only [List.map_cons, List.map_nil] at e'
  have z1 : ∀ S : Store, disK S.length (S ++ [O.dK []]) (kvsM [(D.int 0, D.bl true)]) (some (O.dK [])) = .ok (.ref S.length) (S ++ [O.dK [(.inl 0, .bl true)]]) := fun S => by
    have := dis_one S.length (S ++ [O.dK []]) (.inl 0) (.bl true) (app_new _ _ _)
    rw [app_new] at this
    rw [kyD_l] at this
    rw [this, set_at]
  simp [m_law_reached, b_law_reached, LINE, z1]
  rw [e']
  simp
end Lk94

set_option Elab.async false
set_option linter.all false
set_option maxHeartbeats 1000000
namespace Lk94
open Mi
/-! ### how far from an end -/
theorem en_at (r : Row) : ∃ w, r.d = .tup w ∧ ∀ S : Store, oIx r.d (.int 0) S = .ok (.str (match r with | .rk .. => w_rk | .cp .. => w_cp | .sy _ => w_sy | .go _ => w_go | .pt .. => w_pt | .en => w_en)) S := by
  cases r <;> exact ⟨_, rfl, fun S => by simp [d_rk, d_cp, d_sy, d_go, d_pt, d_en]⟩
def isEn (r : Row) : Bool := match r with
  | .en => true
  | _ => false
theorem isEn_iff {r : Row} : isEn r = true ↔ r = .en := by cases r <;> simp [isEn]
theorem far_init (P : Nat) (x3 x4 : Option D) (rows : List Row) (S S0 : Store) (hl : rows.length ≤ 1000) (p0 : Pre S0 S) (hP : S0[P]? = some (.lst (rows.map Row.d))) (hF0 : S0.length ≤ S0.length) (hF : S[S0.length]? = some (.dK [])) :
    ∃ (y2 : Option D) (ks : List Int) (S' : Store), loopM [] (turnM (gName 2) l_law_far_1) (rng 0 rows.length) [some (.ref P), some (.ref S0.length), none, x3, x4] S = .ok (.nx [some (.ref P), some (.ref S0.length), y2, x3, x4]) S' ∧ Pre S0 S' ∧ S'[S0.length]? = some (.dK (TF ks fun _ => 0)) ∧ FarI rows ks fun _ => 0 := by
  have key := loop_inv (hs := []) (turn := turnM (gName 2) l_law_far_1)
    (fun i fr S' => ∃ (y2 : Option D) (ks : List Int), fr = [some (.ref P), some (.ref S0.length), y2, x3, x4] ∧ Pre S0 S' ∧ S'[S0.length]? = some (.dK (TF ks fun _ => 0)) ∧ Ks rows ks ∧ (∀ x ∈ ks, x < (i : Int)) ∧ (∀ n : Nat, (n : Int) ∈ ks → rows[n]? = some .en) ∧ ∀ n : Nat, n < i → rows[n]? = some .en → (n : Int) ∈ ks)
    (rng 0 rows.length) 0 [some (.ref P), some (.ref S0.length), none, x3, x4] S
    ⟨none, [], rfl, p0, hF, ⟨by simp, by simp⟩, by simp, by simp, by omega⟩ (fun _ _ S _ => stands_nil S) (by
      rintro i d fr S' hd ⟨y2, ks, rfl, pr, g, K, k1, k2, k3⟩
      obtain ⟨hi, rfl⟩ := rng_at hd
      rw [show 0 + i = i by omega] at *
      have e0 : (0 : Int) + (i : Int) = (i : Int) := by omega
      rw [e0]
      have hr : rows[i]? = some rows[i] := List.getElem?_eq_getElem hi
      generalize rows[i] = r at hr
      have ea : atI (rows.map Row.d) (i : Int) = some r.d := at_of (by rw [List.getElem?_map, hr]; rfl)
      have hP' := pr.get hP
      by_cases he : r = .en
      · subst he
        have hni : (i : Int) ∉ ks := fun z => by have := k1 _ z; omega
        have pu := TF_new (G := fun _ => 0) (v := 0) hni (fun x hx => (K.rg x hx).1)
        have ug : upG (fun _ => 0) i 0 = fun _ => 0 := by funext j; unfold upG; split <;> rfl
        rw [ug] at pu
        have kl := K.len
        have tl : (TF ks fun _ => 0).length < 16777216 := by rw [TF_len]; omega
        refine ⟨_, S'.set S0.length (.dK (TF (ks ++ [(i : Int)]) fun _ => 0)), .inl ?_, some (.int (i : Int)), ks ++ [(i : Int)], rfl, pr.set (Nat.le_refl _), set_get g, K.snoc hni (by omega), fun x hx => ?_, fun n hn => ?_, fun n hn he => ?_⟩
        · rw [← pu]
          simp [turnM_s, l_law_far_1, hP', ea, d_en, g, tl, LINE]
        · rcases List.mem_append.mp hx with z | z
          · have := k1 x z; omega
          · rw [List.mem_singleton.mp z]; omega
        · rcases List.mem_append.mp hn with z | z
          · exact k2 n z
          · have : n = i := by have := List.mem_singleton.mp z; omega
            subst this
            exact hr
        · by_cases e : n = i
          · subst e; simp
          · exact List.mem_append.mpr (.inl (k3 n (by omega) he))
      · refine ⟨_, S', .inl ?_, some (.int (i : Int)), ks, rfl, pr, g, K, fun x hx => by have := k1 x hx; omega, k2, fun n hn he2 => ?_⟩
        · cases r with
          | en => exact absurd rfl he
          | _ => simp [turnM_s, l_law_far_1, hP', ea, d_rk, d_cp, d_sy, d_go, d_pt]
        · by_cases e : n = i
          · subst e
            rw [hr] at he2
            exact absurd (Option.some.inj he2) he
          · exact k3 n (by omega) he2)
  obtain ⟨fr', S', e, y2, ks, rfl, pr, g, K, k1, k2, k3⟩ := key
  rw [rng_len, Nat.zero_add] at k3
  refine ⟨y2, ks, S', e, pr, g, ⟨K, fun n hn => ?_, fun n r hn hr => .inl ?_, fun n hn => k3 n (List.getElem?_eq_some_iff.mp hn).1 hn⟩⟩
  · exact List.length_pos_of_mem hn
  · have := k2 n hn
    rw [hr] at this
    exact Option.some.inj this
section
variable (P Fa : Nat) (l : List Tx) (rows : List Row)
theorem far_turn (n : Nat) (r : Row) (ks0 ks : List Int) (G0 G : Nat → Nat) (b : Bool) (m : Int) (x4 : Option D) (S S0 : Store) (gd : Gd l rows) (hl : rows.length ≤ 1000) (hr : rows[n]? = some r) (hm : m ∈ fol n r) (p0 : Pre S0 S) (hF0 : S0.length ≤ Fa) (g : S[Fa]? = some (.dK (TF ks G))) (Dn Dn' : Nat → Int → Prop) (hd : ∀ i j, Dn' i j → Dn i j ∨ (i = n ∧ j = m)) (I : FarP rows ks0 G0 ks G b Dn) :
    ∃ (ks' : List Int) (G' : Nat → Nat) (b' : Bool) (S' : Store), turnM (gName 4) l_law_far_2 (.int m) [some (.ref P), some (.ref Fa), some (.int (n : Int)), some (.bl b), x4] S = .ok (.nx [some (.ref P), some (.ref Fa), some (.int (n : Int)), some (.bl b'), some (.int m)]) S' ∧ Pre S0 S' ∧ (∀ p o, p ≠ Fa → S[p]? = some o → S'[p]? = some o) ∧ S'[Fa]? = some (.dK (TF ks' G')) ∧ FarP rows ks0 G0 ks' G' b' Dn' := by
  have hin := gd.fol_in hr hm
  obtain ⟨m, rfl⟩ : ∃ k : Nat, m = (k : Int) := ⟨m.toNat, by omega⟩
  have gm := TF_get ks G m
  have gn := TF_get ks G n
  have hz : ∀ x ∈ ks, (0 : Int) ≤ x := fun x hx => (I.inv.kss.rg x hx).1
  have kl := I.inv.kss.len
  have tl : (TF ks G).length < 16777216 := by rw [TF_len]; omega
  have hn := (List.getElem?_eq_some_iff.mp hr).1
  by_cases h1 : (m : Int) ∈ ks
  · rw [if_pos h1] at gm
    have c1 : ((G m : Nat) : Int) + 1 = ((G m + 1 : Nat) : Int) := by omega
    by_cases h2 : (n : Int) ∈ ks
    · rw [if_pos h2] at gn
      by_cases h3 : G m + 1 < G n
      · have h3' : ((G m : Nat) : Int) + 1 < ((G n : Nat) : Int) := by omega
        have pu := TF_old (G := G) (v := G m + 1) h2 hz
        have pk : putK ks (n : Int) = ks := by unfold putK; rw [if_pos h2]
        have I' := I.put (Dn' := Dn') hr hm h1 (.inr h3)
        rw [pk] at I'
        refine ⟨ks, upG G n (G m + 1), true, S.set Fa (.dK (TF ks (upG G n (G m + 1)))), ?_, p0.set hF0, fun p o hp ho => by rw [set_ne (Ne.symm hp)]; exact ho, set_get g, I'⟩
        rw [← pu, ← c1]
        generalize TF ks G = T at *
        simp [turnM_s, l_law_far_2, g, gm, gn, h3', tl, LINE]
      · have h3' : ¬ ((G m : Nat) : Int) + 1 < ((G n : Nat) : Int) := by omega
        refine ⟨ks, G, b, S, ?_, p0, fun p o _ ho => ho, g, I.keep fun i j hj => ?_⟩
        · generalize TF ks G = T at *
          simp [turnM_s, l_law_far_2, g, gm, gn, h3']
        · rcases hd i j hj with z | ⟨rfl, z⟩
          · exact .inl z
          · have : j = m := by omega
            subst this
            exact .inr fun _ => ⟨h2, by omega⟩
    · rw [if_neg h2] at gn
      have pu := TF_new (G := G) (v := G m + 1) h2 hz
      have pk : putK ks (n : Int) = ks ++ [(n : Int)] := by unfold putK; rw [if_neg h2]
      have I' := I.put (Dn' := Dn') hr hm h1 (.inl h2)
      rw [pk] at I'
      refine ⟨ks ++ [(n : Int)], upG G n (G m + 1), true, S.set Fa (.dK (TF (ks ++ [(n : Int)]) (upG G n (G m + 1)))), ?_, p0.set hF0, fun p o hp ho => by rw [set_ne (Ne.symm hp)]; exact ho, set_get g, I'⟩
      rw [← pu, ← c1]
      generalize TF ks G = T at *
      simp [turnM_s, l_law_far_2, g, gm, gn, tl, LINE]
  · rw [if_neg h1] at gm
    refine ⟨ks, G, b, S, ?_, p0, fun p o _ ho => ho, g, I.keep fun i j hj => ?_⟩
    · generalize TF ks G = T at *
      simp [turnM_s, l_law_far_2, g, gm]
    · rcases hd i j hj with z | ⟨rfl, z⟩
      · exact .inl z
      · have : j = m := by omega
        subst this
        exact .inr fun w => absurd w h1
theorem far_pass (ks : List Int) (G : Nat → Nat) (x2 x3 x4 : Option D) (S S0 : Store) (gd : Gd l rows) (hl : rows.length ≤ 1000) (p0 : Pre S0 S) (hF0 : S0.length ≤ Fa) (hP : S0[P]? = some (.lst (rows.map Row.d))) (g : S[Fa]? = some (.dK (TF ks G))) (I : FarI rows ks G) :
    ∃ (y2 y4 : Option D) (ks' : List Int) (G' : Nat → Nat) (b' : Bool) (S' : Store), l_law_far_4 [some (.ref P), some (.ref Fa), x2, x3, x4] S = .ok (.nx [some (.ref P), some (.ref Fa), y2, some (.bl b'), y4]) S' ∧ Pre S0 S' ∧ S'[Fa]? = some (.dK (TF ks' G')) ∧ FarP rows ks G ks' G' b' fun i m => i < rows.length ∧ ∀ r, rows[i]? = some r → m ∈ fol i r := by
  have hpos := gd.pos
  have key := loop_inv (hs := []) (turn := turnM (gName 2) l_law_far_3)
    (fun i fr S' => ∃ (y2 y4 : Option D) (ks' : List Int) (G' : Nat → Nat) (b' : Bool), fr = [some (.ref P), some (.ref Fa), y2, some (.bl b'), y4] ∧ Pre S0 S' ∧ S'[Fa]? = some (.dK (TF ks' G')) ∧ FarP rows ks G ks' G' b' fun a m => rows.length ≤ a + i ∧ a < rows.length ∧ ∀ r, rows[a]? = some r → m ∈ fol a r)
    ((List.range rows.length).map fun k => .int ((rows.length : Int) - 1 - (k : Nat))) 0 [some (.ref P), some (.ref Fa), x2, some (.bl false), x4] S
    ⟨x2, x4, ks, G, false, rfl, p0, g, ⟨I, Nat.le_refl _, (fun h => by cases h), fun _ i m h => by omega⟩⟩ (fun _ _ S _ => stands_nil S) (by
      rintro i d fr S' hd ⟨y2, y4, ks', G', b', rfl, pr, g', I'⟩
      rw [List.getElem?_map] at hd
      obtain ⟨k, hk, rfl⟩ := Option.map_eq_some_iff.mp hd
      have hi : i < rows.length := by have := (List.getElem?_eq_some_iff.mp hk).1; rw [List.length_range] at this; exact this
      rw [List.getElem?_range hi] at hk
      obtain rfl := Option.some.inj hk
      rw [show 0 + i = i by omega] at *
      obtain ⟨n, hn⟩ : ∃ n : Nat, rows.length - 1 - i = n := ⟨_, rfl⟩
      have en : (rows.length : Int) - 1 - (i : Nat) = (n : Int) := by omega
      rw [en]
      have hnl : n < rows.length := by omega
      have hr : rows[n]? = some rows[n] := List.getElem?_eq_getElem hnl
      generalize rows[n] = r at hr
      have f := lfol_ok P n rows r S' (pr.get hP) hr
      have hlt := Pre.lt (S' := S') g'
      have inner := loop_inv (hs := [(S'.length, (fol n r).map D.int)]) (turn := turnM (gName 4) l_law_far_2)
        (fun j fr S2 => ∃ (z4 : Option D) (ks2 : List Int) (G2 : Nat → Nat) (b2 : Bool), fr = [some (.ref P), some (.ref Fa), some (.int (n : Int)), some (.bl b2), z4] ∧ Pre S0 S2 ∧ S2[S'.length]? = some (.lst ((fol n r).map .int)) ∧ S2[Fa]? = some (.dK (TF ks2 G2)) ∧ FarP rows ks G ks2 G2 b2 fun a m => (rows.length ≤ a + i ∧ a < rows.length ∧ ∀ r, rows[a]? = some r → m ∈ fol a r) ∨ (a = n ∧ m ∈ (fol n r).take j))
        ((fol n r).map D.int) 0 [some (.ref P), some (.ref Fa), some (.int (n : Int)), some (.bl b'), y4] (S' ++ [.lst ((fol n r).map .int)])
        ⟨y4, ks', G', b', rfl, pr.trans (Pre.app _ _), app_new _ _ _, app_get g', I'.keep fun a m h => .inl (by
          rcases h with h | ⟨_, h⟩
          · exact h
          · cases h)⟩
        (by
          rintro j fr S2 ⟨z4, ks2, G2, b2, rfl, _, gl, _⟩
          exact stands_one (lst_of gl))
        (by
          rintro j d fr S2 hd2 ⟨z4, ks2, G2, b2, rfl, pr2, gl, g2, I2⟩
          rw [List.getElem?_map] at hd2
          obtain ⟨m, hm, rfl⟩ := Option.map_eq_some_iff.mp hd2
          rw [show 0 + j = j by omega] at *
          obtain ⟨ks3, G3, b3, S3, e3, p3, st, g3, I3⟩ := far_turn P Fa l rows n r ks ks2 G G2 b2 m z4 S2 S0 gd hl hr (List.mem_of_getElem? hm) pr2 hF0 g2 _ (fun a m => (rows.length ≤ a + i ∧ a < rows.length ∧ ∀ r, rows[a]? = some r → m ∈ fol a r) ∨ (a = n ∧ m ∈ (fol n r).take (j + 1))) (fun a q h => by
            rcases h with h | ⟨h, z⟩
            · exact .inl (.inl h)
            · rw [tk_succ hm, List.mem_append, List.mem_singleton] at z
              rcases z with z | z
              · exact .inl (.inr ⟨h, z⟩)
              · exact .inr ⟨h, z⟩) I2
          exact ⟨_, S3, .inl e3, some (.int m), ks3, G3, b3, rfl, p3, st _ _ (by omega) gl, g3, I3⟩)
      obtain ⟨fr', S3, e3, z4, ks3, G3, b3, rfl, p3, _, g3, I3⟩ := inner
      rw [List.length_map, Nat.zero_add, List.take_length] at I3
      refine ⟨_, S3, .inl ?_, some (.int (n : Int)), z4, ks3, G3, b3, rfl, p3, g3, I3.keep fun a m h => .inl ?_⟩
      · simp [turnM_s, l_law_far_3, f, get_len]
        rw [e3]
      · by_cases e : a = n
        · subst e
          exact .inr ⟨rfl, h.2.2 r hr⟩
        · exact .inl ⟨by omega, h.2.1, h.2.2⟩)
  obtain ⟨fr', S', e, y2, y4, ks', G', b', rfl, pr, g', I'⟩ := key
  rw [List.length_map, List.length_range, Nat.zero_add] at I'
  refine ⟨y2, y4, ks', G', b', S', ?_, pr, g', I'.keep fun a m h => .inl ⟨by omega, h.1, h.2⟩⟩
  have fl : far ((rows.length : Int) - 1) := by unfold far; omega
  have f1 : far (-1) := by unfold far; omega
  have tn : ((rows.length : Int) - 1 - -1).toNat = rows.length := by omega
  have tn2 : ((rows.length : Int) - 1 + 1).toNat = rows.length := by omega
  simp [l_law_far_4, p0.get hP, fl, f1]
  exact e
theorem far_while (x4 : Option D) (S0 : Store) (gd : Gd l rows) (hl : rows.length ≤ 1000) (hF0 : S0.length ≤ Fa) (hP : S0[P]? = some (.lst (rows.map Row.d))) :
    ∀ (c : Nat) (x2 x4 : Option D) (ks : List Int) (G : Nat → Nat) (S : Store), mu rows.length ks G ≤ c → FarI rows ks G → Pre S0 S → S[Fa]? = some (.dK (TF ks G)) →
    ∃ (y2 y3 y4 : Option D) (ks' : List Int) (G' : Nat → Nat) (S' : Store), sWhile c_law_far_5 l_law_far_4 [some (.ref P), some (.ref Fa), x2, some (.bl true), x4] S = .ok (.nx [some (.ref P), some (.ref Fa), y2, y3, y4]) S' ∧ Pre S0 S' ∧ S'[Fa]? = some (.dK (TF ks' G')) ∧ FarD rows ks' G' := by
  have fin : ∀ {ks ks' : List Int} {G G' : Nat → Nat}, FarP rows ks G ks' G' false (fun i m => i < rows.length ∧ ∀ r, rows[i]? = some r → m ∈ fol i r) → FarD rows ks' G' := fun {ks ks' G G'} I => ⟨I.inv, fun n m r hr hm hk => I.eq rfl n m ⟨(List.getElem?_eq_some_iff.mp hr).1, fun q hq => by rw [hr] at hq; obtain rfl := Option.some.inj hq; exact hm⟩ hk⟩
  intro c
  induction c with
  | zero =>
    intro x2 x4 ks G S hc I p0 g
    obtain ⟨y2, y4, ks', G', b', S', e, pr, g', I'⟩ := far_pass P Fa l rows ks G x2 (some (.bl true)) x4 S S0 gd hl p0 hF0 hP g I
    cases b' with
    | true => have := I'.lt rfl; omega
    | false =>
      refine ⟨y2, some (.bl false), y4, ks', G', S', ?_, pr, g', fin I'⟩
      rw [while_s]
      simp [c_law_far_5, e]
      rw [while_s]
      simp [c_law_far_5]
  | succ c ih =>
    intro x2 x4 ks G S hc I p0 g
    obtain ⟨y2, y4, ks', G', b', S', e, pr, g', I'⟩ := far_pass P Fa l rows ks G x2 (some (.bl true)) x4 S S0 gd hl p0 hF0 hP g I
    cases b' with
    | true =>
      obtain ⟨z2, z3, z4, ks2, G2, S2, e2, q⟩ := ih y2 y4 ks' G' S' (by have := I'.lt rfl; omega) I'.inv pr g'
      refine ⟨z2, z3, z4, ks2, G2, S2, ?_, q⟩
      rw [while_s]
      simp [c_law_far_5, e]
      exact e2
    | false =>
      refine ⟨y2, some (.bl false), y4, ks', G', S', ?_, pr, g', fin I'⟩
      rw [while_s]
      simp [c_law_far_5, e]
      rw [while_s]
      simp [c_law_far_5]
end
theorem far_ok (P : Nat) (l : List Tx) (rows : List Row) (S : Store) (gd : Gd l rows) (hl : rows.length ≤ 1000) (hP : S[P]? = some (.lst (rows.map Row.d))) : ∃ (ks : List Int) (G : Nat → Nat) (S' : Store), m_law_far [.ref P] S = .ok (.ref S.length) S' ∧ Pre S S' ∧ S'[S.length]? = some (.dK (TF ks G)) ∧ FarD rows ks G := by
  have fl : far (rows.length : Int) := by unfold far; omega
  obtain ⟨y2, ks, S1, e1, p1, g1, I1⟩ := far_init P none none rows (S ++ [.dK []]) S hl (Pre.app _ _) hP (Nat.le_refl _) (app_new _ _ _)
  obtain ⟨z2, z3, z4, ks', G', S2, e2, p2, g2, fd⟩ := far_while P S.length l rows none S gd hl (Nat.le_refl _) hP _ y2 none ks (fun _ => 0) S1 (Nat.le_refl _) I1 p1 g1
  refine ⟨ks', G', S2, ?_, p2, g2, fd⟩
  simp [m_law_far, b_law_far, app_get hP, fl]
  rw [e1]
  simp
  rw [e2]
  simp
end Lk94

set_option Elab.async false
set_option linter.all false
set_option maxHeartbeats 1000000
namespace Lk94
open Mi
/-! ### mended -/
def wt : Row → Nat
  | .go _ => 2
  | .en => 1
  | _ => 0
def nu (rows : List Row) : Nat := (rows.map wt).sum
theorem nu_set {rows : List Row} {i : Nat} {r r' : Row} (h : rows[i]? = some r) (hw : wt r' < wt r) : nu (rows.set i r') < nu rows := by
  unfold nu
  rw [List.map_set]
  exact sum_set (by rw [List.getElem?_map, h]; rfl) hw
theorem nu_le (rows : List Row) : nu rows ≤ 2 * rows.length := by
  unfold nu
  induction rows with
  | nil => simp
  | cons r q ih =>
    rw [List.map_cons, List.sum_cons, List.length_cons]
    have : wt r ≤ 2 := by cases r <;> simp [wt]
    omega
theorem nu_pos {l : List Tx} {rows : List Row} (gd : Gd l rows) : 0 < nu rows := by
  obtain ⟨q, r, rfl, hr⟩ := gd.lst
  unfold nu
  rw [List.map_append, List.sum_append]
  rcases hr with rfl | ⟨t, rfl⟩ <;> simp [wt]
/-- every row comes to an end -/
def EndR (rows : List Row) : Prop := ∃ (ks : List Int) (G : Nat → Nat), FarD rows ks G ∧ ∀ n : Nat, n < rows.length → (n : Int) ∈ ks
def nD2 (i : Nat) : D := .int (i : Int)
theorem bm_lost (Dn : Nat) (ks : List Int) (n : Nat) (S : Store) (hD : S[Dn]? = some (bmD ks)) : oNotIn (.int (n : Int)) (.ref Dn) S = .ok (.bl (!dec ((n : Int) ∈ ks))) S := by
  have hD' := hD
  unfold bmD at hD'
  have := bm_get ks n
  simp [hD', this]
theorem lost_fil {vs : List Nat} {g : GM} {t : TM} {e : EM} {fr : Fr} (N : Nat) (p : Nat → Bool) (S : Store) (hN : N ≤ 1000) (h : ∀ (n : Nat) (S' : Store), Pre S S' → n < N → ∃ fr', g (.int (n : Int)) (unset vs fr) S' = .ok fr' S' ∧ t fr' S' = .ok (p n) S' ∧ e fr' S' = .ok (.int (n : Int)) S') :
    ∃ S', lcK vs g t e fr (.ok ⟨rng 0 N, []⟩ S) = .ok (.ref S.length) S' ∧ Pre S S' ∧ S'[S.length]? = some (.lst ((((List.range N).filter p).map fun i : Nat => (i : Int)).map .int)) := by
  obtain ⟨S', e1, p1, g1⟩ := lc_fil (vs := vs) (g := g) (t := t) (e := e) (fr := fr) (l := rng 0 N) (hs := []) (S := S) (List.range N) (fun k => .int (0 + (k : Nat))) nD2 p rfl (fun _ h => by cases h) (by rw [List.length_range]; exact Nat.le_trans hN (by decide)) (by
    intro j hj S' pr
    have e0 : (0 : Int) + (j : Int) = (j : Int) := by omega
    obtain ⟨fr', q1, q2, q3⟩ := h j S' pr (List.mem_range.mp hj)
    exact ⟨fr', S', by rw [e0]; exact q1, q2, Pre.refl _, fun _ => ⟨S', q3, Pre.refl _⟩⟩)
  exact ⟨S', e1, p1, by rw [g1, List.map_map]; rfl⟩
theorem fil_head {N a : Nat} {rest : List Nat} {p : Nat → Bool} (h : (List.range N).filter p = a :: rest) : a < N ∧ p a = true ∧ ∀ b, b < a → p b = false := by
  obtain ⟨l1, l2, e, h1, h2, _⟩ := List.filter_eq_cons_iff.mp h
  have ha : (List.range N)[l1.length]? = some a := by rw [e, List.getElem?_append_right (Nat.le_refl _), Nat.sub_self]; rfl
  have hl : l1.length < N := by
    have := (List.getElem?_eq_some_iff.mp ha).1
    rw [List.length_range] at this; exact this
  rw [List.getElem?_range hl] at ha
  have hal : l1.length = a := Option.some.inj ha
  refine ⟨by omega, h2, fun b hb => ?_⟩
  have hb2 : (List.range N)[b]? = some b := List.getElem?_range (by omega)
  rw [e, List.getElem?_append_left (by omega)] at hb2
  have := h1 b (List.mem_of_getElem? hb2)
  simpa using this
theorem fil_last {N d : Nat} {q : List Nat} {p : Nat → Bool} (h : (List.range N).filter p = q ++ [d]) : d < N ∧ p d = true ∧ ∀ b, d < b → b < N → p b = false := by
  have hd : d ∈ (List.range N).filter p := by rw [h]; simp
  obtain ⟨h1, h2⟩ := List.mem_filter.mp hd
  refine ⟨List.mem_range.mp h1, h2, fun b hb hbN => ?_⟩
  cases hp : p b with
  | false => rfl
  | true =>
    have hm : b ∈ (List.range N).filter p := List.mem_filter.mpr ⟨List.mem_range.mpr hbN, hp⟩
    have srt : ((List.range N).filter p).Pairwise (· < ·) := List.Pairwise.filter _ List.pairwise_lt_range
    rw [h] at hm srt
    rcases List.mem_append.mp hm with z | z
    · have := (List.pairwise_append.mp srt).2.2 b z d (by simp)
      omega
    · have := List.mem_singleton.mp z
      omega
theorem mended_turn (R : Nat) (t : Nat) (x3 x4 x5 x6 x7 : Option D) (l : List Tx) (rows : List Row) (S S0 : Store) (gd : Gd l rows) (hl : rows.length ≤ 1000) (ht : t ≤ 3000) (p0 : Pre S0 S) (hR0 : S0.length ≤ R) (hR : S[R]? = some (.lst (rows.map Row.d))) :
    (∃ (y3 y4 y5 y6 y7 : Option D) (rows' : List Row) (S' : Store), turnM (gName 2) l_law_mended_5 (.int (t : Int)) [some (.ref R), some (.int ((rows.length : Int) - 1)), x7, x3, x4, x5, none, x6] S = .ok (.nx [some (.ref R), some (.int ((rows.length : Int) - 1)), some (.int (t : Int)), y3, y4, y5, y6, y7]) S' ∧ y6 = none ∧ Pre S0 S' ∧ S'[R]? = some (.lst (rows'.map Row.d)) ∧ Gd l rows' ∧ rows'.length = rows.length ∧ nu rows' < nu rows) ∨
    (∃ S', turnM (gName 2) l_law_mended_5 (.int (t : Int)) [some (.ref R), some (.int ((rows.length : Int) - 1)), x7, x3, x4, x5, none, x6] S = .ok (.rt (.ref R)) S' ∧ Pre S0 S' ∧ S'[R]? = some (.lst (rows.map Row.d)) ∧ EndR rows) := by
  have fl : far (rows.length : Int) := by unfold far; omega
  have hpos := gd.pos
  obtain ⟨ks, f, S1, e1, p1, hf, g1, rc⟩ := reached_ok R l rows S gd hl hR
  have hR1 := p1.get hR
  obtain ⟨kf, G, S2, e2, p2, g2, fd⟩ := far_ok R l rows S1 gd hl hR1
  have hR2 := p2.get hR1
  have g12 := p2.get g1
  obtain ⟨S3, e3, p3, g3⟩ := lost_fil (vs := [6]) (g := gName 6) (t := c_law_mended_1) (e := e_law_mended_2) (fr := [some (.ref R), some (.int ((rows.length : Int) - 1)), some (.int (t : Int)), some (.ref f), some (.ref S1.length), x5, none, x6]) rows.length (fun n => !dec ((n : Int) ∈ ks)) S2 hl (fun n S' pr hn => by
    have gD := pr.get g12
    unfold bmD at gD
    have bg := bm_get ks n
    refine ⟨[some (.ref R), some (.int ((rows.length : Int) - 1)), some (.int (t : Int)), some (.ref f), some (.ref S1.length), x5, some (.int (n : Int)), x6], by simp [unset], ?_, by simp [e_law_mended_2]⟩
    generalize (ks.map fun x => ((Sum.inl x : Ky), D.bl true)) = T at *
    simp [c_law_mended_1, gD, bg])
  have hR3 := p3.get hR2
  have g23 := p3.get g2
  obtain ⟨S4, e4, p4, g4⟩ := lost_fil (vs := [6]) (g := gName 6) (t := c_law_mended_3) (e := e_law_mended_4) (fr := [some (.ref R), some (.int ((rows.length : Int) - 1)), some (.int (t : Int)), some (.ref f), some (.ref S1.length), some (.ref S2.length), none, x6]) rows.length (fun n => !dec ((n : Int) ∈ kf)) S3 hl (fun n S' pr hn => by
    have gn := TF_get kf G n
    have g' := pr.get g23
    refine ⟨[some (.ref R), some (.int ((rows.length : Int) - 1)), some (.int (t : Int)), some (.ref f), some (.ref S1.length), some (.ref S2.length), some (.int (n : Int)), x6], by simp [unset], ?_, by simp [e_law_mended_4]⟩
    by_cases z : (n : Int) ∈ kf
    · rw [if_pos z] at gn
      rw [dec_true z]
      generalize TF kf G = T at *
      simp [c_law_mended_3, g', gn]
    · rw [if_neg z] at gn
      rw [dec_false z]
      generalize TF kf G = T at *
      simp [c_law_mended_3, g', gn])
  have hR4 := p4.get hR3
  have g34 := p4.get g3
  have p04 := (((p0.trans p1).trans p2).trans p3).trans p4
  have tok : Opd l (.inl (t : Int)) := .inr ⟨_, rfl, by omega, by omega⟩
  have head : turnM (gName 2) l_law_mended_5 (.int (t : Int)) [some (.ref R), some (.int ((rows.length : Int) - 1)), x7, x3, x4, x5, none, x6] S = sIf (tBl (mOp oNe (mVar 5) (mLst (aNil)))) (sAsg (mTup (aCons (mC (.str t_say)) (aCons (mVar 2) aNil))) (gSub (mVar 0) (mOp oSub (mOp oIx (mVar 5) (mC (.int 0))) (mC (.int 1))))) (sIf (tAnd (tBl (mOp oNe (mVar 7) (mLst (aNil)))) (tBl (mOp oEq (mOp oIx (mVar 7) (mUn uNeg (mC (.int 1)))) (mVar 1)))) (sAsg (mTup (aCons (mC (.str t_end)) aNil)) (gSub (mVar 0) (mVar 1))) (sIf (tBl (mOp oNe (mVar 7) (mLst (aNil)))) (sAsg (mTup (aCons (mC (.str t_say)) (aCons (mVar 2) aNil))) (gSub (mVar 0) (mOp oIx (mVar 7) (mUn uNeg (mC (.int 1)))))) (sRet (mVar 0)))) [some (.ref R), some (.int ((rows.length : Int) - 1)), some (.int (t : Int)), some (.ref f), some (.ref S1.length), some (.ref S2.length), none, some (.ref S3.length)] S4 := by
    obtain ⟨A, hA⟩ : ∃ A : SM, A = sIf (tBl (mOp oNe (mVar 5) (mLst (aNil)))) (sAsg (mTup (aCons (mC (.str t_say)) (aCons (mVar 2) aNil))) (gSub (mVar 0) (mOp oSub (mOp oIx (mVar 5) (mC (.int 0))) (mC (.int 1))))) (sIf (tAnd (tBl (mOp oNe (mVar 7) (mLst (aNil)))) (tBl (mOp oEq (mOp oIx (mVar 7) (mUn uNeg (mC (.int 1)))) (mVar 1)))) (sAsg (mTup (aCons (mC (.str t_end)) aNil)) (gSub (mVar 0) (mVar 1))) (sIf (tBl (mOp oNe (mVar 7) (mLst (aNil)))) (sAsg (mTup (aCons (mC (.str t_say)) (aCons (mVar 2) aNil))) (gSub (mVar 0) (mOp oIx (mVar 7) (mUn uNeg (mC (.int 1)))))) (sRet (mVar 0)))) := ⟨_, rfl⟩
    rw [← hA]
    have : l_law_mended_5 = sSeq (sAsg (mCall m_law_reached (aCons (mVar 0) aNil)) (gName 3)) (sSeq (sAsg (mCall m_law_far (aCons (mVar 0) aNil)) (gName 4)) (sSeq (sAsg (mLc [6] (iRng1 (aCons (mCall bLen (aCons (mVar 0) aNil)) aNil)) (gName 6) (c_law_mended_1) (e_law_mended_2)) (gName 5)) (sSeq (sAsg (mLc [6] (iRng1 (aCons (mCall bLen (aCons (mVar 0) aNil)) aNil)) (gName 6) (c_law_mended_3) (e_law_mended_4)) (gName 7)) A))) := by rw [hA]; rfl
    rw [this]
    simp [turnM_s, e1, e2, hR2, fl]
    rw [e3]
    simp [hR3, fl]
    rw [e4]
    simp
  rw [head]
  have n1 := ne_nil S2.length _ S4 g34
  have hR5 := app_get (G := [.lst []]) hR4
  have g35 := app_get (G := [.lst []]) g34
  have g45 := app_get (G := [.lst []]) g4
  obtain ⟨S5, hS5⟩ : ∃ S5 : Store, S5 = S4 ++ [.lst []] := ⟨_, rfl⟩
  have hS5' : S4 ++ [.lst []] = S5 := hS5.symm
  have p5 : Pre S4 S5 := by rw [hS5]; exact Pre.app _ _
  rw [hS5'] at n1 hR5 g35 g45
  have p05 := p04.trans p5
  cases hL : (List.range rows.length).filter fun n : Nat => !dec ((n : Int) ∈ ks) with
  | cons a rest =>
    left
    rw [hL] at n1 g35
    obtain ⟨ha, ha2, ha3⟩ := fil_head hL
    have hak : (a : Int) ∉ ks := fun z => by rw [dec_true z] at ha2; cases ha2
    have a0 : a ≠ 0 := fun z => hak (by rw [z]; exact rc.zero)
    have hbk : ((a - 1 : Nat) : Int) ∈ ks := by
      have := ha3 (a - 1) (by omega)
      by_cases z : ((a - 1 : Nat) : Int) ∈ ks
      · exact z
      · rw [dec_false z] at this; cases this
    have hr : rows[a - 1]? = some rows[a - 1] := List.getElem?_eq_getElem (by omega)
    generalize rows[a - 1] = r at hr
    have clo := rc.cl (a - 1) r hbk (by simp) hr
    have wr : 0 < wt r := by
      have nx : ((a - 1 : Nat) : Int) + 1 = (a : Int) := by omega
      cases r with
      | go _ => simp [wt]
      | en => simp [wt]
      | rk _ _ _ _ => exact absurd (clo (a : Int) (by simp only [fol, List.mem_singleton]; omega)) hak
      | cp _ _ => exact absurd (clo (a : Int) (by simp only [fol, List.mem_singleton]; omega)) hak
      | sy _ => exact absurd (clo (a : Int) (by simp only [fol, List.mem_singleton]; omega)) hak
      | pt _ _ => exact absurd (clo (a : Int) (by simp only [fol, List.mem_cons]; left; omega)) hak
    have ix : ixN rows.length ((a : Int) - 1) = some (a - 1) := by rw [ixN_of (by omega) (by omega)]; congr 1; omega
    refine ⟨some (.ref f), some (.ref S1.length), some (.ref S2.length), none, some (.ref S3.length), rows.set (a - 1) (.sy (.inl (t : Int))), S5.set R (.lst ((rows.set (a - 1) (.sy (.inl (t : Int)))).map Row.d)), ?_, rfl, p05.set hR0, set_get hR5, gd.set (by omega) tok (fun _ e => by cases e) (fun _ _ e => by cases e), by simp, nu_set hr wr⟩
    rw [List.map_cons] at g35 n1
    rw [List.map_cons] at g35
    rw [List.map_set]
    have nn : (!decide (((a : Nat) : Int) :: (rest.map fun i : Nat => (i : Int)) = [])) = true := by simp
    rw [nn] at n1
    simp [hS5', n1, LINE, g35, at0, hR5, ix, d_sy]
  | nil =>
    rw [hL] at n1
    have n1' : oNe (.ref S2.length) (.ref S4.length) S5 = .ok (.bl false) S5 := by rw [n1]; rfl
    have n2 := ne_nil S3.length _ S5 g45
    obtain ⟨S6, hS6⟩ : ∃ S6 : Store, S6 = S5 ++ [.lst []] := ⟨_, rfl⟩
    have hS6' : S5 ++ [.lst []] = S6 := hS6.symm
    have p6 : Pre S5 S6 := by rw [hS6]; exact Pre.app _ _
    have hR6 := p6.get hR5
    have g46 := p6.get g45
    rw [hS6'] at n2
    have p06 := p05.trans p6
    rcases snoc_or ((List.range rows.length).filter fun n : Nat => !dec ((n : Int) ∈ kf)) with hD | ⟨q, d, hD⟩
    · right
      rw [hD] at n2
      have n2' : oNe (.ref S3.length) (.ref S5.length) S6 = .ok (.bl false) S6 := by rw [n2]; rfl
      have n3 := ne_nil S3.length _ S6 g46
      rw [hD] at n3
      have n3' : oNe (.ref S3.length) (.ref S6.length) (S6 ++ [.lst []]) = .ok (.bl false) (S6 ++ [.lst []]) := by rw [n3]; rfl
      refine ⟨S6 ++ [.lst []], ?_, p06.trans (Pre.app _ _), app_get hR6, kf, G, fd, fun n hn => ?_⟩
      · simp [hS5', n1', LINE, hS6', n2', n3']
      · by_cases z : (n : Int) ∈ kf
        · exact z
        · have : n ∈ (List.range rows.length).filter fun n : Nat => !dec ((n : Int) ∈ kf) := List.mem_filter.mpr ⟨List.mem_range.mpr hn, by rw [dec_false z]; rfl⟩
          rw [hD] at this; cases this
    · left
      obtain ⟨hd1, hd2, hd3⟩ := fil_last hD
      have hdk : (d : Int) ∉ kf := fun z => by rw [dec_true z] at hd2; cases hd2
      rw [hD] at n2 g46
      rw [List.map_append] at n2 g46
      rw [List.map_append] at g46
      have n2' : oNe (.ref S3.length) (.ref S5.length) S6 = .ok (.bl true) S6 := by rw [n2]; simp
      have al : atI ((q.map fun i : Nat => (i : Int)).map D.int ++ [D.int (d : Int)]) (-1) = some (.int (d : Int)) := at_last _ _
      have g46' : S6[S3.length]? = some (.lst ((q.map fun i : Nat => (i : Int)).map D.int ++ [D.int (d : Int)])) := g46
      generalize (q.map fun i : Nat => (i : Int)).map D.int ++ [D.int (d : Int)] = DD at *
      have hr : rows[d]? = some rows[d] := List.getElem?_eq_getElem hd1
      generalize rows[d] = r at hr
      have notfol : ∀ m : Nat, (m : Int) ∈ fol d r → (m : Int) ∉ kf := fun m hm hk => hdk (fd.cl d m r hr hm hk).1
      have nen : r ≠ .en := fun e => hdk (fd.inv.ends d (by rw [← e]; exact hr))
      by_cases hlast : d = rows.length - 1
      · have wr : wt .en < wt r := by
          cases r with
          | go _ => simp [wt]
          | en => exact absurd rfl nen
          | rk _ _ _ _ => have := gd.nx hr (by simp) (by simp); omega
          | cp _ _ => have := gd.nx hr (by simp) (by simp); omega
          | sy _ => have := gd.nx hr (by simp) (by simp); omega
          | pt _ _ => have := gd.nx hr (by simp) (by simp); omega
        have ix : ixN rows.length ((rows.length : Int) - 1) = some (rows.length - 1) := by rw [ixN_of (by omega) (by omega)]; congr 1; omega
        have dl : (d : Int) = (rows.length : Int) - 1 := by omega
        have gl := gd.endLast
        rw [← hlast] at gl ix
        refine ⟨some (.ref f), some (.ref S1.length), some (.ref S2.length), none, some (.ref S3.length), rows.set d .en, S6.set R (.lst ((rows.set d .en).map Row.d)), ?_, rfl, p06.set hR0, set_get hR6, gl, by simp, nu_set hr wr⟩
        rw [List.map_set]
        simp [hS5', n1', LINE, hS6', n2', g46', al, dl, hR6, ix, d_en]
      · have dl : ¬ (d : Int) = (rows.length : Int) - 1 := by omega
        have nxk : ((d + 1 : Nat) : Int) ∈ kf := by
          have := hd3 (d + 1) (by omega) (by omega)
          by_cases z : ((d + 1 : Nat) : Int) ∈ kf
          · exact z
          · rw [dec_false z] at this; cases this
        have wr : 0 < wt r := by
          cases r with
          | go _ => simp [wt]
          | en => exact absurd rfl nen
          | rk _ _ _ _ => exact absurd nxk (notfol (d + 1) (by simp only [fol, List.mem_singleton]; omega))
          | cp _ _ => exact absurd nxk (notfol (d + 1) (by simp only [fol, List.mem_singleton]; omega))
          | sy _ => exact absurd nxk (notfol (d + 1) (by simp only [fol, List.mem_singleton]; omega))
          | pt _ _ => exact absurd nxk (notfol (d + 1) (by simp only [fol, List.mem_cons]; left; omega))
        have ix : ixN rows.length (d : Int) = some d := by rw [ixN_of (by omega) (by omega)]; simp
        have n3 : oNe (.ref S3.length) (.ref S6.length) (S6 ++ [.lst []]) = .ok (.bl true) (S6 ++ [.lst []]) := by
          have := ne_nil S3.length ((q ++ [d]).map fun i : Nat => (i : Int)) S6 (by rw [← hD]; exact p6.get g45)
          rw [this]; simp
        have g47 := app_get (G := [.lst []]) g46'
        have hR7 := app_get (G := [.lst []]) hR6
        obtain ⟨S7, hS7⟩ : ∃ S7 : Store, S7 = S6 ++ [.lst []] := ⟨_, rfl⟩
        have hS7' : S6 ++ [.lst []] = S7 := hS7.symm
        have p7 : Pre S6 S7 := by rw [hS7]; exact Pre.app _ _
        rw [hS7'] at n3 g47 hR7
        refine ⟨some (.ref f), some (.ref S1.length), some (.ref S2.length), none, some (.ref S3.length), rows.set d (.sy (.inl (t : Int))), S7.set R (.lst ((rows.set d (.sy (.inl (t : Int)))).map Row.d)), ?_, rfl, (p06.trans p7).set hR0, set_get hR7, gd.set (by omega) tok (fun _ e => by cases e) (fun _ _ e => by cases e), by simp, nu_set hr wr⟩
        rw [List.map_set]
        simp [hS5', n1', LINE, hS6', n2', g46', al, dl, hS7', n3, g47, hR7, ix, d_sy]
end Lk94

set_option Elab.async false
set_option linter.all false
set_option maxHeartbeats 1000000
namespace Lk94
open Mi
/-! ### the program -/
theorem row_tup (r : Row) : r.d = .tup (r.ks.map kyD) := rfl
theorem row_at0 (r : Row) : ∃ w, atI (r.ks.map kyD) 0 = some (.str w) ∧ (w = w_go ↔ ∃ t, r = .go t) ∧ (w = w_en ↔ r = .en) := by
  cases r <;> exact ⟨_, rfl, by simp, by simp⟩
theorem rows_at {rows : List Row} {i : Nat} (h : i < rows.length) : ∃ r, rows[i]? = some r ∧ atI (rows.map Row.d) (i : Int) = some r.d := ⟨rows[i], List.getElem?_eq_getElem h, at_of (by rw [List.getElem?_map, List.getElem?_eq_getElem h]; rfl)⟩
theorem mended_ok (R : Nat) (l : List Tx) (rows : List Row) (S S0 : Store) (p0 : Pre S0 S) (hR0 : S0.length ≤ R) (hR : S[R]? = some (.lst (rows.map Row.d))) (g0 : Gd0 l rows) (hl : rows.length ≤ 1000) : ∃ (rows' : List Row) (S' : Store), m_law_mended [.ref R] S = .ok (.ref R) S' ∧ Pre S0 S' ∧ S'[R]? = some (.lst (rows'.map Row.d)) ∧ Gd l rows' ∧ rows'.length = rows.length ∧ EndR rows' := by
  have fl : far (rows.length : Int) := by unfold far; omega
  have fl2 : far (2 * (rows.length : Int)) := by unfold far; omega
  have m2 : mulOk 2 (rows.length : Int) := mul_l ⟨by decide, by decide⟩
  have hpos := g0.pos
  have first : ∃ (rows1 : List Row) (S1 : Store), Gd l rows1 ∧ rows1.length = rows.length ∧ S1[R]? = some (.lst (rows1.map Row.d)) ∧ Pre S0 S1 ∧ sIf (tBl (mOp oNe (mOp oIx (mOp oIx (mVar 0) (mVar 1)) (mC (.int 0))) (mC (.str t_go)))) (sAsg (mTup (aCons (mC (.str t_end)) aNil)) (gSub (mVar 0) (mVar 1))) (sNx) [some (.ref R), some (.int ((rows.length : Int) - 1)), none, none, none, none, none, none] S = .ok (.nx [some (.ref R), some (.int ((rows.length : Int) - 1)), none, none, none, none, none, none]) S1 := by
    obtain ⟨r, er, era⟩ := rows_at (rows := rows) (i := rows.length - 1) (by omega)
    rw [show ((rows.length - 1 : Nat) : Int) = (rows.length : Int) - 1 by omega] at era
    obtain ⟨w, hw, hg, _⟩ := row_at0 r
    have ix : ixN rows.length ((rows.length : Int) - 1) = some (rows.length - 1) := by rw [ixN_of (by omega) (by omega)]; congr 1; omega
    by_cases h : w = w_go
    · obtain ⟨t, rfl⟩ := hg.mp h
      exact ⟨rows, S, g0.gd ⟨t, er⟩, rfl, hR, p0, by simp [hR, era, d_go]⟩
    · exact ⟨rows.set (rows.length - 1) .en, S.set R (.lst ((rows.set (rows.length - 1) .en).map Row.d)), g0.fix, by simp, set_get hR, p0.set hR0, by simp [hR, era, row_tup r, hw, h, ix, LINE, d_en]⟩
  obtain ⟨rows1, S1, gd1, hlen1, g1, p1, e1⟩ := first
  have nl := nu_le rows1
  rw [hlen1] at nl
  have key := loop_ret (hs := []) (turn := turnM (gName 2) l_law_mended_5)
    (fun i fr S' => ∃ (y2 y3 y4 y5 y7 : Option D) (rows' : List Row), fr = [some (.ref R), some (.int ((rows.length : Int) - 1)), y2, y3, y4, y5, none, y7] ∧ Pre S0 S' ∧ S'[R]? = some (.lst (rows'.map Row.d)) ∧ Gd l rows' ∧ rows'.length = rows.length ∧ nu rows' + i ≤ 2 * rows.length)
    (fun d S' => d = .ref R ∧ Pre S0 S' ∧ ∃ rows' : List Row, S'[R]? = some (.lst (rows'.map Row.d)) ∧ Gd l rows' ∧ rows'.length = rows.length ∧ EndR rows')
    (rng 0 (2 * rows.length)) 0 [some (.ref R), some (.int ((rows.length : Int) - 1)), none, none, none, none, none, none] S1
    ⟨none, none, none, none, none, rows1, rfl, p1, g1, gd1, hlen1, by omega⟩ (fun _ _ S _ => stands_nil S) (by
      rintro i d fr S' hd ⟨y2, y3, y4, y5, y7, rows', rfl, pr, g, gd, hlen, hnu⟩
      obtain ⟨hi, rfl⟩ := rng_at hd
      rw [show 0 + i = i by omega] at *
      have e0 : (0 : Int) + (i : Int) = (i : Int) := by omega
      rw [e0]
      rcases mended_turn R i y3 y4 y5 y7 y2 l rows' S' S0 gd (by omega) (by omega) pr hR0 g with ⟨z3, z4, z5, z6, z7, rows2, S2, e, rfl, p2, g2, gd2, hl2, hn2⟩ | ⟨S2, e, p2, g2, en⟩
      · rw [hlen] at e
        exact .inl ⟨_, S2, .inl e, _, z3, z4, z5, z7, rows2, rfl, p2, g2, gd2, by omega, by omega⟩
      · rw [hlen] at e
        exact .inr ⟨_, S2, e, rfl, p2, rows', g2, gd, hlen, en⟩)
  have lenI : ((2 * rows.length : Nat) : Int) = 2 * (rows.length : Int) := by omega
  rcases key with ⟨fr', S2, e, y2, y3, y4, y5, y7, rows', rfl, p2, g2, gd, hlen, hnu⟩ | ⟨d, S2, e, rfl, p2, rows', g2, gd, hlen, en⟩
  · rw [rng_len] at hnu
    have := nu_pos gd
    omega
  · refine ⟨rows', S2, ?_, p2, g2, gd, hlen, en⟩
    obtain ⟨A, hA⟩ : ∃ A : SM, A = sIf (tBl (mOp oNe (mOp oIx (mOp oIx (mVar 0) (mVar 1)) (mC (.int 0))) (mC (.str t_go)))) (sAsg (mTup (aCons (mC (.str t_end)) aNil)) (gSub (mVar 0) (mVar 1))) (sNx) := ⟨_, rfl⟩
    rw [← hA] at e1
    have hb : b_law_mended = sSeq (sAsg (mOp oSub (mCall bLen (aCons (mVar 0) aNil)) (mC (.int 1))) (gName 1)) (sSeq A (sSeq (sFor (iRng1 (aCons (mOp oMul (mC (.int 2)) (mCall bLen (aCons (mVar 0) aNil))) aNil)) (gName 2) (l_law_mended_5)) (sRet (mVar 0)))) := by rw [hA]; rfl
    have tn : (2 * (rows.length : Int)).toNat = 2 * rows.length := by omega
    simp [m_law_mended, hb, hR, e1, g1, hlen1, m2, fl2, tn]
    rw [e]
    simp
theorem program_ok {ns : List Int} (N : Nat) (S : Store) (l : List Tx) (h : S[0]? = some (.fls (ns.map .int))) (hN : S[N]? = some (.lst (l.map .str))) (h5 : l.length = 5) : ∃ (rows : List Row) (m : Nat) (S' : Store), m_law_program [.ref 0, .ref N, .int 20] S = .ok (.ref m) S' ∧ Pre S S' ∧ S'[m]? = some (.lst (rows.map Row.d)) ∧ Gd l rows ∧ rows.length ≤ 20 ∧ EndR rows := by
  obtain ⟨c0, ec⟩ := cell_ok h 0
  have ec' : m_law_cell [.ref 0, .int 0] S = .ok (.int c0) S := ec
  have d2 : divOk 2 := div_ok (by decide) (by decide)
  obtain ⟨many, hm, hm1, hm2⟩ : ∃ many : Nat, 1 + c0 / 2 % 20 = (many : Int) ∧ 1 ≤ many ∧ many ≤ 20 := ⟨(1 + c0 / 2 % 20).toNat, by omega, by omega, by omega⟩
  obtain ⟨ds, M, S1, e1, p1, g1, d0, d11, dk⟩ := pool_ok N S l h hN h5
  have hN1 := p1.get hN
  have h01 := p1.get h
  have fm : far (many : Int) := by unfold far; omega
  obtain ⟨xs, S2, e2, p2, g2, hxl, hx⟩ := lc_rel (vs := [5]) (g := gName 5) (e := e_law_program_1) (fr := [some (.ref 0), some (.ref N), some (.int 20), some (.int (many : Int)), some (.ref M), none]) (l := rng 0 many) (hs := []) (S := S1) (fun _ x => ∃ r : Row, x = r.d ∧ (RowN l r ∧ (∀ t, r = .go t → 0 ≤ t ∧ t < (many : Int)) ∧ ∀ a t, r = .pt a t → 0 ≤ t ∧ t < (many : Int))) (fun _ h => by cases h) (by rw [rng_len]; exact Nat.le_trans hm2 (by decide)) (by
    intro d hd S' pr
    obtain ⟨i, hi⟩ := List.getElem?_of_mem hd
    obtain ⟨hlt, rfl⟩ := rng_at hi
    have e0 : (0 : Int) + (i : Int) = (i : Int) := by omega
    obtain ⟨v, ev⟩ := drawn_ok (pr.get h01) (6 + i) (by omega)
    have ev' : m_law_drawn [.ref 0, .int (6 + (i : Int))] S' = .ok (.int v) S' := by rw [← ev]; congr 3
    obtain ⟨r, S4, er, p4, hr, hg, hp⟩ := row_ok v i many N M S' l ds (pr.get hN1) (pr.get g1) h5 d0 dk (by omega) (by omega) (by omega)
    refine ⟨_, S4, rfl, r.d, ?_, p4, r, rfl, hr, hg, hp⟩
    simp [e_law_program_1, unset, e0, ev', er])
  obtain ⟨rows, rfl, hrl, hrows⟩ := of_rel (f := Row.d) (Q := fun r => RowN l r ∧ (∀ t, r = .go t → 0 ≤ t ∧ t < (many : Int)) ∧ ∀ a t, r = .pt a t → 0 ≤ t ∧ t < (many : Int)) hxl hx
  rw [rng_len] at hrl
  have g0 : Gd0 l rows := ⟨fun r hr => (hrows r hr).1, by omega, fun n t e => by rw [hrl]; exact (hrows _ (List.mem_of_getElem? e)).2.1 t rfl, fun n a t e => by rw [hrl]; exact (hrows _ (List.mem_of_getElem? e)).2.2 a t rfl⟩
  obtain ⟨rows', S', e, pr, g, gd, hlen, en⟩ := mended_ok S1.length l rows S2 S1 p2 (Nat.le_refl _) g2 g0 (by omega)
  refine ⟨rows', S1.length, S', ?_, p1.trans pr, g, gd, by omega, en⟩
  simp [m_law_program, b_law_program, ec', d2, hm, e1, fm]
  rw [e2]
  simp [e]
end Lk94

set_option Elab.async false
set_option linter.all false
set_option maxHeartbeats 1000000
namespace Lk94
open Mi
/-! ### rows: what they reckon, set, change -/
structure RkO (k : List Ky) : Prop where
  three : ∃ s a b, k = [s, a, b]
  ok : k.all kOk = true
theorem RowN.k {l : List Tx} {r : Row} (h : RowN l r) (hl : ∀ t ∈ l, Nm t) : r.ks.all kOk = true := by
  cases r with
  | rk n s a b =>
    obtain ⟨h1, h2⟩ := h
    obtain ⟨c, hc, e⟩ := h2.s1
    have hs : kOk (.inr s) = true := by
      rw [e]
      have : ∀ c ∈ S8, kOk (.inr [c]) = true := by decide
      exact this c hc
    simp only [Row.ks, List.all_cons, List.all_nil, (hl _ h1).ok, hs, h2.a1.ok hl, h2.b1.ok hl]
    rfl
  | cp n a => simp only [Row.ks, List.all_cons, List.all_nil, (hl _ h.1).ok, Opd.ok h.2 hl]; rfl
  | sy a => simp only [Row.ks, List.all_cons, List.all_nil, Opd.ok h hl]; rfl
  | go t => rfl
  | pt a t => simp only [Row.ks, List.all_cons, List.all_nil, Opd.ok h hl]; rfl
  | en => rfl
theorem rkg_ok {r : Row} {k : List Ky} (h : r.ks.all kOk = true) (e : r.rkg = some k) : RkO k := by
  cases r with
  | rk n s a b =>
    obtain rfl := Option.some.inj e
    refine ⟨⟨_, _, _, rfl⟩, ?_⟩
    simp only [Row.ks, List.all_cons, List.all_nil, Bool.and_eq_true] at h ⊢
    exact ⟨h.2.2.1, h.2.2.2.1, h.2.2.2.2.1, trivial⟩
  | _ => cases e
/-- rows whose data are in order -/
def RowsK (rows : List Row) : Prop := ∀ r ∈ rows, r.ks.all kOk = true
theorem recs_ok {rows : List Row} (h : RowsK rows) {k : List Ky} (hk : k ∈ recs rows) : RkO k := by
  obtain ⟨r, hr, e⟩ := recs_mem.mp hk
  exact rkg_ok (h r hr) e
theorem reckoning_of_ok (r : Row) (S : Store) : m_reckoning_of [r.d] S = .ok (match r.rkg with | some k => kt k | none => .non) S := by
  cases r <;> simp [m_reckoning_of, b_reckoning_of, Row.d, Row.ks, Row.rkg, kt, LINE]
theorem cut1 {α : Type} (a b c : α) : cut [a, b, c] (some 1) none = [b, c] := rfl
theorem in_two (n : Tx) (a b : Ky) (S : Store) : inSeq (.str n) [kyD a, kyD b] S = some (dec ((.inr n : Ky) ∈ [a, b])) := in_ks (.inr n) [a, b] S
theorem changes_ok (r : Row) (k : List Ky) (hk : RkO k) (S : Store) : m_changes [r.d, kt k] S = .ok (.bl (chg r k)) S := by
  obtain ⟨s, a, b, rfl⟩ := hk.three
  have q := fun n => in_two n a b S
  cases r <;> simp [m_changes, b_changes, m_sets, b_sets, Row.d, Row.ks, kt, chg, Row.set, cut1, q]
theorem cut2 {α : Type} (a b c d e : α) : cut [a, b, c, d, e] (some 2) none = [c, d, e] := rfl
/-! ### reckonings -/
theorem reckonings_ok (p : Nat) (rows : List Row) (S : Store) (h : S[p]? = some (.lst (rows.map Row.d))) (hr : rows.length ≤ 1000) : ∃ S', m_reckonings [.ref p] S = .ok (.ref (S.length + 1)) S' ∧ Pre S S' ∧ S'[S.length + 1]? = some (.lst ((recs rows).map kt)) := by
  have hp := Pre.lt (S' := S) h
  have key := loop_inv (hs := [(p, rows.map Row.d)]) (turn := turnM (gName 2) l_reckonings_1)
    (fun i fr S' => ∃ (x y : Option D), fr = [some (.ref p), some (.ref S.length), x, y] ∧ S' = S ++ [.dT ((recs (rows.take i)).map fun k => (k, .bl true))])
    (rows.map Row.d) 0 [some (.ref p), some (.ref S.length), none, none] (S ++ [.dT []]) ⟨none, none, rfl, rfl⟩
    (by
      rintro i fr S' ⟨x, y, rfl, rfl⟩
      exact stands_one (by simp [app_get h]))
    (by
      rintro i d fr S' hd ⟨x, y, rfl, rfl⟩
      rw [List.getElem?_map] at hd
      obtain ⟨r, hn, rfl⟩ := Option.map_eq_some_iff.mp hd
      have q := reckoning_of_ok r (S ++ [.dT ((recs (rows.take i)).map fun k => (k, D.bl true))])
      have tk : rows.take (i + 1) = rows.take i ++ [r] := by
        obtain ⟨hi, rfl⟩ := List.getElem?_eq_some_iff.mp hn
        rw [List.take_succ_eq_append_getElem hi]
      have len := recs_len (rows.take i)
      have hi : i < rows.length := (List.getElem?_eq_some_iff.mp hn).1
      rw [List.length_take] at len
      have e0 : 0 + i = i := by omega
      rw [e0] at *
      rw [tk, recs_snoc]
      generalize recs (rows.take i) = acc at *
      have hlen : acc.length < LINE := Nat.lt_of_le_of_lt (show acc.length ≤ 1000 by omega) (by decide)
      cases hk : r.rkg with
      | none =>
        rw [hk] at q
        refine ⟨[some (.ref p), some (.ref S.length), some r.d, some .non], _, .inl (by simp [turnM_s, l_reckonings_1, q]; rfl), some r.d, some .non, rfl, ?_⟩
        simp [addK, hk]
      | some k =>
        rw [hk] at q
        refine ⟨[some (.ref p), some (.ref S.length), some r.d, some (kt k)], S ++ [.dT ((if dec (k ∈ acc) = true then acc else acc ++ [k]).map fun k => (k, .bl true))], .inl (by
          simp [turnM_s, l_reckonings_1, q, kt, hlen, dPut_map]), some r.d, some (kt k), rfl, ?_⟩
        simp only [addK, hk])
  obtain ⟨fr', S', e, x, y, rfl, rfl⟩ := key
  have e0 : (rows.take (0 + (rows.map Row.d).length)) = rows := by simp
  rw [e0] at e
  refine ⟨S ++ [.dT ((recs rows).map fun k => (k, .bl true))] ++ [.lst ((recs rows).map kt)], ?_, (Pre.app _ _).trans (Pre.app _ _), by simp [get_app]⟩
  simp [m_reckonings, b_reckonings, app_get h]
  rw [e]
  simp [bList, seqOf, lstOf, new, kt]
end Lk94

set_option Elab.async false
set_option linter.all false
set_option maxHeartbeats 1000000
namespace Lk94
open Mi
/-! ### bits of rows -/
theorem all_bits_ok (p : Nat) (rows : List Row) (S : Store) (h : S[p]? = some (.lst (rows.map Row.d))) (hr : rows.length ≤ 1000) : ∃ S', m_all_bits [.ref p] S = .ok (.int ((bitsOf (fun _ => true) (recs rows).length : Nat) : Int)) S' ∧ Pre S S' := by
  obtain ⟨S', e, pr, g⟩ := reckonings_ok p rows S h hr
  have len := recs_len rows
  have s := shl_1 (recs rows).length (by omega) S'
  refine ⟨S', ?_, pr⟩
  have e1 : ((2 ^ (recs rows).length : Nat) : Int) - 1 = ((bitsOf (fun _ => true) (recs rows).length : Nat) : Int) := by
    rw [bits_all]
    have := Nat.one_le_two_pow (n := (recs rows).length)
    omega
  have s' : oSub (.int ((2 ^ (recs rows).length : Nat) : Int)) (.int 1) S' = .ok (.int ((bitsOf (fun _ => true) (recs rows).length : Nat) : Int)) S' := by rw [oSub_i, e1]
  simp only [m_all_bits, b_all_bits, mDef_1, sRet_s, mOp_s, mC_s, mCall_s, aCons_s, mVar_s, List.cons_append, List.nil_append, List.getElem?_cons_zero, varK_s, acK1_s, aNil_s, acK2_s, callK_s, e, bLen_r, g, lenK_l, List.length_map, opK1_s, opK2_s, s, s', reK_s, deK_r, quiet_s]
/-- what a row reckons, by its number -/
noncomputable def ownB (rows : List Row) (r : Row) : D := bD (recs rows).length (ownF rows r)
theorem own_none {rows : List Row} {r : Row} (h : r.rkg = none) : ownB rows r = .int 0 := by
  unfold ownB bD
  rw [show ownF rows r = fun _ => false from funext fun k => dec_false (by rw [h]; simp), bits_none]
  rfl
theorem own_some {rows : List Row} {r : Row} {k : List Ky} {j : Nat} (h : r.rkg = some k) (hj : (recs rows)[j]? = some k) : ownB rows r = .int ((2 ^ j : Nat) : Int) := by
  have hl := (List.getElem?_eq_some_iff.mp hj).1
  unfold ownB bD
  rw [bits_one hl]
  congr 3
  funext i
  unfold ownF
  rw [h]
  by_cases e : i = j
  · subst e
    rw [dec_true ⟨by simp, hj.symm⟩]; simp
  · rw [dec_false, decide_eq_false e]
    rintro ⟨_, z⟩
    have z' : (recs rows)[i]? = (recs rows)[j]? := by rw [← z, hj]
    have hi : i < (recs rows).length := by
      have : (recs rows)[i]? = some k := z.symm
      exact (List.getElem?_eq_some_iff.mp this).1
    exact e ((List.getElem?_inj hi (recs_nd rows)).mp z')
theorem own_bits_ok (p : Nat) (rows : List Row) (S : Store) (h : S[p]? = some (.lst (rows.map Row.d))) (hr : rows.length ≤ 1000) : ∃ (m : Nat) (S' : Store), m_own_bits [.ref p] S = .ok (.ref m) S' ∧ Pre S S' ∧ S.length ≤ m ∧ S'[m]? = some (.lst (rows.map (ownB rows))) := by
  obtain ⟨S1, e1, p1, g1⟩ := reckonings_ok p rows (S ++ [.dT []]) (app_get h) hr
  have lS : (S ++ [O.dT []]).length = S.length + 1 := by simp
  have len := recs_len rows
  have nd := recs_nd rows
  generalize hL : recs rows = L at *
  have pS1 : Pre S S1 := (Pre.app _ _).trans p1
  have gd1 : S1[S.length]? = some (.dT []) := p1.get (app_new _ _ _)
  have hSl := Pre.lt (S' := S) h
  have key1 := loop_inv (hs := [((S ++ [O.dT []]).length + 1, L.map kt)]) (turn := turnM (gTup 2 (gCons (gName 2) (gCons (gName 3) gNil))) l_own_bits_1)
    (fun i fr S' => ∃ (k2 k3 : Option D), fr = [some (.ref p), some (.ref S.length), k2, k3, none, none] ∧ Pre S S' ∧ S'[(S ++ [O.dT []]).length + 1]? = some (.lst (L.map kt)) ∧ S'[S.length]? = some (.dT (numK 0 (L.take i))))
    (prs 0 (L.map kt)) 0 [some (.ref p), some (.ref S.length), none, none, none, none] S1
    ⟨none, none, rfl, pS1, g1, gd1⟩
    (by
      rintro i fr S' ⟨k2, k3, rfl, pr, gl, gd⟩
      exact stands_one (lst_of gl))
    (by
      rintro i d fr S' hd ⟨k2, k3, rfl, pr, gl, gd⟩
      obtain ⟨x, hx, rfl⟩ : ∃ x, (L.map kt)[i]? = some x ∧ d = .tup [.int (i : Nat), x] := by
        rw [prs_get] at hd
        obtain ⟨x, hx, rfl⟩ := Option.map_eq_some_iff.mp hd
        exact ⟨x, hx, by simp⟩
      rw [List.getElem?_map] at hx
      obtain ⟨k, hk, rfl⟩ := Option.map_eq_some_iff.mp hx
      have hi := (List.getElem?_eq_some_iff.mp hk).1
      rw [show 0 + i = i by omega] at *
      have nk : k ∉ L.take i := fun z => by
        obtain ⟨j, hj⟩ := List.getElem?_of_mem z
        have hji : j < i := by
          have := (List.getElem?_eq_some_iff.mp hj).1
          rw [List.length_take] at this; omega
        rw [List.getElem?_take_of_lt hji] at hj
        have := (List.getElem?_inj (by omega) nd).mp (hj.trans hk.symm)
        omega
      have put := numK_put (i := 0) nk (.int (i : Nat))
      have nl := numK_len 0 (L.take i)
      rw [List.length_take] at nl
      have nl2 : (numK 0 (L.take i)).length < 16777216 := by omega
      refine ⟨[some (.ref p), some (.ref S.length), some (.int (i : Nat)), some (kt k), none, none], S'.set S.length (.dT (numK 0 (L.take (i + 1)))), .inl ?_, _, _, rfl, pr.set (Nat.le_refl _), by rw [set_ne (by omega)]; exact gl, set_get gd⟩
      have e : numK 0 (L.take (i + 1)) = dPut (numK 0 (L.take i)) k (.int (i : Nat)) := by
        rw [tk_succ hk, numK_snoc, put, List.length_take]
        congr 5
        omega
      rw [e]
      simp [turnM_s, l_own_bits_1, gd, nl2, LINE])
  obtain ⟨fr1, S2, e2, k2, k3, rfl, p2, gl2, gd2⟩ := key1
  rw [prs_len, List.length_map, Nat.zero_add, List.take_length] at gd2
  have h2 := p2.get h
  have key2 := loop_inv (hs := [(p, rows.map Row.d)]) (turn := turnM (gName 5) l_own_bits_2)
    (fun i fr S' => ∃ (k3 k5 : Option D), fr = [some (.ref p), some (.ref S.length), k2, k3, some (.ref S2.length), k5] ∧ S' = S2 ++ [.lst ((rows.take i).map (ownB rows))])
    (rows.map Row.d) 0 [some (.ref p), some (.ref S.length), k2, k3, some (.ref S2.length), none] (S2 ++ [.lst []])
    ⟨k3, none, rfl, rfl⟩
    (by
      rintro i fr S' ⟨k3, k5, rfl, rfl⟩
      exact stands_one (lst_of (app_get h2)))
    (by
      rintro i d fr S' hd ⟨k3, k5, rfl, rfl⟩
      rw [List.getElem?_map] at hd
      obtain ⟨r, hn, rfl⟩ := Option.map_eq_some_iff.mp hd
      have hi : i < rows.length := (List.getElem?_eq_some_iff.mp hn).1
      rw [show 0 + i = i by omega] at *
      have q := reckoning_of_ok r (S2 ++ [.lst ((rows.take i).map (ownB rows))])
      have tl : ((rows.take i).map (ownB rows)).length < 16777216 := by rw [List.length_map, List.length_take]; omega
      have tl2 : min i rows.length < 16777216 := by omega
      rw [tk_succ hn, List.map_append]
      have tl3 : ((rows.take i).map (ownB rows)).length = min i rows.length := by rw [List.length_map, List.length_take]
      generalize (rows.take i).map (ownB rows) = A at *
      cases hk : r.rkg with
      | none =>
        rw [hk] at q
        refine ⟨[some (.ref p), some (.ref S.length), k2, some .non, some (.ref S2.length), some r.d], _, .inl ?_, _, _, rfl, rfl⟩
        simp [turnM_s, l_own_bits_2, q, get_len, tl, LINE, own_none hk]
      | some k =>
        rw [hk] at q
        have hm : k ∈ L := by rw [← hL]; exact recs_mem.mpr ⟨r, List.mem_of_getElem? hn, hk⟩
        obtain ⟨j, hj⟩ := List.getElem?_of_mem hm
        have hjl := (List.getElem?_eq_some_iff.mp hj).1
        have g := numK_get 0 nd hj
        rw [Nat.zero_add] at g
        have ow := own_some (rows := rows) hk (by rw [hL]; exact hj)
        have sh : powOk 1 (j : Int) := by unfold powOk; refine ⟨by omega, by omega, by decide⟩
        have gdd := app_get (G := [.lst A]) gd2
        refine ⟨[some (.ref p), some (.ref S.length), k2, some (kt k), some (.ref S2.length), some r.d], S2 ++ [.lst (A ++ [r].map (ownB rows))], .inl ?_, _, _, rfl, rfl⟩
        have iskt : isN (kt k) = false := rfl
        simp [turnM_s, l_own_bits_2, q, get_len, tl, LINE, ow, iskt, gd2, get_app, g, sh])
  obtain ⟨fr2, S3, e3, k3', k5, rfl, rfl⟩ := key2
  rw [List.length_map, Nat.zero_add, List.take_length] at e3
  refine ⟨S2.length, S2 ++ [.lst (rows.map (ownB rows))], ?_, p2.trans (Pre.app _ _), p2.len, app_new _ _ _⟩
  rw [lS] at e1 e2 g1
  simp [m_own_bits, b_own_bits, e1, g1]
  rw [e2]
  simp [LINE, app_get h2]
  rw [e3]
  simp
noncomputable def lostB (rows : List Row) (r : Row) : D := bD (recs rows).length (lostF rows r)
theorem lost_bits_ok (p : Nat) (rows : List Row) (S : Store) (hk : RowsK rows) (h : S[p]? = some (.lst (rows.map Row.d))) (hr : rows.length ≤ 1000) : ∃ (m : Nat) (S' : Store), m_lost_bits [.ref p] S = .ok (.ref m) S' ∧ Pre S S' ∧ S.length ≤ m ∧ S'[m]? = some (.lst (rows.map (lostB rows))) := by
  obtain ⟨S1, e1, p1, g1⟩ := reckonings_ok p rows S h hr
  have len := recs_len rows
  have rok := fun k => recs_ok (rows := rows) hk (k := k)
  have h1 := p1.get h
  have g1l := Pre.lt (S' := S1) g1
  have inner : ∀ (r : Row) (x5 x6 : Option D) (G : List D), ∃ y5 y6, loopM [(S.length + 1, (recs rows).map kt)] (turnM (gTup 2 (gCons (gName 5) (gCons (gName 6) gNil))) l_lost_bits_1) (prs 0 ((recs rows).map kt)) [some (.ref p), some (.ref (S.length + 1)), some (.ref S1.length), some r.d, some (.int 0), x5, x6] (S1 ++ [.lst G]) = .ok (.nx [some (.ref p), some (.ref (S.length + 1)), some (.ref S1.length), some r.d, some (lostB rows r), y5, y6]) (S1 ++ [.lst G]) := by
    intro r x5 x6 G
    have key := loop_inv (hs := [(S.length + 1, (recs rows).map kt)]) (turn := turnM (gTup 2 (gCons (gName 5) (gCons (gName 6) gNil))) l_lost_bits_1)
      (fun i fr S' => ∃ (y5 y6 : Option D), fr = [some (.ref p), some (.ref (S.length + 1)), some (.ref S1.length), some r.d, some (.int ((bitsOf (lostF rows r) i : Nat) : Int)), y5, y6] ∧ S' = S1 ++ [.lst G])
      (prs 0 ((recs rows).map kt)) 0 [some (.ref p), some (.ref (S.length + 1)), some (.ref S1.length), some r.d, some (.int 0), x5, x6] (S1 ++ [.lst G]) ⟨x5, x6, rfl, rfl⟩
      (by
        rintro i fr S' ⟨y5, y6, rfl, rfl⟩
        exact stands_one (lst_of (app_get g1)))
      (by
        rintro i d fr S' hd ⟨y5, y6, rfl, rfl⟩
        obtain ⟨x, hx, rfl⟩ : ∃ x, ((recs rows).map kt)[i]? = some x ∧ d = .tup [.int (i : Nat), x] := by
          rw [prs_get] at hd
          obtain ⟨x, hx, rfl⟩ := Option.map_eq_some_iff.mp hd
          exact ⟨x, hx, by simp⟩
        rw [List.getElem?_map] at hx
        obtain ⟨k, hk2, rfl⟩ := Option.map_eq_some_iff.mp hx
        have hi := (List.getElem?_eq_some_iff.mp hk2).1
        rw [show 0 + i = i by omega] at *
        have q := changes_ok r k (rok k (List.mem_of_getElem? hk2)) (S1 ++ [.lst G])
        have lp : lostF rows r i = chg r k := by unfold lostF; rw [hk2]
        have sh := shl_1 i (by omega) (S1 ++ [.lst G])
        rw [oShl_i] at sh
        have e1 : bitsOf (lostF rows r) (i + 1) = if chg r k = true then bitsOf (lostF rows r) i ||| 2 ^ i else bitsOf (lostF rows r) i := by
          rw [show bitsOf (lostF rows r) (i + 1) = bitsOf (lostF rows r) i + if lostF rows r i = true then 2 ^ i else 0 from rfl, lp]
          cases chg r k with
          | false => simp
          | true =>
            simp only [if_true]
            have := Nat.two_pow_add_eq_or_of_lt (bits_lt (lostF rows r) i) 1
            rw [Nat.mul_one] at this
            rw [Nat.add_comm, this, Nat.or_comm]
        refine ⟨[some (.ref p), some (.ref (S.length + 1)), some (.ref S1.length), some r.d, some (.int ((bitsOf (lostF rows r) (i + 1) : Nat) : Int)), some (.int (i : Nat)), some (kt k)], S1 ++ [.lst G], .inl ?_, _, _, rfl, rfl⟩
        rw [e1]
        cases hc : chg r k with
        | false =>
          rw [hc] at q
          simp [turnM_s, l_lost_bits_1, q]
        | true =>
          rw [hc] at q
          have e2 : ((2 : Int) ^ i).toNat = 2 ^ i := by
            rw [show ((2 : Int) ^ i) = ((2 ^ i : Nat) : Int) by simp]; exact Int.toNat_natCast _
          have e3 : (0 : Int) ≤ 2 ^ i := Int.pow_nonneg (by decide)
          simp at sh
          simp [turnM_s, l_lost_bits_1, q, sh, e2, e3])
    obtain ⟨fr', S', e, y5, y6, rfl, rfl⟩ := key
    rw [prs_len, List.length_map, Nat.zero_add] at e
    exact ⟨y5, y6, e⟩
  have key := loop_inv (hs := [(p, rows.map Row.d)]) (turn := turnM (gName 3) l_lost_bits_2)
    (fun i fr S' => ∃ (y3 y4 y5 y6 : Option D), fr = [some (.ref p), some (.ref (S.length + 1)), some (.ref S1.length), y3, y4, y5, y6] ∧ S' = S1 ++ [.lst ((rows.take i).map (lostB rows))])
    (rows.map Row.d) 0 [some (.ref p), some (.ref (S.length + 1)), some (.ref S1.length), none, none, none, none] (S1 ++ [.lst []]) ⟨none, none, none, none, rfl, rfl⟩
    (by
      rintro i fr S' ⟨y3, y4, y5, y6, rfl, rfl⟩
      exact stands_one (lst_of (app_get h1)))
    (by
      rintro i d fr S' hd ⟨y3, y4, y5, y6, rfl, rfl⟩
      rw [List.getElem?_map] at hd
      obtain ⟨r, hn, rfl⟩ := Option.map_eq_some_iff.mp hd
      have hi : i < rows.length := (List.getElem?_eq_some_iff.mp hn).1
      rw [show 0 + i = i by omega] at *
      obtain ⟨z5, z6, e⟩ := inner r y5 y6 ((rows.take i).map (lostB rows))
      have tl2 : min i rows.length < 16777216 := by omega
      rw [tk_succ hn, List.map_append]
      have tl3 : ((rows.take i).map (lostB rows)).length < 16777216 := by rw [List.length_map, List.length_take]; omega
      generalize (rows.take i).map (lostB rows) = A at *
      refine ⟨[some (.ref p), some (.ref (S.length + 1)), some (.ref S1.length), some r.d, some (lostB rows r), z5, z6], _, .inl ?_, _, _, _, _, rfl, rfl⟩
      simp [turnM_s, l_lost_bits_2, app_get g1]
      rw [e]
      simp [get_len, tl3, LINE])
  obtain ⟨fr', S', e, y3, y4, y5, y6, rfl, rfl⟩ := key
  rw [List.length_map, Nat.zero_add, List.take_length] at e
  refine ⟨S1.length, S1 ++ [.lst (rows.map (lostB rows))], ?_, p1.trans (Pre.app _ _), p1.len, app_new _ _ _⟩
  simp [m_lost_bits, b_lost_bits, e1, LINE, app_get h1]
  rw [e]
  simp
end Lk94

set_option Elab.async false
set_option linter.all false
set_option maxHeartbeats 1000000
namespace Lk94
open Mi
/-! ### followers, places -/
theorem followers_ok (P n : Nat) (rows : List Row) (r : Row) (S : Store) (hP : S[P]? = some (.lst (rows.map Row.d))) (hr : rows[n]? = some r) : m_followers [.ref P, .int n] S = .ok (.ref S.length) (S ++ [.lst ((fol n r).map .int)]) := by
  have e : atI (rows.map Row.d) (n : Int) = some r.d := at_of (by rw [List.getElem?_map, hr]; rfl)
  cases r <;> simp [m_followers, b_followers, hP, e, d_rk, d_cp, d_sy, d_go, d_pt, d_en, LINE, fol]
def pD (p : Int × Int) : D := .tup [.int p.1, .int p.2]
theorem pD_kt (p : Int × Int) : pD p = kt (pk p) := rfl
theorem places_ok (P : Nat) (rows : List Row) (S : Store) (hP : S[P]? = some (.lst (rows.map Row.d))) (hl : rows.length ≤ 1000) : ∃ (m : Nat) (S' : Store), m_places [.ref P] S = .ok (.ref m) S' ∧ Pre S S' ∧ S.length ≤ m ∧ S'[m]? = some (.lst ((plc rows).map pD)) := by
  have fl : far (rows.length : Int) := by unfold far; omega
  have hPl := Pre.lt (S' := S) hP
  have key := loop_inv (hs := []) (turn := turnM (gName 2) l_places_2)
    (fun i fr S' => ∃ (k2 k3 : Option D), fr = [some (.ref P), some (.ref S.length), k2, k3] ∧ Pre S S' ∧ S'[S.length]? = some (.lst (((-1, 0) :: plcFrom 0 (rows.take i)).map pD)))
    (rng 0 rows.length) 0 [some (.ref P), some (.ref S.length), none, none] (S ++ [.lst [pD (-1, 0)]])
    ⟨none, none, rfl, Pre.app _ _, app_new _ _ _⟩ (fun _ _ S _ => stands_nil S) (by
      rintro i d fr S' hd ⟨k2, k3, rfl, pr, g⟩
      obtain ⟨hi, rfl⟩ := rng_at hd
      rw [show 0 + i = i by omega] at *
      have e0 : (0 : Int) + (i : Int) = (i : Int) := by omega
      have hr : rows[i]? = some rows[i] := List.getElem?_eq_getElem hi
      generalize rows[i] = r at hr
      have f := followers_ok P i rows r S' (pr.get hP) hr
      have hlt := Pre.lt (S' := S') g
      have tl : (rows.take i).length = i := by rw [List.length_take]; omega
      have pl := plcFrom_len 0 (rows.take i)
      have fl2 := fol_len i r
      have inner := loop_inv (hs := [(S'.length, (fol i r).map D.int)]) (turn := turnM (gName 3) l_places_1)
        (fun j fr S2 => ∃ (k3 : Option D), fr = [some (.ref P), some (.ref S.length), some (.int i), k3] ∧ Pre S S2 ∧ S2[S'.length]? = some (.lst ((fol i r).map .int)) ∧ S2[S.length]? = some (.lst (((-1, 0) :: plcFrom 0 (rows.take i) ++ ((fol i r).take j).map fun m => ((i : Int), m)).map pD)))
        ((fol i r).map D.int) 0 [some (.ref P), some (.ref S.length), some (.int i), k3] (S' ++ [.lst ((fol i r).map .int)])
        ⟨k3, rfl, pr.trans (Pre.app _ _), app_new _ _ _, by simpa using app_get g⟩
        (by
          rintro j fr S2 ⟨k3, rfl, pr2, gf, _⟩
          exact stands_one (lst_of gf))
        (by
          rintro j d fr S2 hd2 ⟨k3, rfl, pr2, gf, g2⟩
          rw [List.getElem?_map] at hd2
          obtain ⟨m, hm, rfl⟩ := Option.map_eq_some_iff.mp hd2
          rw [show 0 + j = j by omega] at *
          have hj := (List.getElem?_eq_some_iff.mp hm).1
          have ll : (((-1, 0) :: plcFrom 0 (rows.take i) ++ ((fol i r).take j).map fun m => ((i : Int), m)).map pD).length < 16777216 := by
            rw [List.length_map, List.length_append, List.length_cons, List.length_map, List.length_take]; omega
          refine ⟨[some (.ref P), some (.ref S.length), some (.int i), some (.int m)], S2.set S.length (.lst (((-1, 0) :: plcFrom 0 (rows.take i) ++ ((fol i r).take (j + 1)).map fun m => ((i : Int), m)).map pD)), .inl ?_, _, rfl, pr2.set (Nat.le_refl _), by rw [set_ne (by omega)]; exact gf, set_get g2⟩
          have eA : (((-1, 0) :: plcFrom 0 (rows.take i) ++ ((fol i r).take (j + 1)).map fun m => ((i : Int), m)).map pD) = (((-1, 0) :: plcFrom 0 (rows.take i) ++ ((fol i r).take j).map fun m => ((i : Int), m)).map pD) ++ [pD ((i : Int), m)] := by
            rw [tk_succ hm]
            simp only [List.map_append, List.map_cons, List.map_nil, List.append_assoc, List.cons_append]
          rw [eA]
          generalize ((-1, 0) :: plcFrom 0 (rows.take i) ++ ((fol i r).take j).map fun m => ((i : Int), m)).map pD = A at *
          simp [turnM_s, l_places_1, g2, ll, LINE, pD])
      obtain ⟨fr2, S2, e2, k3', rfl, pr2, _, g2⟩ := inner
      rw [List.length_map, Nat.zero_add, List.take_length] at g2
      refine ⟨[some (.ref P), some (.ref S.length), some (.int i), k3'], S2, .inl ?_, _, _, rfl, pr2, ?_⟩
      · simp [turnM_s, l_places_2, e0, f, get_len]
        exact e2
      · rw [tk_succ hr, plcFrom_snoc, tl, show 0 + i = i by omega]
        exact g2)
  obtain ⟨fr', S', e, k2, k3, rfl, pr, g⟩ := key
  rw [rng_len, Nat.zero_add, List.take_length] at g
  refine ⟨S.length, S', ?_, pr, Nat.le_refl _, g⟩
  simp [m_places, b_places, LINE, app_get hP, fl]
  simp [pD] at e
  rw [e]
  simp
noncomputable abbrev mR (rows : List Row) : Nat := (recs rows).length
/-- rows numbered -/
def numD (n : Nat) (f : Nat → D) : List D := (List.range n).map f
theorem num_at {n k : Nat} {f : Nat → D} (h : k < n) : atI (numD n f) (k : Int) = some (f k) := at_of (by unfold numD; rw [List.getElem?_map, List.getElem?_range h]; rfl)
theorem plc_in {l : List Tx} {rows : List Row} (gd : Gd l rows) {p : Int × Int} (h : p ∈ plc rows) : -1 ≤ p.1 ∧ p.1 < rows.length ∧ 0 ≤ p.2 ∧ p.2 < rows.length := by
  obtain ⟨a, b⟩ := p
  have hp := gd.pos
  rcases plc_mem.mp h with ⟨rfl, rfl⟩ | ⟨i, r, e, rfl, hb⟩
  · exact ⟨by omega, by omega, by omega, by omega⟩
  · have := gd.fol_in e hb
    have hi := (List.getElem?_eq_some_iff.mp e).1
    exact ⟨by omega, by omega, by omega, by omega⟩
end Lk94

set_option Elab.async false
set_option linter.all false
set_option maxHeartbeats 1000000
namespace Lk94
open Mi
/-! ### the rows from which each is come to -/
theorem ahead_ok (P : Nat) (l : List Tx) (rows : List Row) (S : Store) (gd : Gd l rows) (hP : S[P]? = some (.lst (rows.map Row.d))) (hl : rows.length ≤ 1000) : ∃ (A : Nat) (S' : Store), m_ahead_of [.ref P] S = .ok (.ref A) S' ∧ Pre S S' ∧ S.length ≤ A ∧ Cm S' A rows.length (cameR rows) := by
  have q1 := lc_fresh (vs := [2]) (g := gName 2) (e := e_ahead_of_1) (fr := [some (.ref P), none, none, none, none]) (l := rows.map Row.d) (hs := [(P, rows.map Row.d)]) (S := S) (fun d S' => ⟨[some (.ref P), none, some d, none, none], by simp [unset], by simp [e_ahead_of_1, LINE]⟩) (stand_one (lst_of hP)) (by rw [List.length_map]; exact Nat.le_trans hl (by decide))
  rw [List.length_map] at q1
  obtain ⟨S1, hS1⟩ : ∃ S1 : Store, S1 = S ++ O.lst ((List.range rows.length).map fun i => .ref (S.length + 1 + i)) :: List.replicate rows.length (.lst []) := ⟨_, rfl⟩
  have c1 : Cm S1 S.length rows.length fun _ => [] := by rw [hS1]; exact Cm.start
  have p1 : Pre S S1 := by rw [hS1]; exact Pre.app _ _
  have l1 : S1.length = S.length + 1 + rows.length := by rw [hS1, List.length_append, List.length_cons, List.length_replicate]; omega
  rw [← hS1] at q1
  obtain ⟨Q, S2, e2, p2, hQ, gQ⟩ := places_ok P rows S1 (p1.get hP) hl
  have pl := plc_len rows
  have key := loop_inv (hs := [(Q, (plc rows).map pD)]) (turn := turnM (gTup 2 (gCons (gName 3) (gCons (gName 4) gNil))) l_ahead_of_2)
    (fun i fr S' => ∃ (y3 y4 : Option D), fr = [some (.ref P), some (.ref S.length), none, y3, y4] ∧ Pre S S' ∧ S'[Q]? = some (.lst ((plc rows).map pD)) ∧ Cm S' S.length rows.length (cameL ((plc rows).take i)))
    ((plc rows).map pD) 0 [some (.ref P), some (.ref S.length), none, none, none] S2
    ⟨none, none, rfl, p1.trans p2, gQ, c1.mono p2⟩
    (by
      rintro i fr S' ⟨y3, y4, rfl, pr, gq, _⟩
      exact stands_one (lst_of gq))
    (by
      rintro i d fr S' hd ⟨y3, y4, rfl, pr, gq, cm⟩
      rw [List.getElem?_map] at hd
      obtain ⟨q, hq, rfl⟩ := Option.map_eq_some_iff.mp hd
      rw [show 0 + i = i by omega] at *
      have hin := plc_in gd (List.mem_of_getElem? hq)
      obtain ⟨a, b⟩ := q
      obtain ⟨m, rfl⟩ : ∃ m : Nat, b = (m : Int) := ⟨b.toNat, by have := hin.2.2.1; omega⟩
      have hm : m < rows.length := by have := hin.2.2.2; omega
      have ix := cm.ix hm
      have gm := cm.at_ m hm
      have ll := cameL_len ((plc rows).take i) m
      rw [List.length_take] at ll
      have ll2 : (cameL ((plc rows).take i) m).length < 16777216 := by omega
      by_cases ha : a = -1
      · refine ⟨_, S', .inl (by simp [turnM_s, pD, l_ahead_of_2, ha]; exact ⟨rfl, rfl⟩), _, _, rfl, pr, gq, ?_⟩
        have e : cameL ((plc rows).take (i + 1)) = cameL ((plc rows).take i) := by
          funext j
          rw [tk_succ hq, cameL_snoc, if_neg (fun z => z.1 ha)]
        rw [e]; exact cm
      · refine ⟨_, S'.set (S.length + 1 + m) (.lst ((cameL ((plc rows).take i) m ++ [a]).map .int)), .inl (by simp [turnM_s, pD, l_ahead_of_2, ha, cm.a, ix, gm, ll2, LINE]; exact ⟨rfl, rfl⟩), _, _, rfl, pr.set (by omega), by rw [set_ne (by omega)]; exact gq, ?_⟩
        have e : cameL ((plc rows).take (i + 1)) = fun j => if j = m then cameL ((plc rows).take i) j ++ [a] else cameL ((plc rows).take i) j := by
          funext j
          rw [tk_succ hq, cameL_snoc]
          by_cases hj : j = m
          · subst hj
            rw [if_pos ⟨ha, rfl⟩, if_pos rfl]
          · rw [if_neg (fun z => hj (by have := z.2; omega)), if_neg hj]
        rw [e]
        exact cm.put hm a)
  obtain ⟨fr', S3, e3, y3, y4, rfl, p3, _, cm⟩ := key
  rw [List.length_map, Nat.zero_add, List.take_length] at cm
  refine ⟨S.length, S3, ?_, p3, Nat.le_refl _, cm⟩
  simp [m_ahead_of, b_ahead_of, hP]
  rw [q1]
  simp [e2, gQ]
  rw [e3]
  simp
end Lk94

set_option Elab.async false
set_option linter.all false
set_option maxHeartbeats 1000000
namespace Lk94
open Mi
/-! ### where it is standing: the greatest sets -/
theorem left_turn (P Ow Lo Ca Fo n : Nat) (b : Bool) (x6 x9 x10 x11 : Option D) (rows : List Row) (fs : List BF) (S S0 : Store) (hn : n < rows.length) (hl : rows.length ≤ 1000) (hfl : fs.length = rows.length)
    (p0 : Pre S0 S) (hF0 : S0.length ≤ Fo) (hO : S0[Ow]? = some (.lst (rows.map (ownB rows)))) (hL : S0[Lo]? = some (.lst (rows.map (lostB rows)))) (hC : Cm S0 Ca rows.length (cameR rows)) (hF : S[Fo]? = some (.lst (fs.map (bD (mR rows))))) :
    ∃ (y9 y10 y11 : Option D) (fs' : List BF) (b' : Bool) (S' : Store), l_left_by_3 [some (.ref P), some (bD (mR rows) fun _ => true), some (.ref Ow), some (.ref Lo), some (.ref Ca), some (.ref Fo), x6, some (.bl b), some (.int n), x9, x10, x11] S = .ok (.nx [some (.ref P), some (bD (mR rows) fun _ => true), some (.ref Ow), some (.ref Lo), some (.ref Ca), some (.ref Fo), x6, some (.bl b'), some (.int n), y9, y10, y11]) S' ∧ Pre S0 S' ∧ S'[Fo]? = some (.lst (fs'.map (bD (mR rows)))) ∧
      ((bitsOf (gStd rows fs n) (mR rows) = bitsOf (fsAt fs (n : Int)) (mR rows) ∧ fs' = fs ∧ b' = b) ∨ (bitsOf (gStd rows fs n) (mR rows) ≠ bitsOf (fsAt fs (n : Int)) (mR rows) ∧ fs' = fs.set n (gStd rows fs n) ∧ b' = true)) := by
  have hr : rows[n]? = some rows[n] := List.getElem?_eq_getElem hn
  generalize rows[n] = r at hr
  have cm := hC.mono p0
  have ix := cm.ix hn
  have gc := cm.at_ n hn
  have hFl := Pre.lt (S' := S) hF
  obtain ⟨b0, hb0⟩ : ∃ b0 : Bool, b0 = decide (n ≠ 0) := ⟨_, rfl⟩
  have inner := loop_inv (hs := [(Ca + 1 + n, (cameR rows n).map D.int)]) (turn := turnM (gName 10) l_left_by_2)
    (fun i fr S' => ∃ (y10 : Option D), fr = [some (.ref P), some (bD (mR rows) fun _ => true), some (.ref Ow), some (.ref Lo), some (.ref Ca), some (.ref Fo), x6, some (.bl b), some (.int n), some (bD (mR rows) fun k => b0 && allF fs ((cameR rows n).take i) k), y10, x11] ∧ S' = S)
    ((cameR rows n).map D.int) 0 [some (.ref P), some (bD (mR rows) fun _ => true), some (.ref Ow), some (.ref Lo), some (.ref Ca), some (.ref Fo), x6, some (.bl b), some (.int n), some (bD (mR rows) fun _ => b0), x10, x11] S
    ⟨x10, by rw [show bD (mR rows) (fun _ => b0) = bD (mR rows) (fun k => b0 && allF fs (List.take 0 (cameR rows n)) k) from bD_funext fun k => by rw [List.take_zero, allF_nil, Bool.and_true]], rfl⟩
    (by
      rintro i fr S' ⟨y9, rfl, rfl⟩
      exact stands_one (lst_of gc))
    (by
      rintro i d fr S' hd ⟨y9, rfl, rfl⟩
      rw [List.getElem?_map] at hd
      obtain ⟨m, hm, rfl⟩ := Option.map_eq_some_iff.mp hd
      rw [show 0 + i = i by omega] at *
      obtain ⟨j, q', hq', rfl, _⟩ := cameR_mem.mp (List.mem_of_getElem? hm)
      have hj := (List.getElem?_eq_some_iff.mp hq').1
      obtain ⟨q, hq⟩ : ∃ q, fs[j]? = some q := ⟨_, List.getElem?_eq_getElem (by omega)⟩
      have eq1 : atI (fs.map (bD (mR rows))) (j : Int) = some (bD (mR rows) (fsAt fs (j : Int))) := at_of (by
        rw [List.getElem?_map, hq, fsAt_of hq]; rfl)
      refine ⟨_, _, .inl ?_, some (.int (j : Int)), rfl, rfl⟩
      rw [bD_funext (p := fun k => b0 && allF fs ((cameR rows n).take (i + 1)) k) (q := fun k => (b0 && allF fs ((cameR rows n).take i) k) && fsAt fs (j : Int) k) fun k => by rw [tk_succ hm, allF_snoc, Bool.and_assoc]]
      simp [turnM_s, l_left_by_2, hF, eq1, bD_and])
  obtain ⟨fr', S', e, y10, rfl, rfl⟩ := inner
  rw [List.length_map, Nat.zero_add, List.take_length] at e
  have eo : atI (rows.map (ownB rows)) (n : Int) = some (ownB rows r) := at_of (by rw [List.getElem?_map, hr]; rfl)
  have el : atI (rows.map (lostB rows)) (n : Int) = some (lostB rows r) := at_of (by rw [List.getElem?_map, hr]; rfl)
  obtain ⟨q, hq⟩ : ∃ q, fs[n]? = some q := ⟨_, List.getElem?_eq_getElem (by omega)⟩
  have ef : atI (fs.map (bD (mR rows))) (n : Int) = some (bD (mR rows) (fsAt fs n)) := at_of (by rw [List.getElem?_map, hq, fsAt_of hq]; rfl)
  have hg : bD (mR rows) (gStd rows fs n) = bD (mR rows) (fun k => (ownF rows r k || (b0 && allF fs (cameR rows n) k)) && (true ^^ lostF rows r k)) := bD_funext fun k => by unfold gStd; rw [hr, hb0]
  have hO1 := p0.get hO
  have hL1 := p0.get hL
  have z0 : (D.int 0) = bD (mR rows) fun _ => false := bD_zero _
  have head : l_left_by_3 [some (.ref P), some (bD (mR rows) fun _ => true), some (.ref Ow), some (.ref Lo), some (.ref Ca), some (.ref Fo), x6, some (.bl b), some (.int n), x9, x10, x11] S' = seqK (sIf (tBl (mOp oNe (mVar 11) (mOp oIx (mVar 5) (mVar 8)))) (sSeq (sAsg (mVar 11) (gSub (mVar 5) (mVar 8))) (sAsg (mC (.bl true)) (gName 7))) (sNx)) (.ok (.nx [some (.ref P), some (bD (mR rows) fun _ => true), some (.ref Ow), some (.ref Lo), some (.ref Ca), some (.ref Fo), x6, some (.bl b), some (.int n), some (bD (mR rows) fun k => b0 && allF fs (cameR rows n) k), y10, some (bD (mR rows) (gStd rows fs n))]) S') := by
    rw [hg]
    by_cases h : n = 0
    · have hb : b0 = false := by rw [hb0]; exact decide_eq_false fun z => z h
      subst hb
      rw [← z0] at e
      subst h
      simp at e ix gc eo el
      simp [l_left_by_3, cm.a, ix, gc]
      rw [e]
      simp [hO1, hL1, eo, el, ownB, lostB, bD_xor, bD_and, bD_or]
    · have hb : b0 = true := by rw [hb0]; exact decide_eq_true h
      subst hb
      simp [l_left_by_3, h, cm.a, ix, gc]
      rw [e]
      simp [hO1, hL1, eo, el, ownB, lostB, bD_xor, bD_and, bD_or]
  rw [head]
  by_cases hb : bitsOf (gStd rows fs n) (mR rows) = bitsOf (fsAt fs (n : Int)) (mR rows)
  · exact ⟨_, _, _, fs, b, S', by simp [hF, ef, bD_ne, hb]; exact ⟨rfl, rfl, rfl⟩, p0, hF, .inl ⟨hb, rfl, rfl⟩⟩
  · have ix : ixN rows.length (n : Int) = some n := by rw [ixN_of (by omega) (by omega)]; simp
    exact ⟨_, _, _, fs.set n (gStd rows fs n), true, S'.set Fo (.lst ((fs.set n (gStd rows fs n)).map (bD (mR rows)))), by simp [hF, ef, bD_ne, hb, hfl, ix]; exact ⟨rfl, rfl, rfl⟩, p0.set hF0, set_get hF, .inr ⟨hb, rfl, rfl⟩⟩
theorem left_pass (P Ow Lo Ca Fo : Nat) (x6 x7 x8 x9 x10 x11 : Option D) (rows : List Row) (fs : List BF) (S S0 : Store) (hl : rows.length ≤ 1000) (dn : Down (ruleS rows) (mR rows) (fun n k => standP rows n k = true) fs)
    (p0 : Pre S0 S) (hF0 : S0.length ≤ Fo) (hP : S0[P]? = some (.lst (rows.map Row.d))) (hO : S0[Ow]? = some (.lst (rows.map (ownB rows)))) (hL : S0[Lo]? = some (.lst (rows.map (lostB rows)))) (hC : Cm S0 Ca rows.length (cameR rows)) (hF : S[Fo]? = some (.lst (fs.map (bD (mR rows))))) :
    ∃ (y8 y9 y10 y11 : Option D) (fs' : List BF) (b' : Bool) (S' : Store), l_left_by_4 [some (.ref P), some (bD (mR rows) fun _ => true), some (.ref Ow), some (.ref Lo), some (.ref Ca), some (.ref Fo), x6, x7, x8, x9, x10, x11] S = .ok (.nx [some (.ref P), some (bD (mR rows) fun _ => true), some (.ref Ow), some (.ref Lo), some (.ref Ca), some (.ref Fo), x6, some (.bl b'), y8, y9, y10, y11]) S' ∧ Pre S0 S' ∧ S'[Fo]? = some (.lst (fs'.map (bD (mR rows)))) ∧ Down (ruleS rows) (mR rows) (fun n k => standP rows n k = true) fs' ∧
      (b' = true → sumB (mR rows) fs' < sumB (mR rows) fs) ∧ (b' = false → ∀ n k, n < rows.length → k < mR rows → gStd rows fs' n k = fsAt fs' (n : Int) k) := by
  have key := loop_inv (hs := []) (turn := turnM (gName 8) l_left_by_3)
    (fun i fr S' => ∃ (y8 y9 y10 y11 : Option D) (fs' : List BF) (b' : Bool), fr = [some (.ref P), some (bD (mR rows) fun _ => true), some (.ref Ow), some (.ref Lo), some (.ref Ca), some (.ref Fo), x6, some (.bl b'), y8, y9, y10, y11] ∧ Pre S0 S' ∧ S'[Fo]? = some (.lst (fs'.map (bD (mR rows)))) ∧ Down (ruleS rows) (mR rows) (fun n k => standP rows n k = true) fs' ∧
      (b' = true → sumB (mR rows) fs' < sumB (mR rows) fs) ∧ (b' = false → fs' = fs ∧ ∀ n k, n < i → n < rows.length → k < mR rows → gStd rows fs' n k = fsAt fs' (n : Int) k))
    (rng 0 rows.length) 0 [some (.ref P), some (bD (mR rows) fun _ => true), some (.ref Ow), some (.ref Lo), some (.ref Ca), some (.ref Fo), x6, some (.bl false), x8, x9, x10, x11] S
    ⟨x8, x9, x10, x11, fs, false, rfl, p0, hF, dn, (fun z => by cases z), fun _ => ⟨rfl, fun n k h1 h2 => by omega⟩⟩ (fun _ _ S _ => stands_nil S) (by
      rintro i d fr S' hd ⟨y8, y9, y10, y11, fs', b', rfl, pr, g, dn', bt, bf⟩
      obtain ⟨hi, rfl⟩ := rng_at hd
      rw [show 0 + i = i by omega] at *
      have e0 : (0 : Int) + (i : Int) = (i : Int) := by omega
      rw [e0]
      obtain ⟨z9, z10, z11, fs2, b2, S2, e, p2, g2, c⟩ := left_turn P Ow Lo Ca Fo i b' x6 y9 y10 y11 rows fs' S' S0 hi hl dn'.len pr hF0 hO hL hC g
      refine ⟨_, S2, .inl (by simp [turnM_s]; exact e), _, _, _, _, fs2, b2, rfl, p2, g2, ?_⟩
      rcases c with ⟨c1, rfl, rfl⟩ | ⟨c1, rfl, rfl⟩
      · refine ⟨dn', bt, fun hb => ?_⟩
        obtain ⟨h1, h2⟩ := bf hb
        refine ⟨h1, fun n' k h3 h4 h5 => ?_⟩
        by_cases h6 : n' = i
        · subst h6
          exact bits_inj c1 k h5
        · exact h2 n' k (by omega) h4 h5
      · refine ⟨dn'.put hi fun k hk w => std_up dn' hi k hk w, fun _ => ?_, fun z => by cases z⟩
        have lt : bitsOf (gStd rows fs' i) (mR rows) < bitsOf (fsAt fs' (i : Int)) (mR rows) := bit_lt (fun k hk h => dn'.post i k hi hk h) c1
        obtain ⟨q, hq⟩ : ∃ q, fs'[i]? = some q := ⟨_, List.getElem?_eq_getElem (by rw [dn'.len]; exact hi)⟩
        rw [fsAt_of hq] at lt
        have s1 := sumB_set hq lt
        cases hb : b' with
        | true => have := bt hb; omega
        | false => rw [(bf hb).1] at s1 ⊢; exact s1)
  obtain ⟨fr', S', e, y8, y9, y10, y11, fs', b', rfl, pr, g, dn', bt, bf⟩ := key
  rw [rng_len, Nat.zero_add] at bf
  refine ⟨y8, y9, y10, y11, fs', b', S', ?_, pr, g, dn', bt, fun hb n k h1 h2 => (bf hb).2 n k h1 h1 h2⟩
  have fl : far (rows.length : Int) := by unfold far; omega
  have hP1 := p0.get hP
  simp [l_left_by_4, hP1, fl]
  exact e
theorem left_while (P Ow Lo Ca Fo : Nat) (x6 : Option D) (rows : List Row) (S0 : Store) (hl : rows.length ≤ 1000) (hF0 : S0.length ≤ Fo) (hP : S0[P]? = some (.lst (rows.map Row.d))) (hO : S0[Ow]? = some (.lst (rows.map (ownB rows)))) (hL : S0[Lo]? = some (.lst (rows.map (lostB rows)))) (hC : Cm S0 Ca rows.length (cameR rows)) :
    ∀ (k : Nat) (x8 x9 x10 x11 : Option D) (fs : List BF) (S : Store), sumB (mR rows) fs ≤ k → Down (ruleS rows) (mR rows) (fun n k => standP rows n k = true) fs → Pre S0 S → S[Fo]? = some (.lst (fs.map (bD (mR rows)))) →
    ∃ (fr' : Fr) (fs' : List BF) (S' : Store), sWhile c_left_by_5 l_left_by_4 [some (.ref P), some (bD (mR rows) fun _ => true), some (.ref Ow), some (.ref Lo), some (.ref Ca), some (.ref Fo), x6, some (.bl true), x8, x9, x10, x11] S = .ok (.nx fr') S' ∧ fr'[5]? = some (some (.ref Fo)) ∧ Pre S0 S' ∧ S'[Fo]? = some (.lst (fs'.map (bD (mR rows)))) ∧ fs'.length = rows.length ∧ ∀ n k, n < rows.length → k < mR rows → fsAt fs' (n : Int) k = standP rows n k := by
  intro k
  induction k with
  | zero =>
    intro x8 x9 x10 x11 fs S hk dn p0 hF
    obtain ⟨y8, y9, y10, y11, fs', b', S', e, pr, g, dn', bt, bf⟩ := left_pass P Ow Lo Ca Fo x6 (some (.bl true)) x8 x9 x10 x11 rows fs S S0 hl dn p0 hF0 hP hO hL hC hF
    cases b' with
    | true => have := bt rfl; omega
    | false =>
      refine ⟨[some (.ref P), some (bD (mR rows) fun _ => true), some (.ref Ow), some (.ref Lo), some (.ref Ca), some (.ref Fo), x6, some (.bl false), y8, y9, y10, y11], fs', S', ?_, rfl, pr, g, dn'.len, ?_⟩
      · rw [while_s]
        simp [c_left_by_5, e]
        rw [while_s]
        simp [c_left_by_5]
      · intro n k hn hk
        obtain ⟨x, hx⟩ : ∃ x, (recs rows)[k]? = some x := ⟨_, List.getElem?_eq_getElem hk⟩
        have wx : standP rows n k = !dec (Mst rows x n) := by unfold standP; rw [hx]
        by_cases hm : Mst rows x n
        · rw [std_fix (bf rfl) hx hm, wx, dec_true hm]; rfl
        · rw [wx, dec_false hm]
          exact dn'.up n k hn hk (by rw [wx, dec_false hm]; rfl)
  | succ k ih =>
    intro x8 x9 x10 x11 fs S hk dn p0 hF
    obtain ⟨y8, y9, y10, y11, fs', b', S', e, pr, g, dn', bt, bf⟩ := left_pass P Ow Lo Ca Fo x6 (some (.bl true)) x8 x9 x10 x11 rows fs S S0 hl dn p0 hF0 hP hO hL hC hF
    cases b' with
    | true =>
      obtain ⟨fr2, fs2, S2, e2, q⟩ := ih y8 y9 y10 y11 fs' S' (by have := bt rfl; omega) dn' pr g
      refine ⟨fr2, fs2, S2, ?_, q⟩
      rw [while_s]
      simp [c_left_by_5, e]
      exact e2
    | false =>
      refine ⟨[some (.ref P), some (bD (mR rows) fun _ => true), some (.ref Ow), some (.ref Lo), some (.ref Ca), some (.ref Fo), x6, some (.bl false), y8, y9, y10, y11], fs', S', ?_, rfl, pr, g, dn'.len, ?_⟩
      · rw [while_s]
        simp [c_left_by_5, e]
        rw [while_s]
        simp [c_left_by_5]
      · intro n k hn hk
        obtain ⟨x, hx⟩ : ∃ x, (recs rows)[k]? = some x := ⟨_, List.getElem?_eq_getElem hk⟩
        have wx : standP rows n k = !dec (Mst rows x n) := by unfold standP; rw [hx]
        by_cases hm : Mst rows x n
        · rw [std_fix (bf rfl) hx hm, wx, dec_true hm]; rfl
        · rw [wx, dec_false hm]
          exact dn'.up n k hn hk (by rw [wx, dec_false hm]; rfl)
noncomputable def standD (rows : List Row) (n : Nat) : D := bD (mR rows) (standP rows n)
theorem left_by_ok (P : Nat) (l : List Tx) (rows : List Row) (S : Store) (gd : Gd l rows) (rk : RowsK rows) (hP : S[P]? = some (.lst (rows.map Row.d))) (hl : rows.length ≤ 1000) : ∃ (m : Nat) (S' : Store), m_left_by [.ref P] S = .ok (.ref m) S' ∧ Pre S S' ∧ S.length ≤ m ∧ S'[m]? = some (.lst (numD rows.length (standD rows))) := by
  obtain ⟨S1, e1, p1⟩ := all_bits_ok P rows S hP hl
  obtain ⟨Ow, S2, e2, p2, hO0, gO⟩ := own_bits_ok P rows S1 (p1.get hP) hl
  obtain ⟨Lo, S3', e3, p3', hL0, gL⟩ := lost_bits_ok P rows S2 rk (p2.get (p1.get hP)) hl
  obtain ⟨Ca, S3, e3a, p3a, hC0, cm⟩ := ahead_ok P l rows S3' gd (p3'.get (p2.get (p1.get hP))) hl
  have p3 := p3'.trans p3a
  have hP3 := p3.get (p2.get (p1.get hP))
  have gO3 := p3.get gO
  have gL3 := p3a.get gL
  have e1' : m_all_bits [.ref P] S = .ok (bD (mR rows) fun _ => true) S1 := e1
  obtain ⟨S4, e4, p4, g4⟩ := lc_fil (vs := [6]) (g := gName 6) (t := tYes) (e := e_left_by_1) (fr := [some (.ref P), some (bD (mR rows) fun _ => true), some (.ref Ow), some (.ref Lo), some (.ref Ca), none, none, none, none, none, none, none]) (l := rows.map Row.d) (hs := [(P, rows.map Row.d)]) (S := S3) rows Row.d (fun _ => bD (mR rows) fun _ => true) (fun _ => true) rfl (stand_one (lst_of hP3)) (Nat.le_trans hl (by decide)) (by
    intro r hr S' pr
    exact ⟨[some (.ref P), some (bD (mR rows) fun _ => true), some (.ref Ow), some (.ref Lo), some (.ref Ca), none, some r.d, none, none, none, none, none], S', by simp [unset], by simp, Pre.refl _, fun _ => ⟨S', by simp [e_left_by_1], Pre.refl _⟩⟩)
  have hf : rows.filter (fun _ => true) = rows := by simp
  rw [hf] at g4
  have g4' : S4[S3.length]? = some (.lst ((rows.map fun _ => (fun _ => true : BF)).map (bD (mR rows)))) := by rw [g4, List.map_map]; rfl
  have fs0 : ∀ (n : Nat) k, n < rows.length → fsAt (rows.map fun _ => (fun _ => true : BF)) (n : Int) k = true := fun n k hn => by
    rw [fsAt_of (p := fun _ => true) (by rw [List.getElem?_map, List.getElem?_eq_getElem hn]; rfl)]
  have dn : Down (ruleS rows) (mR rows) (fun n k => standP rows n k = true) (rows.map fun _ => (fun _ => true : BF)) := ⟨by simp, fun n k hn _ _ => fs0 n k hn, fun n k hn _ _ => fs0 n k hn⟩
  obtain ⟨fr', fs', S5, e5, f4, p5, g5, hlen, hW⟩ := left_while P Ow Lo Ca S3.length none rows S3 hl (Nat.le_refl _) hP3 gO3 gL3 cm (sumB (mR rows) (rows.map fun _ => (fun _ => true : BF))) none none none none _ S4 (Nat.le_refl _) dn p4 g4'
  have pt := ((p1.trans p2).trans p3)
  refine ⟨S3.length, S5, ?_, pt.trans p5, pt.len, ?_⟩
  · simp [m_left_by, b_left_by, e1', e2, e3, e3a, hP3]
    rw [e4]
    simp
    rw [e5]
    simp [f4]
  · rw [g5]
    congr 2
    apply List.ext_getElem?
    intro n
    unfold numD
    by_cases hn : n < rows.length
    · obtain ⟨q, hq⟩ : ∃ q, fs'[n]? = some q := ⟨_, List.getElem?_eq_getElem (by omega)⟩
      rw [List.getElem?_map, hq, List.getElem?_map, List.getElem?_range hn]
      show some (bD _ q) = some (standD rows n)
      congr 1
      refine bD_congr fun k hk => ?_
      rw [← hW n k hn hk, fsAt_of hq]
    · rw [List.getElem?_eq_none (by rw [List.length_map]; omega), List.getElem?_eq_none (by rw [List.length_map, List.length_range]; omega)]
/-- what stands at a place -/
noncomputable def standsT (rows : List Row) : List (List Ky × D) := dOf (fun p => bD (mR rows) (stdB rows p)) (plc rows)
theorem standing_ok (P : Nat) (l : List Tx) (rows : List Row) (S : Store) (gd : Gd l rows) (rk : RowsK rows) (hP : S[P]? = some (.lst (rows.map Row.d))) (hl : rows.length ≤ 1000) : ∃ (m : Nat) (S' : Store), m_standing [.ref P] S = .ok (.ref m) S' ∧ Pre S S' ∧ S.length ≤ m ∧ S'[m]? = some (.dT (standsT rows)) := by
  obtain ⟨A, S1, e1, p1, hA, gA⟩ := left_by_ok P l rows S gd rk hP hl
  obtain ⟨Q, S2, e2, p2, hQ, gQ⟩ := places_ok P rows (S1 ++ [.dT []]) (app_get (p1.get hP)) hl
  have p12 : Pre S1 S2 := (Pre.app _ _).trans p2
  have gA2 := p12.get gA
  have gD2 : S2[S1.length]? = some (.dT []) := p2.get (app_new _ _ _)
  have hQ' : S1.length < Q := by simp at hQ; omega
  have pl := plc_len rows
  have key := loop_inv (hs := [(Q, (plc rows).map pD)]) (turn := turnM (gName 3) l_standing_1)
    (fun i fr S' => ∃ (k3 : Option D), fr = [some (.ref P), some (.ref A), some (.ref S1.length), k3] ∧ Pre S1 S' ∧ S'[Q]? = some (.lst ((plc rows).map pD)) ∧ S'[S1.length]? = some (.dT (dOf (fun p => bD (mR rows) (stdB rows p)) ((plc rows).take i))))
    ((plc rows).map pD) 0 [some (.ref P), some (.ref A), some (.ref S1.length), none] S2
    ⟨none, rfl, p12, gQ, gD2⟩
    (by
      rintro i fr S' ⟨k3, rfl, pr, gq, _⟩
      exact stands_one (lst_of gq))
    (by
      rintro i d fr S' hd ⟨k3, rfl, pr, gq, g⟩
      rw [List.getElem?_map] at hd
      obtain ⟨q, hq, rfl⟩ := Option.map_eq_some_iff.mp hd
      rw [show 0 + i = i by omega] at *
      have hin := plc_in gd (List.mem_of_getElem? hq)
      have dl := dOf_len (fun p => bD (mR rows) (stdB rows p)) ((plc rows).take i)
      rw [List.length_take] at dl
      have dl2 : (dOf (fun p => bD (mR rows) (stdB rows p)) ((plc rows).take i)).length < 16777216 := by omega
      refine ⟨[some (.ref P), some (.ref A), some (.ref S1.length), some (pD q)], S'.set S1.length (.dT (dOf (fun p => bD (mR rows) (stdB rows p)) ((plc rows).take (i + 1)))), .inl ?_, _, rfl, pr.set (Nat.le_refl _), by rw [set_ne (by omega)]; exact gq, set_get g⟩
      rw [tk_succ hq, dOf_snoc]
      have kq : ktOf (pD q) = some (pk q) := by rw [pD_kt, ktOf_kt]
      have gA' := pr.get gA
      have e0 : oIx (pD q) (.int 0) S' = .ok (.int q.1) S' := by unfold pD; rw [oIx_t, at0]; rfl
      by_cases hq1 : q.1 = -1
      · have z0 : (D.int 0) = bD (mR rows) (stdB rows q) := by unfold stdB; rw [if_pos hq1]; exact bD_zero _
        simp [turnM_s, l_standing_1, e0, hq1, g, kq, dl2, LINE]
        rw [z0]
      · obtain ⟨k, hk⟩ : ∃ k : Nat, q.1 = (k : Int) := ⟨q.1.toNat, by omega⟩
        have ea : atI (numD rows.length (standD rows)) q.1 = some (bD (mR rows) (stdB rows q)) := by
          unfold stdB
          rw [if_neg hq1, hk, Int.toNat_natCast]; exact num_at (by omega)
        simp [turnM_s, l_standing_1, gA', e0, hq1, ea, g, kq, dl2, LINE])
  obtain ⟨fr', S3, e3, k3, rfl, p3, _, g3⟩ := key
  rw [List.length_map, Nat.zero_add, List.take_length] at g3
  refine ⟨S1.length, S3, ?_, p1.trans p3, p1.len, g3⟩
  simp [m_standing, b_standing, e1, e2, gQ]
  rw [e3]
  simp
end Lk94

set_option Elab.async false
set_option linter.all false
set_option maxHeartbeats 1000000
namespace Lk94
open Mi
/-! ### where it is wanted: the greatest sets -/
/-- one row's turn -/
theorem asked_turn (P Ow Lo Fo n : Nat) (b : Bool) (x5 x8 x9 x10 : Option D) (l : List Tx) (rows : List Row) (fs : List BF) (S S0 : Store) (gd : Gd l rows) (hn : n < rows.length) (hl : rows.length ≤ 1000) (hfl : fs.length = rows.length)
    (p0 : Pre S0 S) (hF0 : S0.length ≤ Fo) (hP : S0[P]? = some (.lst (rows.map Row.d))) (hO : S0[Ow]? = some (.lst (rows.map (ownB rows)))) (hL : S0[Lo]? = some (.lst (rows.map (lostB rows)))) (hF : S[Fo]? = some (.lst (fs.map (bD (mR rows))))) :
    ∃ (y8 y9 y10 : Option D) (fs' : List BF) (b' : Bool) (S' : Store), l_asked_by_3 [some (.ref P), some (bD (mR rows) fun _ => true), some (.ref Ow), some (.ref Lo), some (.ref Fo), x5, some (.bl b), some (.int n), x8, x9, x10] S = .ok (.nx [some (.ref P), some (bD (mR rows) fun _ => true), some (.ref Ow), some (.ref Lo), some (.ref Fo), x5, some (.bl b'), some (.int n), y8, y9, y10]) S' ∧ Pre S0 S' ∧ S'[Fo]? = some (.lst (fs'.map (bD (mR rows)))) ∧
      ((bitsOf (gAsk rows fs n) (mR rows) = bitsOf (fsAt fs (n : Int)) (mR rows) ∧ fs' = fs ∧ b' = b) ∨ (bitsOf (gAsk rows fs n) (mR rows) ≠ bitsOf (fsAt fs (n : Int)) (mR rows) ∧ fs' = fs.set n (gAsk rows fs n) ∧ b' = true)) := by
  have hr : rows[n]? = some rows[n] := List.getElem?_eq_getElem hn
  generalize rows[n] = r at hr
  have hP1 := p0.get hP
  have f := followers_ok P n rows r S hP1 hr
  have ea : atI (rows.map Row.d) (n : Int) = some r.d := at_of (by rw [List.getElem?_map, hr]; rfl)
  obtain ⟨w, hw, _, he⟩ : ∃ w, atI (r.ks.map kyD) 0 = some (.str w) ∧ True ∧ (w = w_en ↔ r = .en) := by
    cases r <;> exact ⟨_, rfl, trivial, by simp⟩
  have hrd : r.d = .tup (r.ks.map kyD) := rfl
  have hFl := Pre.lt (S' := S) hF
  obtain ⟨b0, hb0⟩ : ∃ b0 : Bool, b0 = dec (r ≠ .en) := ⟨_, rfl⟩
  -- the followers' bits
  have inner := loop_inv (hs := [(S.length, (fol n r).map D.int)]) (turn := turnM (gName 9) l_asked_by_2)
    (fun i fr S' => ∃ (y9 : Option D), fr = [some (.ref P), some (bD (mR rows) fun _ => true), some (.ref Ow), some (.ref Lo), some (.ref Fo), x5, some (.bl b), some (.int n), some (bD (mR rows) fun k => b0 && allF fs ((fol n r).take i) k), y9, x10] ∧ S' = S ++ [.lst ((fol n r).map .int)])
    ((fol n r).map D.int) 0 [some (.ref P), some (bD (mR rows) fun _ => true), some (.ref Ow), some (.ref Lo), some (.ref Fo), x5, some (.bl b), some (.int n), some (bD (mR rows) fun _ => b0), x9, x10] (S ++ [.lst ((fol n r).map .int)])
    ⟨x9, by rw [show bD (mR rows) (fun _ => b0) = bD (mR rows) (fun k => b0 && allF fs (List.take 0 (fol n r)) k) from bD_funext fun k => by rw [List.take_zero, allF_nil, Bool.and_true]], rfl⟩
    (by
      rintro i fr S' ⟨y9, rfl, rfl⟩
      exact stands_one (lst_of (app_new _ _ _)))
    (by
      rintro i d fr S' hd ⟨y9, rfl, rfl⟩
      rw [List.getElem?_map] at hd
      obtain ⟨m, hm, rfl⟩ := Option.map_eq_some_iff.mp hd
      rw [show 0 + i = i by omega] at *
      have hin := gd.fol_in hr (List.mem_of_getElem? hm)
      obtain ⟨q, hq⟩ : ∃ q, fs[m.toNat]? = some q := ⟨_, List.getElem?_eq_getElem (by omega)⟩
      have eq1 : atI (fs.map (bD (mR rows))) m = some (bD (mR rows) (fsAt fs m)) := at_nat hin.1 (by
        rw [List.getElem?_map, hq]
        have := fsAt_of hq
        rw [Int.toNat_of_nonneg hin.1] at this
        rw [this]; rfl)
      refine ⟨_, _, .inl ?_, some (.int m), rfl, rfl⟩
      rw [bD_funext (p := fun k => b0 && allF fs ((fol n r).take (i + 1)) k) (q := fun k => (b0 && allF fs ((fol n r).take i) k) && fsAt fs m k) fun k => by rw [tk_succ hm, allF_snoc, Bool.and_assoc]]
      simp [turnM_s, l_asked_by_2, app_get hF, eq1, bD_and])
  obtain ⟨fr', S', e, y9, rfl, rfl⟩ := inner
  rw [List.length_map, Nat.zero_add, List.take_length] at e
  have eo : atI (rows.map (ownB rows)) (n : Int) = some (ownB rows r) := at_of (by rw [List.getElem?_map, hr]; rfl)
  have el : atI (rows.map (lostB rows)) (n : Int) = some (lostB rows r) := at_of (by rw [List.getElem?_map, hr]; rfl)
  obtain ⟨q, hq⟩ : ∃ q, fs[n]? = some q := ⟨_, List.getElem?_eq_getElem (by omega)⟩
  have ef : atI (fs.map (bD (mR rows))) (n : Int) = some (bD (mR rows) (fsAt fs n)) := at_of (by rw [List.getElem?_map, hq, fsAt_of hq]; rfl)
  have hg : bD (mR rows) (gAsk rows fs n) = bD (mR rows) (fun k => ownF rows r k || (b0 && allF fs (fol n r) k && (true ^^ lostF rows r k))) := bD_funext fun k => by unfold gAsk; rw [hr, hb0]
  have hO1 := app_get (G := [.lst ((fol n r).map .int)]) (p0.get hO)
  have hL1 := app_get (G := [.lst ((fol n r).map .int)]) (p0.get hL)
  have hF1 := app_get (G := [.lst ((fol n r).map .int)]) hF
  have pa := p0.trans (Pre.app S [.lst ((fol n r).map .int)])
  have z0 : (D.int 0) = bD (mR rows) fun _ => false := bD_zero _
  have head : l_asked_by_3 [some (.ref P), some (bD (mR rows) fun _ => true), some (.ref Ow), some (.ref Lo), some (.ref Fo), x5, some (.bl b), some (.int n), x8, x9, x10] S = seqK (sIf (tBl (mOp oNe (mVar 10) (mOp oIx (mVar 4) (mVar 7)))) (sSeq (sAsg (mVar 10) (gSub (mVar 4) (mVar 7))) (sAsg (mC (.bl true)) (gName 6))) (sNx)) (.ok (.nx [some (.ref P), some (bD (mR rows) fun _ => true), some (.ref Ow), some (.ref Lo), some (.ref Fo), x5, some (.bl b), some (.int n), some (bD (mR rows) fun k => b0 && allF fs (fol n r) k), y9, some (bD (mR rows) (gAsk rows fs n))]) (S ++ [.lst ((fol n r).map .int)])) := by
    rw [hg]
    by_cases h : r = .en
    · have hb : b0 = false := by rw [hb0]; exact dec_false fun z => z h
      have hw' := he.mpr h
      subst hb
      rw [← z0] at e
      simp [l_asked_by_3, hP1, ea, hrd, hw, hw', f, get_len]
      rw [e]
      simp [hO1, hL1, eo, el, ownB, lostB, bD_xor, bD_and, bD_or]
    · have hb : b0 = true := by rw [hb0]; exact dec_true h
      have hw' : ¬ w = w_en := fun z => h (he.mp z)
      subst hb
      simp [l_asked_by_3, hP1, ea, hrd, hw, hw', f, get_len]
      rw [e]
      simp [hO1, hL1, eo, el, ownB, lostB, bD_xor, bD_and, bD_or]
  rw [head]
  by_cases hb : bitsOf (gAsk rows fs n) (mR rows) = bitsOf (fsAt fs (n : Int)) (mR rows)
  · exact ⟨_, _, _, fs, b, S ++ [.lst ((fol n r).map .int)], by simp [hF1, ef, bD_ne, hb]; exact ⟨rfl, rfl, rfl⟩, pa, hF1, .inl ⟨hb, rfl, rfl⟩⟩
  · have ix : ixN rows.length (n : Int) = some n := by rw [ixN_of (by omega) (by omega)]; simp
    exact ⟨_, _, _, fs.set n (gAsk rows fs n), true, List.set (S ++ [.lst ((fol n r).map .int)]) Fo (.lst ((fs.set n (gAsk rows fs n)).map (bD (mR rows)))), by simp [hF1, ef, bD_ne, hb, hfl, ix]; exact ⟨rfl, rfl, rfl⟩, pa.set hF0, set_get (o := .lst (fs.map (bD (mR rows)))) hF1, .inr ⟨hb, rfl, rfl⟩⟩
/-- a pass over all rows -/
theorem asked_pass (P Ow Lo Fo : Nat) (x5 x6 x7 x8 x9 x10 : Option D) (l : List Tx) (rows : List Row) (fs : List BF) (S S0 : Store) (gd : Gd l rows) (hl : rows.length ≤ 1000) (dn : Down (ruleA rows) (mR rows) (fun n k => wantP rows n k = true) fs)
    (p0 : Pre S0 S) (hF0 : S0.length ≤ Fo) (hP : S0[P]? = some (.lst (rows.map Row.d))) (hO : S0[Ow]? = some (.lst (rows.map (ownB rows)))) (hL : S0[Lo]? = some (.lst (rows.map (lostB rows)))) (hF : S[Fo]? = some (.lst (fs.map (bD (mR rows))))) :
    ∃ (y7 y8 y9 y10 : Option D) (fs' : List BF) (b' : Bool) (S' : Store), l_asked_by_4 [some (.ref P), some (bD (mR rows) fun _ => true), some (.ref Ow), some (.ref Lo), some (.ref Fo), x5, x6, x7, x8, x9, x10] S = .ok (.nx [some (.ref P), some (bD (mR rows) fun _ => true), some (.ref Ow), some (.ref Lo), some (.ref Fo), x5, some (.bl b'), y7, y8, y9, y10]) S' ∧ Pre S0 S' ∧ S'[Fo]? = some (.lst (fs'.map (bD (mR rows)))) ∧ Down (ruleA rows) (mR rows) (fun n k => wantP rows n k = true) fs' ∧
      (b' = true → sumB (mR rows) fs' < sumB (mR rows) fs) ∧ (b' = false → ∀ n k, n < rows.length → k < mR rows → gAsk rows fs' n k = fsAt fs' (n : Int) k) := by
  have hin : ∀ (n : Nat) (r : Row) (m : Int), rows[n]? = some r → m ∈ fol n r → 0 ≤ m ∧ m < rows.length := fun n r m e f => gd.fol_in e f
  have key := loop_inv (hs := []) (turn := turnM (gName 7) l_asked_by_3)
    (fun i fr S' => ∃ (y7 y8 y9 y10 : Option D) (fs' : List BF) (b' : Bool), fr = [some (.ref P), some (bD (mR rows) fun _ => true), some (.ref Ow), some (.ref Lo), some (.ref Fo), x5, some (.bl b'), y7, y8, y9, y10] ∧ Pre S0 S' ∧ S'[Fo]? = some (.lst (fs'.map (bD (mR rows)))) ∧ Down (ruleA rows) (mR rows) (fun n k => wantP rows n k = true) fs' ∧
      (b' = true → sumB (mR rows) fs' < sumB (mR rows) fs) ∧ (b' = false → fs' = fs ∧ ∀ n k, rows.length - i ≤ n → n < rows.length → k < mR rows → gAsk rows fs' n k = fsAt fs' (n : Int) k))
    ((List.range rows.length).map fun k => D.int (((rows.length : Int) - 1) - (k : Nat))) 0 [some (.ref P), some (bD (mR rows) fun _ => true), some (.ref Ow), some (.ref Lo), some (.ref Fo), x5, some (.bl false), x7, x8, x9, x10] S
    ⟨x7, x8, x9, x10, fs, false, rfl, p0, hF, dn, (fun z => by cases z), fun _ => ⟨rfl, fun n k h1 h2 => by omega⟩⟩ (fun _ _ S _ => stands_nil S) (by
      rintro i d fr S' hd ⟨y7, y8, y9, y10, fs', b', rfl, pr, g, dn', bt, bf⟩
      rw [List.getElem?_map] at hd
      obtain ⟨i', hi', rfl⟩ := Option.map_eq_some_iff.mp hd
      have hi : i < rows.length := by
        have := (List.getElem?_eq_some_iff.mp hi').1
        rwa [List.length_range] at this
      rw [List.getElem?_range hi] at hi'
      obtain rfl := Option.some.inj hi'
      rw [show 0 + i = i by omega] at *
      obtain ⟨n, hn, hnl⟩ : ∃ n : Nat, (rows.length : Int) - 1 - (i : Int) = (n : Int) ∧ n + i + 1 = rows.length := ⟨rows.length - 1 - i, by omega, by omega⟩
      rw [hn]
      obtain ⟨z8, z9, z10, fs2, b2, S2, e, p2, g2, c⟩ := asked_turn P Ow Lo Fo n b' x5 y8 y9 y10 l rows fs' S' S0 gd (by omega) hl dn'.len pr hF0 hP hO hL g
      refine ⟨_, S2, .inl (by simp [turnM_s]; exact e), _, _, _, _, fs2, b2, rfl, p2, g2, ?_⟩
      rcases c with ⟨c1, rfl, rfl⟩ | ⟨c1, rfl, rfl⟩
      · refine ⟨dn', bt, fun hb => ?_⟩
        obtain ⟨h1, h2⟩ := bf hb
        refine ⟨h1, fun n' k h3 h4 h5 => ?_⟩
        by_cases h6 : n' = n
        · subst h6
          exact bits_inj c1 k h5
        · exact h2 n' k (by omega) h4 h5
      · have hnl' : n < rows.length := by omega
        refine ⟨dn'.put hnl' fun k hk w => ask_up dn' hin hnl' k hk w, fun _ => ?_, fun z => by cases z⟩
        have lt : bitsOf (gAsk rows fs' n) (mR rows) < bitsOf (fsAt fs' (n : Int)) (mR rows) := bit_lt (fun k hk h => dn'.post n k hnl' hk h) c1
        obtain ⟨q, hq⟩ : ∃ q, fs'[n]? = some q := ⟨_, List.getElem?_eq_getElem (by rw [dn'.len]; exact hnl')⟩
        rw [fsAt_of hq] at lt
        have s1 := sumB_set hq lt
        cases hb : b' with
        | true => have := bt hb; omega
        | false => rw [(bf hb).1] at s1 ⊢; exact s1)
  obtain ⟨fr', S', e, y7, y8, y9, y10, fs', b', rfl, pr, g, dn', bt, bf⟩ := key
  rw [List.length_map, List.length_range, Nat.zero_add] at bf
  refine ⟨y7, y8, y9, y10, fs', b', S', ?_, pr, g, dn', bt, fun hb n k h1 h2 => (bf hb).2 n k (by omega) h1 h2⟩
  have f1 : far ((rows.length : Int) - 1) := by unfold far; omega
  have f2 : far (-1) := by unfold far; omega
  have tn : ((rows.length : Int) - 1 - -1).toNat = rows.length := by omega
  have tn2 : ((rows.length : Int) - 1 + 1).toNat = rows.length := by omega
  have hP1 := p0.get hP
  simp [l_asked_by_4, hP1, f1, f2]
  exact e
theorem asked_while (P Ow Lo Fo : Nat) (x5 : Option D) (l : List Tx) (rows : List Row) (S0 : Store) (gd : Gd l rows) (hl : rows.length ≤ 1000) (hF0 : S0.length ≤ Fo) (hP : S0[P]? = some (.lst (rows.map Row.d))) (hO : S0[Ow]? = some (.lst (rows.map (ownB rows)))) (hL : S0[Lo]? = some (.lst (rows.map (lostB rows)))) :
    ∀ (k : Nat) (x7 x8 x9 x10 : Option D) (fs : List BF) (S : Store), sumB (mR rows) fs ≤ k → Down (ruleA rows) (mR rows) (fun n k => wantP rows n k = true) fs → Pre S0 S → S[Fo]? = some (.lst (fs.map (bD (mR rows)))) →
    ∃ (fr' : Fr) (fs' : List BF) (S' : Store), sWhile c_asked_by_5 l_asked_by_4 [some (.ref P), some (bD (mR rows) fun _ => true), some (.ref Ow), some (.ref Lo), some (.ref Fo), x5, some (.bl true), x7, x8, x9, x10] S = .ok (.nx fr') S' ∧ fr'[4]? = some (some (.ref Fo)) ∧ Pre S0 S' ∧ S'[Fo]? = some (.lst (fs'.map (bD (mR rows)))) ∧ fs'.length = rows.length ∧ ∀ n k, n < rows.length → k < mR rows → fsAt fs' (n : Int) k = wantP rows n k := by
  intro k
  induction k with
  | zero =>
    intro x7 x8 x9 x10 fs S hk dn p0 hF
    obtain ⟨y7, y8, y9, y10, fs', b', S', e, pr, g, dn', bt, bf⟩ := asked_pass P Ow Lo Fo x5 (some (.bl true)) x7 x8 x9 x10 l rows fs S S0 gd hl dn p0 hF0 hP hO hL hF
    cases b' with
    | true => have := bt rfl; omega
    | false =>
      refine ⟨[some (.ref P), some (bD (mR rows) fun _ => true), some (.ref Ow), some (.ref Lo), some (.ref Fo), x5, some (.bl false), y7, y8, y9, y10], fs', S', ?_, rfl, pr, g, dn'.len, ?_⟩
      · rw [while_s]
        simp [c_asked_by_5, e]
        rw [while_s]
        simp [c_asked_by_5]
      · intro n k hn hk
        obtain ⟨x, hx⟩ : ∃ x, (recs rows)[k]? = some x := ⟨_, List.getElem?_eq_getElem hk⟩
        have wx : wantP rows n k = !dec (Mis rows x n) := by unfold wantP; rw [hx]
        by_cases hm : Mis rows x n
        · rw [ask_fix (bf rfl) hx hm, wx, dec_true hm]; rfl
        · rw [wx, dec_false hm]
          exact dn'.up n k hn hk (by rw [wx, dec_false hm]; rfl)
  | succ k ih =>
    intro x7 x8 x9 x10 fs S hk dn p0 hF
    obtain ⟨y7, y8, y9, y10, fs', b', S', e, pr, g, dn', bt, bf⟩ := asked_pass P Ow Lo Fo x5 (some (.bl true)) x7 x8 x9 x10 l rows fs S S0 gd hl dn p0 hF0 hP hO hL hF
    cases b' with
    | true =>
      obtain ⟨fr2, fs2, S2, e2, q⟩ := ih y7 y8 y9 y10 fs' S' (by have := bt rfl; omega) dn' pr g
      refine ⟨fr2, fs2, S2, ?_, q⟩
      rw [while_s]
      simp [c_asked_by_5, e]
      exact e2
    | false =>
      refine ⟨[some (.ref P), some (bD (mR rows) fun _ => true), some (.ref Ow), some (.ref Lo), some (.ref Fo), x5, some (.bl false), y7, y8, y9, y10], fs', S', ?_, rfl, pr, g, dn'.len, ?_⟩
      · rw [while_s]
        simp [c_asked_by_5, e]
        rw [while_s]
        simp [c_asked_by_5]
      · intro n k hn hk
        obtain ⟨x, hx⟩ : ∃ x, (recs rows)[k]? = some x := ⟨_, List.getElem?_eq_getElem hk⟩
        have wx : wantP rows n k = !dec (Mis rows x n) := by unfold wantP; rw [hx]
        by_cases hm : Mis rows x n
        · rw [ask_fix (bf rfl) hx hm, wx, dec_true hm]; rfl
        · rw [wx, dec_false hm]
          exact dn'.up n k hn hk (by rw [wx, dec_false hm]; rfl)
theorem asked_ok (P : Nat) (l : List Tx) (rows : List Row) (S : Store) (gd : Gd l rows) (rk : RowsK rows) (hP : S[P]? = some (.lst (rows.map Row.d))) (hl : rows.length ≤ 1000) : ∃ (m : Nat) (S' : Store), m_asked_by [.ref P] S = .ok (.ref m) S' ∧ Pre S S' ∧ S.length ≤ m ∧ S'[m]? = some (.lst (numD rows.length (wantD rows))) := by
  obtain ⟨S1, e1, p1⟩ := all_bits_ok P rows S hP hl
  obtain ⟨Ow, S2, e2, p2, hO0, gO⟩ := own_bits_ok P rows S1 (p1.get hP) hl
  obtain ⟨Lo, S3, e3, p3, hL0, gL⟩ := lost_bits_ok P rows S2 rk (p2.get (p1.get hP)) hl
  have hP3 := p3.get (p2.get (p1.get hP))
  have gO3 := p3.get gO
  have e1' : m_all_bits [.ref P] S = .ok (bD (mR rows) fun _ => true) S1 := e1
  obtain ⟨S4, e4, p4, g4⟩ := lc_fil (vs := [5]) (g := gName 5) (t := tYes) (e := e_asked_by_1) (fr := [some (.ref P), some (bD (mR rows) fun _ => true), some (.ref Ow), some (.ref Lo), none, none, none, none, none, none, none]) (l := rows.map Row.d) (hs := [(P, rows.map Row.d)]) (S := S3) rows Row.d (fun _ => bD (mR rows) fun _ => true) (fun _ => true) rfl (stand_one (lst_of hP3)) (Nat.le_trans hl (by decide)) (by
    intro r hr S' pr
    exact ⟨[some (.ref P), some (bD (mR rows) fun _ => true), some (.ref Ow), some (.ref Lo), none, some r.d, none, none, none, none, none], S', by simp [unset], by simp, Pre.refl _, fun _ => ⟨S', by simp [e_asked_by_1], Pre.refl _⟩⟩)
  have hf : rows.filter (fun _ => true) = rows := by simp
  rw [hf] at g4
  have g4' : S4[S3.length]? = some (.lst ((rows.map fun _ => (fun _ => true : BF)).map (bD (mR rows)))) := by rw [g4, List.map_map]; rfl
  have fs0 : ∀ (n : Nat) k, n < rows.length → fsAt (rows.map fun _ => (fun _ => true : BF)) (n : Int) k = true := fun n k hn => by
    rw [fsAt_of (p := fun _ => true) (by rw [List.getElem?_map, List.getElem?_eq_getElem hn]; rfl)]
  have dn : Down (ruleA rows) (mR rows) (fun n k => wantP rows n k = true) (rows.map fun _ => (fun _ => true : BF)) := ⟨by simp, fun n k hn _ _ => fs0 n k hn, fun n k hn _ _ => fs0 n k hn⟩
  obtain ⟨fr', fs', S5, e5, f4, p5, g5, hlen, hW⟩ := asked_while P Ow Lo S3.length none l rows S3 gd hl (Nat.le_refl _) hP3 gO3 gL (sumB (mR rows) (rows.map fun _ => (fun _ => true : BF))) none none none none _ S4 (Nat.le_refl _) dn p4 g4'
  have pt := ((p1.trans p2).trans p3)
  refine ⟨S3.length, S5, ?_, pt.trans p5, pt.len, ?_⟩
  · simp [m_asked_by, b_asked_by, e1', e2, e3, hP3]
    rw [e4]
    simp
    rw [e5]
    simp [f4]
  · rw [g5]
    congr 2
    apply List.ext_getElem?
    intro n
    unfold numD
    by_cases hn : n < rows.length
    · obtain ⟨q, hq⟩ : ∃ q, fs'[n]? = some q := ⟨_, List.getElem?_eq_getElem (by omega)⟩
      rw [List.getElem?_map, hq, List.getElem?_map, List.getElem?_range hn]
      show some (bD _ q) = some (wantD rows n)
      congr 1
      refine bD_congr fun k hk => ?_
      rw [← hW n k hn hk, fsAt_of hq]
    · rw [List.getElem?_eq_none (by rw [List.length_map]; omega), List.getElem?_eq_none (by rw [List.length_map, List.length_range]; omega)]
/-- the dict that tells what is wanted at each place -/
noncomputable def wantsT (rows : List Row) : List (List Ky × D) := dOf (fun p => wantD rows p.2.toNat) (plc rows)
theorem wanted_ok (P : Nat) (l : List Tx) (rows : List Row) (S : Store) (gd : Gd l rows) (rk : RowsK rows) (hP : S[P]? = some (.lst (rows.map Row.d))) (hl : rows.length ≤ 1000) : ∃ (m : Nat) (S' : Store), m_wanted [.ref P] S = .ok (.ref m) S' ∧ Pre S S' ∧ S.length ≤ m ∧ S'[m]? = some (.dT (wantsT rows)) := by
  obtain ⟨A, S1, e1, p1, hA, gA⟩ := asked_ok P l rows S gd rk hP hl
  obtain ⟨Q, S2, e2, p2, hQ, gQ⟩ := places_ok P rows (S1 ++ [.dT []]) (app_get (p1.get hP)) hl
  have p12 : Pre S1 S2 := (Pre.app _ _).trans p2
  have gA2 := p12.get gA
  have gD2 : S2[S1.length]? = some (.dT []) := p2.get (app_new _ _ _)
  have hQ' : S1.length < Q := by simp at hQ; omega
  have pl := plc_len rows
  have key := loop_inv (hs := [(Q, (plc rows).map pD)]) (turn := turnM (gName 3) l_wanted_1)
    (fun i fr S' => ∃ (k3 : Option D), fr = [some (.ref P), some (.ref A), some (.ref S1.length), k3] ∧ Pre S1 S' ∧ S'[Q]? = some (.lst ((plc rows).map pD)) ∧ S'[S1.length]? = some (.dT (dOf (fun p => wantD rows p.2.toNat) ((plc rows).take i))))
    ((plc rows).map pD) 0 [some (.ref P), some (.ref A), some (.ref S1.length), none] S2
    ⟨none, rfl, p12, gQ, gD2⟩
    (by
      rintro i fr S' ⟨k3, rfl, pr, gq, _⟩
      exact stands_one (lst_of gq))
    (by
      rintro i d fr S' hd ⟨k3, rfl, pr, gq, g⟩
      rw [List.getElem?_map] at hd
      obtain ⟨q, hq, rfl⟩ := Option.map_eq_some_iff.mp hd
      rw [show 0 + i = i by omega] at *
      have hin := plc_in gd (List.mem_of_getElem? hq)
      obtain ⟨k, hk⟩ : ∃ k : Nat, q.2 = (k : Int) := ⟨q.2.toNat, by omega⟩
      have ea : atI (numD rows.length (wantD rows)) q.2 = some (wantD rows q.2.toNat) := by rw [hk, Int.toNat_natCast]; exact num_at (by omega)
      have dl := dOf_len (fun p => wantD rows p.2.toNat) ((plc rows).take i)
      rw [List.length_take] at dl
      have dl2 : (dOf (fun p => wantD rows p.2.toNat) ((plc rows).take i)).length < 16777216 := by omega
      refine ⟨[some (.ref P), some (.ref A), some (.ref S1.length), some (pD q)], S'.set S1.length (.dT (dOf (fun p => wantD rows p.2.toNat) ((plc rows).take (i + 1)))), .inl ?_, _, rfl, pr.set (Nat.le_refl _), by rw [set_ne (by omega)]; exact gq, set_get g⟩
      rw [tk_succ hq, dOf_snoc]
      have kq : ktOf (pD q) = some (pk q) := by rw [pD_kt, ktOf_kt]
      have gA' := pr.get gA
      have e0 : oIx (pD q) (.int 1) S' = .ok (.int q.2) S' := by unfold pD; rw [oIx_t, at1]; rfl
      simp [turnM_s, l_wanted_1, gA', e0, ea, g, kq, dl2, LINE])
  obtain ⟨fr', S3, e3, k3, rfl, p3, _, g3⟩ := key
  rw [List.length_map, Nat.zero_add, List.take_length] at g3
  refine ⟨S1.length, S3, ?_, p1.trans p3, p1.len, g3⟩
  simp [m_wanted, b_wanted, e1, e2, gQ]
  rw [e3]
  simp
end Lk94

set_option Elab.async false
set_option linter.all false
set_option maxHeartbeats 1000000
namespace Lk94
open Mi
theorem num_set {n j : Nat} {f g : Nat → D} (hj : j < n) (h1 : ∀ k, k ≠ j → f k = g k) : (numD n f).set j (g j) = numD n g := by
  apply List.ext_getElem?
  intro k
  unfold numD
  rw [List.getElem?_set]
  by_cases hk : k < n
  · rw [List.getElem?_map, List.getElem?_map, List.getElem?_range hk]
    split
    · rename_i e; subst e; simp [hk]
    · rename_i e; exact congrArg some (h1 k fun z => e z.symm)
  · rw [if_neg (by omega), List.getElem?_map, List.getElem?_map, List.getElem?_eq_none (by simpa using hk)]; rfl
theorem Gd.rk {l : List Tx} {rows : List Row} (gd : Gd l rows) (hnm : ∀ t ∈ l, Nm t) : RowsK rows := fun r hr => RowN.k (gd.nm r hr) hnm
theorem rows_all {rows : List Row} (rk : RowsK rows) : (rows.map Row.ks).all (fun l => l.all kOk) = true := by
  rw [List.all_eq_true]
  intro k hk
  obtain ⟨r, hr, rfl⟩ := List.mem_map.mp hk
  exact rk r hr
/-! ### first places -/
theorem want_at {rows : List Row} {p : Int × Int} (h : p ∈ plc rows) : dGet (wantsT rows) (pk p) = some (wantD rows p.2.toNat) := by
  unfold wantsT
  rw [dOf_get, if_pos h]
theorem stand_at {rows : List Row} {p : Int × Int} (h : p ∈ plc rows) : dGet (standsT rows) (pk p) = some (bD (mR rows) (stdB rows p)) := by
  unfold standsT
  rw [dOf_get, if_pos h]
theorem plc_of {rows : List Row} {n : Nat} {r : Row} {m : Int} (e : rows[n]? = some r) (h : m ∈ fol n r) : ((n : Int), m) ∈ plc rows := plc_mem.mpr (.inr ⟨n, r, e, rfl, h⟩)
noncomputable def backD (rows : List Row) (n : Nat) : D := bD (mR rows) (backP rows n)
theorem kept_ok (P Wd : Nat) (l : List Tx) (rows : List Row) (S : Store) (gd : Gd l rows) (rk : RowsK rows) (hP : S[P]? = some (.lst (rows.map Row.d))) (hW : S[Wd]? = some (.dT (wantsT rows))) (hl : rows.length ≤ 1000) : ∃ (m : Nat) (S' : Store), m_kept_back [.ref P, .ref Wd] S = .ok (.ref m) S' ∧ Pre S S' ∧ S.length ≤ m ∧ S'[m]? = some (.lst (numD rows.length (backD rows))) := by
  have fl : far (rows.length : Int) := by unfold far; omega
  obtain ⟨S1, e1, p1⟩ := all_bits_ok P rows S hP hl
  obtain ⟨Ow, S2, e2, p2, hO0, gO⟩ := own_bits_ok P rows S1 (p1.get hP) hl
  obtain ⟨Lo, S3, e3, p3, hL0, gL⟩ := lost_bits_ok P rows S2 rk (p2.get (p1.get hP)) hl
  have hP3 := p3.get (p2.get (p1.get hP))
  have hW3 := p3.get (p2.get (p1.get hW))
  have gO3 := p3.get gO
  have e1' : m_all_bits [.ref P] S = .ok (bD (mR rows) fun _ => true) S1 := e1
  have key := loop_inv (hs := []) (turn := turnM (gName 6) l_kept_back_2)
    (fun i fr S' => ∃ (y6 y7 y8 : Option D), fr = [some (.ref P), some (.ref Wd), some (bD (mR rows) fun _ => true), some (.ref Ow), some (.ref Lo), some (.ref S3.length), y6, y7, y8] ∧ Pre S3 S' ∧ S'[S3.length]? = some (.lst (numD i (backD rows))))
    (rng 0 rows.length) 0 [some (.ref P), some (.ref Wd), some (bD (mR rows) fun _ => true), some (.ref Ow), some (.ref Lo), some (.ref S3.length), none, none, none] (S3 ++ [.lst []])
    ⟨none, none, none, rfl, Pre.app _ _, app_new _ _ _⟩ (fun _ _ S _ => stands_nil S) (by
      rintro i d fr S' hd ⟨y6, y7, y8, rfl, pr, g⟩
      obtain ⟨hi, rfl⟩ := rng_at hd
      rw [show 0 + i = i by omega] at *
      have e0 : (0 : Int) + (i : Int) = (i : Int) := by omega
      have hr : rows[i]? = some rows[i] := List.getElem?_eq_getElem hi
      generalize rows[i] = r at hr
      have f := followers_ok P i rows r S' (pr.get hP3) hr
      have hlt := Pre.lt (S' := S') g
      have inner := loop_inv (hs := [(S'.length, (fol i r).map D.int)]) (turn := turnM (gName 8) l_kept_back_1)
        (fun j fr S2 => ∃ (y8 : Option D), fr = [some (.ref P), some (.ref Wd), some (bD (mR rows) fun _ => true), some (.ref Ow), some (.ref Lo), some (.ref S3.length), some (.int i), some (bD (mR rows) fun k => ((fol i r).take j).all fun m => wantP rows m.toNat k), y8] ∧ S2 = S' ++ [.lst ((fol i r).map .int)])
        ((fol i r).map D.int) 0 [some (.ref P), some (.ref Wd), some (bD (mR rows) fun _ => true), some (.ref Ow), some (.ref Lo), some (.ref S3.length), some (.int i), some (bD (mR rows) fun _ => true), y8] (S' ++ [.lst ((fol i r).map .int)])
        ⟨y8, rfl, rfl⟩
        (by
          rintro j fr S2 ⟨y8, rfl, rfl⟩
          exact stands_one (lst_of (app_new _ _ _)))
        (by
          rintro j d fr S2 hd2 ⟨y8, rfl, rfl⟩
          rw [List.getElem?_map] at hd2
          obtain ⟨m, hm, rfl⟩ := Option.map_eq_some_iff.mp hd2
          rw [show 0 + j = j by omega] at *
          have wa := want_at (plc_of hr (List.mem_of_getElem? hm))
          have wa' : dGet (wantsT rows) [.inl (i : Int), .inl m] = some (bD (mR rows) (wantP rows m.toNat)) := wa
          have hW' := app_get (G := [.lst ((fol i r).map .int)]) (pr.get hW3)
          refine ⟨_, _, .inl ?_, some (.int m), rfl, rfl⟩
          rw [bD_funext (p := fun k => ((fol i r).take (j + 1)).all fun m => wantP rows m.toNat k) (q := fun k => (((fol i r).take j).all fun m => wantP rows m.toNat k) && wantP rows m.toNat k) fun k => by rw [tk_succ hm, List.all_append]; simp]
          have kx : ktOf (D.tup [.int (i : Int), .int m]) = some [.inl (i : Int), .inl m] := rfl
          simp [turnM_s, l_kept_back_1, LINE, hW', kysOf, kyOf, wa', bD_and])
      obtain ⟨fr', S4, e, y8', rfl, rfl⟩ := inner
      rw [List.length_map, Nat.zero_add, List.take_length] at e
      have eo : atI (rows.map (ownB rows)) (i : Int) = some (ownB rows r) := at_of (by rw [List.getElem?_map, hr]; rfl)
      have el : atI (rows.map (lostB rows)) (i : Int) = some (lostB rows r) := at_of (by rw [List.getElem?_map, hr]; rfl)
      have hO' := app_get (G := [.lst ((fol i r).map .int)]) (pr.get gO3)
      have hL' := app_get (G := [.lst ((fol i r).map .int)]) (pr.get gL)
      have g' := app_get (G := [.lst ((fol i r).map .int)]) g
      have nl : (numD i (backD rows)).length < 16777216 := by simp [numD]; omega
      have nb : numD (i + 1) (backD rows) = numD i (backD rows) ++ [backD rows i] := by unfold numD; rw [List.range_succ, List.map_append]; rfl
      have hb : backD rows i = bD (mR rows) (fun k => lostF rows r k || ((true ^^ ownF rows r k) && (true ^^ (fol i r).all fun m => wantP rows m.toNat k))) := bD_funext fun k => by unfold backP; rw [hr]
      refine ⟨[some (.ref P), some (.ref Wd), some (bD (mR rows) fun _ => true), some (.ref Ow), some (.ref Lo), some (.ref S3.length), some (.int i), some (bD (mR rows) fun k => (fol i r).all fun m => wantP rows m.toNat k), y8'], List.set (S' ++ [.lst ((fol i r).map .int)]) S3.length (.lst (numD (i + 1) (backD rows))), .inl ?_, some (.int i), _, y8', rfl, (pr.trans (Pre.app _ _)).set (Nat.le_refl _), set_get g'⟩
      rw [nb, hb]
      generalize numD i (backD rows) = A at *
      simp [turnM_s, l_kept_back_2, e0, f, get_len]
      rw [e]
      simp [hO', hL', eo, el, ownB, lostB, bD_xor, bD_and, bD_or, g', nl, LINE])
  obtain ⟨fr', S4, e4, y6, y7, y8, rfl, p4, g4⟩ := key
  rw [rng_len, Nat.zero_add] at g4
  have pt := ((p1.trans p2).trans p3)
  refine ⟨S3.length, S4, ?_, pt.trans p4, pt.len, g4⟩
  simp [m_kept_back, b_kept_back, e1', e2, e3, LINE, app_get hP3, fl]
  rw [e4]
  simp
noncomputable def firstsT (rows : List Row) : List (List Ky × D) := dOf (fun p => bD (mR rows) (firstB rows p)) (plc rows)
theorem firsts_ok (P : Nat) (l : List Tx) (rows : List Row) (S : Store) (gd : Gd l rows) (rk : RowsK rows) (hP : S[P]? = some (.lst (rows.map Row.d))) (hl : rows.length ≤ 1000) : ∃ (m : Nat) (S' : Store), m_firsts [.ref P] S = .ok (.ref m) S' ∧ Pre S S' ∧ S.length ≤ m ∧ S'[m]? = some (.dT (firstsT rows)) := by
  obtain ⟨Wd, S1, e1, p1, hW, gW⟩ := wanted_ok P l rows S gd rk hP hl
  obtain ⟨Sd, S2, e2, p2, hSd, gS⟩ := standing_ok P l rows S1 gd rk (p1.get hP) hl
  obtain ⟨Bk, S3, e3, p3, hB, gB⟩ := kept_ok P Wd l rows S2 gd rk (p2.get (p1.get hP)) (p2.get gW) hl
  have hP3 := p3.get (p2.get (p1.get hP))
  have gW3 := p3.get (p2.get gW)
  have gS3 := p3.get gS
  obtain ⟨Q, S4, e4, p4, hQ, gQ⟩ := places_ok P rows (S3 ++ [.dT []]) (app_get hP3) hl
  have p34 : Pre S3 S4 := (Pre.app _ _).trans p4
  have gD4 : S4[S3.length]? = some (.dT []) := p4.get (app_new _ _ _)
  have hQ' : S3.length < Q := by simp at hQ; omega
  have pl := plc_len rows
  have key := loop_inv (hs := [(Q, (plc rows).map pD)]) (turn := turnM (gName 5) l_firsts_1)
    (fun i fr S' => ∃ (y5 y6 : Option D), fr = [some (.ref P), some (.ref Wd), some (.ref Sd), some (.ref Bk), some (.ref S3.length), y5, y6] ∧ Pre S3 S' ∧ S'[Q]? = some (.lst ((plc rows).map pD)) ∧ S'[S3.length]? = some (.dT (dOf (fun p => bD (mR rows) (firstB rows p)) ((plc rows).take i))))
    ((plc rows).map pD) 0 [some (.ref P), some (.ref Wd), some (.ref Sd), some (.ref Bk), some (.ref S3.length), none, none] S4
    ⟨none, none, rfl, p34, gQ, gD4⟩
    (by
      rintro i fr S' ⟨y5, y6, rfl, pr, gq, _⟩
      exact stands_one (lst_of gq))
    (by
      rintro i d fr S' hd ⟨y5, y6, rfl, pr, gq, g⟩
      rw [List.getElem?_map] at hd
      obtain ⟨q, hq, rfl⟩ := Option.map_eq_some_iff.mp hd
      rw [show 0 + i = i by omega] at *
      have hmem := List.mem_of_getElem? hq
      have hin := plc_in gd hmem
      have dl := dOf_len (fun p => bD (mR rows) (firstB rows p)) ((plc rows).take i)
      rw [List.length_take] at dl
      have dl2 : (dOf (fun p => bD (mR rows) (firstB rows p)) ((plc rows).take i)).length < 16777216 := by omega
      refine ⟨[some (.ref P), some (.ref Wd), some (.ref Sd), some (.ref Bk), some (.ref S3.length), some (pD q), some (bD (mR rows) (firstB rows q))], S'.set S3.length (.dT (dOf (fun p => bD (mR rows) (firstB rows p)) ((plc rows).take (i + 1)))), .inl ?_, _, _, rfl, pr.set (Nat.le_refl _), by rw [set_ne (by omega)]; exact gq, set_get g⟩
      rw [tk_succ hq, dOf_snoc]
      have kq : ktOf (pD q) = some (pk q) := by rw [pD_kt, ktOf_kt]
      have gW' := pr.get gW3
      have gS' := pr.get gS3
      have gB' := pr.get gB
      have wa : dGet (wantsT rows) (pk q) = some (bD (mR rows) (wantP rows q.2.toNat)) := want_at hmem
      have sa := stand_at hmem
      have e0 : oIx (pD q) (.int 0) S' = .ok (.int q.1) S' := by unfold pD; rw [oIx_t, at0]; rfl
      generalize dOf (fun p => bD (mR rows) (firstB rows p)) ((plc rows).take i) = A at *
      by_cases hq1 : q.1 = -1
      · have hf : bD (mR rows) (firstB rows q) = bD (mR rows) (fun k => wantP rows q.2.toNat k && !stdB rows q k) := bD_funext fun k => by unfold firstB; simp [hq1]
        rw [hf]
        simp [turnM_s, l_firsts_1, gW', gS', kq, wa, sa, bD_and, bD_sub, e0, hq1, g, dl2, LINE]
      · obtain ⟨k, hk⟩ : ∃ k : Nat, q.1 = (k : Int) := ⟨q.1.toNat, by omega⟩
        have ea : atI (numD rows.length (backD rows)) q.1 = some (bD (mR rows) (backP rows q.1.toNat)) := by
          rw [hk, Int.toNat_natCast]; exact num_at (by omega)
        have hf : bD (mR rows) (firstB rows q) = bD (mR rows) (fun k => (wantP rows q.2.toNat k && !stdB rows q k) && backP rows q.1.toNat k) := bD_funext fun k => by unfold firstB; simp [hq1]
        rw [hf]
        simp [turnM_s, l_firsts_1, gW', gS', gB', kq, wa, sa, bD_and, bD_sub, e0, hq1, ea, g, dl2, LINE])
  obtain ⟨fr', S5, e5, y5, y6, rfl, p5, _, g5⟩ := key
  rw [List.length_map, Nat.zero_add, List.take_length] at g5
  refine ⟨S3.length, S5, ?_, ((p1.trans p2).trans p3).trans p5, ((p1.trans p2).trans p3).len, g5⟩
  simp [m_firsts, b_firsts, e1, e2, e3, e4, gQ]
  rw [e5]
  simp
end Lk94

set_option Elab.async false
set_option linter.all false
set_option maxHeartbeats 1000000
namespace Lk94
open Mi
/-! ### a bit -/
theorem has_bit_ok (m k : Nat) (p : BF) (hk : k < m) (S : Store) : m_has_bit [bD m p, .int (k : Int)] S = .ok (.bl (p k)) S := by
  have s1 := bD_shr m p k S
  have s2 := shD_and m p k hk S
  cases h : p k with
  | true => simp [m_has_bit, b_has_bit, s1, s2, h]
  | false => simp [m_has_bit, b_has_bit, s1, s2, h]
def blD (F : BF) (i : Nat) : D := .bl (F i)
/-! ### rows put off -/
noncomputable def ownN (rows : List Row) (k n : Nat) : Bool := match rows[n]? with
  | some r => ownF rows r k
  | none => false
noncomputable abbrev bgK (rows : List Row) (k : Nat) (p : Int × Int) : Bool := firstB rows p k
theorem first_at {rows : List Row} {p : Int × Int} (h : p ∈ plc rows) : dGet (firstsT rows) (pk p) = some (bD (mR rows) (firstB rows p)) := by
  unfold firstsT
  rw [dOf_get, if_pos h]
theorem comes_off_ok (Bg Ow Ro k : Nat) (F : BF) (q : Int × Int) (l : List Tx) (rows : List Row) (S : Store) (gd : Gd l rows) (hk : k < mR rows) (hB : S[Bg]? = some (.dT (firstsT rows))) (hO : S[Ow]? = some (.lst (rows.map (ownB rows)))) (hR : S[Ro]? = some (.lst (numD rows.length (blD F)))) (hq : q ∈ plc rows) :
    m_comes_off [pD q, .int (k : Int), .ref Bg, .ref Ow, .ref Ro] S = .ok (.bl (comesF (bgK rows k) (ownN rows k) F q)) S := by
  have kq : ktOf (pD q) = some (pk q) := by rw [pD_kt, ktOf_kt]
  have fa := first_at hq
  have hin := plc_in gd hq
  have hb := fun p S => has_bit_ok (mR rows) k p hk S
  have e0 : ∀ S, oIx (pD q) (.int 0) S = .ok (.int q.1) S := fun S => by unfold pD; rw [oIx_t, at0]; rfl
  cases hf : firstB rows q k with
  | true =>
    have : comesF (bgK rows k) (ownN rows k) F q = true := by unfold comesF bgK; rw [hf]; rfl
    rw [this]
    simp [m_comes_off, b_comes_off, hB, kq, fa, hb, hf]
  | false =>
  have hc : comesF (bgK rows k) (ownN rows k) F q = (decide (q.1 ≠ -1) && (F q.1.toNat && !ownN rows k q.1.toNat)) := by unfold comesF bgK; rw [hf]; rfl
  rw [hc]
  by_cases hq1 : q.1 = -1
  · simp [m_comes_off, b_comes_off, hB, kq, fa, hb, hf, e0, hq1]
  · obtain ⟨n, hn⟩ : ∃ n : Nat, q.1 = (n : Int) := ⟨q.1.toNat, by omega⟩
    have hnl : n < rows.length := by omega
    have hr : rows[n]? = some rows[n] := List.getElem?_eq_getElem hnl
    generalize rows[n] = r at hr
    have eo : atI (rows.map (ownB rows)) (n : Int) = some (ownB rows r) := at_of (by rw [List.getElem?_map, hr]; rfl)
    have er : atI (numD rows.length (blD F)) (n : Int) = some (.bl (F n)) := num_at hnl
    have nn : ¬ ((n : Int) = -1) := by omega
    have on : ownN rows k n = ownF rows r k := by unfold ownN; rw [hr]
    have hb2 := hb (ownF rows r) S
    cases h1 : F n <;> cases h2 : ownF rows r k <;> rw [h2] at hb2 <;> simp [m_comes_off, b_comes_off, hB, kq, fa, hb, hf, e0, hn, nn, hR, er, h1, hO, eo, ownB, hb2, on, h2]
section
variable (P Bg Ow Ld Ro k : Nat) (st : Int × Int → Bool) (d : D) (l : List Tx) (rows : List Row)
theorem off_turn (F0 F : BF) (b : Bool) (m j : Nat) (x6 x11 : Option D) (q : Int × Int) (x7 : Option D) (S S0 : Store) (gd : Gd l rows) (hl : rows.length ≤ 1000) (hk : k < mR rows) (hm : m < rows.length) (hj : (ledL (plc rows) m)[j]? = some q)
    (p0 : Pre S0 S) (hR0 : S0.length ≤ Ro) (hB : S0[Bg]? = some (.dT (firstsT rows))) (hO : S0[Ow]? = some (.lst (rows.map (ownB rows)))) (hst : ∀ S', Pre S0 S' → ∀ p ∈ plc rows, isIn (pD p) d S' = some (st p))
    (hR : S[Ro]? = some (.lst (numD rows.length (blD F)))) (Dn Dn' : Int × Int → Prop) (hd : ∀ p, Dn' p → Dn p ∨ p = q) (I : OffI (bgK rows k) st (ownN rows k) (plc rows) rows.length F0 F b Dn) :
    ∃ (F' : BF) (b' : Bool) (S' : Store), turnM (gName 7) l_put_off_4 (pD q) [some (.ref P), some (.int (k : Int)), some d, some (.ref Bg), some (.ref Ow), some (.ref Ld), x6, x7, some (.ref Ro), some (.bl b), some (.int (m : Int)), x11] S = .ok (.nx [some (.ref P), some (.int (k : Int)), some d, some (.ref Bg), some (.ref Ow), some (.ref Ld), x6, some (pD q), some (.ref Ro), some (.bl b'), some (.int (m : Int)), x11]) S' ∧ Pre S0 S' ∧ S'[Ro]? = some (.lst (numD rows.length (blD F'))) ∧ OffI (bgK rows k) st (ownN rows k) (plc rows) rows.length F0 F' b' Dn' := by
  obtain ⟨hq, hq2⟩ := ledL_mem.mp (List.mem_of_getElem? hj)
  have hqn : q.2.toNat = m := by omega
  have co := comes_off_ok Bg Ow Ro k F q l rows S gd hk (p0.get hB) (p0.get hO) hR hq
  have er : atI (numD rows.length (blD F)) (m : Int) = some (.bl (F m)) := num_at hm
  have si := hst S p0 q hq
  have ix : ixN rows.length (m : Int) = some m := by rw [ixN_of (by omega) (by omega)]; simp
  have nl : (numD rows.length (blD F)).length = rows.length := by simp [numD]
  cases c : (F q.2.toNat && (st q || !comesF (bgK rows k) (ownN rows k) F q)) with
  | false =>
    refine ⟨F, b, S, ?_, p0, hR, I.keep c hd⟩
    rw [hqn] at c
    cases h1 : F m with
    | false => simp [turnM_s, l_put_off_4, hR, er, h1]
    | true =>
      rw [h1] at c
      cases h2 : st q with
      | true => rw [h2] at c; cases c
      | false =>
        rw [h2] at c
        cases h3 : comesF (bgK rows k) (ownN rows k) F q with
        | false => rw [h3] at c; cases c
        | true =>
          rw [h3] at co
          rw [h2] at si
          simp [turnM_s, l_put_off_4, hR, er, h1, si, co]
  | true =>
    have I' := I.cut (Dn' := Dn') hq (by rw [hqn]; exact hm) c
    rw [hqn] at c I'
    have ns : (numD rows.length (blD F)).set m (.bl false) = numD rows.length (blD (clr F m)) := by
      have := num_set (f := blD F) (g := blD (clr F m)) hm fun i hi => by unfold blD clr; rw [if_neg hi]
      have e : blD (clr F m) m = .bl false := by unfold blD clr; rw [if_pos rfl]
      rw [e] at this
      exact this
    refine ⟨clr F m, true, S.set Ro (.lst (numD rows.length (blD (clr F m)))), ?_, p0.set hR0, set_get hR, I'⟩
    rw [← ns]
    rw [Bool.and_eq_true] at c
    have h1 := c.1
    cases h2 : st q with
    | true =>
      rw [h2] at si
      simp [turnM_s, l_put_off_4, hR, er, h1, si, nl, ix]
    | false =>
      rw [h2] at si
      have c2 := c.2
      rw [h2] at c2
      have h3 : comesF (bgK rows k) (ownN rows k) F q = false := by simpa using c2
      rw [h3] at co
      simp [turnM_s, l_put_off_4, hR, er, h1, si, co, nl, ix]
theorem off_pass (F : BF) (x6 x7 x9 x10 x11 : Option D) (S S0 : Store) (gd : Gd l rows) (hl : rows.length ≤ 1000) (hk : k < mR rows)
    (p0 : Pre S0 S) (hR0 : S0.length ≤ Ro) (hP : S0[P]? = some (.lst (rows.map Row.d))) (hB : S0[Bg]? = some (.dT (firstsT rows))) (hO : S0[Ow]? = some (.lst (rows.map (ownB rows)))) (hL : CmD S0 Ld rows.length fun m => (ledL (plc rows) m).map pD) (hst : ∀ S', Pre S0 S' → ∀ p ∈ plc rows, isIn (pD p) d S' = some (st p))
    (hR : S[Ro]? = some (.lst (numD rows.length (blD F)))) (up : ∀ m, offF (bgK rows k) st (ownN rows k) (plc rows) m = true → F m = true) :
    ∃ (y7 y10 : Option D) (F' : BF) (b' : Bool) (S' : Store), l_put_off_6 [some (.ref P), some (.int (k : Int)), some d, some (.ref Bg), some (.ref Ow), some (.ref Ld), x6, x7, some (.ref Ro), x9, x10, x11] S = .ok (.nx [some (.ref P), some (.int (k : Int)), some d, some (.ref Bg), some (.ref Ow), some (.ref Ld), x6, y7, some (.ref Ro), some (.bl b'), y10, x11]) S' ∧ Pre S0 S' ∧ S'[Ro]? = some (.lst (numD rows.length (blD F'))) ∧ OffI (bgK rows k) st (ownN rows k) (plc rows) rows.length F F' b' fun p => p ∈ plc rows := by
  have key := loop_inv (hs := []) (turn := turnM (gName 10) l_put_off_5)
    (fun i fr S' => ∃ (y7 y10 : Option D) (F' : BF) (b' : Bool), fr = [some (.ref P), some (.int (k : Int)), some d, some (.ref Bg), some (.ref Ow), some (.ref Ld), x6, y7, some (.ref Ro), some (.bl b'), y10, x11] ∧ Pre S0 S' ∧ S'[Ro]? = some (.lst (numD rows.length (blD F'))) ∧ OffI (bgK rows k) st (ownN rows k) (plc rows) rows.length F F' b' fun p => p ∈ plc rows ∧ p.2 < (i : Int))
    (rng 0 rows.length) 0 [some (.ref P), some (.int (k : Int)), some d, some (.ref Bg), some (.ref Ow), some (.ref Ld), x6, x7, some (.ref Ro), some (.bl false), x10, x11] S
    ⟨x7, x10, F, false, rfl, p0, hR, .start up fun p hp => by have := plc_in gd hp.1; have := hp.2; omega⟩ (fun _ _ S _ => stands_nil S) (by
      rintro i v fr S' hd ⟨y7, y10, F', b', rfl, pr, g, I⟩
      obtain ⟨hi, rfl⟩ := rng_at hd
      rw [show 0 + i = i by omega] at *
      have e0 : (0 : Int) + (i : Int) = (i : Int) := by omega
      rw [e0]
      have cm := hL.mono pr
      have ix := cm.ix hi
      have gi := cm.at_ i hi
      have inner := loop_inv (hs := [(Ld + 1 + i, (ledL (plc rows) i).map pD)]) (turn := turnM (gName 7) l_put_off_4)
        (fun j fr S2 => ∃ (z7 : Option D) (F2 : BF) (b2 : Bool), fr = [some (.ref P), some (.int (k : Int)), some d, some (.ref Bg), some (.ref Ow), some (.ref Ld), x6, z7, some (.ref Ro), some (.bl b2), some (.int (i : Int)), x11] ∧ Pre S0 S2 ∧ S2[Ro]? = some (.lst (numD rows.length (blD F2))) ∧ OffI (bgK rows k) st (ownN rows k) (plc rows) rows.length F F2 b2 fun p => (p ∈ plc rows ∧ p.2 < (i : Int)) ∨ p ∈ (ledL (plc rows) i).take j)
        ((ledL (plc rows) i).map pD) 0 [some (.ref P), some (.int (k : Int)), some d, some (.ref Bg), some (.ref Ow), some (.ref Ld), x6, y7, some (.ref Ro), some (.bl b'), some (.int (i : Int)), x11] S'
        ⟨y7, F', b', rfl, pr, g, I.of fun p hp => by
          rcases hp with hp | hp
          · exact hp
          · cases hp⟩
        (by
          rintro j fr S2 ⟨z7, F2, b2, rfl, pr2, _, _⟩
          exact stands_one (lst_of ((hL.mono pr2).at_ i hi)))
        (by
          rintro j v fr S2 hd2 ⟨z7, F2, b2, rfl, pr2, g2, I2⟩
          rw [List.getElem?_map] at hd2
          obtain ⟨q, hq, rfl⟩ := Option.map_eq_some_iff.mp hd2
          rw [show 0 + j = j by omega] at *
          obtain ⟨F3, b3, S3, e3, p3, g3, I3⟩ := off_turn P Bg Ow Ld Ro k st d l rows F F2 b2 i j x6 x11 q z7 S2 S0 gd hl hk hi hq pr2 hR0 hB hO hst g2 _ (fun p => (p ∈ plc rows ∧ p.2 < (i : Int)) ∨ p ∈ (ledL (plc rows) i).take (j + 1)) (fun p hp => by
            rcases hp with hp | hp
            · exact .inl (.inl hp)
            · rw [tk_succ hq, List.mem_append, List.mem_singleton] at hp
              rcases hp with hp | hp
              · exact .inl (.inr hp)
              · exact .inr hp) I2
          exact ⟨_, S3, .inl e3, _, F3, b3, rfl, p3, g3, I3⟩)
      obtain ⟨fr', S3, e3, z7, F3, b3, rfl, p3, g3, I3⟩ := inner
      rw [List.length_map, Nat.zero_add, List.take_length] at I3
      refine ⟨_, S3, .inl ?_, z7, some (.int (i : Int)), F3, b3, rfl, p3, g3, I3.of fun p hp => ?_⟩
      · simp [turnM_s, l_put_off_5, cm.a, ix, gi]
        rw [e3]
      · by_cases h : p.2 < (i : Int)
        · exact .inl ⟨hp.1, h⟩
        · exact .inr (ledL_mem.mpr ⟨hp.1, by have := hp.2; omega⟩))
  obtain ⟨fr', S', e, y7, y10, F', b', rfl, pr, g, I⟩ := key
  rw [rng_len, Nat.zero_add] at I
  refine ⟨y7, y10, F', b', S', ?_, pr, g, I.of fun p hp => ⟨hp, (plc_in gd hp).2.2.2⟩⟩
  have fl : far (rows.length : Int) := by unfold far; omega
  have hP1 := p0.get hP
  simp [l_put_off_6, hP1, fl]
  exact e
theorem off_while (x6 x11 : Option D) (S0 : Store) (gd : Gd l rows) (hl : rows.length ≤ 1000) (hk : k < mR rows)
    (hR0 : S0.length ≤ Ro) (hP : S0[P]? = some (.lst (rows.map Row.d))) (hB : S0[Bg]? = some (.dT (firstsT rows))) (hO : S0[Ow]? = some (.lst (rows.map (ownB rows)))) (hL : CmD S0 Ld rows.length fun m => (ledL (plc rows) m).map pD) (hst : ∀ S', Pre S0 S' → ∀ p ∈ plc rows, isIn (pD p) d S' = some (st p)) :
    ∀ (n : Nat) (x7 x10 : Option D) (F : BF) (S : Store), bitsOf F rows.length ≤ n → (∀ m, offF (bgK rows k) st (ownN rows k) (plc rows) m = true → F m = true) → Pre S0 S → S[Ro]? = some (.lst (numD rows.length (blD F))) →
    ∃ (y7 y9 y10 : Option D) (S' : Store), sWhile c_put_off_7 l_put_off_6 [some (.ref P), some (.int (k : Int)), some d, some (.ref Bg), some (.ref Ow), some (.ref Ld), x6, x7, some (.ref Ro), some (.bl true), x10, x11] S = .ok (.nx [some (.ref P), some (.int (k : Int)), some d, some (.ref Bg), some (.ref Ow), some (.ref Ld), x6, y7, some (.ref Ro), y9, y10, x11]) S' ∧ Pre S0 S' ∧ S'[Ro]? = some (.lst (numD rows.length (blD (offF (bgK rows k) st (ownN rows k) (plc rows))))) := by
  intro n
  induction n with
  | zero =>
    intro x7 x10 F S hn up p0 hR
    obtain ⟨y7, y10, F', b', S', e, pr, g, I⟩ := off_pass P Bg Ow Ld Ro k st d l rows F x6 x7 (some (.bl true)) x10 x11 S S0 gd hl hk p0 hR0 hP hB hO hL hst hR up
    cases b' with
    | true => have := I.lt rfl; omega
    | false =>
      have done := I.done fun p hp => hp
      refine ⟨y7, some (.bl false), y10, S', ?_, pr, by rw [← done]; exact g⟩
      rw [while_s]
      simp [c_put_off_7, e]
      rw [while_s]
      simp [c_put_off_7]
  | succ n ih =>
    intro x7 x10 F S hn up p0 hR
    obtain ⟨y7, y10, F', b', S', e, pr, g, I⟩ := off_pass P Bg Ow Ld Ro k st d l rows F x6 x7 (some (.bl true)) x10 x11 S S0 gd hl hk p0 hR0 hP hB hO hL hst hR up
    cases b' with
    | true =>
      obtain ⟨z7, z9, z10, S2, e2, q⟩ := ih y7 y10 F' S' (by have := I.lt rfl; omega) I.up pr g
      refine ⟨z7, z9, z10, S2, ?_, q⟩
      rw [while_s]
      simp [c_put_off_7, e]
      exact e2
    | false =>
      have done := I.done fun p hp => hp
      refine ⟨y7, some (.bl false), y10, S', ?_, pr, by rw [← done]; exact g⟩
      rw [while_s]
      simp [c_put_off_7, e]
      rw [while_s]
      simp [c_put_off_7]
end
end Lk94

set_option Elab.async false
set_option linter.all false
set_option maxHeartbeats 1000000
namespace Lk94
open Mi
/-! ### put_off -/
theorem inSeq_p (p : Int × Int) (L : List (Int × Int)) (S : Store) : inSeq (pD p) (L.map pD) S = some (dec (p ∈ L)) := by
  have h := in_kts (x := pk p) (L := L.map pk) S (pk_ok p) (by rw [List.all_eq_true]; intro x hx; obtain ⟨q, _, rfl⟩ := List.mem_map.mp hx; exact pk_ok q)
  have e : (L.map pk).map kt = L.map pD := by rw [List.map_map]; rfl
  rw [e] at h
  have h2 : inSeq (pD p) (L.map pD) S = some (dec (pk p ∈ L.map pk)) := h
  rw [h2]
  congr 1
  by_cases m : p ∈ L
  · rw [dec_true m, dec_true (List.mem_map.mpr ⟨p, m, rfl⟩)]
  · rw [dec_false m, dec_false fun z => by
      obtain ⟨q, hq, e⟩ := List.mem_map.mp z
      rw [pk_inj e] at hq
      exact m hq]
theorem isIn_lst {p : Int × Int} {L : List (Int × Int)} {n : Nat} {S : Store} (h : S[n]? = some (.lst (L.map pD))) : isIn (pD p) (.ref n) S = some (dec (p ∈ L)) := by
  unfold isIn
  dsimp only
  rw [h]
  exact inSeq_p p L S
theorem isIn_tup {p : Int × Int} {L : List (Int × Int)} {S : Store} : isIn (pD p) (.tup (L.map pD)) S = some (dec (p ∈ L)) := by
  unfold isIn
  dsimp only
  exact inSeq_p p L S
theorem led_ok (P Q : Nat) (x1 x2 x3 x4 x8 x9 x10 x11 : Option D) (A : Nat) (l : List Tx) (rows : List Row) (S0 S : Store) (gd : Gd l rows) (hl : rows.length ≤ 1000) (p0 : Pre S0 S) (hA0 : S0.length ≤ A) (x6 x7 : Option D) (hQ : S[Q]? = some (.lst ((plc rows).map pD))) (hQA : Q < A ∨ A + 1 + rows.length ≤ Q) (c : CmD S A rows.length fun _ => []) :
    ∃ (y7 : Option D) (S' : Store), loopM [(Q, (plc rows).map pD)] (turnM (gName 7) l_put_off_2) ((plc rows).map pD) [x1, x2, x3, x4, x8, some (.ref A), x6, x7, x9, x10, x11, none] S = .ok (.nx [x1, x2, x3, x4, x8, some (.ref A), x6, y7, x9, x10, x11, none]) S' ∧ Pre S0 S' ∧ CmD S' A rows.length fun m => (ledL (plc rows) m).map pD := by
  have pl := plc_len rows
  have key := loop_inv (hs := [(Q, (plc rows).map pD)]) (turn := turnM (gName 7) l_put_off_2)
    (fun i fr S' => ∃ (y7 : Option D), fr = [x1, x2, x3, x4, x8, some (.ref A), x6, y7, x9, x10, x11, none] ∧ Pre S0 S' ∧ S'[Q]? = some (.lst ((plc rows).map pD)) ∧ CmD S' A rows.length fun m => (ledL ((plc rows).take i) m).map pD)
    ((plc rows).map pD) 0 [x1, x2, x3, x4, x8, some (.ref A), x6, x7, x9, x10, x11, none] S
    ⟨x7, rfl, p0, hQ, c⟩
    (by
      rintro i fr S' ⟨y7, rfl, pr, gq, _⟩
      exact stands_one (lst_of gq))
    (by
      rintro i v fr S' hd ⟨y7, rfl, pr, gq, cm⟩
      rw [List.getElem?_map] at hd
      obtain ⟨q, hq, rfl⟩ := Option.map_eq_some_iff.mp hd
      rw [show 0 + i = i by omega] at *
      have hin := plc_in gd (List.mem_of_getElem? hq)
      obtain ⟨m, hqm⟩ : ∃ m : Nat, q.2 = (m : Int) := ⟨q.2.toNat, by have := hin.2.2.1; omega⟩
      have hm : m < rows.length := by have := hin.2.2.2; omega
      have ix := cm.ix hm
      have gm := cm.at_ m hm
      have ll := ledL_len ((plc rows).take i) m
      rw [List.length_take] at ll
      have ll2 : (ledL ((plc rows).take i) m).length < 16777216 := by omega
      have e1 : ∀ S, oIx (pD q) (.int 1) S = .ok (.int q.2) S := fun S => by unfold pD; rw [oIx_t]; rfl
      refine ⟨_, S'.set (A + 1 + m) (.lst ((ledL ((plc rows).take i) m).map pD ++ [pD q])), .inl (by simp [turnM_s, l_put_off_2, e1, hqm, cm.a, ix, gm, ll2, LINE]; rfl), _, rfl, pr.set (by omega), by rw [set_ne (by omega)]; exact gq, ?_⟩
      have e : (fun j => (ledL ((plc rows).take (i + 1)) j).map pD) = fun j => if j = m then (ledL ((plc rows).take i) j).map pD ++ [pD q] else (ledL ((plc rows).take i) j).map pD := by
        funext j
        rw [tk_succ hq, ledL_snoc]
        by_cases hj : j = m
        · subst hj
          rw [if_pos hqm, if_pos rfl, List.map_append]; rfl
        · rw [if_neg (fun z => hj (by omega)), if_neg hj]
      rw [e]
      exact cm.put hm (pD q))
  obtain ⟨fr', S3, e3, y7, rfl, p3, _, cm⟩ := key
  rw [List.length_map, Nat.zero_add, List.take_length] at cm
  exact ⟨y7, S3, e3, p3, cm⟩
noncomputable def offK (rows : List Row) (k : Nat) (st : Int × Int → Bool) : BF := offF (bgK rows k) st (ownN rows k) (plc rows)
noncomputable def offP (rows : List Row) (k : Nat) (st : Int × Int → Bool) : List (Int × Int) := (plc rows).filter fun p => comesF (bgK rows k) (ownN rows k) (offK rows k st) p
noncomputable def offR (rows : List Row) (k : Nat) (st : Int × Int → Bool) : List Nat := (List.range rows.length).filter (offK rows k st)
def nD (i : Nat) : D := .int (i : Int)
noncomputable def t_put_off : SM := sSeq (sAsg (mCall m_firsts (aCons (mVar 0) aNil)) (gName 3)) (sSeq (sAsg (mCall m_own_bits (aCons (mVar 0) aNil)) (gName 4)) (sSeq (sAsg (mLc [6] (iSeq (mVar 0)) (gName 6) (tYes) (e_put_off_1)) (gName 5)) (sSeq (sFor (iSeq (mCall m_places (aCons (mVar 0) aNil))) (gName 7) (l_put_off_2)) (sSeq (sAsg (mLc [6] (iSeq (mVar 0)) (gName 6) (tYes) (e_put_off_3)) (gName 8)) (sSeq (sAsg (mC (.bl true)) (gName 9)) (sSeq (sWhile (c_put_off_7) (l_put_off_6)) (sSeq (sAsg (mLc [7] (iSeq (mCall m_places (aCons (mVar 0) aNil))) (gName 7) (c_put_off_8) (e_put_off_9)) (gName 11)) (sRet (mTup (aCons (mVar 11) (aCons (mLc [10] (iRng1 (aCons (mCall bLen (aCons (mVar 0) aNil)) aNil)) (gName 10) (c_put_off_10) (e_put_off_11)) aNil)))))))))))
theorem b_put_off_eq : b_put_off = sSeq (sIf (tBl (mOp oIs (mVar 2) (mC .non))) (sAsg (mLst (aNil)) (gName 2)) (sNx)) t_put_off := rfl
theorem put_off_go (P k : Nat) (st : Int × Int → Bool) (d : D) (l : List Tx) (rows : List Row) (S : Store) (gd : Gd l rows) (rk : RowsK rows) (hl : rows.length ≤ 1000) (hk : k < mR rows) (hP : S[P]? = some (.lst (rows.map Row.d))) (hst : ∀ S', Pre S S' → ∀ p ∈ plc rows, isIn (pD p) d S' = some (st p)) :
    ∃ (a b : Nat) (S' : Store), t_put_off [some (.ref P), some (.int (k : Int)), some d, none, none, none, none, none, none, none, none, none] S = .ok (.rt (.tup [.ref a, .ref b])) S' ∧ Pre S S' ∧ S.length ≤ a ∧ a < b ∧ S'[a]? = some (.lst ((offP rows k st).map pD)) ∧ S'[b]? = some (.lst ((offR rows k st).map nD)) := by
  have fl : far (rows.length : Int) := by unfold far; omega
  have pl := plc_len rows
  obtain ⟨Bg, S1, e1, p1, hB, gB⟩ := firsts_ok P l rows S gd rk hP hl
  obtain ⟨Ow, S2, e2, p2, hO, gO⟩ := own_bits_ok P rows S1 (p1.get hP) hl
  have hP2 := p2.get (p1.get hP)
  have q1 := lc_fresh (vs := [6]) (g := gName 6) (e := e_put_off_1) (fr := [some (.ref P), some (.int (k : Int)), some d, some (.ref Bg), some (.ref Ow), none, none, none, none, none, none, none]) (l := rows.map Row.d) (hs := [(P, rows.map Row.d)]) (S := S2) (fun v S' => ⟨[some (.ref P), some (.int (k : Int)), some d, some (.ref Bg), some (.ref Ow), none, some v, none, none, none, none, none], by simp [unset], by simp [e_put_off_1, LINE]⟩) (stand_one (lst_of hP2)) (by rw [List.length_map]; exact Nat.le_trans hl (by decide))
  rw [List.length_map] at q1
  obtain ⟨S3, hS3⟩ : ∃ S3 : Store, S3 = S2 ++ O.lst ((List.range rows.length).map fun i => .ref (S2.length + 1 + i)) :: List.replicate rows.length (.lst []) := ⟨_, rfl⟩
  have c3 : CmD S3 S2.length rows.length fun _ => [] := by rw [hS3]; exact CmD.start
  have p3 : Pre S2 S3 := by rw [hS3]; exact Pre.app _ _
  have l3 : S3.length = S2.length + 1 + rows.length := by rw [hS3, List.length_append, List.length_cons, List.length_replicate]; omega
  rw [← hS3] at q1
  obtain ⟨Q, S4, e4, p4, hQ, gQ⟩ := places_ok P rows S3 (p3.get hP2) hl
  obtain ⟨y7, S5, e5, p5, c5⟩ := led_ok P Q (some (.ref P)) (some (.int (k : Int))) (some d) (some (.ref Bg)) (some (.ref Ow)) none none none S2.length l rows S2 S4 gd hl (p3.trans p4) (Nat.le_refl _) none none gQ (.inr (by omega)) (c3.mono p4)
  have hP5 := p5.get hP2
  have gB5 := p5.get (p2.get gB)
  have gO5 := p5.get gO
  have p05 := (p1.trans p2).trans p5
  obtain ⟨S6, e6, p6, g6⟩ := lc_fil (vs := [6]) (g := gName 6) (t := tYes) (e := e_put_off_3) (fr := [some (.ref P), some (.int (k : Int)), some d, some (.ref Bg), some (.ref Ow), some (.ref S2.length), none, y7, none, none, none, none]) (l := rows.map Row.d) (hs := [(P, rows.map Row.d)]) (S := S5) rows Row.d (fun _ => D.bl true) (fun _ => true) rfl (stand_one (lst_of hP5)) (Nat.le_trans hl (by decide)) (by
    intro r hr S' pr
    exact ⟨[some (.ref P), some (.int (k : Int)), some d, some (.ref Bg), some (.ref Ow), some (.ref S2.length), some r.d, y7, none, none, none, none], S', by simp [unset], by simp, Pre.refl _, fun _ => ⟨S', by simp [e_put_off_3], Pre.refl _⟩⟩)
  have g6' : S6[S5.length]? = some (.lst (numD rows.length (blD fun _ => true))) := by
    rw [g6]
    congr 2
    have : rows.filter (fun _ => true) = rows := by simp
    rw [this]
    apply List.ext_getElem?
    intro j
    unfold numD
    by_cases hj : j < rows.length
    · rw [List.getElem?_map, List.getElem?_map, List.getElem?_range hj, List.getElem?_eq_getElem hj]; rfl
    · rw [List.getElem?_eq_none (by rw [List.length_map]; omega), List.getElem?_eq_none (by rw [List.length_map, List.length_range]; omega)]
  obtain ⟨z7, z9, z10, S7, e7, p7, g7⟩ := off_while P Bg Ow S2.length S5.length k st d l rows none none S5 gd hl hk (Nat.le_refl _) hP5 gB5 gO5 c5 (fun S' h => hst S' (p05.trans h)) _ y7 none (fun _ => true) S6 (Nat.le_refl _) (fun _ _ => rfl) p6 g6'
  have p07 := p05.trans p7
  obtain ⟨Q2, S8, e8, p8, hQ2, gQ2⟩ := places_ok P rows S7 (p7.get hP5) hl
  have p58 := p7.trans p8
  have gR8 := p8.get g7
  obtain ⟨S9, e9, p9, g9⟩ := lc_fil (vs := [7]) (g := gName 7) (t := c_put_off_8) (e := e_put_off_9) (fr := [some (.ref P), some (.int (k : Int)), some d, some (.ref Bg), some (.ref Ow), some (.ref S2.length), none, z7, some (.ref S5.length), z9, z10, none]) (l := (plc rows).map pD) (hs := [(Q2, (plc rows).map pD)]) (S := S8) (plc rows) pD pD (fun p => comesF (bgK rows k) (ownN rows k) (offK rows k st) p) rfl (stand_one (lst_of gQ2)) (Nat.le_trans (Nat.le_trans pl (by omega)) (show 2001 ≤ LINE by decide)) (by
    intro p hp S' pr
    refine ⟨[some (.ref P), some (.int (k : Int)), some d, some (.ref Bg), some (.ref Ow), some (.ref S2.length), none, some (pD p), some (.ref S5.length), z9, z10, none], S', by simp [unset], ?_, Pre.refl _, fun _ => ⟨S', by simp [e_put_off_9], Pre.refl _⟩⟩
    have co := comes_off_ok Bg Ow S5.length k (offK rows k st) p l rows S' gd hk (pr.get (p58.get gB5)) (pr.get (p58.get gO5)) (pr.get gR8) hp
    simp [c_put_off_8, co])
  obtain ⟨S10, e10, p10, g10⟩ := lc_fil (vs := [10]) (g := gName 10) (t := c_put_off_10) (e := e_put_off_11) (fr := [some (.ref P), some (.int (k : Int)), some d, some (.ref Bg), some (.ref Ow), some (.ref S2.length), none, z7, some (.ref S5.length), z9, z10, some (.ref S8.length)]) (l := rng 0 rows.length) (hs := []) (S := S9) (List.range rows.length) (fun k => .int (0 + (k : Nat))) nD (offK rows k st) rfl (fun _ h => by cases h) (by rw [List.length_range]; exact Nat.le_trans hl (by decide)) (by
    intro j hj S' pr
    have e0 : (0 : Int) + (j : Int) = (j : Int) := by omega
    have hj' := List.mem_range.mp hj
    have er : atI (numD rows.length (blD (offK rows k st))) (j : Int) = some (.bl (offK rows k st j)) := num_at hj'
    have gR : S'[S5.length]? = some (.lst (numD rows.length (blD (offK rows k st)))) := pr.get (p9.get gR8)
    refine ⟨[some (.ref P), some (.int (k : Int)), some d, some (.ref Bg), some (.ref Ow), some (.ref S2.length), none, z7, some (.ref S5.length), z9, some (.int (j : Int)), some (.ref S8.length)], S', by simp [unset, e0], ?_, Pre.refl _, fun _ => ⟨S', by simp [e_put_off_11, nD], Pre.refl _⟩⟩
    simp [c_put_off_10, gR, er])
  have l9 : S8.length < S9.length := Pre.lt (S' := S9) g9
  have l78 := (p07.trans p8).len
  have hP9 := p9.get (p8.get (p7.get hP5))
  refine ⟨S8.length, S9.length, S10, ?_, ((p07.trans p8).trans p9).trans p10, l78, l9, p10.get g9, g10⟩
  simp [t_put_off, e1, e2, hP2]
  rw [q1]
  simp [e4, gQ]
  rw [e5]
  simp [hP5]
  rw [e6]
  simp
  rw [e7]
  simp [e8, gQ2]
  rw [e9]
  simp [hP9, fl]
  rw [e10]
  simp [LINE]
theorem put_off_ok (P k : Nat) (st : Int × Int → Bool) (d : D) (l : List Tx) (rows : List Row) (S : Store) (gd : Gd l rows) (rk : RowsK rows) (hl : rows.length ≤ 1000) (hk : k < mR rows) (hP : S[P]? = some (.lst (rows.map Row.d))) (hn : isN d = false) (hst : ∀ S', Pre S S' → ∀ p ∈ plc rows, isIn (pD p) d S' = some (st p)) :
    ∃ (a b : Nat) (S' : Store), m_put_off [.ref P, .int (k : Int), d] S = .ok (.tup [.ref a, .ref b]) S' ∧ Pre S S' ∧ S.length ≤ a ∧ a < b ∧ S'[a]? = some (.lst ((offP rows k st).map pD)) ∧ S'[b]? = some (.lst ((offR rows k st).map nD)) := by
  obtain ⟨a, b, S', e, q⟩ := put_off_go P k st d l rows S gd rk hl hk hP hst
  refine ⟨a, b, S', ?_, q⟩
  simp [m_put_off, b_put_off_eq, hn]
  rw [e]
  simp
theorem put_off_non (P k : Nat) (l : List Tx) (rows : List Row) (S : Store) (gd : Gd l rows) (rk : RowsK rows) (hl : rows.length ≤ 1000) (hk : k < mR rows) (hP : S[P]? = some (.lst (rows.map Row.d))) :
    ∃ (a b : Nat) (S' : Store), m_put_off [.ref P, .int (k : Int), .non] S = .ok (.tup [.ref a, .ref b]) S' ∧ Pre S S' ∧ S.length ≤ a ∧ a < b ∧ S'[a]? = some (.lst ((offP rows k fun _ => false).map pD)) ∧ S'[b]? = some (.lst ((offR rows k fun _ => false).map nD)) := by
  obtain ⟨a, b, S', e, pr, h1, h2, h3, h4⟩ := put_off_go P k (fun _ => false) (.ref S.length) l rows (S ++ [.lst []]) gd rk hl hk (app_get hP) (fun S' pr p hp => by
    have g := pr.get (app_new S (.lst []) [])
    have := isIn_lst (p := p) (L := []) g
    rw [dec_false (by simp)] at this
    exact this)
  rw [List.length_append] at h1
  refine ⟨a, b, S', ?_, (Pre.app _ _).trans pr, by omega, h2, h3, h4⟩
  simp [m_put_off, b_put_off_eq, isN, LINE]
  rw [e]
  simp
end Lk94

set_option Elab.async false
set_option linter.all false
set_option maxHeartbeats 1000000
namespace Lk94
open Mi
/-! ### where the box is asked for -/
noncomputable def lostN (rows : List Row) (k n : Nat) : Bool := match rows[n]? with
  | some r => lostF rows r k
  | none => false
def rdK (L : List (Nat × Tx)) (n : Nat) : Bool := decide (hwL L n = t_read)
noncomputable def ddK (rows : List Row) (k : Nat) (L : List (Nat × Tx)) (n : Nat) : Bool := decide (hwL L n = t_keep) || lostN rows k n
def nxK (rows : List Row) (kp : Int × Int → Bool) (n : Nat) : List Int := match rows[n]? with
  | some r => (fol n r).filter fun m => !kp ((n : Int), m)
  | none => []
noncomputable def askK (rows : List Row) (k : Nat) (kp : Int × Int → Bool) (L : List (Nat × Tx)) : BF := rdF (rdK L) (ddK rows k L) (nxK rows kp)
theorem nxK_in {l : List Tx} {rows : List Row} (gd : Gd l rows) (kp : Int × Int → Bool) {n : Nat} {m : Int} (h : m ∈ nxK rows kp n) : 0 ≤ m ∧ m < (rows.length : Int) := by
  unfold nxK at h
  cases e : rows[n]? with
  | none => rw [e] at h; cases h
  | some r =>
    rw [e] at h
    exact gd.fol_in e (List.mem_filter.mp h).1
section
variable (P Lo Hw Fo k : Nat) (kd : D) (kp : Int × Int → Bool) (L : List (Nat × Tx)) (l : List Tx) (rows : List Row)
theorem ask_inner (hkd : ∀ p S, isIn (pD p) kd S = some (kp p)) (F0 F : BF) (b : Bool) (n : Nat) (r : Row) (x2 x9 : Option D) (S S0 : Store) (gd : Gd l rows) (hl : rows.length ≤ 1000) (hr : rows[n]? = some r) (h1 : ddK rows k L n = false)
    (p0 : Pre S0 S) (hF0 : S0.length ≤ Fo) (g : S[Fo]? = some (.lst (numD rows.length (blD F)))) (I : AskI (rdK L) (ddK rows k L) (nxK rows kp) rows.length F0 F b fun i _ => i < n) :
    ∃ (y9 : Option D) (F' : BF) (b' : Bool) (S' : Store), loopM [(S.length, (fol n r).map D.int)] (turnM (gName 9) l_asks_box_2) ((fol n r).map D.int) [some (.ref P), some (.int (k : Int)), x2, some (.ref Lo), some kd, some (.ref Hw), some (.ref Fo), some (.int (n : Int)), some (.bl b), x9] (S ++ [.lst ((fol n r).map .int)]) = .ok (.nx [some (.ref P), some (.int (k : Int)), x2, some (.ref Lo), some kd, some (.ref Hw), some (.ref Fo), some (.int (n : Int)), some (.bl b'), y9]) S' ∧ Pre S0 S' ∧ S'[Fo]? = some (.lst (numD rows.length (blD F'))) ∧ AskI (rdK L) (ddK rows k L) (nxK rows kp) rows.length F0 F' b' fun i _ => i < n + 1 := by
  have hn := (List.getElem?_eq_some_iff.mp hr).1
  have hnx : nxK rows kp n = (fol n r).filter fun m => !kp ((n : Int), m) := by unfold nxK; rw [hr]
  have hlt := Pre.lt (S' := S) g
  have key := loop_inv (hs := [(S.length, (fol n r).map D.int)]) (turn := turnM (gName 9) l_asks_box_2)
    (fun j fr S2 => ∃ (y9 : Option D) (F2 : BF) (b2 : Bool), fr = [some (.ref P), some (.int (k : Int)), x2, some (.ref Lo), some kd, some (.ref Hw), some (.ref Fo), some (.int (n : Int)), some (.bl b2), y9] ∧ Pre S0 S2 ∧ S2[S.length]? = some (.lst ((fol n r).map .int)) ∧ S2[Fo]? = some (.lst (numD rows.length (blD F2))) ∧ AskI (rdK L) (ddK rows k L) (nxK rows kp) rows.length F0 F2 b2 fun i m => i < n ∨ (i = n ∧ m ∈ (fol n r).take j))
    ((fol n r).map D.int) 0 [some (.ref P), some (.int (k : Int)), x2, some (.ref Lo), some kd, some (.ref Hw), some (.ref Fo), some (.int (n : Int)), some (.bl b), x9] (S ++ [.lst ((fol n r).map .int)])
    ⟨x9, F, b, rfl, p0.trans (Pre.app _ _), app_new _ _ _, app_get g, I.of fun i m h => by
      rcases h with h | ⟨_, h⟩
      · exact .inl h
      · cases h⟩
    (by
      rintro j fr S2 ⟨y9, F2, b2, rfl, _, gl, _, _⟩
      exact stands_one (lst_of gl))
    (by
      rintro j d fr S2 hd ⟨y9, F2, b2, rfl, pr, gl, g2, I2⟩
      rw [List.getElem?_map] at hd
      obtain ⟨m', hm', rfl⟩ := Option.map_eq_some_iff.mp hd
      rw [show 0 + j = j by omega] at *
      have hmem := List.mem_of_getElem? hm'
      have hin := gd.fol_in hr hmem
      obtain ⟨m, rfl⟩ : ∃ m : Nat, m' = (m : Int) := ⟨m'.toNat, by omega⟩
      have hm : m < rows.length := by omega
      have er : atI (numD rows.length (blD F2)) (m : Int) = some (.bl (F2 m)) := num_at hm
      have en : atI (numD rows.length (blD F2)) (n : Int) = some (.bl (F2 n)) := num_at hn
      have ki : isIn (.tup [.int (n : Int), .int (m : Int)]) kd S2 = some (kp ((n : Int), (m : Int))) := hkd ((n : Int), (m : Int)) S2
      have ko : oNotIn (.tup [.int (n : Int), .int (m : Int)]) kd S2 = .ok (.bl (!kp ((n : Int), (m : Int)))) S2 := by unfold oNotIn; rw [ki]
      have ix : ixN rows.length (n : Int) = some n := by rw [ixN_of (by omega) (by omega)]; simp
      have nl : (numD rows.length (blD F2)).length = rows.length := by simp [numD]
      have dn : ∀ (i q : Nat), (i < n ∨ (i = n ∧ (q : Int) ∈ (fol n r).take (j + 1))) → (i < n ∨ (i = n ∧ (q : Int) ∈ (fol n r).take j)) ∨ (i = n ∧ q = m) := fun i q h => by
        rcases h with h | ⟨h, z⟩
        · exact .inl (.inl h)
        · rw [tk_succ hm', List.mem_append, List.mem_singleton] at z
          rcases z with z | z
          · exact .inl (.inr ⟨h, z⟩)
          · exact .inr ⟨h, by omega⟩
      cases c1 : F2 m with
      | false =>
        refine ⟨_, S2, .inl ?_, some (.int (m : Int)), F2, b2, rfl, pr, gl, g2, I2.of fun i q h => ?_⟩
        · simp [turnM_s, l_asks_box_2, LINE, g2, er, c1]
        · rcases dn i q h with h | ⟨rfl, rfl⟩
          · exact .inl h
          · exact .inr (.inr (.inr (.inl c1)))
      | true =>
      cases c2 : kp ((n : Int), (m : Int)) with
      | true =>
        rw [c2] at ko
        refine ⟨_, S2, .inl ?_, some (.int (m : Int)), F2, b2, rfl, pr, gl, g2, I2.of fun i q h => ?_⟩
        · simp only [l_asks_box_2]
          simp [turnM_s, LINE, g2, er, c1, ki, c2]
        · rcases dn i q h with h | ⟨rfl, rfl⟩
          · exact .inl h
          · refine .inr (.inr (.inl fun z => ?_))
            rw [hnx] at z
            have := (List.mem_filter.mp z).2
            rw [c2] at this; cases this
      | false =>
      cases c3 : F2 n with
      | true =>
        refine ⟨_, S2, .inl ?_, some (.int (m : Int)), F2, b2, rfl, pr, gl, g2, I2.of fun i q h => ?_⟩
        · simp [turnM_s, l_asks_box_2, LINE, g2, er, en, c1, ki, c2, c3]
        · rcases dn i q h with h | ⟨rfl, rfl⟩
          · exact .inl h
          · exact .inr (.inr (.inr (.inr c3)))
      | false =>
        have ns : (numD rows.length (blD F2)).set n (.bl true) = numD rows.length (blD (setT F2 n)) := by
          have := num_set (f := blD F2) (g := blD (setT F2 n)) hn fun i hi => by unfold blD setT; rw [if_neg hi]
          have e : blD (setT F2 n) n = .bl true := by unfold blD setT; rw [if_pos rfl]
          rw [e] at this
          exact this
        refine ⟨_, S2.set Fo (.lst (numD rows.length (blD (setT F2 n)))), .inl ?_, some (.int (m : Int)), setT F2 n, true, rfl, pr.set hF0, by rw [set_ne (by omega)]; exact gl, set_get g2, I2.put hn h1 (by rw [hnx]; exact List.mem_filter.mpr ⟨hmem, by rw [c2]; rfl⟩) c1 c3⟩
        rw [← ns]
        simp [turnM_s, l_asks_box_2, LINE, g2, er, en, c1, ki, c2, c3, nl, ix])
  obtain ⟨fr', S3, e3, y9, F3, b3, rfl, p3, _, g3, I3⟩ := key
  rw [List.length_map, Nat.zero_add, List.take_length] at I3
  refine ⟨y9, F3, b3, S3, e3, p3, g3, I3.of fun i m h => ?_⟩
  by_cases hi : i < n
  · exact .inl (.inl hi)
  · have : i = n := by omega
    subst this
    by_cases hm : (m : Int) ∈ fol i r
    · exact .inl (.inr ⟨rfl, hm⟩)
    · refine .inr (.inr (.inl fun z => hm ?_))
      rw [hnx] at z
      exact (List.mem_filter.mp z).1
theorem ask_pass (hkd : ∀ p S, isIn (pD p) kd S = some (kp p)) (F : BF) (x2 x7 x8 x9 : Option D) (S S0 : Store) (gd : Gd l rows) (hl : rows.length ≤ 1000) (hk : k < mR rows)
    (p0 : Pre S0 S) (hF0 : S0.length ≤ Fo) (hP : S0[P]? = some (.lst (rows.map Row.d))) (hLo : S0[Lo]? = some (.lst (rows.map (lostB rows)))) (hHw : S0[Hw]? = some (.dK (TL L)))
    (g : S[Fo]? = some (.lst (numD rows.length (blD F)))) (sd : ∀ m, F m = true → RdI (rdK L) (ddK rows k L) (nxK rows kp) m) (base : ∀ m, rdK L m = true → F m = true) :
    ∃ (y7 y9 : Option D) (F' : BF) (b' : Bool) (S' : Store), l_asks_box_4 [some (.ref P), some (.int (k : Int)), x2, some (.ref Lo), some kd, some (.ref Hw), some (.ref Fo), x7, x8, x9] S = .ok (.nx [some (.ref P), some (.int (k : Int)), x2, some (.ref Lo), some kd, some (.ref Hw), some (.ref Fo), y7, some (.bl b'), y9]) S' ∧ Pre S0 S' ∧ S'[Fo]? = some (.lst (numD rows.length (blD F'))) ∧ AskI (rdK L) (ddK rows k L) (nxK rows kp) rows.length F F' b' fun i _ => i < rows.length := by
  have key := loop_inv (hs := []) (turn := turnM (gName 7) l_asks_box_3)
    (fun i fr S' => ∃ (y7 y9 : Option D) (F' : BF) (b' : Bool), fr = [some (.ref P), some (.int (k : Int)), x2, some (.ref Lo), some kd, some (.ref Hw), some (.ref Fo), y7, some (.bl b'), y9] ∧ Pre S0 S' ∧ S'[Fo]? = some (.lst (numD rows.length (blD F'))) ∧ AskI (rdK L) (ddK rows k L) (nxK rows kp) rows.length F F' b' fun a _ => a < i)
    (rng 0 rows.length) 0 [some (.ref P), some (.int (k : Int)), x2, some (.ref Lo), some kd, some (.ref Hw), some (.ref Fo), x7, some (.bl false), x9] S
    ⟨x7, x9, F, false, rfl, p0, g, .start sd base fun i j h => by omega⟩ (fun _ _ S _ => stands_nil S) (by
      rintro i v fr S' hd ⟨y7, y9, F', b', rfl, pr, g', I⟩
      obtain ⟨hi, rfl⟩ := rng_at hd
      rw [show 0 + i = i by omega] at *
      have e0 : (0 : Int) + (i : Int) = (i : Int) := by omega
      rw [e0]
      have hr : rows[i]? = some rows[i] := List.getElem?_eq_getElem hi
      generalize rows[i] = r at hr
      have en : atI (numD rows.length (blD F')) (i : Int) = some (.bl (F' i)) := num_at hi
      have hHw' := pr.get hHw
      have gg := dGetM_2 hHw' (i : Int) (.str [])
      rw [TL_get] at gg
      have el : atI (rows.map (lostB rows)) (i : Int) = some (lostB rows r) := at_of (by rw [List.getElem?_map, hr]; rfl)
      have hb := has_bit_ok (mR rows) k (lostF rows r) hk S'
      have dn : ∀ a : Nat, a < i + 1 → a < i ∨ a = i := fun a h => by omega
      have ln : lostN rows k i = lostF rows r k := by unfold lostN; rw [hr]
      cases c1 : F' i with
      | true =>
        refine ⟨_, S', .inl ?_, some (.int (i : Int)), y9, F', b', rfl, pr, g', I.of fun a m h => ?_⟩
        · simp [turnM_s, l_asks_box_3, g', en, c1]
        · rcases dn a h with h | rfl
          · exact .inl h
          · exact .inr (.inr (.inr (.inr c1)))
      | false =>
      by_cases c2 : hwL L i = t_keep
      · refine ⟨_, S', .inl ?_, some (.int (i : Int)), y9, F', b', rfl, pr, g', I.of fun a m h => ?_⟩
        · simp [turnM_s, l_asks_box_3, g', en, c1, hHw', gg, c2]
        · rcases dn a h with h | rfl
          · exact .inl h
          · exact .inr (.inl (by unfold ddK; rw [decide_eq_true c2]; rfl))
      cases c3 : lostF rows r k with
      | true =>
        rw [c3] at hb
        refine ⟨_, S', .inl ?_, some (.int (i : Int)), y9, F', b', rfl, pr, g', I.of fun a m h => ?_⟩
        · simp [turnM_s, l_asks_box_3, g', en, c1, hHw', gg, c2, pr.get hLo, el, lostB, hb]
        · rcases dn a h with h | rfl
          · exact .inl h
          · exact .inr (.inl (by unfold ddK; rw [ln, c3, Bool.or_true]))
      | false =>
        rw [c3] at hb
        have dd : ddK rows k L i = false := by unfold ddK; rw [ln, c3, decide_eq_false c2]; rfl
        have f := followers_ok P i rows r S' (pr.get hP) hr
        obtain ⟨z9, F3, b3, S3, e3, p3, g3, I3⟩ := ask_inner P Lo Hw Fo k kd kp L l rows hkd F F' b' i r x2 y9 S' S0 gd hl hr dd pr hF0 g' I
        refine ⟨_, S3, .inl ?_, some (.int (i : Int)), z9, F3, b3, rfl, p3, g3, I3⟩
        simp [turnM_s, l_asks_box_3, g', en, c1, hHw', gg, c2, pr.get hLo, el, lostB, hb, f, get_len]
        rw [e3])
  obtain ⟨fr', S', e, y7, y9, F', b', rfl, pr, g', I⟩ := key
  rw [rng_len, Nat.zero_add] at I
  refine ⟨y7, y9, F', b', S', ?_, pr, g', I⟩
  have fl : far (rows.length : Int) := by unfold far; omega
  have hP1 := p0.get hP
  simp [l_asks_box_4, hP1, fl]
  exact e
theorem ask_while (hkd : ∀ p S, isIn (pD p) kd S = some (kp p)) (x2 : Option D) (S0 : Store) (gd : Gd l rows) (hl : rows.length ≤ 1000) (hk : k < mR rows)
    (hF0 : S0.length ≤ Fo) (hP : S0[P]? = some (.lst (rows.map Row.d))) (hLo : S0[Lo]? = some (.lst (rows.map (lostB rows)))) (hHw : S0[Hw]? = some (.dK (TL L))) :
    ∀ (n : Nat) (x7 x9 : Option D) (F : BF) (S : Store), bitsOf (fun i => !F i) rows.length ≤ n → (∀ m, F m = true → RdI (rdK L) (ddK rows k L) (nxK rows kp) m) → (∀ m, rdK L m = true → F m = true) → Pre S0 S → S[Fo]? = some (.lst (numD rows.length (blD F))) →
    ∃ (y7 y8 y9 : Option D) (S' : Store), sWhile c_asks_box_5 l_asks_box_4 [some (.ref P), some (.int (k : Int)), x2, some (.ref Lo), some kd, some (.ref Hw), some (.ref Fo), x7, some (.bl true), x9] S = .ok (.nx [some (.ref P), some (.int (k : Int)), x2, some (.ref Lo), some kd, some (.ref Hw), some (.ref Fo), y7, y8, y9]) S' ∧ Pre S0 S' ∧ S'[Fo]? = some (.lst (numD rows.length (blD (askK rows k kp L)))) := by
  have hx : ∀ (i m : Nat), (m : Int) ∈ nxK rows kp i → m < rows.length := fun i m h => by have := nxK_in gd kp h; omega
  have fin : ∀ {F F' : BF} {S' : Store}, S'[Fo]? = some (.lst (numD rows.length (blD F'))) → AskI (rdK L) (ddK rows k L) (nxK rows kp) rows.length F F' false (fun i _ => i < rows.length) → S'[Fo]? = some (.lst (numD rows.length (blD (askK rows k kp L)))) := fun {F F' S'} g I => by
    have d := I.done (fun i m h _ => h) hx
    rw [g]
    congr 2
    unfold numD
    apply List.map_congr_left
    intro i hi
    unfold blD askK
    rw [d i (List.mem_range.mp hi)]
  intro n
  induction n with
  | zero =>
    intro x7 x9 F S hn sd base p0 g
    obtain ⟨y7, y9, F', b', S', e, pr, g', I⟩ := ask_pass P Lo Hw Fo k kd kp L l rows hkd F x2 x7 (some (.bl true)) x9 S S0 gd hl hk p0 hF0 hP hLo hHw g sd base
    cases b' with
    | true => have := I.lt rfl; omega
    | false =>
      refine ⟨y7, some (.bl false), y9, S', ?_, pr, fin g' I⟩
      rw [while_s]
      simp [c_asks_box_5, e]
      rw [while_s]
      simp [c_asks_box_5]
  | succ n ih =>
    intro x7 x9 F S hn sd base p0 g
    obtain ⟨y7, y9, F', b', S', e, pr, g', I⟩ := ask_pass P Lo Hw Fo k kd kp L l rows hkd F x2 x7 (some (.bl true)) x9 S S0 gd hl hk p0 hF0 hP hLo hHw g sd base
    cases b' with
    | true =>
      obtain ⟨z7, z8, z9, S2, e2, q⟩ := ih y7 y9 F' S' (by have := I.lt rfl; omega) I.sd I.base pr g'
      refine ⟨z7, z8, z9, S2, ?_, q⟩
      rw [while_s]
      simp [c_asks_box_5, e]
      exact e2
    | false =>
      refine ⟨y7, some (.bl false), y9, S', ?_, pr, fin g' I⟩
      rw [while_s]
      simp [c_asks_box_5, e]
      rw [while_s]
      simp [c_asks_box_5]
end
theorem asks_box_ok (P k : Nat) (kd : D) (kp : Int × Int → Bool) (L : List (Nat × Tx)) (l : List Tx) (rows : List Row) (hkd : ∀ p S, isIn (pD p) kd S = some (kp p)) (S : Store) (gd : Gd l rows) (rk : RowsK rows) (hl : rows.length ≤ 1000) (hk : k < mR rows) (hP : S[P]? = some (.lst (rows.map Row.d))) :
    ∃ (f : Nat) (S' : Store), m_asks_box [.ref P, .int (k : Int), .tup [kd, .wtp (HD L)]] S = .ok (.ref f) S' ∧ Pre S S' ∧ S.length ≤ f ∧ S'[f]? = some (.lst (numD rows.length (blD (askK rows k kp L)))) := by
  have fl : far (rows.length : Int) := by unfold far; omega
  obtain ⟨Lo, S1, e1, p1, hLo, gLo⟩ := lost_bits_ok P rows S rk hP hl
  obtain ⟨S2, hS2⟩ : ∃ S2 : Store, S2 = S1 ++ [.dK (TL L)] := ⟨_, rfl⟩
  have p2 : Pre S1 S2 := by rw [hS2]; exact Pre.app _ _
  have g2 : S2[S1.length]? = some (.dK (TL L)) := by rw [hS2]; exact app_new _ _ _
  have bd := bDict_HD L S1
  rw [← hS2] at bd
  have hP2 := p2.get (p1.get hP)
  obtain ⟨S3, e3, p3, g3⟩ := lc_fil (vs := [7]) (g := gName 7) (t := tYes) (e := e_asks_box_1) (fr := [some (.ref P), some (.int (k : Int)), some (.tup [kd, .wtp (HD L)]), some (.ref Lo), some kd, some (.ref S1.length), none, none, none, none]) (l := rng 0 rows.length) (hs := []) (S := S2) (List.range rows.length) (fun k => .int (0 + (k : Nat))) (blD (rdK L)) (fun _ => true) rfl (fun _ h => by cases h) (by rw [List.length_range]; exact Nat.le_trans hl (by decide)) (by
    intro j hj S' pr
    have e0 : (0 : Int) + (j : Int) = (j : Int) := by omega
    have gH := pr.get g2
    have gg := dGetM_2 gH (j : Int) (.str [])
    rw [TL_get] at gg
    refine ⟨[some (.ref P), some (.int (k : Int)), some (.tup [kd, .wtp (HD L)]), some (.ref Lo), some kd, some (.ref S1.length), none, some (.int (j : Int)), none, none], S', by simp [unset, e0], by simp, Pre.refl _, fun _ => ⟨S', ?_, Pre.refl _⟩⟩
    simp [e_asks_box_1, gH, gg, blD, rdK])
  have ff : (List.range rows.length).filter (fun _ => true) = List.range rows.length := by simp
  rw [ff] at g3
  have g3' : S3[S2.length]? = some (.lst (numD rows.length (blD (rdK L)))) := g3
  obtain ⟨y7, y8, y9, S4, e4, p4, g4⟩ := ask_while P Lo S1.length S2.length k kd kp L l rows hkd (some (.tup [kd, .wtp (HD L)])) S2 gd hl hk (Nat.le_refl _) hP2 (p2.get gLo) g2 _ none none (rdK L) S3 (Nat.le_refl _) (fun m h => .read h) (fun m h => h) p3 g3'
  refine ⟨S2.length, S4, ?_, (p1.trans p2).trans p4, (p1.trans p2).len, g4⟩
  simp [m_asks_box, b_asks_box, e1, bd, hP2, fl]
  rw [e3]
  simp
  rw [e4]
  simp
noncomputable def liveP (rows : List Row) (k : Nat) (kp : Int × Int → Bool) (L : List (Nat × Tx)) : List (Int × Int) := (plc rows).filter fun p => askK rows k kp L p.2.toNat
theorem live_ok (P k : Nat) (kd : D) (kp : Int × Int → Bool) (L : List (Nat × Tx)) (l : List Tx) (rows : List Row) (hkd : ∀ p S, isIn (pD p) kd S = some (kp p)) (S : Store) (gd : Gd l rows) (rk : RowsK rows) (hl : rows.length ≤ 1000) (hk : k < mR rows) (hP : S[P]? = some (.lst (rows.map Row.d))) :
    ∃ (f : Nat) (S' : Store), m_live [.ref P, .int (k : Int), .tup [kd, .wtp (HD L)]] S = .ok (.ref f) S' ∧ Pre S S' ∧ S.length ≤ f ∧ S'[f]? = some (.lst ((liveP rows k kp L).map pD)) := by
  have pl := plc_len rows
  obtain ⟨f, S1, e1, p1, hf, g1⟩ := asks_box_ok P k kd kp L l rows hkd S gd rk hl hk hP
  obtain ⟨Q, S2, e2, p2, hQ, gQ⟩ := places_ok P rows S1 (p1.get hP) hl
  obtain ⟨S3, e3, p3, g3⟩ := lc_fil (vs := [4]) (g := gName 4) (t := c_live_1) (e := e_live_2) (fr := [some (.ref P), some (.int (k : Int)), some (.tup [kd, .wtp (HD L)]), some (.ref f), none]) (l := (plc rows).map pD) (hs := [(Q, (plc rows).map pD)]) (S := S2) (plc rows) pD pD (fun p => askK rows k kp L p.2.toNat) rfl (stand_one (lst_of gQ)) (Nat.le_trans (Nat.le_trans pl (by omega)) (show 2001 ≤ LINE by decide)) (by
    intro p hp S' pr
    refine ⟨[some (.ref P), some (.int (k : Int)), some (.tup [kd, .wtp (HD L)]), some (.ref f), some (pD p)], S', by simp [unset], ?_, Pre.refl _, fun _ => ⟨S', by simp [e_live_2], Pre.refl _⟩⟩
    have hin := plc_in gd hp
    obtain ⟨m, hm⟩ : ∃ m : Nat, p.2 = (m : Int) := ⟨p.2.toNat, by omega⟩
    have er : atI (numD rows.length (blD (askK rows k kp L))) (m : Int) = some (.bl (askK rows k kp L m)) := num_at (by omega)
    have e1' : ∀ S, oIx (pD p) (.int 1) S = .ok (.int p.2) S := fun S => by unfold pD; rw [oIx_t]; rfl
    simp [c_live_1, e1', hm, pr.get (p2.get g1), er])
  refine ⟨S2.length, S3, ?_, (p1.trans p2).trans p3, (p1.trans p2).len, g3⟩
  simp [m_live, b_live, e1, e2, gQ]
  rw [e3]
  simp
end Lk94

set_option Elab.async false
set_option linter.all false
set_option maxHeartbeats 1000000
namespace Lk94
open Mi
/-! ### papers -/
noncomputable def rowsO (rows : List Row) (k : Nat) : List Nat := (List.range rows.length).filter (ownN rows k)
theorem rows_of_ok (P k : Nat) (rows : List Row) (S : Store) (hl : rows.length ≤ 1000) (hk : k < mR rows) (hP : S[P]? = some (.lst (rows.map Row.d))) :
    ∃ (f : Nat) (S' : Store), m_rows_of [.ref P, .int (k : Int)] S = .ok (.ref f) S' ∧ Pre S S' ∧ S.length ≤ f ∧ S'[f]? = some (.lst ((rowsO rows k).map nD)) := by
  have fl : far (rows.length : Int) := by unfold far; omega
  obtain ⟨Ow, S1, e1, p1, hO, gO⟩ := own_bits_ok P rows S hP hl
  obtain ⟨S2, e2, p2, g2⟩ := lc_fil (vs := [3]) (g := gName 3) (t := c_rows_of_1) (e := e_rows_of_2) (fr := [some (.ref P), some (.int (k : Int)), some (.ref Ow), none]) (l := rng 0 rows.length) (hs := []) (S := S1) (List.range rows.length) (fun k => .int (0 + (k : Nat))) nD (ownN rows k) rfl (fun _ h => by cases h) (by rw [List.length_range]; exact Nat.le_trans hl (by decide)) (by
    intro j hj S' pr
    have e0 : (0 : Int) + (j : Int) = (j : Int) := by omega
    have hj' := List.mem_range.mp hj
    have hr : rows[j]? = some rows[j] := List.getElem?_eq_getElem hj'
    generalize rows[j] = r at hr
    have eo : atI (rows.map (ownB rows)) (j : Int) = some (ownB rows r) := at_of (by rw [List.getElem?_map, hr]; rfl)
    have hb := has_bit_ok (mR rows) k (ownF rows r) hk S'
    have on : ownN rows k j = ownF rows r k := by unfold ownN; rw [hr]
    refine ⟨[some (.ref P), some (.int (k : Int)), some (.ref Ow), some (.int (j : Int))], S', by simp [unset, e0], ?_, Pre.refl _, fun _ => ⟨S', by simp [e_rows_of_2, nD], Pre.refl _⟩⟩
    simp [c_rows_of_1, pr.get gO, eo, ownB, hb, on])
  refine ⟨S1.length, S2, ?_, p1.trans p2, p1.len, g2⟩
  simp [m_rows_of, b_rows_of, e1, p1.get hP, fl]
  rw [e2]
  simp
noncomputable def keptP (rows : List Row) (k : Nat) (st : Int × Int → Bool) : List (Int × Int) := (offP rows k st).filter fun p => !offK rows k st p.2.toNat
noncomputable def howR (rows : List Row) (k : Nat) (st : Int × Int → Bool) (n : Nat) : Tx := if offK rows k st n = false then t_read else if lostN rows k n = true then t_own else t_keep
noncomputable def rghL (rows : List Row) (k : Nat) (st : Int × Int → Bool) : List (Nat × Tx) := (rowsO rows k).map fun n => (n, howR rows k st n)
noncomputable def kpP (rows : List Row) (k : Nat) (st : Int × Int → Bool) (p : Int × Int) : Bool := dec (p ∈ keptP rows k st)
noncomputable def askR (rows : List Row) (k : Nat) (st : Int × Int → Bool) : BF := askK rows k (kpP rows k st) (rghL rows k st)
noncomputable def isKf (rows : List Row) (k : Nat) (st : Int × Int → Bool) (n : Nat) : Bool := match rows[n]? with
  | some r => (fol n r).any fun m => askR rows k st m.toNat && !kpP rows k st ((n : Int), m)
  | none => false
noncomputable def finH (rows : List Row) (k : Nat) (st : Int × Int → Bool) (p : Nat × Tx) : Tx := if p.2 = t_keep ∧ isKf rows k st p.1 = false then t_own else p.2
noncomputable def finL (rows : List Row) (k : Nat) (st : Int × Int → Bool) : List (Nat × Tx) := (rghL rows k st).map fun p => (p.1, finH rows k st p)
theorem HD_snoc (L : List (Nat × Tx)) (n : Nat) (t : Tx) : HD (L ++ [(n, t)]) = HD L ++ [.tup [.int (n : Int), .str t]] := by unfold HD; rw [List.map_append]; rfl
theorem isIn_wtp (L : List (Int × Int)) (p : Int × Int) (S : Store) : isIn (pD p) (.wtp (L.map pD)) S = some (dec (p ∈ L)) := by
  unfold isIn
  dsimp only
  exact inSeq_p p L S
theorem bTupX_l {n : Nat} {l : List D} {S : Store} (h : S[n]? = some (.lst l)) : bTupX [.ref n] S = .ok (.wtp l) S := by
  unfold bTupX
  dsimp only
  rw [lst_of h]
theorem isIn_nat (n : Int) (hn : 0 ≤ n) {L : List Nat} {q : Nat} {S : Store} (h : S[q]? = some (.lst (L.map nD))) : isIn (.int n) (.ref q) S = some (dec (n.toNat ∈ L)) := by
  unfold isIn
  dsimp only
  rw [h]
  have e : L.map nD = (L.map fun i : Nat => (i : Int)).map D.int := by rw [List.map_map]; rfl
  dsimp only
  rw [e, in_ints]
  congr 1
  by_cases m : n.toNat ∈ L
  · rw [dec_true m, dec_true (List.mem_map.mpr ⟨n.toNat, m, by omega⟩)]
  · rw [dec_false m, dec_false fun z => by
      obtain ⟨i, hi, e⟩ := List.mem_map.mp z
      have : n.toNat = i := by omega
      rw [this] at m
      exact m hi]
theorem offR_mem {rows : List Row} {k : Nat} {st : Int × Int → Bool} {n : Nat} (hn : n < rows.length) : dec (n ∈ offR rows k st) = offK rows k st n := by
  unfold offR
  cases h : offK rows k st n with
  | true => exact dec_true (List.mem_filter.mpr ⟨List.mem_range.mpr hn, h⟩)
  | false =>
    refine dec_false fun z => ?_
    have := (List.mem_filter.mp z).2
    rw [h] at this; cases this
theorem is_kept_ok (P W n k : Nat) (st : Int × Int → Bool) (r : Row) (l : List Tx) (rows : List Row) (S : Store) (gd : Gd l rows) (hr : rows[n]? = some r) (hP : S[P]? = some (.lst (rows.map Row.d))) (hW : S[W]? = some (.lst ((liveP rows k (kpP rows k st) (rghL rows k st)).map pD))) :
    ∃ S', m_is_kept_for [.ref P, .int (n : Int), .wtp ((keptP rows k st).map pD), .ref W] S = .ok (.bl (isKf rows k st n)) S' ∧ Pre S S' := by
  have f := followers_ok P n rows r S hP hr
  have key := loop_ret (hs := [(S.length, (fol n r).map D.int)]) (turn := turnM (gName 4) l_is_kept_for_1)
    (fun j fr S' => ∃ (y4 : Option D), fr = [some (.ref P), some (.int (n : Int)), some (.wtp ((keptP rows k st).map pD)), some (.ref W), y4] ∧ S' = S ++ [.lst ((fol n r).map .int)] ∧ (((fol n r).take j).any fun m => askR rows k st m.toNat && !kpP rows k st ((n : Int), m)) = false)
    (fun d S' => d = .bl true ∧ S' = S ++ [.lst ((fol n r).map .int)] ∧ ((fol n r).any fun m => askR rows k st m.toNat && !kpP rows k st ((n : Int), m)) = true)
    ((fol n r).map D.int) 0 [some (.ref P), some (.int (n : Int)), some (.wtp ((keptP rows k st).map pD)), some (.ref W), none] (S ++ [.lst ((fol n r).map .int)])
    ⟨none, rfl, rfl, rfl⟩
    (by
      rintro j fr S' ⟨y4, rfl, rfl, _⟩
      exact stands_one (lst_of (app_new _ _ _)))
    (by
      rintro j d fr S' hd ⟨y4, rfl, rfl, hall⟩
      rw [List.getElem?_map] at hd
      obtain ⟨m, hm, rfl⟩ := Option.map_eq_some_iff.mp hd
      rw [show 0 + j = j by omega] at *
      have hmem := List.mem_of_getElem? hm
      have hpl : ((n : Int), m) ∈ plc rows := plc_of hr hmem
      have hW' := app_get (G := [.lst ((fol n r).map .int)]) hW
      have i1 := isIn_lst (p := ((n : Int), m)) hW'
      have lm : dec (((n : Int), m) ∈ liveP rows k (kpP rows k st) (rghL rows k st)) = askR rows k st m.toNat := by
        unfold liveP
        cases h : askR rows k st m.toNat with
        | true => exact dec_true (List.mem_filter.mpr ⟨hpl, h⟩)
        | false =>
            refine dec_false fun z => ?_
            have := (List.mem_filter.mp z).2
            have h' : askK rows k (kpP rows k st) (rghL rows k st) m.toNat = false := h
            rw [h'] at this; cases this
      rw [lm] at i1
      have i1' : isIn (.tup [.int (n : Int), .int m]) (.ref W) (S ++ [.lst ((fol n r).map .int)]) = some (askR rows k st m.toNat) := i1
      rw [isIn_r] at i1'
      have i2 : isIn (.tup [.int (n : Int), .int m]) (.wtp ((keptP rows k st).map pD)) (S ++ [.lst ((fol n r).map .int)]) = some (kpP rows k st ((n : Int), m)) := isIn_wtp (keptP rows k st) ((n : Int), m) _
      cases c1 : askR rows k st m.toNat with
      | false =>
        rw [c1] at i1'
        refine .inl ⟨_, _, .inl ?_, some (.int m), rfl, rfl, by rw [tk_succ hm, List.any_append, hall]; simp [c1]⟩
        simp [turnM_s, l_is_kept_for_1, LINE, i1']
      | true =>
        rw [c1] at i1'
        cases c2 : kpP rows k st ((n : Int), m) with
        | true =>
          rw [c2] at i2
          refine .inl ⟨_, _, .inl ?_, some (.int m), rfl, rfl, by rw [tk_succ hm, List.any_append, hall]; simp [c2]⟩
          simp [turnM_s, l_is_kept_for_1, LINE, i1', i2]
        | false =>
          rw [c2] at i2
          refine .inr ⟨_, _, ?_, rfl, rfl, ?_⟩
          · simp [turnM_s, l_is_kept_for_1, LINE, i1', i2]
          · rw [List.any_eq_true]
            exact ⟨m, hmem, by rw [c1, c2]; rfl⟩)
  have hk : isKf rows k st n = (fol n r).any fun m => askR rows k st m.toNat && !kpP rows k st ((n : Int), m) := by unfold isKf; rw [hr]
  rw [hk]
  refine ⟨S ++ [.lst ((fol n r).map .int)], ?_, Pre.app _ _⟩
  rcases key with ⟨fr', S2, e, y4, rfl, rfl, hall⟩ | ⟨d, S2, e, rfl, rfl, hall⟩
  · rw [List.length_map, Nat.zero_add, List.take_length] at hall
    rw [hall]
    simp [m_is_kept_for, b_is_kept_for, f, get_len]
    rw [e]
    simp
  · rw [hall]
    simp [m_is_kept_for, b_is_kept_for, f, get_len]
    rw [e]
    simp
theorem rowsO_lt {rows : List Row} {k n : Nat} (h : n ∈ rowsO rows k) : n < rows.length := List.mem_range.mp (List.mem_filter.mp h).1
theorem rowsO_len (rows : List Row) (k : Nat) : (rowsO rows k).length ≤ rows.length := by
  have := List.length_filter_le (ownN rows k) (List.range rows.length)
  rw [List.length_range] at this
  exact this
end Lk94

set_option Elab.async false
set_option linter.all false
set_option maxHeartbeats 1000000
namespace Lk94
open Mi
/-! ### paper -/
theorem paper_ok (P k : Nat) (st : Int × Int → Bool) (d : D) (l : List Tx) (rows : List Row) (S : Store) (gd : Gd l rows) (rk : RowsK rows) (hl : rows.length ≤ 1000) (hk : k < mR rows) (hP : S[P]? = some (.lst (rows.map Row.d)))
    (po : ∃ (a b : Nat) (S' : Store), m_put_off [.ref P, .int (k : Int), d] S = .ok (.tup [.ref a, .ref b]) S' ∧ Pre S S' ∧ S.length ≤ a ∧ a < b ∧ S'[a]? = some (.lst ((offP rows k st).map pD)) ∧ S'[b]? = some (.lst ((offR rows k st).map nD))) :
    ∃ (S' : Store), m_paper [.ref P, .int (k : Int), d] S = .ok (.tup [.wtp ((keptP rows k st).map pD), .wtp (HD (finL rows k st))]) S' ∧ Pre S S' := by
  have pl := plc_len rows
  obtain ⟨a, b, S1, e1, p1, _, _, ga, gb⟩ := po
  have ol : (offP rows k st).length ≤ (plc rows).length := List.length_filter_le _ _
  obtain ⟨S2, e2, p2, g2⟩ := lc_fil (vs := [6]) (g := gName 6) (t := c_paper_1) (e := e_paper_2) (fr := [some (.ref P), some (.int (k : Int)), some d, some (.ref a), some (.ref b), none, none, none, none, none, none, none, none]) (l := (offP rows k st).map pD) (hs := [(a, (offP rows k st).map pD)]) (S := S1) (offP rows k st) pD pD (fun p => !offK rows k st p.2.toNat) rfl (stand_one (lst_of ga)) (Nat.le_trans (Nat.le_trans ol (Nat.le_trans pl (by omega))) (show 2001 ≤ LINE by decide)) (by
    intro p hp S' pr
    have hin := plc_in gd (List.mem_filter.mp hp).1
    have i1 := isIn_nat p.2 hin.2.2.1 (pr.get gb)
    rw [offR_mem (by omega), isIn_r] at i1
    have e1' : ∀ S, oIx (pD p) (.int 1) S = .ok (.int p.2) S := fun S => by unfold pD; rw [oIx_t]; rfl
    refine ⟨[some (.ref P), some (.int (k : Int)), some d, some (.ref a), some (.ref b), none, some (pD p), none, none, none, none, none, none], S', by simp [unset], ?_, Pre.refl _, fun _ => ⟨S', by simp [e_paper_2], Pre.refl _⟩⟩
    simp [c_paper_1, e1', i1])
  have g2' : S2[S1.length]? = some (.lst ((keptP rows k st).map pD)) := g2
  have t2 := bTupX_l g2'
  obtain ⟨Lo, S3, e3, p3, hLo, gLo⟩ := lost_bits_ok P rows S2 rk (p2.get (p1.get hP)) hl
  have hP3 := p3.get (p2.get (p1.get hP))
  obtain ⟨Ro, S5, e5, p5, hRo, gRo⟩ := rows_of_ok P k rows (S3 ++ [.lst []]) hl hk (app_get hP3)
  have p35 : Pre S3 S5 := (Pre.app _ _).trans p5
  have g5 : S5[S3.length]? = some (.lst (HD [])) := p5.get (app_new _ _ _)
  have rl := rowsO_len rows k
  have gb3 := p3.get (p2.get gb)
  rw [List.length_append, List.length_singleton] at hRo
  have key := loop_inv (hs := [(Ro, (rowsO rows k).map nD)]) (turn := turnM (gName 9) l_paper_3)
    (fun i fr S' => ∃ (y9 : Option D), fr = [some (.ref P), some (.int (k : Int)), some d, some (.ref a), some (.ref b), some (.wtp ((keptP rows k st).map pD)), none, some (.ref Lo), some (.ref S3.length), y9, none, none, none] ∧ Pre S3 S' ∧ S'[Ro]? = some (.lst ((rowsO rows k).map nD)) ∧ S'[S3.length]? = some (.lst (HD (((rowsO rows k).take i).map fun n => (n, howR rows k st n)))))
    ((rowsO rows k).map nD) 0 [some (.ref P), some (.int (k : Int)), some d, some (.ref a), some (.ref b), some (.wtp ((keptP rows k st).map pD)), none, some (.ref Lo), some (.ref S3.length), none, none, none, none] S5
    ⟨none, rfl, p35, gRo, g5⟩
    (by
      rintro i fr S' ⟨y9, rfl, pr, gq, _⟩
      exact stands_one (lst_of gq))
    (by
      rintro i v fr S' hd ⟨y9, rfl, pr, gq, g⟩
      have hi : i < (rowsO rows k).length := by
        have := (List.getElem?_eq_some_iff.mp hd).1
        rw [List.length_map] at this; exact this
      rw [List.getElem?_map] at hd
      obtain ⟨n, hq, rfl⟩ := Option.map_eq_some_iff.mp hd
      rw [show 0 + i = i by omega] at *
      have hn := rowsO_lt (List.mem_of_getElem? hq)
      have hr : rows[n]? = some rows[n] := List.getElem?_eq_getElem hn
      generalize rows[n] = r at hr
      have i1 := isIn_nat (n : Int) (by omega) (pr.get gb3)
      rw [Int.toNat_natCast, offR_mem hn, isIn_r] at i1
      have el : atI (rows.map (lostB rows)) (n : Int) = some (lostB rows r) := at_of (by rw [List.getElem?_map, hr]; rfl)
      have hb := has_bit_ok (mR rows) k (lostF rows r) hk S'
      have ln : lostN rows k n = lostF rows r k := by unfold lostN; rw [hr]
      have ll : (HD (((rowsO rows k).take i).map fun n => (n, howR rows k st n))).length < 16777216 := by unfold HD; rw [List.length_map, List.length_map, List.length_take]; omega
      refine ⟨_, S'.set S3.length (.lst (HD (((rowsO rows k).take (i + 1)).map fun n => (n, howR rows k st n)))), .inl ?_, some (.int (n : Int)), rfl, pr.set (Nat.le_refl _), by rw [set_ne (by omega)]; exact gq, set_get g⟩
      rw [tk_succ hq, List.map_append]
      show _ = Res.ok (Out.nx _) (S'.set S3.length (.lst (HD ((((rowsO rows k).take i).map fun n => (n, howR rows k st n)) ++ [(n, howR rows k st n)]))))
      rw [HD_snoc]
      have gLo' := pr.get gLo
      generalize HD (((rowsO rows k).take i).map fun n => (n, howR rows k st n)) = A at *
      cases c1 : offK rows k st n with
      | false =>
        rw [c1] at i1
        have hw : howR rows k st n = t_read := by unfold howR; rw [if_pos c1]
        rw [hw]
        simp [turnM_s, l_paper_3, nD, i1, g, ll, LINE]
      | true =>
        rw [c1] at i1
        cases c2 : lostF rows r k with
        | true =>
          rw [c2] at hb
          have hw : howR rows k st n = t_own := by unfold howR; rw [if_neg (by rw [c1]; simp), ln, if_pos c2]
          rw [hw]
          simp [turnM_s, l_paper_3, nD, i1, g, ll, LINE, gLo', el, lostB, hb]
        | false =>
          rw [c2] at hb
          have hw : howR rows k st n = t_keep := by unfold howR; rw [if_neg (by rw [c1]; simp), ln, if_neg (by rw [c2]; simp)]
          rw [hw]
          simp [turnM_s, l_paper_3, nD, i1, g, ll, LINE, gLo', el, lostB, hb])
  obtain ⟨fr', S6, e6, y9, rfl, p6, _, g6⟩ := key
  rw [List.length_map, Nat.zero_add, List.take_length] at g6
  have g6' : S6[S3.length]? = some (.lst (HD (rghL rows k st))) := g6
  have t6 := bTupX_l g6'
  obtain ⟨W, S7, e7, p7, hW, gW⟩ := live_ok P k (.wtp ((keptP rows k st).map pD)) (kpP rows k st) (rghL rows k st) l rows (fun p S => isIn_wtp _ p S) S6 gd rk hl hk (p6.get hP3)
  have g7 := p7.get g6'
  have hP7 := p7.get (p6.get hP3)
  have lr : (rghL rows k st).length ≤ rows.length := by unfold rghL; rw [List.length_map]; exact rl
  have key2 := loop_inv (hs := [(S3.length, HD (rghL rows k st))]) (turn := turnM (gTup 2 (gCons (gName 9) (gCons (gName 12) gNil))) l_paper_4)
    (fun i fr S' => ∃ (y9 y12 : Option D), fr = [some (.ref P), some (.int (k : Int)), some d, some (.ref a), some (.ref b), some (.wtp ((keptP rows k st).map pD)), none, some (.ref Lo), some (.ref S3.length), y9, some (.ref W), some (.ref S7.length), y12] ∧ Pre S7 S' ∧ S'[S7.length]? = some (.lst (HD (((rghL rows k st).take i).map fun p => (p.1, finH rows k st p)))))
    (HD (rghL rows k st)) 0 [some (.ref P), some (.int (k : Int)), some d, some (.ref a), some (.ref b), some (.wtp ((keptP rows k st).map pD)), none, some (.ref Lo), some (.ref S3.length), y9, some (.ref W), some (.ref S7.length), none] (S7 ++ [.lst []])
    ⟨y9, none, rfl, Pre.app _ _, app_new _ _ _⟩
    (by
      rintro i fr S' ⟨y9, y12, rfl, pr, _⟩
      exact stands_one (lst_of (pr.get g7)))
    (by
      rintro i v fr S' hd ⟨y9, y12, rfl, pr, g⟩
      have hi : i < (rghL rows k st).length := by
        have := (List.getElem?_eq_some_iff.mp hd).1
        unfold HD at this
        rw [List.length_map] at this; exact this
      unfold HD at hd
      rw [List.getElem?_map] at hd
      obtain ⟨p, hq, rfl⟩ := Option.map_eq_some_iff.mp hd
      rw [show 0 + i = i by omega] at *
      obtain ⟨n, t⟩ := p
      have hn : n < rows.length := by
        have := List.mem_of_getElem? hq
        unfold rghL at this
        obtain ⟨n', hn', e⟩ := List.mem_map.mp this
        have : n' = n := congrArg Prod.fst e
        subst this
        exact rowsO_lt hn'
      have hr : rows[n]? = some rows[n] := List.getElem?_eq_getElem hn
      generalize rows[n] = r at hr
      obtain ⟨S9, e9, p9⟩ := is_kept_ok P W n k st r l rows S' gd hr (pr.get hP7) (pr.get gW)
      have ll : (HD (((rghL rows k st).take i).map fun p => (p.1, finH rows k st p))).length < 16777216 := by unfold HD; rw [List.length_map, List.length_map, List.length_take]; omega
      have ex : HD (((rghL rows k st).take (i + 1)).map fun p => (p.1, finH rows k st p)) = HD (((rghL rows k st).take i).map fun p => (p.1, finH rows k st p)) ++ [.tup [.int (n : Int), .str (finH rows k st (n, t))]] := by
        rw [tk_succ hq, List.map_append]
        exact HD_snoc _ _ _
      by_cases c1 : t = t_keep
      · have g9 := p9.get g
        refine ⟨_, S9.set S7.length (.lst (HD (((rghL rows k st).take (i + 1)).map fun p => (p.1, finH rows k st p)))), .inl ?_, some (.int (n : Int)), some (.str (finH rows k st (n, t))), rfl, (pr.trans p9).set (Nat.le_refl _), set_get g9⟩
        rw [ex]
        generalize HD (((rghL rows k st).take i).map fun p => (p.1, finH rows k st p)) = A at *
        cases c2 : isKf rows k st n with
        | true =>
          rw [c2] at e9
          have hw : finH rows k st (n, t) = t := by unfold finH; rw [if_neg (by simp [c2])]
          rw [hw]
          simp [turnM_s, l_paper_4, c1, e9, g9, ll, LINE]
        | false =>
          rw [c2] at e9
          have hw : finH rows k st (n, t) = t_own := by unfold finH; rw [if_pos ⟨c1, c2⟩]
          rw [hw]
          simp [turnM_s, l_paper_4, c1, e9, g9, ll, LINE]
      · have hw : finH rows k st (n, t) = t := by unfold finH; rw [if_neg (fun z => c1 z.1)]
        refine ⟨_, S'.set S7.length (.lst (HD (((rghL rows k st).take (i + 1)).map fun p => (p.1, finH rows k st p)))), .inl ?_, some (.int (n : Int)), some (.str t), rfl, pr.set (Nat.le_refl _), set_get g⟩
        rw [ex, hw]
        generalize HD (((rghL rows k st).take i).map fun p => (p.1, finH rows k st p)) = A at *
        simp [turnM_s, l_paper_4, c1, g, ll, LINE])
  obtain ⟨fr', S8, e8, z9, z12, rfl, p8, g8⟩ := key2
  have hl8 : (HD (rghL rows k st)).length = (rghL rows k st).length := by unfold HD; rw [List.length_map]
  rw [hl8, Nat.zero_add, List.take_length] at g8
  have t8 := bTupX_l (l := HD (finL rows k st)) g8
  refine ⟨S8, ?_, ((((p1.trans p2).trans p3).trans p6).trans p7).trans p8⟩
  simp [m_paper, b_paper, e1, ga]
  rw [e2]
  simp [t2, e3, LINE, e5, gRo]
  rw [e6]
  simp [t6, e7, LINE, app_get g7]
  rw [e8]
  simp [t8, LINE]
end Lk94

set_option Elab.async false
set_option linter.all false
set_option maxHeartbeats 1000000
namespace Lk94
open Mi
/-! ### what papers tell -/
theorem hwL_map (ns : List Nat) (f : Nat → Tx) (n : Nat) : hwL (ns.map fun n => (n, f n)) n = if n ∈ ns then f n else [] := by
  refine snoc_ind (P := fun ns => hwL (ns.map fun n => (n, f n)) n = if n ∈ ns then f n else []) rfl (fun L a ih => ?_) ns
  have e2 : hwL ((L ++ [a]).map fun n => (n, f n)) n = if a = n then f a else hwL (L.map fun n => (n, f n)) n := by unfold hwL; rw [List.map_append, List.foldl_append]; rfl
  rw [e2, ih]
  by_cases h : a = n
  · subst h
    rw [if_pos rfl, if_pos (by simp)]
  · rw [if_neg h]
    by_cases m : n ∈ L
    · rw [if_pos m, if_pos (by simp [m])]
    · rw [if_neg m, if_neg (by
        intro z
        rcases List.mem_append.mp z with z | z
        · exact m z
        · exact h (List.mem_singleton.mp z).symm)]
theorem hw_rgh (rows : List Row) (k : Nat) (st : Int × Int → Bool) (n : Nat) : hwL (rghL rows k st) n = if n ∈ rowsO rows k then howR rows k st n else [] := hwL_map _ _ _
theorem hw_fin (rows : List Row) (k : Nat) (st : Int × Int → Bool) (n : Nat) : hwL (finL rows k st) n = if n ∈ rowsO rows k then finH rows k st (n, howR rows k st n) else [] := by
  have : finL rows k st = (rowsO rows k).map fun n => (n, finH rows k st (n, howR rows k st n)) := by unfold finL rghL; rw [List.map_map]; rfl
  rw [this]
  exact hwL_map _ _ _
theorem rowsO_iff {rows : List Row} {k n : Nat} : n ∈ rowsO rows k ↔ n < rows.length ∧ ownN rows k n = true := by unfold rowsO; rw [List.mem_filter, List.mem_range]
theorem ownN_lt {rows : List Row} {k n : Nat} (h : ownN rows k n = true) : n < rows.length := by
  unfold ownN at h
  cases e : rows[n]? with
  | none => rw [e] at h; cases h
  | some r => exact (List.getElem?_eq_some_iff.mp e).1
theorem howR_cases (rows : List Row) (k : Nat) (st : Int × Int → Bool) (n : Nat) : (offK rows k st n = false ∧ howR rows k st n = t_read) ∨ (offK rows k st n = true ∧ lostN rows k n = true ∧ howR rows k st n = t_own) ∨ (offK rows k st n = true ∧ lostN rows k n = false ∧ howR rows k st n = t_keep) := by
  unfold howR
  cases offK rows k st n with
  | false => exact .inl ⟨rfl, if_pos rfl⟩
  | true =>
    rw [if_neg (by simp)]
    cases lostN rows k n with
    | true => exact .inr (.inl ⟨rfl, rfl, if_pos rfl⟩)
    | false => exact .inr (.inr ⟨rfl, rfl, if_neg (by simp)⟩)
theorem rd_rgh {rows : List Row} {k : Nat} {st : Int × Int → Bool} {n : Nat} : rdK (rghL rows k st) n = true ↔ ownN rows k n = true ∧ offK rows k st n = false := by
  unfold rdK
  rw [decide_eq_true_eq, hw_rgh]
  by_cases h : n ∈ rowsO rows k
  · rw [if_pos h]
    have ho := (rowsO_iff.mp h).2
    rcases howR_cases rows k st n with ⟨a, b⟩ | ⟨a, _, b⟩ | ⟨a, _, b⟩
    · rw [a, b, ho]; exact ⟨fun _ => ⟨rfl, rfl⟩, fun _ => rfl⟩
    · rw [a, b]; exact ⟨fun z => absurd z (by decide), fun z => (by cases z.2)⟩
    · rw [a, b]; exact ⟨fun z => absurd z (by decide), fun z => (by cases z.2)⟩
  · rw [if_neg h]
    refine ⟨fun z => absurd z (by decide), fun z => absurd (rowsO_iff.mpr ⟨ownN_lt z.1, z.1⟩) h⟩
theorem dd_rgh {rows : List Row} {k : Nat} {st : Int × Int → Bool} {n : Nat} : ddK rows k (rghL rows k st) n = false ↔ lostN rows k n = false ∧ ¬ (ownN rows k n = true ∧ offK rows k st n = true) := by
  unfold ddK
  rw [Bool.or_eq_false_iff, decide_eq_false_iff_not, hw_rgh]
  by_cases h : n ∈ rowsO rows k
  · rw [if_pos h]
    have ho := (rowsO_iff.mp h).2
    rcases howR_cases rows k st n with ⟨a, b⟩ | ⟨a, c, b⟩ | ⟨a, c, b⟩
    · rw [a, b]
      exact ⟨fun z => ⟨z.2, fun w => (by cases w.2)⟩, fun z => ⟨by decide, z.1⟩⟩
    · rw [a, b, c]
      exact ⟨fun z => (by cases z.2), fun z => (by cases z.1)⟩
    · rw [a, b, c, ho]
      exact ⟨fun z => absurd rfl z.1, fun z => absurd ⟨rfl, rfl⟩ z.2⟩
  · rw [if_neg h]
    have hno : ¬ ownN rows k n = true := fun z => h (rowsO_iff.mpr ⟨ownN_lt z, z⟩)
    exact ⟨fun z => ⟨z.2, fun w => hno w.1⟩, fun z => ⟨by decide, z.1⟩⟩
theorem nx_mem {rows : List Row} {kp : Int × Int → Bool} {n : Nat} {m : Int} (h : m ∈ nxK rows kp n) : ∃ r, rows[n]? = some r ∧ m ∈ fol n r ∧ kp ((n : Int), m) = false := by
  unfold nxK at h
  cases e : rows[n]? with
  | none => rw [e] at h; cases h
  | some r =>
    rw [e] at h
    obtain ⟨a, b⟩ := List.mem_filter.mp h
    exact ⟨r, rfl, a, by simpa using b⟩
theorem nx_of {rows : List Row} {kp : Int × Int → Bool} {n : Nat} {m : Int} {r : Row} (hr : rows[n]? = some r) (hm : m ∈ fol n r) (hk : kp ((n : Int), m) = false) : m ∈ nxK rows kp n := by
  unfold nxK
  rw [hr]
  exact List.mem_filter.mpr ⟨hm, by rw [hk]; rfl⟩
/-- the last paper asks where the rough one did -/
theorem fin_same (rows : List Row) (k : Nat) (st : Int × Int → Bool) : askK rows k (kpP rows k st) (finL rows k st) = askR rows k st := by
  have rds : ∀ n, rdK (finL rows k st) n = rdK (rghL rows k st) n := fun n => by
    unfold rdK
    rw [hw_fin, hw_rgh]
    by_cases h : n ∈ rowsO rows k
    · rw [if_pos h, if_pos h]
      unfold finH
      split
      · rename_i z
        have z1 : howR rows k st n = t_keep := z.1
        rw [z1]; decide
      · rfl
    · rw [if_neg h, if_neg h]
  have to : ∀ m, RdI (rdK (finL rows k st)) (ddK rows k (finL rows k st)) (nxK rows (kpP rows k st)) m → RdI (rdK (rghL rows k st)) (ddK rows k (rghL rows k st)) (nxK rows (kpP rows k st)) m := by
    intro m r
    induction r with
    | read h => rw [rds] at h; exact .read h
    | @step n m h hm r ih =>
      cases c : ddK rows k (rghL rows k st) n with
      | false => exact .step c hm ih
      | true =>
        exfalso
        unfold ddK at h c
        rw [Bool.or_eq_false_iff, decide_eq_false_iff_not, hw_fin] at h
        rw [h.2, Bool.or_false, decide_eq_true_eq, hw_rgh] at c
        have h1 := h.1
        by_cases hO : n ∈ rowsO rows k
        · rw [if_pos hO] at c h1
          rw [c] at h1
          unfold finH at h1
          obtain ⟨w, hw, hm', hk⟩ := nx_mem hm
          have : isKf rows k st n = true := by
            unfold isKf
            rw [hw]
            refine List.any_eq_true.mpr ⟨(m : Int), hm', ?_⟩
            have : askR rows k st m = true := dec_true ih
            rw [Int.toNat_natCast, this, hk]; rfl
          rw [if_neg (by rw [this]; simp)] at h1
          exact h1 rfl
        · rw [if_neg hO] at c
          exact absurd c (by decide)
  have back : ∀ m, RdI (rdK (rghL rows k st)) (ddK rows k (rghL rows k st)) (nxK rows (kpP rows k st)) m → RdI (rdK (finL rows k st)) (ddK rows k (finL rows k st)) (nxK rows (kpP rows k st)) m := by
    intro m r
    induction r with
    | read h => rw [← rds] at h; exact .read h
    | @step n m h hm r ih =>
      refine .step ?_ hm ih
      unfold ddK at h ⊢
      rw [Bool.or_eq_false_iff, decide_eq_false_iff_not] at h ⊢
      refine ⟨?_, h.2⟩
      have h1 := h.1
      rw [hw_rgh] at h1
      rw [hw_fin]
      by_cases hO : n ∈ rowsO rows k
      · rw [if_pos hO] at h1 ⊢
        unfold finH
        rw [if_neg (fun z => h1 z.1)]
        exact h1
      · rw [if_neg hO]; decide
  funext m
  unfold askR askK rdF
  by_cases h : RdI (rdK (rghL rows k st)) (ddK rows k (rghL rows k st)) (nxK rows (kpP rows k st)) m
  · rw [dec_true h, dec_true (back m h)]
  · rw [dec_false h, dec_false fun z => h (to m z)]
theorem kp_not {rows : List Row} {k : Nat} {st : Int × Int → Bool} {p : Int × Int} (hp : p ∈ plc rows) (h : kpP rows k st p = false) (ho : offK rows k st p.2.toNat = false) : comesF (bgK rows k) (ownN rows k) (offK rows k st) p = false := by
  cases c : comesF (bgK rows k) (ownN rows k) (offK rows k st) p with
  | false => rfl
  | true =>
    have : kpP rows k st p = true := dec_true (List.mem_filter.mpr ⟨List.mem_filter.mpr ⟨hp, c⟩, by rw [ho]; rfl⟩)
    rw [this] at h; cases h
/-- where it is asked for, it is not put off -/
theorem ask_off {rows : List Row} {k : Nat} {st : Int × Int → Bool} {m : Nat} (r : RdI (rdK (rghL rows k st)) (ddK rows k (rghL rows k st)) (nxK rows (kpP rows k st)) m) : offK rows k st m = false := by
  induction r with
  | read h => exact (rd_rgh.mp h).2
  | @step n m h hm r ih =>
    obtain ⟨w, hw, hm', hk⟩ := nx_mem hm
    have c := kp_not (plc_of hw hm') hk (by rw [Int.toNat_natCast]; exact ih)
    obtain ⟨_, h2⟩ := dd_rgh.mp h
    unfold comesF at c
    rw [Bool.or_eq_false_iff] at c
    have c2 := c.2
    rw [decide_eq_true (show (n : Int) ≠ -1 by omega), Bool.true_and, Int.toNat_natCast] at c2
    cases ho : offK rows k st n with
    | false => rfl
    | true =>
      rw [ho, Bool.true_and] at c2
      have : ownN rows k n = true := by simpa using c2
      exact absurd ⟨this, ho⟩ h2
/-- fewer put off, more asked for -/
theorem ask_mono {rows : List Row} {k : Nat} {st st' : Int × Int → Bool} (hoff : ∀ m, offK rows k st' m = true → offK rows k st m = true) {m : Nat} (r : RdI (rdK (rghL rows k st)) (ddK rows k (rghL rows k st)) (nxK rows (kpP rows k st)) m) : RdI (rdK (rghL rows k st')) (ddK rows k (rghL rows k st')) (nxK rows (kpP rows k st')) m := by
  have hof : ∀ m, offK rows k st m = false → offK rows k st' m = false := fun m h => by
    cases c : offK rows k st' m with
    | false => rfl
    | true => rw [hoff m c] at h; cases h
  induction r with
  | read h =>
    obtain ⟨a, b⟩ := rd_rgh.mp h
    exact .read (rd_rgh.mpr ⟨a, hof _ b⟩)
  | @step n m h hm r ih =>
    have om := ask_off r
    obtain ⟨w, hw, hm', hk⟩ := nx_mem hm
    have c := kp_not (plc_of hw hm') hk (by rw [Int.toNat_natCast]; exact om)
    obtain ⟨h1, h2⟩ := dd_rgh.mp h
    cases ho : ownN rows k n with
    | true =>
      have : offK rows k st n = false := by
        cases z : offK rows k st n with
        | false => rfl
        | true => exact absurd ⟨ho, z⟩ h2
      exact .read (rd_rgh.mpr ⟨ho, hof _ this⟩)
    | false =>
      refine .step (dd_rgh.mpr ⟨h1, fun z => by rw [ho] at z; cases z.1⟩) (nx_of hw hm' ?_) ih
      cases z : kpP rows k st' ((n : Int), (m : Int)) with
      | false => rfl
      | true =>
        have z1 := of_dec z
        have z2 := (List.mem_filter.mp (List.mem_filter.mp z1).1).2
        rw [comesF_mono hoff z2] at c
        cases c
theorem off_none {rows : List Row} {k : Nat} {st : Int × Int → Bool} (m : Nat) (h : offK rows k st m = true) : offK rows k (fun _ => false) m = true := by
  obtain ⟨G, g, hg⟩ := of_dec h
  exact offF_max (G := G) (fun p hp hf => ⟨rfl, (g p hp hf).2⟩) hg
end Lk94

set_option Elab.async false
set_option linter.all false
set_option maxHeartbeats 1000000
namespace Lk94
open Mi
/-! ### a whole way -/
inductive WayR (rows : List Row) : List Nat → Nat → Prop
  | one : WayR rows [0] 0
  | snoc {W : List Nat} {n m : Nat} {r : Row} (h : WayR rows W n) (hr : rows[n]? = some r) (hm : (m : Int) ∈ fol n r) : WayR rows (W ++ [m]) m
theorem WayR.last {rows : List Row} {W : List Nat} {n : Nat} (h : WayR rows W n) : ∃ q, W = q ++ [n] := by
  cases h with
  | one => exact ⟨[], rfl⟩
  | snoc h hr hm => exact ⟨_, rfl⟩
theorem WayR.lt {l : List Tx} {rows : List Row} {W : List Nat} {n : Nat} (gd : Gd l rows) (h : WayR rows W n) : n < rows.length := by
  cases h with
  | one => exact gd.pos
  | snoc h hr hm => have := gd.fol_in hr hm; omega
theorem WayR.at0 {rows : List Row} {W : List Nat} {n : Nat} (h : WayR rows W n) : W[0]? = some 0 := by
  induction h with
  | one => rfl
  | @snoc W n m r h hr hm ih => rw [List.getElem?_append_left (List.getElem?_eq_some_iff.mp ih).1]; exact ih
theorem WayR.step {rows : List Row} {W : List Nat} {n : Nat} (h : WayR rows W n) : ∀ (i a b : Nat), W[i]? = some a → W[i + 1]? = some b → ∃ r, rows[a]? = some r ∧ (b : Int) ∈ fol a r := by
  induction h with
  | one => intro i a b _ h2; simp at h2
  | @snoc W n m r h hr hm ih =>
    intro i a b h1 h2
    obtain ⟨q, rfl⟩ := h.last
    by_cases hi : i + 1 < (q ++ [n]).length
    · rw [List.getElem?_append_left hi] at h2
      rw [List.getElem?_append_left (by omega)] at h1
      exact ih i a b h1 h2
    · rw [List.length_append, List.length_singleton] at hi
      have hl := (List.getElem?_eq_some_iff.mp h2).1
      rw [List.length_append, List.length_append, List.length_singleton, List.length_singleton] at hl
      have e : i = q.length := by omega
      subst e
      rw [List.append_assoc, List.getElem?_append_right (Nat.le_refl _), Nat.sub_self] at h1
      rw [List.append_assoc, List.getElem?_append_right (by omega), show q.length + 1 - q.length = 1 by omega] at h2
      simp at h1 h2
      subst h1 h2
      exact ⟨r, hr, hm⟩
theorem at_nD {W : List Nat} {n : Nat} (h : ∃ q, W = q ++ [n]) : atI (W.map nD) (-1) = some (.int (n : Int)) := by
  obtain ⟨q, rfl⟩ := h
  rw [List.map_append]
  exact at_last _ _
theorem at_fol {L : List Int} (c : Int) (h : L ≠ []) : ∃ m ∈ L, atI (L.map D.int) (c % (L.length : Int)) = some (.int m) := by
  have h0 : 0 < L.length := List.length_pos_iff.mpr h
  have h1 := Int.emod_nonneg c (show (L.length : Int) ≠ 0 by omega)
  have h2 := Int.emod_lt_of_pos c (show (0 : Int) < L.length by omega)
  have hl : (c % (L.length : Int)).toNat < L.length := by omega
  exact ⟨L[(c % (L.length : Int)).toNat], List.getElem_mem hl, at_nat h1 (by rw [List.getElem?_map, List.getElem?_eq_getElem hl]; rfl)⟩
theorem way_one (P C Fa Wy : Nat) (c : Int) (x5 : Option D) (l : List Tx) (rows : List Row) (W : List Nat) (n : Nat) (S S0 : Store) (gd : Gd l rows) (h : WayR rows W n) (hW : W.length ≤ 1000) (p0 : Pre S0 S) (hW0 : S0.length ≤ Wy) (hP : S0[P]? = some (.lst (rows.map Row.d))) (g : S[Wy]? = some (.lst (W.map nD))) :
    ∃ (y5 : Option D) (W' : List Nat) (n' : Nat) (S' : Store), turnM (gName 4) l_law_way_1 (.int c) [some (.ref P), some (.ref C), some (.ref Fa), some (.ref Wy), none, x5, none, none] S = .ok (.nx [some (.ref P), some (.ref C), some (.ref Fa), some (.ref Wy), some (.int c), y5, none, none]) S' ∧ Pre S0 S' ∧ S'[Wy]? = some (.lst (W'.map nD)) ∧ WayR rows W' n' ∧ W'.length ≤ W.length + 1 := by
  have hn := h.lt gd
  have hr : rows[n]? = some rows[n] := List.getElem?_eq_getElem hn
  generalize rows[n] = r at hr
  have f := lfol_ok P n rows r S (p0.get hP) hr
  have al := at_nD h.last
  obtain ⟨S1, hS1⟩ : ∃ S1 : Store, S1 = S ++ [.lst ((fol n r).map .int)] := ⟨_, rfl⟩
  have p1 : Pre S S1 := by rw [hS1]; exact Pre.app _ _
  have g1 : S1[S.length]? = some (.lst ((fol n r).map .int)) := by rw [hS1]; exact app_new _ _ _
  have hS1' : S ++ [.lst ((fol n r).map .int)] = S1 := hS1.symm
  have nn := ne_nil S.length (fol n r) S1 g1
  obtain ⟨S2, hS2⟩ : ∃ S2 : Store, S2 = S1 ++ [.lst []] := ⟨_, rfl⟩
  have p2 : Pre S1 S2 := by rw [hS2]; exact Pre.app _ _
  have hS2' : S1 ++ [.lst []] = S2 := hS2.symm
  rw [hS2'] at nn
  have g12 := p2.get g1
  have gW := p2.get (p1.get g)
  have p02 := (p0.trans p1).trans p2
  rw [hS1'] at f
  by_cases he : fol n r = []
  · have nn' : oNe (.ref S.length) (.ref S1.length) S2 = .ok (.bl false) S2 := by rw [nn]; simp [he]
    refine ⟨some (.ref S.length), W, n, S2, ?_, p02, gW, h, by omega⟩
    generalize W.map nD = A at *
    simp [turnM_s, l_law_way_1, g, al, f, LINE, hS2', nn']
  · have nn' : oNe (.ref S.length) (.ref S1.length) S2 = .ok (.bl true) S2 := by rw [nn]; simp [he]
    obtain ⟨m', hm, em⟩ := at_fol c he
    have hin := gd.fol_in hr hm
    obtain ⟨m, rfl⟩ : ∃ m : Nat, m' = (m : Int) := ⟨m'.toNat, by omega⟩
    have h0 : 0 < (fol n r).length := List.length_pos_iff.mpr he
    have wl : (W.map nD).length < 16777216 := by rw [List.length_map]; omega
    refine ⟨some (.ref S.length), W ++ [m], m, S2.set Wy (.lst ((W ++ [m]).map nD)), ?_, p02.set hW0, set_get gW, .snoc h hr hm, by simp⟩
    have e1 : (W ++ [m]).map nD = W.map nD ++ [D.int (m : Int)] := by rw [List.map_append]; rfl
    rw [e1]
    generalize W.map nD = A at *
    simp [turnM_s, l_law_way_1, g, al, f, LINE, hS2', nn', g12, h0, em, gW, wl]
theorem way_go (P C Fa Wy : Nat) (x4 x5 x6 x7 : Option D) (l : List Tx) (rows : List Row) (W : List Nat) (n : Nat) (ks : List Int) (G : Nat → Nat) (S S0 : Store) (gd : Gd l rows) (h : WayR rows W n) (hW : W.length ≤ 3000) (p0 : Pre S0 S) (hW0 : S0.length ≤ Wy) (hP : S0[P]? = some (.lst (rows.map Row.d))) (hF : S0[Fa]? = some (.dK (TF ks G))) (fd : FarD rows ks G) (all : ∀ n : Nat, n < rows.length → (n : Int) ∈ ks) (r : Row) (hr : rows[n]? = some r) (he : r ≠ .en) (g : S[Wy]? = some (.lst (W.map nD))) :
    ∃ (y5 y6 y7 : Option D) (m : Nat) (S' : Store), l_law_way_3 [some (.ref P), some (.ref C), some (.ref Fa), some (.ref Wy), x4, x5, x6, x7] S = .ok (.nx [some (.ref P), some (.ref C), some (.ref Fa), some (.ref Wy), x4, y5, y6, y7]) S' ∧ Pre S0 S' ∧ S'[Wy]? = some (.lst ((W ++ [m]).map nD)) ∧ WayR rows (W ++ [m]) m ∧ G m < G n := by
  have hn := h.lt gd
  have f := lfol_ok P n rows r S (p0.get hP) hr
  have al := at_nD h.last
  obtain ⟨S1, hS1⟩ : ∃ S1 : Store, S1 = S ++ [.lst ((fol n r).map .int)] := ⟨_, rfl⟩
  have p1 : Pre S S1 := by rw [hS1]; exact Pre.app _ _
  have g1 : S1[S.length]? = some (.lst ((fol n r).map .int)) := by rw [hS1]; exact app_new _ _ _
  have hS1' : S ++ [.lst ((fol n r).map .int)] = S1 := hS1.symm
  rw [hS1'] at f
  have gW := p1.get g
  have p01 := p0.trans p1
  have hF1 := p01.get hF
  obtain ⟨m0, hm0, hmk0, hG0⟩ := (fd.inv.snd n r (all n hn) hr).resolve_left he
  have fne : fol n r ≠ [] := fun z => by rw [z] at hm0; cases hm0
  obtain ⟨c', hc', ec'⟩ : ∃ c', c' ∈ fol n r ∧ atI ((fol n r).map D.int) 0 = some (.int c') := by
    cases hf : fol n r with
    | nil => exact absurd hf fne
    | cons a q => exact ⟨a, by simp, by rw [List.map_cons, at0]⟩
  have hcin := gd.fol_in hr hc'
  obtain ⟨c, rfl⟩ : ∃ c : Nat, c' = (c : Int) := ⟨c'.toNat, by omega⟩
  have key := loop_inv (hs := [(S.length, (fol n r).map D.int)]) (turn := turnM (gName 7) l_law_way_2)
    (fun j fr S2 => ∃ (a : Nat) (y7 : Option D), fr = [some (.ref P), some (.ref C), some (.ref Fa), some (.ref Wy), x4, some (.ref S.length), some (.int (a : Int)), y7] ∧ S2 = S1 ∧ (a : Int) ∈ fol n r ∧ ∀ m : Nat, (m : Int) ∈ (fol n r).take j → G a ≤ G m)
    ((fol n r).map D.int) 0 [some (.ref P), some (.ref C), some (.ref Fa), some (.ref Wy), x4, some (.ref S.length), some (.int (c : Int)), x7] S1
    ⟨c, x7, rfl, rfl, hc', by simp⟩
    (by
      rintro j fr S2 ⟨a, y7, rfl, rfl, _⟩
      exact stands_one (lst_of g1))
    (by
      rintro j d fr S2 hd ⟨a, y7, rfl, rfl, ha, hall⟩
      rw [List.getElem?_map] at hd
      obtain ⟨m', hm', rfl⟩ := Option.map_eq_some_iff.mp hd
      rw [show 0 + j = j by omega] at *
      have hin := gd.fol_in hr (List.mem_of_getElem? hm')
      obtain ⟨m, rfl⟩ : ∃ m : Nat, m' = (m : Int) := ⟨m'.toNat, by omega⟩
      have ain := gd.fol_in hr ha
      have gm := TF_get ks G m
      have ga := TF_get ks G a
      rw [if_pos (all m (by omega))] at gm
      rw [if_pos (all a (by omega))] at ga
      by_cases hlt : G m < G a
      · have hlt' : ((G m : Nat) : Int) < ((G a : Nat) : Int) := by omega
        refine ⟨_, S2, .inl ?_, m, some (.int (m : Int)), rfl, rfl, List.mem_of_getElem? hm', fun x hx => ?_⟩
        · generalize TF ks G = T at *
          simp [turnM_s, l_law_way_2, hF1, gm, ga, hlt, hlt']
        · rw [tk_succ hm', List.mem_append, List.mem_singleton] at hx
          rcases hx with hx | hx
          · have := hall x hx; omega
          · have : x = m := by omega
            subst this
            exact Nat.le_refl _
      · have hlt' : ¬ ((G m : Nat) : Int) < ((G a : Nat) : Int) := by omega
        refine ⟨_, S2, .inl ?_, a, some (.int (m : Int)), rfl, rfl, ha, fun x hx => ?_⟩
        · generalize TF ks G = T at *
          simp [turnM_s, l_law_way_2, hF1, gm, ga, hlt, hlt']
        · rw [tk_succ hm', List.mem_append, List.mem_singleton] at hx
          rcases hx with hx | hx
          · exact hall x hx
          · have : x = m := by omega
            subst this
            omega)
  obtain ⟨fr', S2, e2, a, y7, rfl, rfl, ha, hall⟩ := key
  rw [List.length_map, Nat.zero_add, List.take_length] at hall
  have wl : (W.map nD).length < 16777216 := by rw [List.length_map]; omega
  refine ⟨some (.ref S.length), some (.int (a : Int)), y7, a, S2.set Wy (.lst ((W ++ [a]).map nD)), ?_, p01.set hW0, set_get gW, .snoc h hr ha, by have := hall m0 hm0; omega⟩
  have e1 : (W ++ [a]).map nD = W.map nD ++ [D.int (a : Int)] := by rw [List.map_append]; rfl
  rw [e1]
  generalize W.map nD = A at *
  simp [l_law_way_3, g, al, f, g1, ec']
  rw [e2]
  simp [gW, wl, LINE]
theorem way_while (P C Fa Wy : Nat) (x4 : Option D) (l : List Tx) (rows : List Row) (ks : List Int) (G : Nat → Nat) (S0 : Store) (gd : Gd l rows) (hW0 : S0.length ≤ Wy) (hP : S0[P]? = some (.lst (rows.map Row.d))) (hF : S0[Fa]? = some (.dK (TF ks G))) (fd : FarD rows ks G) (all : ∀ n : Nat, n < rows.length → (n : Int) ∈ ks) :
    ∀ (c : Nat) (x5 x6 x7 : Option D) (W : List Nat) (n : Nat) (S : Store), G n ≤ c → WayR rows W n → W.length + c ≤ 3000 → Pre S0 S → S[Wy]? = some (.lst (W.map nD)) →
    ∃ (fr' : Fr) (W' : List Nat) (n' : Nat) (S' : Store), sWhile c_law_way_4 l_law_way_3 [some (.ref P), some (.ref C), some (.ref Fa), some (.ref Wy), x4, x5, x6, x7] S = .ok (.nx fr') S' ∧ fr'[3]? = some (some (.ref Wy)) ∧ Pre S0 S' ∧ S'[Wy]? = some (.lst (W'.map nD)) ∧ WayR rows W' n' ∧ rows[n']? = some .en ∧ W'.length ≤ 3000 := by
  have stop : ∀ (c : Nat) (x5 x6 x7 : Option D) (W : List Nat) (n : Nat) (S : Store), rows[n]? = some .en → WayR rows W n → W.length + c ≤ 3000 → Pre S0 S → S[Wy]? = some (.lst (W.map nD)) →
    ∃ (fr' : Fr) (W' : List Nat) (n' : Nat) (S' : Store), sWhile c_law_way_4 l_law_way_3 [some (.ref P), some (.ref C), some (.ref Fa), some (.ref Wy), x4, x5, x6, x7] S = .ok (.nx fr') S' ∧ fr'[3]? = some (some (.ref Wy)) ∧ Pre S0 S' ∧ S'[Wy]? = some (.lst (W'.map nD)) ∧ WayR rows W' n' ∧ rows[n']? = some .en ∧ W'.length ≤ 3000 := by
    intro c x5 x6 x7 W n S hr h hc p0 g
    have al := at_nD h.last
    have ea : atI (rows.map Row.d) (n : Int) = some Row.en.d := at_of (by rw [List.getElem?_map, hr]; rfl)
    refine ⟨[some (.ref P), some (.ref C), some (.ref Fa), some (.ref Wy), x4, x5, x6, x7], W, n, S, ?_, rfl, p0, g, h, hr, by omega⟩
    rw [while_s]
    generalize W.map nD = A at *
    simp [c_law_way_4, g, al, p0.get hP, ea, d_en]
  intro c
  induction c with
  | zero =>
    intro x5 x6 x7 W n S hc h hw p0 g
    have hn := h.lt gd
    have hr : rows[n]? = some rows[n] := List.getElem?_eq_getElem hn
    rcases fd.inv.snd n _ (all n hn) hr with e | ⟨m, _, _, h3⟩
    · rw [e] at hr
      exact stop 0 x5 x6 x7 W n S hr h hw p0 g
    · omega
  | succ c ih =>
    intro x5 x6 x7 W n S hc h hw p0 g
    have hn := h.lt gd
    have hr : rows[n]? = some rows[n] := List.getElem?_eq_getElem hn
    generalize rows[n] = r at hr
    by_cases he : r = .en
    · rw [he] at hr
      exact stop (c + 1) x5 x6 x7 W n S hr h hw p0 g
    · obtain ⟨y5, y6, y7, m, S1, e1, p1, g1, h1, lt⟩ := way_go P C Fa Wy x4 x5 x6 x7 l rows W n ks G S S0 gd h (by omega) p0 hW0 hP hF fd all r hr he g
      obtain ⟨fr', W', n', S', e2, q⟩ := ih y5 y6 y7 (W ++ [m]) m S1 (by omega) h1 (by rw [List.length_append, List.length_singleton]; omega) p1 g1
      refine ⟨fr', W', n', S', ?_, q⟩
      have al := at_nD h.last
      have ea : atI (rows.map Row.d) (n : Int) = some r.d := at_of (by rw [List.getElem?_map, hr]; rfl)
      have hP' := p0.get hP
      rw [while_s]
      have test : c_law_way_4 [some (.ref P), some (.ref C), some (.ref Fa), some (.ref Wy), x4, x5, x6, x7] S = .ok true S := by
        generalize W.map nD = A at *
        cases r with
        | en => exact absurd rfl he
        | _ => simp [c_law_way_4, g, al, hP', ea, d_rk, d_cp, d_sy, d_go, d_pt]
      simp [test, e1]
      exact e2
theorem way_ok (P C : Nat) (cs : List Int) (l : List Tx) (rows : List Row) (S : Store) (gd : Gd l rows) (hl : rows.length ≤ 1000) (er : EndR rows) (hP : S[P]? = some (.lst (rows.map Row.d))) (hC : S[C]? = some (.lst (cs.map .int))) (hcs : cs.length ≤ 100) :
    ∃ (f : Nat) (W : List Nat) (n : Nat) (S' : Store), m_law_way [.ref P, .ref C] S = .ok (.ref f) S' ∧ Pre S S' ∧ S.length ≤ f ∧ S'[f]? = some (.lst (W.map nD)) ∧ WayR rows W n ∧ rows[n]? = some .en ∧ W.length ≤ 3000 := by
  obtain ⟨ks0, G0, fd0, all0⟩ := er
  obtain ⟨ks, G, S1, e1, p1, g1, fd⟩ := far_ok P l rows S gd hl hP
  have all : ∀ n : Nat, n < rows.length → (n : Int) ∈ ks := fun n hn => fd0.sub fd (G0 n) n (Nat.le_refl _) (all0 n hn)
  have kl := fd.inv.kss.len
  have hP1 := p1.get hP
  have hC1 := p1.get hC
  have key := loop_inv (hs := [(C, cs.map D.int)]) (turn := turnM (gName 4) l_law_way_1)
    (fun i fr S' => ∃ (y4 y5 : Option D) (W : List Nat) (n : Nat), fr = [some (.ref P), some (.ref C), some (.ref S.length), some (.ref S1.length), y4, y5, none, none] ∧ Pre S1 S' ∧ S'[S1.length]? = some (.lst (W.map nD)) ∧ WayR rows W n ∧ W.length ≤ 1 + i)
    (cs.map D.int) 0 [some (.ref P), some (.ref C), some (.ref S.length), some (.ref S1.length), none, none, none, none] (S1 ++ [.lst [.int 0]])
    ⟨none, none, [0], 0, rfl, Pre.app _ _, app_new _ _ _, .one, by simp⟩
    (by
      rintro i fr S' ⟨y4, y5, W, n, rfl, pr, _⟩
      exact stands_one (lst_of (pr.get hC1)))
    (by
      rintro i d fr S' hd ⟨y4, y5, W, n, rfl, pr, g, h, hw⟩
      have hi : i < cs.length := by
        have := (List.getElem?_eq_some_iff.mp hd).1
        rw [List.length_map] at this; exact this
      rw [List.getElem?_map] at hd
      obtain ⟨c, hc, rfl⟩ := Option.map_eq_some_iff.mp hd
      obtain ⟨z5, W', n', S2, e2, p2, g2, h2, hw2⟩ := way_one P C S.length S1.length c y5 l rows W n S' S1 gd h (by omega) pr (Nat.le_refl _) hP1 g
      have e2' : turnM (gName 4) l_law_way_1 (.int c) [some (.ref P), some (.ref C), some (.ref S.length), some (.ref S1.length), y4, y5, none, none] S' = .ok (.nx [some (.ref P), some (.ref C), some (.ref S.length), some (.ref S1.length), some (.int c), z5, none, none]) S2 := by
        rw [← e2]
        simp [turnM_s]
      exact ⟨_, S2, .inl e2', _, z5, W', n', rfl, p2, g2, h2, by omega⟩)
  obtain ⟨fr', S2, e2, y4, y5, W, n, rfl, p2, g2, h2, hw⟩ := key
  rw [List.length_map] at hw
  have bd := fd.inv.bd n (all n (h2.lt gd))
  obtain ⟨fr', W', n', S3, e3, f3, p3, g3, h3, en, hw3⟩ := way_while P C S.length S1.length y4 l rows ks G S1 gd (Nat.le_refl _) hP1 g1 fd all (G n) y5 none none W n S2 (Nat.le_refl _) h2 (by omega) p2 g2
  refine ⟨S1.length, W', n', S3, ?_, p1.trans p3, p1.len, g3, h3, en, hw3⟩
  simp [m_law_way, b_law_way, e1, LINE, app_get hC1]
  rw [e2]
  simp
  rw [e3]
  simp [f3]
end Lk94

set_option Elab.async false
set_option linter.all false
set_option maxHeartbeats 1000000
namespace Lk94
open Mi
/-! ### a paper, counted on a way -/
theorem want_go {rows : List Row} {k n : Nat} {x : List Ky} {r : Row} (hx : (recs rows)[k]? = some x) (hr : rows[n]? = some r) (hw : wantP rows n k = true) (ho : ownN rows k n = false) : lostF rows r k = false ∧ r ≠ .en ∧ ∀ m : Nat, (m : Int) ∈ fol n r → wantP rows m k = true := by
  have nm : ¬ Mis rows x n := by
    intro m
    unfold wantP at hw
    rw [hx] at hw
    dsimp only at hw
    rw [dec_true m] at hw
    cases hw
  have nk : r.rkg ≠ some x := by
    intro e
    unfold ownN at ho
    rw [hr] at ho
    dsimp only at ho
    unfold ownF at ho
    rw [hx, dec_true ⟨by rw [e]; exact Option.some_ne_none _, e⟩] at ho
    cases ho
  refine ⟨?_, fun e => nm (.out hr nk (.inr e)), fun m hm => ?_⟩
  · unfold lostF
    rw [hx]
    dsimp only
    cases c : chg r x with
    | false => rfl
    | true => exact absurd (.out hr nk (.inl c)) nm
  · unfold wantP
    rw [hx]
    dsimp only
    rw [dec_false fun z => nm (.step hr nk hm z)]
    rfl
theorem first_want {rows : List Row} {k : Nat} {p : Int × Int} (h : bgK rows k p = true) : wantP rows p.2.toNat k = true := by
  unfold bgK firstB at h
  rw [Bool.and_eq_true, Bool.and_eq_true] at h
  exact h.1.1
theorem first_not {l : List Tx} {rows : List Row} {k b : Nat} {m : Int} {x : List Ky} (gd : Gd l rows) (hx : (recs rows)[k]? = some x) (h : bgK rows k ((b : Int), m) = true) (hw : wantP rows b k = true) (ho : ownN rows k b = false) : False := by
  unfold bgK firstB at h
  rw [Bool.and_eq_true, Bool.or_eq_true] at h
  have h2 := h.2
  rcases h2 with z | z
  · have := of_decide_eq_true z
    simp only at this
    omega
  · rw [Int.toNat_natCast] at z
    unfold backP at z
    cases hr : rows[b]? with
    | none => rw [hr] at z; cases z
    | some r =>
      rw [hr] at z
      dsimp only at z
      obtain ⟨w1, _, w3⟩ := want_go hx hr hw ho
      rw [w1, Bool.false_or, Bool.and_eq_true] at z
      have al : (fol b r).all (fun m => wantP rows m.toNat k) = true := by
        rw [List.all_eq_true]
        intro m hm
        have := gd.fol_in hr hm
        exact w3 m.toNat (by rw [show ((m.toNat : Nat) : Int) = m by omega]; exact hm)
      rw [al] at z
      cases z.2
/-- how much more was reckoned by the paper, behind row b -/
structure Cnt (rows : List Row) (k : Nat) (st : Int × Int → Bool) (b : Int) (d : Int) : Prop where
  le : d ≤ 1
  off : ∀ n : Nat, b = n → offK rows k st n = true → wantP rows n k = true
  one : d = 1 → ∃ n : Nat, b = n ∧ wantP rows n k = true ∧ offK rows k st n = false ∧ ownN rows k n = false
theorem Cnt.start {rows : List Row} {k : Nat} {st : Int × Int → Bool} : Cnt rows k st (-1) 0 := ⟨by decide, fun n h => by omega, fun h => by omega⟩
theorem Cnt.step {l : List Tx} {rows : List Row} {k n : Nat} {st : Int × Int → Bool} {b d : Int} {x : List Ky} (gd : Gd l rows) (hx : (recs rows)[k]? = some x) (h : Cnt rows k st b d) (hp : (b, (n : Int)) ∈ plc rows) :
    Cnt rows k st n (d + (if kpP rows k st (b, (n : Int)) = true then 1 else 0) + (if (ownN rows k n && offK rows k st n) = true then 1 else 0) - (if ownN rows k n = true then 1 else 0)) := by
  have came : comesF (bgK rows k) (ownN rows k) (offK rows k st) (b, (n : Int)) = true → wantP rows n k = true := by
    intro c
    unfold comesF at c
    rw [Bool.or_eq_true] at c
    rcases c with c | c
    · have := first_want c
      rwa [Int.toNat_natCast] at this
    · rw [Bool.and_eq_true, Bool.and_eq_true] at c
      have b1 := of_decide_eq_true c.1
      simp only at b1
      rcases plc_mem.mp hp with ⟨z, _⟩ | ⟨i, r, hr, rfl, hm⟩
      · exact absurd z b1
      · simp only [Int.toNat_natCast] at c
        have hw := h.off i rfl c.2.1
        have ho : ownN rows k i = false := by simpa using c.2.2
        exact (want_go hx hr hw ho).2.2 n hm
  have o1 : offK rows k st n = true → wantP rows n k = true := fun ho => came (offF_good (b, (n : Int)) hp (by rw [Int.toNat_natCast]; exact ho)).2
  -- behind the place
  have pl : d + (if kpP rows k st (b, (n : Int)) = true then 1 else 0) ≤ 1 ∧ (d + (if kpP rows k st (b, (n : Int)) = true then 1 else 0) = 1 → wantP rows n k = true ∧ offK rows k st n = false) := by
    have dle := h.le
    have stay : d = 1 → comesF (bgK rows k) (ownN rows k) (offK rows k st) (b, (n : Int)) = false ∧ wantP rows n k = true := by
      intro d1
      obtain ⟨i, rfl, w, o, w2⟩ := h.one d1
      refine ⟨?_, ?_⟩
      · cases c : comesF (bgK rows k) (ownN rows k) (offK rows k st) ((i : Int), (n : Int)) with
        | false => rfl
        | true =>
          unfold comesF at c
          rw [Bool.or_eq_true] at c
          rcases c with c | c
          · exact (first_not gd hx c w w2).elim
          · rw [Bool.and_eq_true, Bool.and_eq_true] at c
            have := c.2.1
            simp only [Int.toNat_natCast] at this
            rw [o] at this; cases this
      · rcases plc_mem.mp hp with ⟨z, _⟩ | ⟨j, r, hr, z, hm⟩
        · omega
        · have : j = i := by omega
          subst this
          exact (want_go hx hr w w2).2.2 n hm
    cases c : kpP rows k st (b, (n : Int)) with
    | true =>
      have hk := of_dec c
      obtain ⟨k1, k2⟩ := List.mem_filter.mp hk
      have k3 := (List.mem_filter.mp k1).2
      have no : offK rows k st n = false := by simpa using k2
      have d0 : d ≠ 1 := fun d1 => by
        have := (stay d1).1
        rw [k3] at this; cases this
      rw [if_pos rfl]
      exact ⟨by omega, fun _ => ⟨came k3, no⟩⟩
    | false =>
      rw [if_neg (by simp)]
      refine ⟨by omega, fun d1 => ?_⟩
      obtain ⟨s1, s2⟩ := stay (by omega)
      refine ⟨s2, ?_⟩
      cases ho : offK rows k st n with
      | false => rfl
      | true =>
        have this : comesF (bgK rows k) (ownN rows k) (offK rows k st) (b, (n : Int)) = true := (offF_good (b, (n : Int)) hp (by rw [Int.toNat_natCast]; exact ho)).2
        rw [s1] at this; cases this
  generalize d + (if kpP rows k st (b, (n : Int)) = true then 1 else 0) = e at pl
  obtain ⟨e1, e2⟩ := pl
  cases ho : ownN rows k n with
  | false =>
    simp only [Bool.false_and, Bool.false_eq_true, if_false]
    exact ⟨by omega, fun i hi => by have : i = n := by omega
                                    subst this; exact o1, fun z => ⟨n, rfl, (e2 (by omega)).1, (e2 (by omega)).2, ho⟩⟩
  | true =>
    cases hf : offK rows k st n with
    | true =>
      simp only [Bool.and_self, if_true]
      have e0 : e ≠ 1 := fun z => by have := (e2 z).2; rw [hf] at this; cases this
      exact ⟨by omega, fun i hi => by have : i = n := by omega
                                      subst this; exact o1, fun z => by omega⟩
    | false =>
      simp only [Bool.and_false, Bool.false_eq_true, if_false, if_true]
      exact ⟨by omega, fun i hi => by have : i = n := by omega
                                      subst this; exact o1, fun z => by omega⟩
theorem Cnt.fin {rows : List Row} {k n : Nat} {st : Int × Int → Bool} {d : Int} {x : List Ky} (hx : (recs rows)[k]? = some x) (h : Cnt rows k st n d) (hr : rows[n]? = some .en) : d ≤ 0 := by
  have := h.le
  by_cases d1 : d = 1
  · obtain ⟨i, hi, w, _, o⟩ := h.one d1
    have : i = n := by omega
    subst this
    exact absurd rfl (want_go hx hr w o).2.1
  · omega
theorem TL_map (ns : List Nat) (f : Nat → Tx) (n : Nat) : dGet (TL (ns.map fun n => (n, f n))) (.inl (n : Int)) = if n ∈ ns then some (.str (f n)) else none := by
  refine snoc_ind (P := fun ns => dGet (TL (ns.map fun n => (n, f n))) (.inl (n : Int)) = if n ∈ ns then some (.str (f n)) else none) rfl (fun L a ih => ?_) ns
  have e1 : TL ((L ++ [a]).map fun n => (n, f n)) = dPut (TL (L.map fun n => (n, f n))) (.inl (a : Int)) (.str (f a)) := by unfold TL; rw [List.map_append, List.foldl_append]; rfl
  rw [e1, dPut_get, ih]
  by_cases h : a = n
  · subst h
    rw [if_pos rfl, if_pos (by simp)]
  · rw [if_neg (fun z => h (by injection z with z; omega))]
    by_cases m : n ∈ L
    · rw [if_pos m, if_pos (by simp [m])]
    · rw [if_neg m, if_neg (by
        intro z
        rcases List.mem_append.mp z with z | z
        · exact m z
        · exact h (List.mem_singleton.mp z).symm)]
/-- own or keep: just where a row of it is put off -/
theorem how_get (rows : List Row) (k : Nat) (st : Int × Int → Bool) (n : Nat) : ∃ t : Tx, (dGet (TL (finL rows k st)) (.inl (n : Int))).getD (.str t_read) = .str t ∧ decide (t = t_read) = !(ownN rows k n && offK rows k st n) := by
  have e : finL rows k st = (rowsO rows k).map fun n => (n, finH rows k st (n, howR rows k st n)) := by unfold finL rghL; rw [List.map_map]; rfl
  rw [e, TL_map]
  by_cases h : n ∈ rowsO rows k
  · rw [if_pos h]
    have ho := (rowsO_iff.mp h).2
    refine ⟨_, rfl, ?_⟩
    unfold finH
    rcases howR_cases rows k st n with ⟨a, b⟩ | ⟨a, _, b⟩ | ⟨a, _, b⟩
    · rw [b, a, ho, if_neg (fun z => absurd (show t_read = t_keep from z.1) (by decide))]; rfl
    · rw [b, a, ho, if_neg (fun z => absurd (show t_own = t_keep from z.1) (by decide))]; rfl
    · rw [b, a, ho]
      split
      · rfl
      · rfl
  · rw [if_neg h]
    have hno : ownN rows k n = false := by
      cases z : ownN rows k n with
      | false => rfl
      | true => exact absurd (rowsO_iff.mpr ⟨ownN_lt z, z⟩) h
    exact ⟨_, rfl, by rw [hno]; rfl⟩
end Lk94

set_option Elab.async false
set_option linter.all false
set_option maxHeartbeats 1000000
namespace Lk94
open Mi
/-! ### the law -/
theorem has_e (P Kn n k : Nat) (r : Row) (x : List Ky) (rows : List Row) (S : Store) (hr : r.ks.all kOk = true) (hk : RkO x) (hP : S[P]? = some (.lst (rows.map Row.d))) (ea : atI (rows.map Row.d) (n : Int) = some r.d) (hKn : S[Kn]? = some (.lst ((recs rows).map kt))) (ek : atI ((recs rows).map kt) (k : Int) = some (kt x)) (x0 x1 x4 x6 x7 x8 x9 x10 : Option D) :
    (mAnd (mOp oEq (mOp oIx (mOp oIx (mVar 2) (mVar 11)) (mC (.int 0))) (mC (.str t_reckon))) (mOp oEq (mSl (mOp oIx (mVar 2) (mVar 11)) (pSome (mC (.int 2))) (pNo)) (mOp oIx (mVar 3) (mVar 5)))) [x0, x1, some (.ref P), some (.ref Kn), x4, some (.int (k : Int)), x6, x7, x8, x9, x10, some (.int (n : Int))] S = .ok (.bl (hasK r x)) S := by
  generalize rows.map Row.d = A at *
  generalize (recs rows).map kt = B at *
  cases r with
  | rk n s a b =>
    have h2 : [Sum.inr s, a, b].all kOk = true := (rkg_ok hr rfl).ok
    have q := oEq_kt (a := [.inr s, a, b]) S h2 hk.ok
    have e : hasK (.rk n s a b) x = decide ([Sum.inr s, a, b] = x) := by
      unfold hasK
      by_cases h : [Sum.inr s, a, b] = x
      · rw [dec_true (by rw [← h]; rfl), decide_eq_true h]
      · rw [show dec ((Row.rk n s a b).rkg = some x) = false from dec_false fun z => h (Option.some.inj z), decide_eq_false h]
    rw [e]
    simp [kt] at q ek
    simp [Row.d, Row.ks, kt] at ea
    simp [hP, ea, hKn, ek, cut2, q]
  | _ =>
    have e : ∀ (r : Row), r.rkg = none → hasK r x = false := fun r h => dec_false (by rw [h]; simp)
    rw [e _ rfl]
    simp [Row.d, Row.ks, kt] at ea
    simp [hP, ea]
noncomputable def shD' (rows : List Row) (k : Nat) (st : Int × Int → Bool) : D := .tup [.wtp ((keptP rows k st).map pD), .wtp (HD (finL rows k st))]
theorem shD_e (rows : List Row) (k : Nat) (st : Int × Int → Bool) : shD' rows k st = .tup [.wtp ((keptP rows k st).map pD), .wtp (HD (finL rows k st))] := rfl
theorem own_has {rows : List Row} {k : Nat} {x : List Ky} (hx : (recs rows)[k]? = some x) (r : Row) : ownF rows r k = hasK r x := by
  unfold ownF hasK
  rw [hx]
  by_cases h : r.rkg = some x
  · rw [dec_true h, dec_true ⟨by rw [h]; exact Option.some_ne_none _, h⟩]
  · rw [dec_false h, dec_false fun c => h c.2]
theorem cnt_turn (P Kn Wy Hw n k : Nat) (b o w : Int) (x : List Ky) (st : Int × Int → Bool) (l : List Tx) (rows : List Row) (S : Store) (gd : Gd l rows) (rk : RowsK rows) (hx : (recs rows)[k]? = some x) (hP : S[P]? = some (.lst (rows.map Row.d))) (hKn : S[Kn]? = some (.lst ((recs rows).map kt))) (hH : S[Hw]? = some (.dK (TL (finL rows k st)))) (hp : (b, (n : Int)) ∈ plc rows) (hn : n < rows.length) (hc : Cnt rows k st b (w - o)) (x0 x1 x11 : Option D) :
    ∃ (o' w' : Int), turnM (gName 11) l_law_1 (.int (n : Int)) [x0, x1, some (.ref P), some (.ref Kn), some (.ref Wy), some (.int (k : Int)), some (shD' rows k st), some (.ref Hw), some (.int o), some (.int w), some (.int b), x11] S = .ok (.nx [x0, x1, some (.ref P), some (.ref Kn), some (.ref Wy), some (.int (k : Int)), some (shD' rows k st), some (.ref Hw), some (.int o'), some (.int w'), some (.int (n : Int)), some (.int (n : Int))]) S ∧ Cnt rows k st n (w' - o') := by
  have hr : rows[n]? = some rows[n] := List.getElem?_eq_getElem hn
  generalize rows[n] = r at hr
  have hxo := recs_ok rk (List.mem_of_getElem? hx)
  have ea : atI (rows.map Row.d) (n : Int) = some r.d := at_of (by rw [List.getElem?_map, hr]; rfl)
  have ek : atI ((recs rows).map kt) (k : Int) = some (kt x) := at_of (by rw [List.getElem?_map, hx]; rfl)
  have he := has_e P Kn n k r x rows S (rk r (List.mem_of_getElem? hr)) hxo hP ea hKn ek x0 x1 (some (.ref Wy)) (some (shD' rows k st)) (some (.ref Hw)) (some (.int o)) (some (.int w)) (some (.int b))
  obtain ⟨H, hH'⟩ : ∃ H : EM, H = (mAnd (mOp oEq (mOp oIx (mOp oIx (mVar 2) (mVar 11)) (mC (.int 0))) (mC (.str t_reckon))) (mOp oEq (mSl (mOp oIx (mVar 2) (mVar 11)) (pSome (mC (.int 2))) (pNo)) (mOp oIx (mVar 3) (mVar 5)))) := ⟨_, rfl⟩
  rw [← hH'] at he
  have hb : l_law_1 = sSeq (sAsg (mOp oAdd (mVar 8) (mCall bInt (aCons H aNil))) (gName 8)) (sSeq (sAsg (mOp oAdd (mOp oAdd (mVar 9) (mCall bInt (aCons (mOp oIn (mTup (aCons (mVar 10) (aCons (mVar 11) aNil))) (mOp oIx (mVar 6) (mC (.int 0)))) aNil))) (mCall bInt (aCons (mOp oNe (mMt isDct dGetM (mVar 7) (aCons (mVar 11) (aCons (mC (.str t_read)) aNil))) (mC (.str t_read))) aNil))) (gName 9)) (sSeq (sAsg (mVar 11) (gName 10)) (sIf (tBl (mOp oGt (mVar 9) (mOp oAdd (mVar 8) (mC (.int 1))))) (sRet (mC (.bl false))) (sNx)))) := by rw [hH']; rfl
  have on : ownN rows k n = hasK r x := by unfold ownN; rw [hr]; exact own_has hx r
  have cs := hc.step gd hx hp
  have ki : isIn (.tup [.int b, .int (n : Int)]) (.wtp ((keptP rows k st).map pD)) S = some (kpP rows k st (b, (n : Int))) := isIn_wtp (keptP rows k st) (b, (n : Int)) S
  obtain ⟨tx, ht, htd⟩ := how_get rows k st n
  have gg := dGetM_2 hH (n : Int) (.str t_read)
  rw [ht] at gg
  obtain ⟨o', ho'⟩ : ∃ o' : Int, o + (if ownN rows k n = true then 1 else 0) = o' := ⟨_, rfl⟩
  obtain ⟨w1, hw1⟩ : ∃ w1 : Int, w + (if kpP rows k st (b, (n : Int)) = true then 1 else 0) = w1 := ⟨_, rfl⟩
  obtain ⟨w2, hw2⟩ : ∃ w2 : Int, w1 + (if (ownN rows k n && offK rows k st n) = true then 1 else 0) = w2 := ⟨_, rfl⟩
  have ed : w2 - o' = w - o + (if kpP rows k st (b, (n : Int)) = true then 1 else 0) + (if (ownN rows k n && offK rows k st n) = true then 1 else 0) - (if ownN rows k n = true then 1 else 0) := by
    rw [← ho', ← hw2, ← hw1]
    omega
  rw [← ed] at cs
  have nle : ¬ o' + 1 < w2 := by have := cs.le; omega
  refine ⟨o', w2, ?_, cs⟩
  have hS : shD' rows k st = .tup [.wtp ((keptP rows k st).map pD), .wtp (HD (finL rows k st))] := rfl
  generalize hkp : kpP rows k st (b, (n : Int)) = kp at *
  generalize hof : (ownN rows k n && offK rows k st n) = of at *
  rw [on] at ho'
  generalize hasK r x = hs at *
  have rd : decide (tx = t_read) = !of := htd
  have e1 : ∀ z : Bool, bInt [.bl z] S = .ok (.int (if z = true then 1 else 0)) S := fun z => by cases z <;> rfl
  have i0 : oIx (shD' rows k st) (.int 0) S = .ok (.wtp ((keptP rows k st).map pD)) S := by rw [hS, oIx_t, at0]; rfl
  generalize shD' rows k st = X at *
  generalize (keptP rows k st).map pD = KP at *
  have hH2 := hH
  have txe : of = false → tx = t_read := fun z => by rw [z] at rd; exact of_decide_eq_true rd
  have txn : of = true → ¬ tx = t_read := fun z => by rw [z] at rd; exact of_decide_eq_false rd
  cases hs with
  | true =>
    have ho2 : o + 1 = o' := by simpa using ho'
    cases kp with
    | true =>
      have hw3 : w + 1 = w1 := by simpa using hw1
      cases of with
      | true =>
        have hw4 : w1 + 1 = w2 := by simpa using hw2
        simp [turnM_s, hb, he, ho2, i0, LINE, ki, hH, gg, txn, hw3, hw4, nle]
      | false =>
        have hw4 : w1 = w2 := by simpa using hw2
        subst hw4
        simp [turnM_s, hb, he, ho2, i0, LINE, ki, hH, gg, txe, hw3, nle]
    | false =>
      have hw3 : w = w1 := by simpa using hw1
      subst hw3
      cases of with
      | true =>
        have hw4 : w + 1 = w2 := by simpa using hw2
        simp [turnM_s, hb, he, ho2, i0, LINE, ki, hH, gg, txn, hw4, nle]
      | false =>
        have hw4 : w = w2 := by simpa using hw2
        subst hw4
        simp [turnM_s, hb, he, ho2, i0, LINE, ki, hH, gg, txe, nle]
  | false =>
    have ho2 : o = o' := by simpa using ho'
    subst ho2
    cases kp with
    | true =>
      have hw3 : w + 1 = w1 := by simpa using hw1
      cases of with
      | true =>
        have hw4 : w1 + 1 = w2 := by simpa using hw2
        simp [turnM_s, hb, he, i0, LINE, ki, hH, gg, txn, hw3, hw4, nle]
      | false =>
        have hw4 : w1 = w2 := by simpa using hw2
        subst hw4
        simp [turnM_s, hb, he, i0, LINE, ki, hH, gg, txe, hw3, nle]
    | false =>
      have hw3 : w = w1 := by simpa using hw1
      subst hw3
      cases of with
      | true =>
        have hw4 : w + 1 = w2 := by simpa using hw2
        simp [turnM_s, hb, he, i0, LINE, ki, hH, gg, txn, hw4, nle]
      | false =>
        have hw4 : w = w2 := by simpa using hw2
        subst hw4
        simp [turnM_s, hb, he, i0, LINE, ki, hH, gg, txe, nle]
theorem sheet_turn (P Kn Wy k m : Nat) (W : List Nat) (x : List Ky) (st : Int × Int → Bool) (l : List Tx) (rows : List Row) (S : Store) (gd : Gd l rows) (rk : RowsK rows) (hx : (recs rows)[k]? = some x) (hP : S[P]? = some (.lst (rows.map Row.d))) (hKn : S[Kn]? = some (.lst ((recs rows).map kt))) (hW : S[Wy]? = some (.lst (W.map nD))) (hw : WayR rows W m) (hm : rows[m]? = some .en) (x0 x1 x6 x7 x8 x9 x10 x11 : Option D) :
    ∃ (z7 z8 z9 z10 z11 : Option D) (S' : Store), turnM (gName 6) l_law_2 (shD' rows k st) [x0, x1, some (.ref P), some (.ref Kn), some (.ref Wy), some (.int (k : Int)), x6, x7, x8, x9, x10, x11] S = .ok (.nx [x0, x1, some (.ref P), some (.ref Kn), some (.ref Wy), some (.int (k : Int)), some (shD' rows k st), z7, z8, z9, z10, z11]) S' ∧ Pre S S' := by
  have bd := bDict_HD (finL rows k st) S
  obtain ⟨S1, hS1⟩ : ∃ S1 : Store, S1 = S ++ [.dK (TL (finL rows k st))] := ⟨_, rfl⟩
  have p1 : Pre S S1 := by rw [hS1]; exact Pre.app _ _
  have g1 : S1[S.length]? = some (.dK (TL (finL rows k st))) := by rw [hS1]; exact app_new _ _ _
  rw [← hS1] at bd
  have hP1 := p1.get hP
  have hK1 := p1.get hKn
  have hW1 := p1.get hW
  have inr : ∀ (i n : Nat), W[i]? = some n → n < rows.length := by
    intro i n hi
    by_cases h : i + 1 < W.length
    · obtain ⟨r, hr, _⟩ := hw.step i n W[i + 1] hi (List.getElem?_eq_getElem h)
      exact (List.getElem?_eq_some_iff.mp hr).1
    · obtain ⟨q, rfl⟩ := hw.last
      have hl := (List.getElem?_eq_some_iff.mp hi).1
      rw [List.length_append, List.length_singleton] at h hl
      have e : i = q.length := by omega
      subst e
      rw [List.getElem?_append_right (Nat.le_refl _), Nat.sub_self] at hi
      simp at hi
      subst hi
      exact (List.getElem?_eq_some_iff.mp hm).1
  have key := loop_inv (hs := [(Wy, W.map nD)]) (turn := turnM (gName 11) l_law_1)
    (fun i fr S' => ∃ (o w b : Int) (y11 : Option D), fr = [x0, x1, some (.ref P), some (.ref Kn), some (.ref Wy), some (.int (k : Int)), some (shD' rows k st), some (.ref S.length), some (.int o), some (.int w), some (.int b), y11] ∧ S' = S1 ∧ ((i = 0 ∧ b = -1) ∨ ∃ j n : Nat, i = j + 1 ∧ W[j]? = some n ∧ b = (n : Int)) ∧ Cnt rows k st b (w - o))
    (W.map nD) 0 [x0, x1, some (.ref P), some (.ref Kn), some (.ref Wy), some (.int (k : Int)), some (shD' rows k st), some (.ref S.length), some (.int 0), some (.int 0), some (.int (-1)), x11] S1
    ⟨0, 0, -1, x11, rfl, rfl, .inl ⟨rfl, rfl⟩, by simpa using Cnt.start⟩
    (by
      rintro i fr S' ⟨o, w, b, y11, rfl, rfl, _⟩
      exact stands_one (lst_of hW1))
    (by
      rintro i d fr S' hd ⟨o, w, b, y11, rfl, rfl, hb, hc⟩
      rw [List.getElem?_map] at hd
      obtain ⟨n, hn, rfl⟩ := Option.map_eq_some_iff.mp hd
      rw [show 0 + i = i by omega] at *
      have hp : (b, (n : Int)) ∈ plc rows := by
        rcases hb with ⟨rfl, rfl⟩ | ⟨j, a, rfl, ha, rfl⟩
        · have := hw.at0
          rw [hn] at this
          obtain rfl := Option.some.inj this
          exact plc_mem.mpr (.inl ⟨rfl, rfl⟩)
        · obtain ⟨r, hr, hf⟩ := hw.step j a n ha hn
          exact plc_of hr hf
      obtain ⟨o', w', e, hc'⟩ := cnt_turn P Kn Wy S.length n k b o w x st l rows S' gd rk hx hP1 hK1 g1 hp (inr i n hn) hc x0 x1 y11
      exact ⟨_, S', .inl e, o', w', (n : Int), _, rfl, rfl, .inr ⟨i, n, rfl, hn, rfl⟩, hc'⟩)
  obtain ⟨fr', S2, e2, o, w, b, y11, rfl, rfl, hb, hc⟩ := key
  rw [List.length_map, Nat.zero_add] at hb
  have fin : w - o ≤ 0 := by
    obtain ⟨q, rfl⟩ := hw.last
    rw [List.length_append, List.length_singleton] at hb
    rcases hb with ⟨z, _⟩ | ⟨j, n, hj, hn, rfl⟩
    · omega
    · have e : j = q.length := by omega
      subst e
      rw [List.getElem?_append_right (Nat.le_refl _), Nat.sub_self] at hn
      simp at hn
      subst hn
      exact hc.fin hx hm
  have nle : ¬ o < w := by omega
  refine ⟨some (.ref S.length), some (.int o), some (.int w), some (.int b), y11, S2, ?_, p1⟩
  have i1 : oIx (shD' rows k st) (.int 1) S = .ok (.wtp (HD (finL rows k st))) S := by rw [shD_e, oIx_t]; rfl
  generalize shD' rows k st = X at *
  generalize HD (finL rows k st) = Y at *
  simp [turnM_s, l_law_2, i1, bd, hW1]
  rw [e2]
  simp [nle]
theorem k_turn (P Kn Wy k m : Nat) (W : List Nat) (x : List Ky) (l : List Tx) (rows : List Row) (S : Store) (gd : Gd l rows) (rk : RowsK rows) (hl : rows.length ≤ 1000) (hx : (recs rows)[k]? = some x) (hP : S[P]? = some (.lst (rows.map Row.d))) (hKn : S[Kn]? = some (.lst ((recs rows).map kt))) (hW : S[Wy]? = some (.lst (W.map nD))) (hw : WayR rows W m) (hm : rows[m]? = some .en) (x0 x1 x5 x6 x7 x8 x9 x10 x11 : Option D) :
    ∃ (z6 z7 z8 z9 z10 z11 : Option D) (S' : Store), turnM (gName 5) l_law_3 (.int (k : Int)) [x0, x1, some (.ref P), some (.ref Kn), some (.ref Wy), x5, x6, x7, x8, x9, x10, x11] S = .ok (.nx [x0, x1, some (.ref P), some (.ref Kn), some (.ref Wy), some (.int (k : Int)), z6, z7, z8, z9, z10, z11]) S' ∧ Pre S S' := by
  have hk : k < mR rows := (List.getElem?_eq_some_iff.mp hx).1
  obtain ⟨S1, e1, p1⟩ := paper_ok P k (fun _ => false) .non l rows S gd rk hl hk hP (put_off_non P k l rows S gd rk hl hk hP)
  rw [← shD_e] at e1
  have hP1 := p1.get hP
  obtain ⟨Q, S2, e2, p2, hQ, gQ⟩ := places_ok P rows S1 hP1 hl
  have hP2 := p2.get hP1
  obtain ⟨S3, e3, p3⟩ := paper_ok P k (fun p => dec (p ∈ plc rows)) (.ref Q) l rows S2 gd rk hl hk hP2 (put_off_ok P k (fun p => dec (p ∈ plc rows)) (.ref Q) l rows S2 gd rk hl hk hP2 rfl (fun S' pr p hp => isIn_lst (pr.get gQ)))
  rw [← shD_e] at e3
  obtain ⟨S4, hS4⟩ : ∃ S4 : Store, S4 = S3 ++ [.lst [shD' rows k fun _ => false, shD' rows k fun p => dec (p ∈ plc rows)]] := ⟨_, rfl⟩
  have p4 : Pre S3 S4 := by rw [hS4]; exact Pre.app _ _
  have g4 : S4[S3.length]? = some (.lst [shD' rows k fun _ => false, shD' rows k fun p => dec (p ∈ plc rows)]) := by rw [hS4]; exact app_new _ _ _
  have p04 := ((p1.trans p2).trans p3).trans p4
  obtain ⟨a7, a8, a9, a10, a11, S5, e5, p5⟩ := sheet_turn P Kn Wy k m W x (fun _ => false) l rows S4 gd rk hx (p04.get hP) (p04.get hKn) (p04.get hW) hw hm x0 x1 x6 x7 x8 x9 x10 x11
  have p05 := p04.trans p5
  obtain ⟨b7, b8, b9, b10, b11, S6, e6, p6⟩ := sheet_turn P Kn Wy k m W x (fun p => dec (p ∈ plc rows)) l rows S5 gd rk hx (p05.get hP) (p05.get hKn) (p05.get hW) hw hm x0 x1 (some (shD' rows k fun _ => false)) a7 a8 a9 a10 a11
  have g5 := p5.get g4
  have g6 := p6.get g5
  refine ⟨some (shD' rows k fun p => dec (p ∈ plc rows)), b7, b8, b9, b10, b11, S6, ?_, p05.trans p6⟩
  have hS4' : S3 ++ [.lst [shD' rows k fun _ => false, shD' rows k fun p => dec (p ∈ plc rows)]] = S4 := hS4.symm
  have s4 := stands_one (lst_of g4)
  have s5 := stands_one (lst_of g5)
  have s6 := stands_one (lst_of g6)
  generalize shD' rows k (fun _ => false) = Y at *
  generalize shD' rows k (fun p => dec (p ∈ plc rows)) = Z at *
  simp [turnM_s, l_law_3, e1, e2, e3, LINE, hS4', g4]
  rw [loop_cons s4, e5]
  simp
  rw [loop_cons s5, e6]
  simp
  rw [loop_nil s6]
theorem law_pure (ns : List Int) (hn : ns.length ≤ 63) : ∃ S, m_law [.ref 0] [.fls (ns.map .int)] = .ok (.bl true) S := by
  obtain ⟨S0, e0⟩ : ∃ S : Store, S = [.fls (ns.map .int)] := ⟨_, rfl⟩
  have s00 : S0[0]? = some (.fls (ns.map .int)) := by rw [e0]; rfl
  rw [← e0]
  have cut_map : ∀ (a b : Option Int), cut (ns.map D.int) a b = (cut ns a b).map D.int := fun a b => by
    unfold cut
    rw [List.length_map, ← List.map_drop, ← List.map_take]
  have hcl : (cut ns (some 30) (some 63)).length ≤ 63 := by
    unfold cut
    rw [List.length_take]
    simp
    omega
  generalize hcs : cut ns (some 30) (some 63) = cs at hcl
  obtain ⟨c3, ec3⟩ := cell_ok s00 3
  obtain ⟨c4, ec4⟩ := cell_ok s00 4
  have ec3' : m_law_cell [.ref 0, .int 3] S0 = .ok (.int c3) S0 := ec3
  have ec4' : m_law_cell [.ref 0, .int 4] S0 = .ok (.int c4) S0 := ec4
  obtain ⟨l, N, S1, e1, p1, _, g1, h5, hnm⟩ := names_ok c3 c4 S0
  obtain ⟨rows, P, S2, e2, p2, g2, gd, hrl, er⟩ := program_ok N S1 l (p1.get s00) g1 h5
  have rk := gd.rk hnm
  have hl : rows.length ≤ 1000 := by omega
  obtain ⟨S3, e3, p3, g3⟩ := reckonings_ok P rows S2 g2 hl
  have s30 := p3.get (p2.get (p1.get s00))
  obtain ⟨S4, hS4⟩ : ∃ S4 : Store, S4 = S3 ++ [.lst (cs.map .int)] := ⟨_, rfl⟩
  have p4 : Pre S3 S4 := by rw [hS4]; exact Pre.app _ _
  have g4 : S4[S3.length]? = some (.lst (cs.map .int)) := by rw [hS4]; exact app_new _ _ _
  have gP4 := p4.get (p3.get g2)
  obtain ⟨Wy, W, m, S5, e5, p5, hWy, g5, hw, hm, hw3⟩ := way_ok P S3.length cs l rows S4 gd hl er gP4 g4 (by omega)
  have gP5 := p5.get gP4
  have gK5 := p5.get (p4.get g3)
  have len := recs_len rows
  have fl : far ((recs rows).length : Int) := by unfold far; omega
  have key := loop_inv (hs := []) (turn := turnM (gName 5) l_law_3)
    (fun i fr S' => ∃ (y5 y6 y7 y8 y9 y10 y11 : Option D), fr = [some (.ref 0), some (.ref N), some (.ref P), some (.ref (S2.length + 1)), some (.ref Wy), y5, y6, y7, y8, y9, y10, y11] ∧ Pre S5 S')
    (rng 0 (recs rows).length) 0 [some (.ref 0), some (.ref N), some (.ref P), some (.ref (S2.length + 1)), some (.ref Wy), none, none, none, none, none, none, none] S5
    ⟨none, none, none, none, none, none, none, rfl, Pre.refl _⟩ (fun _ _ S _ => stands_nil S) (by
      rintro i d fr S' hd ⟨y5, y6, y7, y8, y9, y10, y11, rfl, pr⟩
      obtain ⟨hi, rfl⟩ := rng_at hd
      have e0 : (0 : Int) + (i : Int) = (i : Int) := by omega
      rw [e0]
      obtain ⟨z6, z7, z8, z9, z10, z11, S8, e8, p8⟩ := k_turn P (S2.length + 1) Wy i m W (recs rows)[i] l rows S' gd rk hl (List.getElem?_eq_getElem hi) (pr.get gP5) (pr.get gK5) (pr.get g5) hw hm (some (.ref 0)) (some (.ref N)) y5 y6 y7 y8 y9 y10 y11
      exact ⟨_, S8, .inl e8, _, z6, z7, z8, z9, z10, z11, rfl, pr.trans p8⟩)
  obtain ⟨fr', S6, e6, y5, y6, y7, y8, y9, y10, y11, rfl, p6⟩ := key
  refine ⟨S6, ?_⟩
  have hS4' : S3 ++ [.lst (cs.map .int)] = S4 := hS4.symm
  simp [m_law, b_law, ec3', ec4', e1, e2, e3, s30, cut_map, hcs, hS4', e5, gK5, fl]
  rw [e6]
  simp
end Lk94

set_option Elab.async false
set_option linter.all false
set_option maxRecDepth 100000
set_option maxHeartbeats 4000000
/-! that the text is these steps (printed by gen.py) -/
namespace Lk94
open PySem PySem.Spec PyProof.Rows L2 Mi Sm
def topS (i : Nat) : Stmt := PySem.Challenge.pw_lazyhoist_k94_whole_on_beginnings.main.body.getD i (.Pass ⟨0, 0, 0, 0⟩)
theorem q_reckon : ("reckon" : Str) = sOf t_reckon := by decide +kernel
theorem q_copy : ("copy" : Str) = sOf t_copy := by decide +kernel
theorem q_go : ("go" : Str) = sOf t_go := by decide +kernel
theorem q_part : ("part" : Str) = sOf t_part := by decide +kernel
theorem q_end : ("end" : Str) = sOf t_end := by decide +kernel
theorem q_x5_ : ("" : Str) = sOf t_x5_ := by decide +kernel
theorem q_read : ("read" : Str) = sOf t_read := by decide +kernel
theorem q_keep : ("keep" : Str) = sOf t_keep := by decide +kernel
theorem q_own : ("own" : Str) = sOf t_own := by decide +kernel
theorem q_x9_abcdefghijkl : ("abcdefghijklmnopqrstuvwxyz" : Str) = sOf t_x9_abcdefghijkl := by decide +kernel
theorem q_say : ("say" : Str) = sOf t_say := by decide +kernel
theorem q_x : ("x" : Str) = sOf t_x := by decide +kernel
theorem q_x12_ : ("+-*&|^<=" : Str) = sOf t_x12_ := by decide +kernel
abbrev s_law_cell : Stmt := topS 34
abbrev n_law_cell : List Str := ["_law_script", "_law_k"]
theorem sc_law_cell : FnScope n_law_cell ["_law_script", "_law_k"] (defScope s_law_cell) := ⟨rfl, rfl, rfl, by decide +kernel, rfl, by decide +kernel, by decide +kernel⟩
abbrev s_law_names : Stmt := topS 35
abbrev n_law_names : List Str := ["_law_cell_here", "_law_at", "_law_letters", "_law_primes", "_law_size", "_law_base", "_law_k", "_law_names_here", "_law_name", "_law_j", "_law_step"]
theorem sc_law_names : FnScope n_law_names ["_law_cell_here", "_law_at"] (defScope s_law_names) := ⟨rfl, rfl, rfl, by decide +kernel, rfl, by decide +kernel, by decide +kernel⟩
abbrev s_law_mixed : Stmt := topS 36
abbrev n_law_mixed : List Str := ["_law_cell_here", "_law_k", "_law_number"]
theorem sc_law_mixed : FnScope n_law_mixed ["_law_cell_here", "_law_k"] (defScope s_law_mixed) := ⟨rfl, rfl, rfl, by decide +kernel, rfl, by decide +kernel, by decide +kernel⟩
abbrev s_law_drawn : Stmt := topS 37
abbrev n_law_drawn : List Str := ["_law_script", "_law_k"]
theorem sc_law_drawn : FnScope n_law_drawn ["_law_script", "_law_k"] (defScope s_law_drawn) := ⟨rfl, rfl, rfl, by decide +kernel, rfl, by decide +kernel, by decide +kernel⟩
abbrev s_law_followers : Stmt := topS 41
abbrev n_law_followers : List Str := ["_law_program_here", "_law_n", "_law_row_here"]
theorem sc_law_followers : FnScope n_law_followers ["_law_program_here", "_law_n"] (defScope s_law_followers) := ⟨rfl, rfl, rfl, by decide +kernel, rfl, by decide +kernel, by decide +kernel⟩
abbrev s_law_far : Stmt := topS 43
abbrev n_law_far : List Str := ["_law_program_here", "_law_far_here", "_law_n", "_law_more", "_law_m"]
theorem sc_law_far : FnScope n_law_far ["_law_program_here"] (defScope s_law_far) := ⟨rfl, rfl, rfl, by decide +kernel, rfl, by decide +kernel, by decide +kernel⟩
abbrev s_law_reached : Stmt := topS 42
abbrev n_law_reached : List Str := ["_law_rows", "_law_seen", "_law_left", "_law_m"]
theorem sc_law_reached : FnScope n_law_reached ["_law_rows"] (defScope s_law_reached) := ⟨rfl, rfl, rfl, by decide +kernel, rfl, by decide +kernel, by decide +kernel⟩
abbrev s_law_mended : Stmt := topS 44
abbrev n_law_mended : List Str := ["_law_rows", "_law_last", "_law_turn", "_law_seen", "_law_far_here", "_law_lost", "_law_n", "_law_dead"]
theorem sc_law_mended : FnScope n_law_mended ["_law_rows"] (defScope s_law_mended) := ⟨rfl, rfl, rfl, by decide +kernel, rfl, by decide +kernel, by decide +kernel⟩
abbrev s_law_operand : Stmt := topS 38
abbrev n_law_operand : List Str := ["_law_cell_here", "_law_names_here", "_law_rest"]
theorem sc_law_operand : FnScope n_law_operand ["_law_cell_here", "_law_names_here"] (defScope s_law_operand) := ⟨rfl, rfl, rfl, by decide +kernel, rfl, by decide +kernel, by decide +kernel⟩
abbrev s_law_pool : Stmt := topS 39
abbrev n_law_pool : List Str := ["_law_script", "_law_names_here", "_law_cell_here", "_law_mode", "_law_size", "_law_wide", "_law_pool_here", "_law_k", "_law_one"]
theorem sc_law_pool : FnScope n_law_pool ["_law_script", "_law_names_here"] (defScope s_law_pool) := ⟨rfl, rfl, rfl, by decide +kernel, rfl, by decide +kernel, by decide +kernel⟩
abbrev s_law_row : Stmt := topS 40
abbrev n_law_row : List Str := ["_law_cell_here", "_law_n", "_law_many", "_law_names_here", "_law_pool_here", "_law_kind", "_law_rest"]
theorem sc_law_row : FnScope n_law_row ["_law_cell_here", "_law_n", "_law_many", "_law_names_here", "_law_pool_here"] (defScope s_law_row) := ⟨rfl, rfl, rfl, by decide +kernel, rfl, by decide +kernel, by decide +kernel⟩
abbrev s_law_program : Stmt := topS 45
abbrev n_law_program : List Str := ["_law_script", "_law_names_here", "_law_most", "_law_many", "_law_pool_here", "_law_n"]
theorem sc_law_program : FnScope n_law_program ["_law_script", "_law_names_here", "_law_most"] (defScope s_law_program) := ⟨rfl, rfl, rfl, by decide +kernel, rfl, by decide +kernel, by decide +kernel⟩
abbrev s_law_way : Stmt := topS 46
abbrev n_law_way : List Str := ["_law_program_here", "_law_cells", "_law_far_here", "_law_way_here", "_law_cell_here", "_law_some", "_law_n", "_law_m"]
theorem sc_law_way : FnScope n_law_way ["_law_program_here", "_law_cells"] (defScope s_law_way) := ⟨rfl, rfl, rfl, by decide +kernel, rfl, by decide +kernel, by decide +kernel⟩
abbrev s_has_bit : Stmt := topS 12
abbrev n_has_bit : List Str := ["bits", "k"]
theorem sc_has_bit : FnScope n_has_bit ["bits", "k"] (defScope s_has_bit) := ⟨rfl, rfl, rfl, by decide +kernel, rfl, by decide +kernel, by decide +kernel⟩
abbrev s_followers : Stmt := topS 5
abbrev n_followers : List Str := ["program", "n", "row"]
theorem sc_followers : FnScope n_followers ["program", "n"] (defScope s_followers) := ⟨rfl, rfl, rfl, by decide +kernel, rfl, by decide +kernel, by decide +kernel⟩
abbrev s_is_kept_for : Stmt := topS 31
abbrev n_is_kept_for : List Str := ["program", "n", "kept", "wished", "m"]
theorem sc_is_kept_for : FnScope n_is_kept_for ["program", "n", "kept", "wished"] (defScope s_is_kept_for) := ⟨rfl, rfl, rfl, by decide +kernel, rfl, by decide +kernel, by decide +kernel⟩
abbrev s_sets : Stmt := topS 2
abbrev n_sets : List Str := ["row"]
theorem sc_sets : FnScope n_sets ["row"] (defScope s_sets) := ⟨rfl, rfl, rfl, by decide +kernel, rfl, by decide +kernel, by decide +kernel⟩
abbrev s_changes : Stmt := topS 3
abbrev n_changes : List Str := ["row", "reckoning", "name"]
theorem sc_changes : FnScope n_changes ["row", "reckoning"] (defScope s_changes) := ⟨rfl, rfl, rfl, by decide +kernel, rfl, by decide +kernel, by decide +kernel⟩
abbrev s_reckoning_of : Stmt := topS 1
abbrev n_reckoning_of : List Str := ["row"]
theorem sc_reckoning_of : FnScope n_reckoning_of ["row"] (defScope s_reckoning_of) := ⟨rfl, rfl, rfl, by decide +kernel, rfl, by decide +kernel, by decide +kernel⟩
abbrev s_reckonings : Stmt := topS 7
abbrev n_reckonings : List Str := ["program", "found", "row", "reckoning"]
theorem sc_reckonings : FnScope n_reckonings ["program"] (defScope s_reckonings) := ⟨rfl, rfl, rfl, by decide +kernel, rfl, by decide +kernel, by decide +kernel⟩
abbrev s_lost_bits : Stmt := topS 11
abbrev n_lost_bits : List Str := ["program", "known", "found", "row", "bits", "k", "one"]
theorem sc_lost_bits : FnScope n_lost_bits ["program"] (defScope s_lost_bits) := ⟨rfl, rfl, rfl, by decide +kernel, rfl, by decide +kernel, by decide +kernel⟩
abbrev s_asks_box : Stmt := topS 14
abbrev n_asks_box : List Str := ["program", "k", "sheet", "lost", "kept", "hows", "found", "n", "more", "m"]
theorem sc_asks_box : FnScope n_asks_box ["program", "k", "sheet"] (defScope s_asks_box) := ⟨rfl, rfl, rfl, by decide +kernel, rfl, by decide +kernel, by decide +kernel⟩
abbrev s_places : Stmt := topS 6
abbrev n_places : List Str := ["program", "found", "n", "m"]
theorem sc_places : FnScope n_places ["program"] (defScope s_places) := ⟨rfl, rfl, rfl, by decide +kernel, rfl, by decide +kernel, by decide +kernel⟩
abbrev s_live : Stmt := topS 15
abbrev n_live : List Str := ["program", "k", "sheet", "asks", "place"]
theorem sc_live : FnScope n_live ["program", "k", "sheet"] (defScope s_live) := ⟨rfl, rfl, rfl, by decide +kernel, rfl, by decide +kernel, by decide +kernel⟩
abbrev s_comes_off : Stmt := topS 27
abbrev n_comes_off : List Str := ["place", "k", "begins", "own", "rows_off", "n"]
theorem sc_comes_off : FnScope n_comes_off ["place", "k", "begins", "own", "rows_off"] (defScope s_comes_off) := ⟨rfl, rfl, rfl, by decide +kernel, rfl, by decide +kernel, by decide +kernel⟩
abbrev s_all_bits : Stmt := topS 9
abbrev n_all_bits : List Str := ["program"]
theorem sc_all_bits : FnScope n_all_bits ["program"] (defScope s_all_bits) := ⟨rfl, rfl, rfl, by decide +kernel, rfl, by decide +kernel, by decide +kernel⟩
abbrev s_own_bits : Stmt := topS 10
abbrev n_own_bits : List Str := ["program", "numbers", "k", "one", "found", "row"]
theorem sc_own_bits : FnScope n_own_bits ["program"] (defScope s_own_bits) := ⟨rfl, rfl, rfl, by decide +kernel, rfl, by decide +kernel, by decide +kernel⟩
abbrev s_kept_back : Stmt := topS 24
abbrev n_kept_back : List Str := ["program", "wants", "whole", "own", "lost", "found", "n", "behind", "m"]
theorem sc_kept_back : FnScope n_kept_back ["program", "wants"] (defScope s_kept_back) := ⟨rfl, rfl, rfl, by decide +kernel, rfl, by decide +kernel, by decide +kernel⟩
abbrev s_ahead_of : Stmt := topS 17
abbrev n_ahead_of : List Str := ["program", "found", "row", "n", "m"]
theorem sc_ahead_of : FnScope n_ahead_of ["program"] (defScope s_ahead_of) := ⟨rfl, rfl, rfl, by decide +kernel, rfl, by decide +kernel, by decide +kernel⟩
abbrev s_left_by : Stmt := topS 18
abbrev n_left_by : List Str := ["program", "whole", "own", "lost", "came", "found", "row", "more", "m", "ahead", "n", "bits"]
theorem sc_left_by : FnScope n_left_by ["program"] (defScope s_left_by) := ⟨rfl, rfl, rfl, by decide +kernel, rfl, by decide +kernel, by decide +kernel⟩
abbrev s_standing : Stmt := topS 19
abbrev n_standing : List Str := ["program", "behind", "found", "place"]
theorem sc_standing : FnScope n_standing ["program"] (defScope s_standing) := ⟨rfl, rfl, rfl, by decide +kernel, rfl, by decide +kernel, by decide +kernel⟩
abbrev s_asked_by : Stmt := topS 21
abbrev n_asked_by : List Str := ["program", "whole", "own", "lost", "found", "row", "more", "n", "behind", "m", "bits"]
theorem sc_asked_by : FnScope n_asked_by ["program"] (defScope s_asked_by) := ⟨rfl, rfl, rfl, by decide +kernel, rfl, by decide +kernel, by decide +kernel⟩
abbrev s_wanted : Stmt := topS 22
abbrev n_wanted : List Str := ["program", "asked", "found", "place"]
theorem sc_wanted : FnScope n_wanted ["program"] (defScope s_wanted) := ⟨rfl, rfl, rfl, by decide +kernel, rfl, by decide +kernel, by decide +kernel⟩
abbrev s_firsts : Stmt := topS 25
abbrev n_firsts : List Str := ["program", "wants", "stood", "back", "found", "place", "bits"]
theorem sc_firsts : FnScope n_firsts ["program"] (defScope s_firsts) := ⟨rfl, rfl, rfl, by decide +kernel, rfl, by decide +kernel, by decide +kernel⟩
abbrev s_put_off : Stmt := topS 28
abbrev n_put_off : List Str := ["program", "k", "stops", "begins", "own", "led", "row", "place", "rows_off", "more", "m", "found"]
theorem sc_put_off : FnScope n_put_off ["program", "k", "stops"] (defScope s_put_off) := ⟨rfl, rfl, rfl, by decide +kernel, rfl, by decide +kernel, by decide +kernel⟩
abbrev s_rows_of : Stmt := topS 30
abbrev n_rows_of : List Str := ["program", "k", "own", "n"]
theorem sc_rows_of : FnScope n_rows_of ["program", "k"] (defScope s_rows_of) := ⟨rfl, rfl, rfl, by decide +kernel, rfl, by decide +kernel, by decide +kernel⟩
abbrev s_paper : Stmt := topS 32
abbrev n_paper : List Str := ["program", "k", "stops", "off", "rows_off", "kept", "place", "lost", "rough", "n", "wished", "hows", "how"]
theorem sc_paper : FnScope n_paper ["program", "k", "stops"] (defScope s_paper) := ⟨rfl, rfl, rfl, by decide +kernel, rfl, by decide +kernel, by decide +kernel⟩
abbrev s_law : Stmt := topS 47
abbrev n_law : List Str := ["_law_script", "_law_names_here", "_law_program_here", "_law_known", "_law_way_here", "_law_k", "_law_one", "_law_hows", "_law_old", "_law_new", "_law_before", "_law_n"]
theorem sc_law : FnScope n_law ["_law_script"] (defScope s_law) := ⟨rfl, rfl, rfl, by decide +kernel, rfl, by decide +kernel, by decide +kernel⟩
theorem bo_dict : bootBuiltins "dict" = some (.type "dict") := by decide +kernel
theorem bo_enumerate : bootBuiltins "enumerate" = some (.type "enumerate") := by decide +kernel
theorem bo_int : bootBuiltins "int" = some (.type "int") := by decide +kernel
theorem bo_len : bootBuiltins "len" = some (.builtin "len") := by decide +kernel
theorem bo_list : bootBuiltins "list" = some (.type "list") := by decide +kernel
theorem bo_range : bootBuiltins "range" = some (.type "range") := by decide +kernel
theorem bo_tuple : bootBuiltins "tuple" = some (.type "tuple") := by decide +kernel
structure Txt (K : PySem.W.Frag) (mg : Str → Option Value) where
  f_law_cell : Addr
  fd_law_cell : FuncData
  F_law_cell : Fun K "_law_cell" "_law_cell" s_law_cell f_law_cell fd_law_cell
  g_law_cell : mg "_law_cell" = some (.ref f_law_cell)
  b_law_cell : Binds K fd_law_cell ["_law_script", "_law_k"] []
  f_law_names : Addr
  fd_law_names : FuncData
  F_law_names : Fun K "_law_names" "_law_names" s_law_names f_law_names fd_law_names
  g_law_names : mg "_law_names" = some (.ref f_law_names)
  b_law_names : Binds K fd_law_names ["_law_cell_here", "_law_at"] []
  f_law_mixed : Addr
  fd_law_mixed : FuncData
  F_law_mixed : Fun K "_law_mixed" "_law_mixed" s_law_mixed f_law_mixed fd_law_mixed
  g_law_mixed : mg "_law_mixed" = some (.ref f_law_mixed)
  b_law_mixed : Binds K fd_law_mixed ["_law_cell_here", "_law_k"] []
  f_law_drawn : Addr
  fd_law_drawn : FuncData
  F_law_drawn : Fun K "_law_drawn" "_law_drawn" s_law_drawn f_law_drawn fd_law_drawn
  g_law_drawn : mg "_law_drawn" = some (.ref f_law_drawn)
  b_law_drawn : Binds K fd_law_drawn ["_law_script", "_law_k"] []
  f_law_followers : Addr
  fd_law_followers : FuncData
  F_law_followers : Fun K "_law_followers" "_law_followers" s_law_followers f_law_followers fd_law_followers
  g_law_followers : mg "_law_followers" = some (.ref f_law_followers)
  b_law_followers : Binds K fd_law_followers ["_law_program_here", "_law_n"] []
  f_law_far : Addr
  fd_law_far : FuncData
  F_law_far : Fun K "_law_far" "_law_far" s_law_far f_law_far fd_law_far
  g_law_far : mg "_law_far" = some (.ref f_law_far)
  b_law_far : Binds K fd_law_far ["_law_program_here"] []
  f_law_reached : Addr
  fd_law_reached : FuncData
  F_law_reached : Fun K "_law_reached" "_law_reached" s_law_reached f_law_reached fd_law_reached
  g_law_reached : mg "_law_reached" = some (.ref f_law_reached)
  b_law_reached : Binds K fd_law_reached ["_law_rows"] []
  f_law_mended : Addr
  fd_law_mended : FuncData
  F_law_mended : Fun K "_law_mended" "_law_mended" s_law_mended f_law_mended fd_law_mended
  g_law_mended : mg "_law_mended" = some (.ref f_law_mended)
  b_law_mended : Binds K fd_law_mended ["_law_rows"] []
  f_law_operand : Addr
  fd_law_operand : FuncData
  F_law_operand : Fun K "_law_operand" "_law_operand" s_law_operand f_law_operand fd_law_operand
  g_law_operand : mg "_law_operand" = some (.ref f_law_operand)
  b_law_operand : Binds K fd_law_operand ["_law_cell_here", "_law_names_here"] []
  f_law_pool : Addr
  fd_law_pool : FuncData
  F_law_pool : Fun K "_law_pool" "_law_pool" s_law_pool f_law_pool fd_law_pool
  g_law_pool : mg "_law_pool" = some (.ref f_law_pool)
  b_law_pool : Binds K fd_law_pool ["_law_script", "_law_names_here"] []
  f_law_row : Addr
  fd_law_row : FuncData
  F_law_row : Fun K "_law_row" "_law_row" s_law_row f_law_row fd_law_row
  g_law_row : mg "_law_row" = some (.ref f_law_row)
  b_law_row : Binds K fd_law_row ["_law_cell_here", "_law_n", "_law_many", "_law_names_here", "_law_pool_here"] []
  f_law_program : Addr
  fd_law_program : FuncData
  F_law_program : Fun K "_law_program" "_law_program" s_law_program f_law_program fd_law_program
  g_law_program : mg "_law_program" = some (.ref f_law_program)
  b_law_program : Binds K fd_law_program ["_law_script", "_law_names_here", "_law_most"] []
  f_law_way : Addr
  fd_law_way : FuncData
  F_law_way : Fun K "_law_way" "_law_way" s_law_way f_law_way fd_law_way
  g_law_way : mg "_law_way" = some (.ref f_law_way)
  b_law_way : Binds K fd_law_way ["_law_program_here", "_law_cells"] []
  f_has_bit : Addr
  fd_has_bit : FuncData
  F_has_bit : Fun K "has_bit" "has_bit" s_has_bit f_has_bit fd_has_bit
  g_has_bit : mg "has_bit" = some (.ref f_has_bit)
  b_has_bit : Binds K fd_has_bit ["bits", "k"] []
  f_followers : Addr
  fd_followers : FuncData
  F_followers : Fun K "followers" "followers" s_followers f_followers fd_followers
  g_followers : mg "followers" = some (.ref f_followers)
  b_followers : Binds K fd_followers ["program", "n"] []
  f_is_kept_for : Addr
  fd_is_kept_for : FuncData
  F_is_kept_for : Fun K "is_kept_for" "is_kept_for" s_is_kept_for f_is_kept_for fd_is_kept_for
  g_is_kept_for : mg "is_kept_for" = some (.ref f_is_kept_for)
  b_is_kept_for : Binds K fd_is_kept_for ["program", "n", "kept", "wished"] []
  f_sets : Addr
  fd_sets : FuncData
  F_sets : Fun K "sets" "sets" s_sets f_sets fd_sets
  g_sets : mg "sets" = some (.ref f_sets)
  b_sets : Binds K fd_sets ["row"] []
  f_changes : Addr
  fd_changes : FuncData
  F_changes : Fun K "changes" "changes" s_changes f_changes fd_changes
  g_changes : mg "changes" = some (.ref f_changes)
  b_changes : Binds K fd_changes ["row", "reckoning"] []
  f_reckoning_of : Addr
  fd_reckoning_of : FuncData
  F_reckoning_of : Fun K "reckoning_of" "reckoning_of" s_reckoning_of f_reckoning_of fd_reckoning_of
  g_reckoning_of : mg "reckoning_of" = some (.ref f_reckoning_of)
  b_reckoning_of : Binds K fd_reckoning_of ["row"] []
  f_reckonings : Addr
  fd_reckonings : FuncData
  F_reckonings : Fun K "reckonings" "reckonings" s_reckonings f_reckonings fd_reckonings
  g_reckonings : mg "reckonings" = some (.ref f_reckonings)
  b_reckonings : Binds K fd_reckonings ["program"] []
  f_lost_bits : Addr
  fd_lost_bits : FuncData
  F_lost_bits : Fun K "lost_bits" "lost_bits" s_lost_bits f_lost_bits fd_lost_bits
  g_lost_bits : mg "lost_bits" = some (.ref f_lost_bits)
  b_lost_bits : Binds K fd_lost_bits ["program"] []
  f_asks_box : Addr
  fd_asks_box : FuncData
  F_asks_box : Fun K "asks_box" "asks_box" s_asks_box f_asks_box fd_asks_box
  g_asks_box : mg "asks_box" = some (.ref f_asks_box)
  b_asks_box : Binds K fd_asks_box ["program", "k", "sheet"] []
  f_places : Addr
  fd_places : FuncData
  F_places : Fun K "places" "places" s_places f_places fd_places
  g_places : mg "places" = some (.ref f_places)
  b_places : Binds K fd_places ["program"] []
  f_live : Addr
  fd_live : FuncData
  F_live : Fun K "live" "live" s_live f_live fd_live
  g_live : mg "live" = some (.ref f_live)
  b_live : Binds K fd_live ["program", "k", "sheet"] []
  f_comes_off : Addr
  fd_comes_off : FuncData
  F_comes_off : Fun K "comes_off" "comes_off" s_comes_off f_comes_off fd_comes_off
  g_comes_off : mg "comes_off" = some (.ref f_comes_off)
  b_comes_off : Binds K fd_comes_off ["place", "k", "begins", "own", "rows_off"] []
  f_all_bits : Addr
  fd_all_bits : FuncData
  F_all_bits : Fun K "all_bits" "all_bits" s_all_bits f_all_bits fd_all_bits
  g_all_bits : mg "all_bits" = some (.ref f_all_bits)
  b_all_bits : Binds K fd_all_bits ["program"] []
  f_own_bits : Addr
  fd_own_bits : FuncData
  F_own_bits : Fun K "own_bits" "own_bits" s_own_bits f_own_bits fd_own_bits
  g_own_bits : mg "own_bits" = some (.ref f_own_bits)
  b_own_bits : Binds K fd_own_bits ["program"] []
  f_kept_back : Addr
  fd_kept_back : FuncData
  F_kept_back : Fun K "kept_back" "kept_back" s_kept_back f_kept_back fd_kept_back
  g_kept_back : mg "kept_back" = some (.ref f_kept_back)
  b_kept_back : Binds K fd_kept_back ["program", "wants"] []
  f_ahead_of : Addr
  fd_ahead_of : FuncData
  F_ahead_of : Fun K "ahead_of" "ahead_of" s_ahead_of f_ahead_of fd_ahead_of
  g_ahead_of : mg "ahead_of" = some (.ref f_ahead_of)
  b_ahead_of : Binds K fd_ahead_of ["program"] []
  f_left_by : Addr
  fd_left_by : FuncData
  F_left_by : Fun K "left_by" "left_by" s_left_by f_left_by fd_left_by
  g_left_by : mg "left_by" = some (.ref f_left_by)
  b_left_by : Binds K fd_left_by ["program"] []
  f_standing : Addr
  fd_standing : FuncData
  F_standing : Fun K "standing" "standing" s_standing f_standing fd_standing
  g_standing : mg "standing" = some (.ref f_standing)
  b_standing : Binds K fd_standing ["program"] []
  f_asked_by : Addr
  fd_asked_by : FuncData
  F_asked_by : Fun K "asked_by" "asked_by" s_asked_by f_asked_by fd_asked_by
  g_asked_by : mg "asked_by" = some (.ref f_asked_by)
  b_asked_by : Binds K fd_asked_by ["program"] []
  f_wanted : Addr
  fd_wanted : FuncData
  F_wanted : Fun K "wanted" "wanted" s_wanted f_wanted fd_wanted
  g_wanted : mg "wanted" = some (.ref f_wanted)
  b_wanted : Binds K fd_wanted ["program"] []
  f_firsts : Addr
  fd_firsts : FuncData
  F_firsts : Fun K "firsts" "firsts" s_firsts f_firsts fd_firsts
  g_firsts : mg "firsts" = some (.ref f_firsts)
  b_firsts : Binds K fd_firsts ["program"] []
  f_put_off : Addr
  fd_put_off : FuncData
  F_put_off : FunD K "put_off" "put_off" (defArgs s_put_off) (defBody s_put_off) (defScope s_put_off) [V.non] [] f_put_off fd_put_off
  g_put_off : mg "put_off" = some (.ref f_put_off)
  b_put_off : Binds K fd_put_off ["program", "k", "stops"] []
  c_put_off : ∃ ds, Vals [V.non] ds ∧ Binds K fd_put_off ["program", "k", "stops"] ds
  f_rows_of : Addr
  fd_rows_of : FuncData
  F_rows_of : Fun K "rows_of" "rows_of" s_rows_of f_rows_of fd_rows_of
  g_rows_of : mg "rows_of" = some (.ref f_rows_of)
  b_rows_of : Binds K fd_rows_of ["program", "k"] []
  f_paper : Addr
  fd_paper : FuncData
  F_paper : FunD K "paper" "paper" (defArgs s_paper) (defBody s_paper) (defScope s_paper) [V.non] [] f_paper fd_paper
  g_paper : mg "paper" = some (.ref f_paper)
  b_paper : Binds K fd_paper ["program", "k", "stops"] []
  c_paper : ∃ ds, Vals [V.non] ds ∧ Binds K fd_paper ["program", "k", "stops"] ds
  f_law : Addr
  fd_law : FuncData
  F_law : Fun K "law" "law" s_law f_law fd_law
  g_law : mg "law" = some (.ref f_law)
  b_law : Binds K fd_law ["_law_script"] []
  z_dict : mg "dict" = none
  z_enumerate : mg "enumerate" = none
  z_int : mg "int" = none
  z_len : mg "len" = none
  z_list : mg "list" = none
  z_range : mg "range" = none
  z_tuple : mg "tuple" = none
section
variable {P : Program} {w : World} {K : PySem.W.Frag} {mg : Str → Option Value} {base : Heap}
theorem ok_law_cell (T : Txt K mg) : FnOk P w K mg base CX0 1 T.f_law_cell T.fd_law_cell ["_law_script", "_law_k"] (spM ⟨K, mg⟩ m_law_cell) :=
  fn_ok (N := n_law_cell) (b := b_law_cell) T.F_law_cell sc_law_cell fun cdv A outer s H E hr =>
    (sss_cons (ss_if (st_cmp om_lt (se_var 1) (se_callB cm_len (by rfl) T.z_len bo_len (sa_cons (se_var 0) sa_nil)) (nomark _)) (sss_one (ss_ret (se_ix (im_ix (hu65 hr)) (se_var 0) (se_var 1) (fun _ _ => rfl)))) sss_nil) (sss_one (ss_ret (se_op om_add (se_op om_mul (se_var 1) se_int) se_int))))
theorem ok_law_names (T : Txt K mg) : FnOk P w K mg base CX0 1 T.f_law_names T.fd_law_names ["_law_cell_here", "_law_at"] (spM ⟨K, mg⟩ m_law_names) :=
  fn_ok (N := n_law_names) (b := b_law_names) T.F_law_names sc_law_names fun cdv A outer s H E hr =>
    (sss_cons (ss_set (i := 2) sc_law_names.nd rfl (by first | exact Or.inl rfl | exact Or.inr rfl) (se_str q_x9_abcdefghijkl)) (sss_cons (ss_set (i := 3) sc_law_names.nd rfl (by first | exact Or.inl rfl | exact Or.inr rfl) (se_lst (sa_cons se_int (sa_cons se_int (sa_cons se_int (sa_cons se_int (sa_cons se_int (sa_cons se_int (sa_cons se_int (sa_cons se_int sa_nil)))))))))) (sss_cons (ss_set (i := 4) sc_law_names.nd rfl (by first | exact Or.inl rfl | exact Or.inr rfl) (se_op om_add se_int (se_op om_mod (se_var 0) se_int))) (sss_cons (ss_setLc (i := 5) (own := [("_law_k", 6)]) rfl sc_law_names.nd rfl rfl (sw_true rfl rfl rfl (by decide +kernel)) (si_rng1 (by rfl) T.z_range (sa_cons (se_var 4) sa_nil)) (blkOk_by (own := [("_law_k", 6)]) (N := n_law_names) (sc := defScope s_law_names) (by decide +kernel)) (gonly_name (by decide)) (fun _ _ _ _ _ => pg_name (i := 6) sc_law_names.nd rfl (by first | exact Or.inl rfl | exact Or.inr rfl)) (fun _ _ _ _ _ => sts_nil) (fun _ _ _ _ _ => (se_op om_mod (se_op om_mod (se_op om_mul (se_op om_div (se_var 0) se_int) se_int) (se_ix (im_ix (hu65 hr)) (se_var 3) (se_var 6) (fun _ _ => rfl))) se_int))) (sss_cons (ss_set (i := 7) sc_law_names.nd rfl (by first | exact Or.inl rfl | exact Or.inr rfl) (se_lst sa_nil)) (sss_cons (ss_for PassesOwn.never rfl (si_rng1 (by rfl) T.z_range (sa_cons se_int sa_nil)) (sg_name (i := 6) sc_law_names.nd rfl (by first | exact Or.inl rfl | exact Or.inr rfl)) (sss_cons (ss_set (i := 8) sc_law_names.nd rfl (by first | exact Or.inl rfl | exact Or.inr rfl) (se_str q_x5_)) (sss_cons (ss_for PassesOwn.never rfl (si_rng1 (by rfl) T.z_range (sa_cons (se_var 4) sa_nil)) (sg_name (i := 9) sc_law_names.nd rfl (by first | exact Or.inl rfl | exact Or.inr rfl)) (sss_cons (ss_set (i := 10) sc_law_names.nd rfl (by first | exact Or.inl rfl | exact Or.inr rfl) (se_op om_mul (se_op om_mul se_int (se_var 6)) (se_callTy cm_int (by rfl) T.z_int bo_int (sa_cons (se_cmp (om_eq (hu65 hr)) (se_var 9) (se_op om_mod (se_var 1) (se_var 4)) (nomark _)) sa_nil)))) (sss_one (ss_set (i := 8) sc_law_names.nd rfl (by first | exact Or.inl rfl | exact Or.inr rfl) (se_op om_add (se_var 8) (se_ix (im_ix (hu65 hr)) (se_var 2) (se_op om_mod (se_op om_add (se_ix (im_ix (hu65 hr)) (se_var 5) (se_var 9) (fun _ _ => rfl)) (se_var 10)) se_int) (fun _ _ => rfl))))))) (sss_cons (ss_if (st_cmp (om_in (hu65 hr)) (se_var 8) (se_lst (sa_cons (se_str q_say) (sa_cons (se_str q_go) (sa_cons (se_str q_part) (sa_cons (se_str q_end) sa_nil))))) rfl) (sss_one (ss_set (i := 8) sc_law_names.nd rfl (by first | exact Or.inl rfl | exact Or.inr rfl) (se_op om_add (se_var 8) (se_str q_x)))) sss_nil) (sss_one (ss_expr (se_mt PySem.F.plainAttrs_list PySem.F.slot_list_append PySem.F.type_list_append mm_append ty_list (se_var 7) (sa_cons (se_var 8) sa_nil)))))))) (sss_one (ss_ret (se_var 7)))))))))
theorem ok_law_mixed (T : Txt K mg) : FnOk P w K mg base CX0 1 T.f_law_mixed T.fd_law_mixed ["_law_cell_here", "_law_k"] (spM ⟨K, mg⟩ m_law_mixed) :=
  fn_ok (N := n_law_mixed) (b := b_law_mixed) T.F_law_mixed sc_law_mixed fun cdv A outer s H E hr =>
    (sss_cons (ss_set (i := 2) sc_law_mixed.nd rfl (by first | exact Or.inl rfl | exact Or.inr rfl) (se_op om_mod (se_op om_mul (se_op om_add (se_op om_mod (se_var 0) se_int) se_int) (se_op om_add se_int (se_op om_mul se_int (se_var 1)))) se_int)) (sss_one (ss_ret (se_op om_add (se_op om_mul (se_op om_mod (se_op om_mul (se_var 2) (se_op om_add (se_op om_mod (se_var 2) se_int) se_int)) se_int) se_int) (se_var 2)))))
theorem ok_law_drawn (T : Txt K mg) : FnOk P w K mg base CX0 2 T.f_law_drawn T.fd_law_drawn ["_law_script", "_law_k"] (spM ⟨K, mg⟩ m_law_drawn) :=
  fn_ok (N := n_law_drawn) (b := b_law_drawn) T.F_law_drawn sc_law_drawn fun cdv A outer s H E hr =>
    (sss_cons (ss_if (st_cmp (om_eq (hu65 hr)) (se_op om_mod (se_call (ok_law_cell T) (hr.mono (by decide)) (by rfl) T.g_law_cell T.F_law_cell.kp T.b_law_cell pass0 (sa_cons (se_var 0) (sa_cons se_int sa_nil))) se_int) se_int (nomark _)) (sss_one (ss_ret (se_call (ok_law_mixed T) (hr.mono (by decide)) (by rfl) T.g_law_mixed T.F_law_mixed.kp T.b_law_mixed pass0 (sa_cons (se_call (ok_law_cell T) (hr.mono (by decide)) (by rfl) T.g_law_cell T.F_law_cell.kp T.b_law_cell pass0 (sa_cons (se_var 0) (sa_cons (se_var 1) sa_nil))) (sa_cons (se_var 1) sa_nil))))) sss_nil) (sss_one (ss_ret (se_call (ok_law_cell T) (hr.mono (by decide)) (by rfl) T.g_law_cell T.F_law_cell.kp T.b_law_cell pass0 (sa_cons (se_var 0) (sa_cons (se_var 1) sa_nil))))))
theorem ok_law_followers (T : Txt K mg) : FnOk P w K mg base CX0 1 T.f_law_followers T.fd_law_followers ["_law_program_here", "_law_n"] (spM ⟨K, mg⟩ m_law_followers) :=
  fn_ok (N := n_law_followers) (b := b_law_followers) T.F_law_followers sc_law_followers fun cdv A outer s H E hr =>
    (sss_cons (ss_set (i := 2) sc_law_followers.nd rfl (by first | exact Or.inl rfl | exact Or.inr rfl) (se_ix (im_ix (hu65 hr)) (se_var 0) (se_var 1) (fun _ _ => rfl))) (sss_cons (ss_if (st_cmp (om_eq (hu65 hr)) (se_ix (im_ix (hu65 hr)) (se_var 2) se_int (fun _ _ => rfl)) (se_str q_go) (nomark _)) (sss_one (ss_ret (se_lst (sa_cons (se_ix (im_ix (hu65 hr)) (se_var 2) se_int (fun _ _ => rfl)) sa_nil)))) sss_nil) (sss_cons (ss_if (st_cmp (om_eq (hu65 hr)) (se_ix (im_ix (hu65 hr)) (se_var 2) se_int (fun _ _ => rfl)) (se_str q_part) (nomark _)) (sss_one (ss_ret (se_lst (sa_cons (se_op om_add (se_var 1) se_int) (sa_cons (se_ix (im_ix (hu65 hr)) (se_var 2) se_int (fun _ _ => rfl)) sa_nil))))) sss_nil) (sss_cons (ss_if (st_cmp (om_eq (hu65 hr)) (se_ix (im_ix (hu65 hr)) (se_var 2) se_int (fun _ _ => rfl)) (se_str q_end) (nomark _)) (sss_one (ss_ret (se_lst sa_nil))) sss_nil) (sss_one (ss_ret (se_lst (sa_cons (se_op om_add (se_var 1) se_int) sa_nil))))))))
theorem ok_law_far (T : Txt K mg) : FnOk P w K mg base CX0 2 T.f_law_far T.fd_law_far ["_law_program_here"] (spM ⟨K, mg⟩ m_law_far) :=
  fn_ok (N := n_law_far) (b := b_law_far) T.F_law_far sc_law_far fun cdv A outer s H E hr =>
    (sss_cons (ss_set (i := 1) sc_law_far.nd rfl (by first | exact Or.inl rfl | exact Or.inr rfl) se_newK) (sss_cons (ss_for PassesOwn.never rfl (si_rng1 (by rfl) T.z_range (sa_cons (se_callB cm_len (by rfl) T.z_len bo_len (sa_cons (se_var 0) sa_nil)) sa_nil)) (sg_name (i := 2) sc_law_far.nd rfl (by first | exact Or.inl rfl | exact Or.inr rfl)) (sss_one (ss_if (st_cmp (om_eq (hu65 hr)) (se_ix (im_ix (hu65 hr)) (se_ix (im_ix (hu65 hr)) (se_var 0) (se_var 2) (fun _ _ => rfl)) se_int (fun _ _ => rfl)) (se_str q_end) (nomark _)) (sss_one (ss_asg se_int (sg_sub (hu65 hr) (se_var 1) (se_var 2)))) sss_nil))) (sss_cons (ss_set (i := 3) sc_law_far.nd rfl (by first | exact Or.inl rfl | exact Or.inr rfl) se_bl) (sss_cons (ss_while PassesOwn.never (st_tru (se_var 3)) (sss_cons (ss_set (i := 3) sc_law_far.nd rfl (by first | exact Or.inl rfl | exact Or.inr rfl) se_bl) (sss_one (ss_for PassesOwn.never rfl (si_rngD (by rfl) T.z_range (sa_cons (se_op om_sub (se_callB cm_len (by rfl) T.z_len bo_len (sa_cons (se_var 0) sa_nil)) se_int) (sa_cons (se_neg se_int) (sa_cons (se_neg se_int) sa_nil)))) (sg_name (i := 2) sc_law_far.nd rfl (by first | exact Or.inl rfl | exact Or.inr rfl)) (sss_one (ss_for PassesOwn.never rfl (si_seq (se_call (ok_law_followers T) (hr.mono (by decide)) (by rfl) T.g_law_followers T.F_law_followers.kp T.b_law_followers pass0 (sa_cons (se_var 0) (sa_cons (se_var 2) sa_nil)))) (sg_name (i := 4) sc_law_far.nd rfl (by first | exact Or.inl rfl | exact Or.inr rfl)) (sss_one (ss_if (st_w (sw_and (st_cmp (om_in (hu65 hr)) (se_var 4) (se_var 1) rfl) (sw_and1 (st_w (sw_or (st_cmp (om_notin (hu65 hr)) (se_var 2) (se_var 1) rfl) (sw_or1 (st_cmp om_lt (se_op om_add (se_ix (im_ix (hu65 hr)) (se_var 1) (se_var 4) (fun _ _ => rfl)) se_int) (se_ix (im_ix (hu65 hr)) (se_var 1) (se_var 2) (fun _ _ => rfl)) (nomark _)))))))) (sss_cons (ss_asg (se_op om_add (se_ix (im_ix (hu65 hr)) (se_var 1) (se_var 4) (fun _ _ => rfl)) se_int) (sg_sub (hu65 hr) (se_var 1) (se_var 2))) (sss_one (ss_set (i := 3) sc_law_far.nd rfl (by first | exact Or.inl rfl | exact Or.inr rfl) se_bl))) sss_nil)))))))) (sss_one (ss_ret (se_var 1)))))))
theorem ok_law_reached (T : Txt K mg) : FnOk P w K mg base CX0 2 T.f_law_reached T.fd_law_reached ["_law_rows"] (spM ⟨K, mg⟩ m_law_reached) :=
  fn_ok (N := n_law_reached) (b := b_law_reached) T.F_law_reached sc_law_reached fun cdv A outer s H E hr =>
    (sss_cons (ss_set (i := 1) sc_law_reached.nd rfl (by first | exact Or.inl rfl | exact Or.inr rfl) (se_dis (sps_cons se_int se_bl sps_nil) rfl rfl (List.cons_ne_nil _ _) (by decide))) (sss_cons (ss_set (i := 2) sc_law_reached.nd rfl (by first | exact Or.inl rfl | exact Or.inr rfl) (se_lst (sa_cons se_int sa_nil))) (sss_cons (ss_while PassesOwn.never (st_cmp (om_ne (hu65 hr)) (se_var 2) (se_lst sa_nil) (nomark _)) (sss_one (ss_for PassesOwn.never rfl (si_seq (se_call (ok_law_followers T) (hr.mono (by decide)) (by rfl) T.g_law_followers T.F_law_followers.kp T.b_law_followers pass0 (sa_cons (se_var 0) (sa_cons (se_mt0 PySem.F.plainAttrs_list PySem.F.slot_list_pop PySem.F.type_list_pop mm_pop ty_list (se_var 2)) sa_nil)))) (sg_name (i := 3) sc_law_reached.nd rfl (by first | exact Or.inl rfl | exact Or.inr rfl)) (sss_one (ss_if (st_cmp (om_notin (hu65 hr)) (se_var 3) (se_var 1) rfl) (sss_cons (ss_asg se_bl (sg_sub (hu65 hr) (se_var 1) (se_var 3))) (sss_one (ss_expr (se_mt PySem.F.plainAttrs_list PySem.F.slot_list_append PySem.F.type_list_append mm_append ty_list (se_var 2) (sa_cons (se_var 3) sa_nil))))) sss_nil))))) (sss_one (ss_ret (se_var 1))))))
theorem ok_law_mended (T : Txt K mg) : FnOk P w K mg base CX0 3 T.f_law_mended T.fd_law_mended ["_law_rows"] (spM ⟨K, mg⟩ m_law_mended) :=
  fn_ok (N := n_law_mended) (b := b_law_mended) T.F_law_mended sc_law_mended fun cdv A outer s H E hr =>
    (sss_cons (ss_set (i := 1) sc_law_mended.nd rfl (by first | exact Or.inl rfl | exact Or.inr rfl) (se_op om_sub (se_callB cm_len (by rfl) T.z_len bo_len (sa_cons (se_var 0) sa_nil)) se_int)) (sss_cons (ss_if (st_cmp (om_ne (hu65 hr)) (se_ix (im_ix (hu65 hr)) (se_ix (im_ix (hu65 hr)) (se_var 0) (se_var 1) (fun _ _ => rfl)) se_int (fun _ _ => rfl)) (se_str q_go) (nomark _)) (sss_one (ss_asg (se_tup (sa_cons (se_str q_end) sa_nil)) (sg_sub (hu65 hr) (se_var 0) (se_var 1)))) sss_nil) (sss_cons (ss_for PassesOwn.never rfl (si_rng1 (by rfl) T.z_range (sa_cons (se_op om_mul se_int (se_callB cm_len (by rfl) T.z_len bo_len (sa_cons (se_var 0) sa_nil))) sa_nil)) (sg_name (i := 2) sc_law_mended.nd rfl (by first | exact Or.inl rfl | exact Or.inr rfl)) (sss_cons (ss_set (i := 3) sc_law_mended.nd rfl (by first | exact Or.inl rfl | exact Or.inr rfl) (se_call (ok_law_reached T) (hr.mono (by decide)) (by rfl) T.g_law_reached T.F_law_reached.kp T.b_law_reached pass0 (sa_cons (se_var 0) sa_nil))) (sss_cons (ss_set (i := 4) sc_law_mended.nd rfl (by first | exact Or.inl rfl | exact Or.inr rfl) (se_call (ok_law_far T) (hr.mono (by decide)) (by rfl) T.g_law_far T.F_law_far.kp T.b_law_far pass0 (sa_cons (se_var 0) sa_nil))) (sss_cons (ss_setLc (i := 5) (own := [("_law_n", 6)]) rfl sc_law_mended.nd rfl rfl (sw_true rfl rfl rfl (by decide +kernel)) (si_rng1 (by rfl) T.z_range (sa_cons (se_callB cm_len (by rfl) T.z_len bo_len (sa_cons (se_var 0) sa_nil)) sa_nil)) (blkOk_by (own := [("_law_n", 6)]) (N := n_law_mended) (sc := defScope s_law_mended) (by decide +kernel)) (gonly_name (by decide)) (fun _ _ _ _ _ => pg_name (i := 6) sc_law_mended.nd rfl (by first | exact Or.inl rfl | exact Or.inr rfl)) (fun _ _ _ _ _ => sts_one (st_cmp (om_notin (hu65 hr)) (se_var 6) (se_var 3) rfl)) (fun _ _ _ _ _ => (se_var 6))) (sss_cons (ss_setLc (i := 7) (own := [("_law_n", 6)]) rfl sc_law_mended.nd rfl rfl (sw_true rfl rfl rfl (by decide +kernel)) (si_rng1 (by rfl) T.z_range (sa_cons (se_callB cm_len (by rfl) T.z_len bo_len (sa_cons (se_var 0) sa_nil)) sa_nil)) (blkOk_by (own := [("_law_n", 6)]) (N := n_law_mended) (sc := defScope s_law_mended) (by decide +kernel)) (gonly_name (by decide)) (fun _ _ _ _ _ => pg_name (i := 6) sc_law_mended.nd rfl (by first | exact Or.inl rfl | exact Or.inr rfl)) (fun _ _ _ _ _ => sts_one (st_cmp (om_notin (hu65 hr)) (se_var 6) (se_var 4) rfl)) (fun _ _ _ _ _ => (se_var 6))) (sss_one (ss_if (st_cmp (om_ne (hu65 hr)) (se_var 5) (se_lst sa_nil) (nomark _)) (sss_one (ss_asg (se_tup (sa_cons (se_str q_say) (sa_cons (se_var 2) sa_nil))) (sg_sub (hu65 hr) (se_var 0) (se_op om_sub (se_ix (im_ix (hu65 hr)) (se_var 5) se_int (fun _ _ => rfl)) se_int)))) (sss_one (ss_if (st_w (sw_and (st_cmp (om_ne (hu65 hr)) (se_var 7) (se_lst sa_nil) (nomark _)) (sw_and1 (st_cmp (om_eq (hu65 hr)) (se_ix (im_ix (hu65 hr)) (se_var 7) (se_neg se_int) (fun _ _ => rfl)) (se_var 1) (nomark _))))) (sss_one (ss_asg (se_tup (sa_cons (se_str q_end) sa_nil)) (sg_sub (hu65 hr) (se_var 0) (se_var 1)))) (sss_one (ss_if (st_cmp (om_ne (hu65 hr)) (se_var 7) (se_lst sa_nil) (nomark _)) (sss_one (ss_asg (se_tup (sa_cons (se_str q_say) (sa_cons (se_var 2) sa_nil))) (sg_sub (hu65 hr) (se_var 0) (se_ix (im_ix (hu65 hr)) (se_var 7) (se_neg se_int) (fun _ _ => rfl))))) (sss_one (ss_ret (se_var 0)))))))))))))) (sss_one (ss_ret (se_var 0))))))
theorem ok_law_operand (T : Txt K mg) : FnOk P w K mg base CX0 1 T.f_law_operand T.fd_law_operand ["_law_cell_here", "_law_names_here"] (spM ⟨K, mg⟩ m_law_operand) :=
  fn_ok (N := n_law_operand) (b := b_law_operand) T.F_law_operand sc_law_operand fun cdv A outer s H E hr =>
    (sss_cons (ss_if (st_cmp (om_eq (hu65 hr)) (se_op om_mod (se_var 0) se_int) se_int (nomark _)) (sss_cons (ss_set (i := 2) sc_law_operand.nd rfl (by first | exact Or.inl rfl | exact Or.inr rfl) (se_op om_div (se_var 0) se_int)) (sss_one (ss_ret (se_ix (im_ix (hu65 hr)) (se_lst (sa_cons (se_op om_mod (se_var 2) se_int) (sa_cons (se_op om_mod (se_op om_mul (se_var 2) se_int) (se_op om_pow se_int se_int)) (sa_cons (se_op om_sub (se_op om_sub (se_op om_pow se_int se_int) se_int) (se_op om_mod (se_var 2) se_int)) sa_nil)))) (se_op om_mod (se_op om_div (se_var 0) se_int) se_int) (fun _ _ => rfl))))) sss_nil) (sss_one (ss_ret (se_ix (im_ix (hu65 hr)) (se_var 1) (se_op om_mod (se_op om_div (se_var 0) se_int) se_int) (fun _ _ => rfl)))))
theorem ok_law_pool (T : Txt K mg) : FnOk P w K mg base CX0 3 T.f_law_pool T.fd_law_pool ["_law_script", "_law_names_here"] (spM ⟨K, mg⟩ m_law_pool) :=
  fn_ok (N := n_law_pool) (b := b_law_pool) T.F_law_pool sc_law_pool fun cdv A outer s H E hr =>
    (sss_cons (ss_set (i := 2) sc_law_pool.nd rfl (by first | exact Or.inl rfl | exact Or.inr rfl) (se_call (ok_law_drawn T) (hr.mono (by decide)) (by rfl) T.g_law_drawn T.F_law_drawn.kp T.b_law_drawn pass0 (sa_cons (se_var 0) (sa_cons se_int sa_nil)))) (sss_cons (ss_set (i := 3) sc_law_pool.nd rfl (by first | exact Or.inl rfl | exact Or.inr rfl) (se_op om_mod (se_call (ok_law_cell T) (hr.mono (by decide)) (by rfl) T.g_law_cell T.F_law_cell.kp T.b_law_cell pass0 (sa_cons (se_var 0) (sa_cons se_int sa_nil))) se_int)) (sss_cons (ss_set (i := 4) sc_law_pool.nd rfl (by first | exact Or.inl rfl | exact Or.inr rfl) (se_ix (im_ix (hu65 hr)) (se_lst (sa_cons (se_op om_add se_int (se_op om_mod (se_var 2) se_int)) (sa_cons (se_ix (im_ix (hu65 hr)) (se_lst (sa_cons se_int (sa_cons se_int (sa_cons se_int (sa_cons se_int (sa_cons se_int (sa_cons se_int (sa_cons se_int (sa_cons se_int sa_nil))))))))) (se_op om_mod (se_var 2) se_int) (fun _ _ => rfl)) sa_nil))) (se_var 3) (fun _ _ => rfl))) (sss_cons (ss_set (i := 5) sc_law_pool.nd rfl (by first | exact Or.inl rfl | exact Or.inr rfl) (se_ix (im_ix (hu65 hr)) (se_lst (sa_cons (se_op om_mul (se_op om_pow se_int se_int) se_int) (sa_cons se_int sa_nil))) (se_var 3) (fun _ _ => rfl))) (sss_cons (ss_set (i := 2) sc_law_pool.nd rfl (by first | exact Or.inl rfl | exact Or.inr rfl) (se_op om_div (se_var 2) se_int)) (sss_cons (ss_set (i := 6) sc_law_pool.nd rfl (by first | exact Or.inl rfl | exact Or.inr rfl) (se_lst sa_nil)) (sss_cons (ss_for PassesOwn.never rfl (si_rng1 (by rfl) T.z_range (sa_cons (se_var 4) sa_nil)) (sg_name (i := 7) sc_law_pool.nd rfl (by first | exact Or.inl rfl | exact Or.inr rfl)) (sss_cons (ss_if (st_cmp (om_eq (hu65 hr)) (se_var 3) se_int (nomark _)) (sss_one (ss_set (i := 2) sc_law_pool.nd rfl (by first | exact Or.inl rfl | exact Or.inr rfl) (se_call (ok_law_mixed T) (hr.mono (by decide)) (by rfl) T.g_law_mixed T.F_law_mixed.kp T.b_law_mixed pass0 (sa_cons (se_var 2) (sa_cons (se_var 7) sa_nil))))) sss_nil) (sss_cons (ss_set (i := 8) sc_law_pool.nd rfl (by first | exact Or.inl rfl | exact Or.inr rfl) (se_call (ok_law_operand T) (hr.mono (by decide)) (by rfl) T.g_law_operand T.F_law_operand.kp T.b_law_operand pass0 (sa_cons (se_op om_mod (se_op om_div (se_var 2) se_int) (se_var 5)) (sa_cons (se_var 1) sa_nil)))) (sss_cons (ss_expr (se_mt PySem.F.plainAttrs_list PySem.F.slot_list_append PySem.F.type_list_append mm_append ty_list (se_var 6) (sa_cons (se_tup (sa_cons (se_ix (im_ix (hu65 hr)) (se_str q_x12_) (se_op om_mod (se_var 2) se_int) (fun _ _ => rfl)) (sa_cons (se_var 8) (sa_cons (se_call (ok_law_operand T) (hr.mono (by decide)) (by rfl) T.g_law_operand T.F_law_operand.kp T.b_law_operand pass0 (sa_cons (se_op om_mod (se_op om_div (se_op om_div (se_var 2) se_int) (se_var 5)) (se_var 5)) (sa_cons (se_var 1) sa_nil))) sa_nil)))) sa_nil))) (sss_one (ss_if (st_cmp (om_eq (hu65 hr)) (se_var 3) se_int (nomark _)) (sss_one (ss_set (i := 2) sc_law_pool.nd rfl (by first | exact Or.inl rfl | exact Or.inr rfl) (se_op om_div (se_op om_div (se_op om_div (se_var 2) se_int) (se_var 5)) (se_var 5)))) sss_nil)))))) (sss_one (ss_ret (se_var 6))))))))))
theorem ok_law_row (T : Txt K mg) : FnOk P w K mg base CX0 2 T.f_law_row T.fd_law_row ["_law_cell_here", "_law_n", "_law_many", "_law_names_here", "_law_pool_here"] (spM ⟨K, mg⟩ m_law_row) :=
  fn_ok (N := n_law_row) (b := b_law_row) T.F_law_row sc_law_row fun cdv A outer s H E hr =>
    (sss_cons (ss_set (i := 5) sc_law_row.nd rfl (by first | exact Or.inl rfl | exact Or.inr rfl) (se_op om_mod (se_var 0) se_int)) (sss_cons (ss_set (i := 6) sc_law_row.nd rfl (by first | exact Or.inl rfl | exact Or.inr rfl) (se_op om_div (se_var 0) se_int)) (sss_cons (ss_if (st_cmp om_lt (se_var 5) se_int (nomark _)) (sss_one (ss_ret (se_op om_add (se_tup (sa_cons (se_str q_reckon) (sa_cons (se_ix (im_ix (hu65 hr)) (se_var 3) (se_op om_mod (se_var 6) se_int) (fun _ _ => rfl)) sa_nil))) (se_ix (im_ix (hu65 hr)) (se_var 4) (se_op om_mod (se_op om_div (se_var 6) se_int) (se_callB cm_len (by rfl) T.z_len bo_len (sa_cons (se_var 4) sa_nil))) (fun _ _ => rfl))))) sss_nil) (sss_cons (ss_if (st_cmp om_lt (se_var 5) se_int (nomark _)) (sss_one (ss_ret (se_tup (sa_cons (se_str q_copy) (sa_cons (se_ix (im_ix (hu65 hr)) (se_var 3) (se_op om_mod (se_var 6) se_int) (fun _ _ => rfl)) (sa_cons (se_call (ok_law_operand T) (hr.mono (by decide)) (by rfl) T.g_law_operand T.F_law_operand.kp T.b_law_operand pass0 (sa_cons (se_op om_div (se_var 6) se_int) (sa_cons (se_var 3) sa_nil))) sa_nil)))))) sss_nil) (sss_cons (ss_if (st_cmp om_lt (se_var 5) se_int (nomark _)) (sss_one (ss_ret (se_tup (sa_cons (se_str q_say) (sa_cons (se_call (ok_law_operand T) (hr.mono (by decide)) (by rfl) T.g_law_operand T.F_law_operand.kp T.b_law_operand pass0 (sa_cons (se_var 6) (sa_cons (se_var 3) sa_nil))) sa_nil))))) sss_nil) (sss_cons (ss_if (st_w (sw_and (st_cmp om_lt (se_var 5) se_int (nomark _)) (sw_and1 (st_cmp om_gt (se_var 2) se_int (nomark _))))) (sss_one (ss_ret (se_tup (sa_cons (se_str q_part) (sa_cons (se_call (ok_law_operand T) (hr.mono (by decide)) (by rfl) T.g_law_operand T.F_law_operand.kp T.b_law_operand pass0 (sa_cons (se_op om_div (se_var 6) (se_op om_sub (se_var 2) se_int)) (sa_cons (se_var 3) sa_nil))) (sa_cons (se_op om_mod (se_op om_add (se_op om_add (se_var 1) se_int) (se_op om_mod (se_var 6) (se_op om_sub (se_var 2) se_int))) (se_var 2)) sa_nil)))))) sss_nil) (sss_cons (ss_if (st_cmp (om_eq (hu65 hr)) (se_var 5) se_int (nomark _)) (sss_one (ss_ret (se_tup (sa_cons (se_str q_go) (sa_cons (se_op om_mod (se_var 6) (se_var 2)) sa_nil))))) sss_nil) (sss_one (ss_ret (se_tup (sa_cons (se_str q_end) sa_nil)))))))))))
theorem ok_law_program (T : Txt K mg) : FnOk P w K mg base CX0 4 T.f_law_program T.fd_law_program ["_law_script", "_law_names_here", "_law_most"] (spM ⟨K, mg⟩ m_law_program) :=
  fn_ok (N := n_law_program) (b := b_law_program) T.F_law_program sc_law_program fun cdv A outer s H E hr =>
    (sss_cons (ss_set (i := 3) sc_law_program.nd rfl (by first | exact Or.inl rfl | exact Or.inr rfl) (se_op om_add se_int (se_op om_mod (se_op om_div (se_call (ok_law_cell T) (hr.mono (by decide)) (by rfl) T.g_law_cell T.F_law_cell.kp T.b_law_cell pass0 (sa_cons (se_var 0) (sa_cons se_int sa_nil))) se_int) (se_var 2)))) (sss_cons (ss_set (i := 4) sc_law_program.nd rfl (by first | exact Or.inl rfl | exact Or.inr rfl) (se_call (ok_law_pool T) (hr.mono (by decide)) (by rfl) T.g_law_pool T.F_law_pool.kp T.b_law_pool pass0 (sa_cons (se_var 0) (sa_cons (se_var 1) sa_nil)))) (sss_one (ss_ret (se_call (ok_law_mended T) (hr.mono (by decide)) (by rfl) T.g_law_mended T.F_law_mended.kp T.b_law_mended pass0 (sa_cons (se_lc (own := [("_law_n", 5)]) rfl sc_law_program.nd (si_rng1 (by rfl) T.z_range (sa_cons (se_var 3) sa_nil)) (blkOk_by (own := [("_law_n", 5)]) (N := n_law_program) (sc := defScope s_law_program) (by decide +kernel)) (gonly_name (by decide)) (fun _ _ _ _ _ => pg_name (i := 5) sc_law_program.nd rfl (by first | exact Or.inl rfl | exact Or.inr rfl)) (fun _ _ _ _ _ => sts_nil) (fun _ _ _ _ _ => (se_call (ok_law_row T) (hr.mono (by decide)) (by rfl) T.g_law_row T.F_law_row.kp T.b_law_row pass0 (sa_cons (se_call (ok_law_drawn T) (hr.mono (by decide)) (by rfl) T.g_law_drawn T.F_law_drawn.kp T.b_law_drawn pass0 (sa_cons (se_var 0) (sa_cons (se_op om_add se_int (se_var 5)) sa_nil))) (sa_cons (se_var 5) (sa_cons (se_var 3) (sa_cons (se_var 1) (sa_cons (se_var 4) sa_nil)))))))) sa_nil))))))
theorem ok_law_way (T : Txt K mg) : FnOk P w K mg base CX0 3 T.f_law_way T.fd_law_way ["_law_program_here", "_law_cells"] (spM ⟨K, mg⟩ m_law_way) :=
  fn_ok (N := n_law_way) (b := b_law_way) T.F_law_way sc_law_way fun cdv A outer s H E hr =>
    (sss_cons (ss_set (i := 2) sc_law_way.nd rfl (by first | exact Or.inl rfl | exact Or.inr rfl) (se_call (ok_law_far T) (hr.mono (by decide)) (by rfl) T.g_law_far T.F_law_far.kp T.b_law_far pass0 (sa_cons (se_var 0) sa_nil))) (sss_cons (ss_set (i := 3) sc_law_way.nd rfl (by first | exact Or.inl rfl | exact Or.inr rfl) (se_lst (sa_cons se_int sa_nil))) (sss_cons (ss_for PassesOwn.never rfl (si_seq (se_var 1)) (sg_name (i := 4) sc_law_way.nd rfl (by first | exact Or.inl rfl | exact Or.inr rfl)) (sss_cons (ss_set (i := 5) sc_law_way.nd rfl (by first | exact Or.inl rfl | exact Or.inr rfl) (se_call (ok_law_followers T) (hr.mono (by decide)) (by rfl) T.g_law_followers T.F_law_followers.kp T.b_law_followers pass0 (sa_cons (se_var 0) (sa_cons (se_ix (im_ix (hu65 hr)) (se_var 3) (se_neg se_int) (fun _ _ => rfl)) sa_nil)))) (sss_one (ss_if (st_cmp (om_ne (hu65 hr)) (se_var 5) (se_lst sa_nil) (nomark _)) (sss_one (ss_expr (se_mt PySem.F.plainAttrs_list PySem.F.slot_list_append PySem.F.type_list_append mm_append ty_list (se_var 3) (sa_cons (se_ix (im_ix (hu65 hr)) (se_var 5) (se_op om_mod (se_var 4) (se_callB cm_len (by rfl) T.z_len bo_len (sa_cons (se_var 5) sa_nil))) (fun _ _ => rfl)) sa_nil)))) sss_nil)))) (sss_cons (ss_while PassesOwn.never (st_cmp (om_ne (hu65 hr)) (se_ix (im_ix (hu65 hr)) (se_ix (im_ix (hu65 hr)) (se_var 0) (se_ix (im_ix (hu65 hr)) (se_var 3) (se_neg se_int) (fun _ _ => rfl)) (fun _ _ => rfl)) se_int (fun _ _ => rfl)) (se_str q_end) (nomark _)) (sss_cons (ss_set (i := 5) sc_law_way.nd rfl (by first | exact Or.inl rfl | exact Or.inr rfl) (se_call (ok_law_followers T) (hr.mono (by decide)) (by rfl) T.g_law_followers T.F_law_followers.kp T.b_law_followers pass0 (sa_cons (se_var 0) (sa_cons (se_ix (im_ix (hu65 hr)) (se_var 3) (se_neg se_int) (fun _ _ => rfl)) sa_nil)))) (sss_cons (ss_set (i := 6) sc_law_way.nd rfl (by first | exact Or.inl rfl | exact Or.inr rfl) (se_ix (im_ix (hu65 hr)) (se_var 5) se_int (fun _ _ => rfl))) (sss_cons (ss_for PassesOwn.never rfl (si_seq (se_var 5)) (sg_name (i := 7) sc_law_way.nd rfl (by first | exact Or.inl rfl | exact Or.inr rfl)) (sss_one (ss_if (st_cmp om_lt (se_ix (im_ix (hu65 hr)) (se_var 2) (se_var 7) (fun _ _ => rfl)) (se_ix (im_ix (hu65 hr)) (se_var 2) (se_var 6) (fun _ _ => rfl)) (nomark _)) (sss_one (ss_set (i := 6) sc_law_way.nd rfl (by first | exact Or.inl rfl | exact Or.inr rfl) (se_var 7))) sss_nil))) (sss_one (ss_expr (se_mt PySem.F.plainAttrs_list PySem.F.slot_list_append PySem.F.type_list_append mm_append ty_list (se_var 3) (sa_cons (se_var 6) sa_nil)))))))) (sss_one (ss_ret (se_var 3)))))))
theorem ok_has_bit (T : Txt K mg) : FnOk P w K mg base CX0 1 T.f_has_bit T.fd_has_bit ["bits", "k"] (spM ⟨K, mg⟩ m_has_bit) :=
  fn_ok (N := n_has_bit) (b := b_has_bit) T.F_has_bit sc_has_bit fun cdv A outer s H E hr =>
    (sss_one (ss_ret (se_cmp (om_eq (hu65 hr)) (se_op om_and (se_op om_shr (se_var 0) (se_var 1)) se_int) se_int (nomark _))))
theorem ok_followers (T : Txt K mg) : FnOk P w K mg base CX0 1 T.f_followers T.fd_followers ["program", "n"] (spM ⟨K, mg⟩ m_followers) :=
  fn_ok (N := n_followers) (b := b_followers) T.F_followers sc_followers fun cdv A outer s H E hr =>
    (sss_cons (ss_set (i := 2) sc_followers.nd rfl (by first | exact Or.inl rfl | exact Or.inr rfl) (se_ix (im_ix (hu65 hr)) (se_var 0) (se_var 1) (fun _ _ => rfl))) (sss_cons (ss_if (st_cmp (om_eq (hu65 hr)) (se_ix (im_ix (hu65 hr)) (se_var 2) se_int (fun _ _ => rfl)) (se_str q_go) (nomark _)) (sss_one (ss_ret (se_lst (sa_cons (se_ix (im_ix (hu65 hr)) (se_var 2) se_int (fun _ _ => rfl)) sa_nil)))) sss_nil) (sss_cons (ss_if (st_cmp (om_eq (hu65 hr)) (se_ix (im_ix (hu65 hr)) (se_var 2) se_int (fun _ _ => rfl)) (se_str q_part) (nomark _)) (sss_one (ss_ret (se_lst (sa_cons (se_op om_add (se_var 1) se_int) (sa_cons (se_ix (im_ix (hu65 hr)) (se_var 2) se_int (fun _ _ => rfl)) sa_nil))))) sss_nil) (sss_cons (ss_if (st_cmp (om_eq (hu65 hr)) (se_ix (im_ix (hu65 hr)) (se_var 2) se_int (fun _ _ => rfl)) (se_str q_end) (nomark _)) (sss_one (ss_ret (se_lst sa_nil))) sss_nil) (sss_one (ss_ret (se_lst (sa_cons (se_op om_add (se_var 1) se_int) sa_nil))))))))
theorem ok_is_kept_for (T : Txt K mg) : FnOk P w K mg base CX0 2 T.f_is_kept_for T.fd_is_kept_for ["program", "n", "kept", "wished"] (spM ⟨K, mg⟩ m_is_kept_for) :=
  fn_ok (N := n_is_kept_for) (b := b_is_kept_for) T.F_is_kept_for sc_is_kept_for fun cdv A outer s H E hr =>
    (sss_cons (ss_for PassesOwn.never rfl (si_seq (se_call (ok_followers T) (hr.mono (by decide)) (by rfl) T.g_followers T.F_followers.kp T.b_followers pass0 (sa_cons (se_var 0) (sa_cons (se_var 1) sa_nil)))) (sg_name (i := 4) sc_is_kept_for.nd rfl (by first | exact Or.inl rfl | exact Or.inr rfl)) (sss_one (ss_if (st_w (sw_and (st_cmp (om_in (hu65 hr)) (se_tup (sa_cons (se_var 1) (sa_cons (se_var 4) sa_nil))) (se_var 3) rfl) (sw_and1 (st_cmp (om_notin (hu65 hr)) (se_tup (sa_cons (se_var 1) (sa_cons (se_var 4) sa_nil))) (se_var 2) rfl)))) (sss_one (ss_ret se_bl)) sss_nil))) (sss_one (ss_ret se_bl)))
theorem ok_sets (T : Txt K mg) : FnOk P w K mg base CX0 1 T.f_sets T.fd_sets ["row"] (spM ⟨K, mg⟩ m_sets) :=
  fn_ok (N := n_sets) (b := b_sets) T.F_sets sc_sets fun cdv A outer s H E hr =>
    (sss_cons (ss_if (st_w (sw_or (st_cmp (om_eq (hu65 hr)) (se_ix (im_ix (hu65 hr)) (se_var 0) se_int (fun _ _ => rfl)) (se_str q_reckon) (nomark _)) (sw_or1 (st_cmp (om_eq (hu65 hr)) (se_ix (im_ix (hu65 hr)) (se_var 0) se_int (fun _ _ => rfl)) (se_str q_copy) (nomark _))))) (sss_one (ss_ret (se_ix (im_ix (hu65 hr)) (se_var 0) se_int (fun _ _ => rfl)))) sss_nil) (sss_one (ss_ret se_non)))
theorem ok_changes (T : Txt K mg) : FnOk P w K mg base CX0 2 T.f_changes T.fd_changes ["row", "reckoning"] (spM ⟨K, mg⟩ m_changes) :=
  fn_ok (N := n_changes) (b := b_changes) T.F_changes sc_changes fun cdv A outer s H E hr =>
    (sss_cons (ss_set (i := 2) sc_changes.nd rfl (by first | exact Or.inl rfl | exact Or.inr rfl) (se_call (ok_sets T) (hr.mono (by decide)) (by rfl) T.g_sets T.F_sets.kp T.b_sets pass0 (sa_cons (se_var 0) sa_nil))) (sss_one (ss_ret (se_and (se_cmp om_isnot (se_var 2) se_non (nomark _)) (se_one (se_cmp (om_in (hu65 hr)) (se_var 2) (se_sl slm (se_var 1) (so_some se_int) so_none) rfl))))))
theorem ok_reckoning_of (T : Txt K mg) : FnOk P w K mg base CX0 1 T.f_reckoning_of T.fd_reckoning_of ["row"] (spM ⟨K, mg⟩ m_reckoning_of) :=
  fn_ok (N := n_reckoning_of) (b := b_reckoning_of) T.F_reckoning_of sc_reckoning_of fun cdv A outer s H E hr =>
    (sss_cons (ss_if (st_cmp (om_eq (hu65 hr)) (se_ix (im_ix (hu65 hr)) (se_var 0) se_int (fun _ _ => rfl)) (se_str q_reckon) (nomark _)) (sss_one (ss_ret (se_tup (sa_cons (se_ix (im_ix (hu65 hr)) (se_var 0) se_int (fun _ _ => rfl)) (sa_cons (se_ix (im_ix (hu65 hr)) (se_var 0) se_int (fun _ _ => rfl)) (sa_cons (se_ix (im_ix (hu65 hr)) (se_var 0) se_int (fun _ _ => rfl)) sa_nil)))))) sss_nil) (sss_one (ss_ret se_non)))
theorem ok_reckonings (T : Txt K mg) : FnOk P w K mg base CX0 2 T.f_reckonings T.fd_reckonings ["program"] (spM ⟨K, mg⟩ m_reckonings) :=
  fn_ok (N := n_reckonings) (b := b_reckonings) T.F_reckonings sc_reckonings fun cdv A outer s H E hr =>
    (sss_cons (ss_set (i := 1) sc_reckonings.nd rfl (by first | exact Or.inl rfl | exact Or.inr rfl) se_newT) (sss_cons (ss_for PassesOwn.never rfl (si_seq (se_var 0)) (sg_name (i := 2) sc_reckonings.nd rfl (by first | exact Or.inl rfl | exact Or.inr rfl)) (sss_cons (ss_set (i := 3) sc_reckonings.nd rfl (by first | exact Or.inl rfl | exact Or.inr rfl) (se_call (ok_reckoning_of T) (hr.mono (by decide)) (by rfl) T.g_reckoning_of T.F_reckoning_of.kp T.b_reckoning_of pass0 (sa_cons (se_var 2) sa_nil))) (sss_one (ss_if (st_cmp om_isnot (se_var 3) se_non (nomark _)) (sss_one (ss_asg se_bl (sg_sub (hu65 hr) (se_var 1) (se_var 3)))) sss_nil)))) (sss_one (ss_ret (se_callTy (cm_list rfl) (by rfl) T.z_list bo_list (sa_cons (se_var 1) sa_nil))))))
theorem ok_lost_bits (T : Txt K mg) : FnOk P w K mg base CX0 3 T.f_lost_bits T.fd_lost_bits ["program"] (spM ⟨K, mg⟩ m_lost_bits) :=
  fn_ok (N := n_lost_bits) (b := b_lost_bits) T.F_lost_bits sc_lost_bits fun cdv A outer s H E hr =>
    (sss_cons (ss_set (i := 1) sc_lost_bits.nd rfl (by first | exact Or.inl rfl | exact Or.inr rfl) (se_call (ok_reckonings T) (hr.mono (by decide)) (by rfl) T.g_reckonings T.F_reckonings.kp T.b_reckonings pass0 (sa_cons (se_var 0) sa_nil))) (sss_cons (ss_set (i := 2) sc_lost_bits.nd rfl (by first | exact Or.inl rfl | exact Or.inr rfl) (se_lst sa_nil)) (sss_cons (ss_for PassesOwn.never rfl (si_seq (se_var 0)) (sg_name (i := 3) sc_lost_bits.nd rfl (by first | exact Or.inl rfl | exact Or.inr rfl)) (sss_cons (ss_set (i := 4) sc_lost_bits.nd rfl (by first | exact Or.inl rfl | exact Or.inr rfl) se_int) (sss_cons (ss_for PassesOwn.never rfl (si_enum (by rfl) T.z_enumerate (sa_cons (se_var 1) sa_nil)) (sg_tup rfl (sgs_cons (sg_name (i := 5) sc_lost_bits.nd rfl (by first | exact Or.inl rfl | exact Or.inr rfl)) (sgs_cons (sg_name (i := 6) sc_lost_bits.nd rfl (by first | exact Or.inl rfl | exact Or.inr rfl)) sgs_nil))) (sss_one (ss_if (st_tru (se_call (ok_changes T) (hr.mono (by decide)) (by rfl) T.g_changes T.F_changes.kp T.b_changes pass0 (sa_cons (se_var 3) (sa_cons (se_var 6) sa_nil)))) (sss_one (ss_set (i := 4) sc_lost_bits.nd rfl (by first | exact Or.inl rfl | exact Or.inr rfl) (se_op om_or (se_var 4) (se_op om_shl se_int (se_var 5))))) sss_nil))) (sss_one (ss_expr (se_mt PySem.F.plainAttrs_list PySem.F.slot_list_append PySem.F.type_list_append mm_append ty_list (se_var 2) (sa_cons (se_var 4) sa_nil))))))) (sss_one (ss_ret (se_var 2))))))
theorem ok_asks_box (T : Txt K mg) : FnOk P w K mg base CX0 4 T.f_asks_box T.fd_asks_box ["program", "k", "sheet"] (spM ⟨K, mg⟩ m_asks_box) :=
  fn_ok (N := n_asks_box) (b := b_asks_box) T.F_asks_box sc_asks_box fun cdv A outer s H E hr =>
    (sss_cons (ss_set (i := 3) sc_asks_box.nd rfl (by first | exact Or.inl rfl | exact Or.inr rfl) (se_call (ok_lost_bits T) (hr.mono (by decide)) (by rfl) T.g_lost_bits T.F_lost_bits.kp T.b_lost_bits pass0 (sa_cons (se_var 0) sa_nil))) (sss_cons (ss_set (i := 4) sc_asks_box.nd rfl (by first | exact Or.inl rfl | exact Or.inr rfl) (se_ix (im_ix (hu65 hr)) (se_var 2) se_int (fun _ _ => rfl))) (sss_cons (ss_set (i := 5) sc_asks_box.nd rfl (by first | exact Or.inl rfl | exact Or.inr rfl) (se_callTy (cm_dict rfl) (by rfl) T.z_dict bo_dict (sa_cons (se_ix (im_ix (hu65 hr)) (se_var 2) se_int (fun _ _ => rfl)) sa_nil))) (sss_cons (ss_setLc (i := 6) (own := [("n", 7)]) rfl sc_asks_box.nd rfl rfl (sw_true rfl rfl rfl (by decide +kernel)) (si_rng1 (by rfl) T.z_range (sa_cons (se_callB cm_len (by rfl) T.z_len bo_len (sa_cons (se_var 0) sa_nil)) sa_nil)) (blkOk_by (own := [("n", 7)]) (N := n_asks_box) (sc := defScope s_asks_box) (by decide +kernel)) (gonly_name (by decide)) (fun _ _ _ _ _ => pg_name (i := 7) sc_asks_box.nd rfl (by first | exact Or.inl rfl | exact Or.inr rfl)) (fun _ _ _ _ _ => sts_nil) (fun _ _ _ _ _ => (se_cmp (om_eq (hu65 hr)) (se_mt PySem.F.plainAttrs_dict PySem.F.slot_dict_get PySem.F.type_dict_get (mm_dget (Nat.lt_of_le_of_lt (Nat.add_le_add_left (by decide : 1 ≤ 65) _) (hu65 hr))) ty_dict (se_var 5) (sa_cons (se_var 7) (sa_cons (se_str q_x5_) sa_nil))) (se_str q_read) (nomark _)))) (sss_cons (ss_set (i := 8) sc_asks_box.nd rfl (by first | exact Or.inl rfl | exact Or.inr rfl) se_bl) (sss_cons (ss_while PassesOwn.never (st_tru (se_var 8)) (sss_cons (ss_set (i := 8) sc_asks_box.nd rfl (by first | exact Or.inl rfl | exact Or.inr rfl) se_bl) (sss_one (ss_for PassesOwn.never rfl (si_rng1 (by rfl) T.z_range (sa_cons (se_callB cm_len (by rfl) T.z_len bo_len (sa_cons (se_var 0) sa_nil)) sa_nil)) (sg_name (i := 7) sc_asks_box.nd rfl (by first | exact Or.inl rfl | exact Or.inr rfl)) (sss_one (ss_if (st_w (sw_and (st_not (st_tru (se_ix (im_ix (hu65 hr)) (se_var 6) (se_var 7) (fun _ _ => rfl)))) (sw_and (st_cmp (om_ne (hu65 hr)) (se_mt PySem.F.plainAttrs_dict PySem.F.slot_dict_get PySem.F.type_dict_get (mm_dget (Nat.lt_of_le_of_lt (Nat.add_le_add_left (by decide : 1 ≤ 65) _) (hu65 hr))) ty_dict (se_var 5) (sa_cons (se_var 7) (sa_cons (se_str q_x5_) sa_nil))) (se_str q_keep) (nomark _)) (sw_and1 (st_not (st_tru (se_call (ok_has_bit T) (hr.mono (by decide)) (by rfl) T.g_has_bit T.F_has_bit.kp T.b_has_bit pass0 (sa_cons (se_ix (im_ix (hu65 hr)) (se_var 3) (se_var 7) (fun _ _ => rfl)) (sa_cons (se_var 1) sa_nil))))))))) (sss_one (ss_for PassesOwn.never rfl (si_seq (se_call (ok_followers T) (hr.mono (by decide)) (by rfl) T.g_followers T.F_followers.kp T.b_followers pass0 (sa_cons (se_var 0) (sa_cons (se_var 7) sa_nil)))) (sg_name (i := 9) sc_asks_box.nd rfl (by first | exact Or.inl rfl | exact Or.inr rfl)) (sss_one (ss_if (st_w (sw_and (st_tru (se_ix (im_ix (hu65 hr)) (se_var 6) (se_var 9) (fun _ _ => rfl))) (sw_and (st_cmp (om_notin (hu65 hr)) (se_tup (sa_cons (se_var 7) (sa_cons (se_var 9) sa_nil))) (se_var 4) rfl) (sw_and1 (st_not (st_tru (se_ix (im_ix (hu65 hr)) (se_var 6) (se_var 7) (fun _ _ => rfl)))))))) (sss_cons (ss_asg se_bl (sg_sub (hu65 hr) (se_var 6) (se_var 7))) (sss_one (ss_set (i := 8) sc_asks_box.nd rfl (by first | exact Or.inl rfl | exact Or.inr rfl) se_bl))) sss_nil)))) sss_nil)))))) (sss_one (ss_ret (se_var 6)))))))))
theorem ok_places (T : Txt K mg) : FnOk P w K mg base CX0 2 T.f_places T.fd_places ["program"] (spM ⟨K, mg⟩ m_places) :=
  fn_ok (N := n_places) (b := b_places) T.F_places sc_places fun cdv A outer s H E hr =>
    (sss_cons (ss_set (i := 1) sc_places.nd rfl (by first | exact Or.inl rfl | exact Or.inr rfl) (se_lst (sa_cons (se_tup (sa_cons (se_neg se_int) (sa_cons se_int sa_nil))) sa_nil))) (sss_cons (ss_for PassesOwn.never rfl (si_rng1 (by rfl) T.z_range (sa_cons (se_callB cm_len (by rfl) T.z_len bo_len (sa_cons (se_var 0) sa_nil)) sa_nil)) (sg_name (i := 2) sc_places.nd rfl (by first | exact Or.inl rfl | exact Or.inr rfl)) (sss_one (ss_for PassesOwn.never rfl (si_seq (se_call (ok_followers T) (hr.mono (by decide)) (by rfl) T.g_followers T.F_followers.kp T.b_followers pass0 (sa_cons (se_var 0) (sa_cons (se_var 2) sa_nil)))) (sg_name (i := 3) sc_places.nd rfl (by first | exact Or.inl rfl | exact Or.inr rfl)) (sss_one (ss_expr (se_mt PySem.F.plainAttrs_list PySem.F.slot_list_append PySem.F.type_list_append mm_append ty_list (se_var 1) (sa_cons (se_tup (sa_cons (se_var 2) (sa_cons (se_var 3) sa_nil))) sa_nil))))))) (sss_one (ss_ret (se_var 1)))))
theorem ok_live (T : Txt K mg) : FnOk P w K mg base CX0 5 T.f_live T.fd_live ["program", "k", "sheet"] (spM ⟨K, mg⟩ m_live) :=
  fn_ok (N := n_live) (b := b_live) T.F_live sc_live fun cdv A outer s H E hr =>
    (sss_cons (ss_set (i := 3) sc_live.nd rfl (by first | exact Or.inl rfl | exact Or.inr rfl) (se_call (ok_asks_box T) (hr.mono (by decide)) (by rfl) T.g_asks_box T.F_asks_box.kp T.b_asks_box pass0 (sa_cons (se_var 0) (sa_cons (se_var 1) (sa_cons (se_var 2) sa_nil))))) (sss_one (ss_ret (se_lc (own := [("place", 4)]) rfl sc_live.nd (si_seq (se_call (ok_places T) (hr.mono (by decide)) (by rfl) T.g_places T.F_places.kp T.b_places pass0 (sa_cons (se_var 0) sa_nil))) (blkOk_by (own := [("place", 4)]) (N := n_live) (sc := defScope s_live) (by decide +kernel)) (gonly_name (by decide)) (fun _ _ _ _ _ => pg_name (i := 4) sc_live.nd rfl (by first | exact Or.inl rfl | exact Or.inr rfl)) (fun _ _ _ _ _ => sts_one (st_tru (se_ix (im_ix (hu65 hr)) (se_var 3) (se_ix (im_ix (hu65 hr)) (se_var 4) se_int (fun _ _ => rfl)) (fun _ _ => rfl)))) (fun _ _ _ _ _ => (se_var 4))))))
theorem ok_comes_off (T : Txt K mg) : FnOk P w K mg base CX0 2 T.f_comes_off T.fd_comes_off ["place", "k", "begins", "own", "rows_off"] (spM ⟨K, mg⟩ m_comes_off) :=
  fn_ok (N := n_comes_off) (b := b_comes_off) T.F_comes_off sc_comes_off fun cdv A outer s H E hr =>
    (sss_cons (ss_if (st_tru (se_call (ok_has_bit T) (hr.mono (by decide)) (by rfl) T.g_has_bit T.F_has_bit.kp T.b_has_bit pass0 (sa_cons (se_ix (im_ix (hu65 hr)) (se_var 2) (se_var 0) (fun _ _ => rfl)) (sa_cons (se_var 1) sa_nil)))) (sss_one (ss_ret se_bl)) sss_nil) (sss_cons (ss_set (i := 5) sc_comes_off.nd rfl (by first | exact Or.inl rfl | exact Or.inr rfl) (se_ix (im_ix (hu65 hr)) (se_var 0) se_int (fun _ _ => rfl))) (sss_one (ss_ret (se_and (se_cmp (om_ne (hu65 hr)) (se_var 5) (se_neg se_int) (nomark _)) (se_and (se_ix (im_ix (hu65 hr)) (se_var 4) (se_var 5) (fun _ _ => rfl)) (se_one (se_not (se_call (ok_has_bit T) (hr.mono (by decide)) (by rfl) T.g_has_bit T.F_has_bit.kp T.b_has_bit pass0 (sa_cons (se_ix (im_ix (hu65 hr)) (se_var 3) (se_var 5) (fun _ _ => rfl)) (sa_cons (se_var 1) sa_nil)))))))))))
theorem ok_all_bits (T : Txt K mg) : FnOk P w K mg base CX0 3 T.f_all_bits T.fd_all_bits ["program"] (spM ⟨K, mg⟩ m_all_bits) :=
  fn_ok (N := n_all_bits) (b := b_all_bits) T.F_all_bits sc_all_bits fun cdv A outer s H E hr =>
    (sss_one (ss_ret (se_op om_sub (se_op om_shl se_int (se_callB cm_len (by rfl) T.z_len bo_len (sa_cons (se_call (ok_reckonings T) (hr.mono (by decide)) (by rfl) T.g_reckonings T.F_reckonings.kp T.b_reckonings pass0 (sa_cons (se_var 0) sa_nil)) sa_nil))) se_int)))
theorem ok_own_bits (T : Txt K mg) : FnOk P w K mg base CX0 3 T.f_own_bits T.fd_own_bits ["program"] (spM ⟨K, mg⟩ m_own_bits) :=
  fn_ok (N := n_own_bits) (b := b_own_bits) T.F_own_bits sc_own_bits fun cdv A outer s H E hr =>
    (sss_cons (ss_set (i := 1) sc_own_bits.nd rfl (by first | exact Or.inl rfl | exact Or.inr rfl) se_newT) (sss_cons (ss_for PassesOwn.never rfl (si_enum (by rfl) T.z_enumerate (sa_cons (se_call (ok_reckonings T) (hr.mono (by decide)) (by rfl) T.g_reckonings T.F_reckonings.kp T.b_reckonings pass0 (sa_cons (se_var 0) sa_nil)) sa_nil)) (sg_tup rfl (sgs_cons (sg_name (i := 2) sc_own_bits.nd rfl (by first | exact Or.inl rfl | exact Or.inr rfl)) (sgs_cons (sg_name (i := 3) sc_own_bits.nd rfl (by first | exact Or.inl rfl | exact Or.inr rfl)) sgs_nil))) (sss_one (ss_asg (se_var 2) (sg_sub (hu65 hr) (se_var 1) (se_var 3))))) (sss_cons (ss_set (i := 4) sc_own_bits.nd rfl (by first | exact Or.inl rfl | exact Or.inr rfl) (se_lst sa_nil)) (sss_cons (ss_for PassesOwn.never rfl (si_seq (se_var 0)) (sg_name (i := 5) sc_own_bits.nd rfl (by first | exact Or.inl rfl | exact Or.inr rfl)) (sss_cons (ss_set (i := 3) sc_own_bits.nd rfl (by first | exact Or.inl rfl | exact Or.inr rfl) (se_call (ok_reckoning_of T) (hr.mono (by decide)) (by rfl) T.g_reckoning_of T.F_reckoning_of.kp T.b_reckoning_of pass0 (sa_cons (se_var 5) sa_nil))) (sss_one (ss_if (st_cmp om_is (se_var 3) se_non (nomark _)) (sss_one (ss_expr (se_mt PySem.F.plainAttrs_list PySem.F.slot_list_append PySem.F.type_list_append mm_append ty_list (se_var 4) (sa_cons se_int sa_nil)))) (sss_one (ss_expr (se_mt PySem.F.plainAttrs_list PySem.F.slot_list_append PySem.F.type_list_append mm_append ty_list (se_var 4) (sa_cons (se_op om_shl se_int (se_ix (im_ix (hu65 hr)) (se_var 1) (se_var 3) (fun _ _ => rfl))) sa_nil)))))))) (sss_one (ss_ret (se_var 4)))))))
theorem ok_kept_back (T : Txt K mg) : FnOk P w K mg base CX0 4 T.f_kept_back T.fd_kept_back ["program", "wants"] (spM ⟨K, mg⟩ m_kept_back) :=
  fn_ok (N := n_kept_back) (b := b_kept_back) T.F_kept_back sc_kept_back fun cdv A outer s H E hr =>
    (sss_cons (ss_set (i := 2) sc_kept_back.nd rfl (by first | exact Or.inl rfl | exact Or.inr rfl) (se_call (ok_all_bits T) (hr.mono (by decide)) (by rfl) T.g_all_bits T.F_all_bits.kp T.b_all_bits pass0 (sa_cons (se_var 0) sa_nil))) (sss_cons (ss_set (i := 3) sc_kept_back.nd rfl (by first | exact Or.inl rfl | exact Or.inr rfl) (se_call (ok_own_bits T) (hr.mono (by decide)) (by rfl) T.g_own_bits T.F_own_bits.kp T.b_own_bits pass0 (sa_cons (se_var 0) sa_nil))) (sss_cons (ss_set (i := 4) sc_kept_back.nd rfl (by first | exact Or.inl rfl | exact Or.inr rfl) (se_call (ok_lost_bits T) (hr.mono (by decide)) (by rfl) T.g_lost_bits T.F_lost_bits.kp T.b_lost_bits pass0 (sa_cons (se_var 0) sa_nil))) (sss_cons (ss_set (i := 5) sc_kept_back.nd rfl (by first | exact Or.inl rfl | exact Or.inr rfl) (se_lst sa_nil)) (sss_cons (ss_for PassesOwn.never rfl (si_rng1 (by rfl) T.z_range (sa_cons (se_callB cm_len (by rfl) T.z_len bo_len (sa_cons (se_var 0) sa_nil)) sa_nil)) (sg_name (i := 6) sc_kept_back.nd rfl (by first | exact Or.inl rfl | exact Or.inr rfl)) (sss_cons (ss_set (i := 7) sc_kept_back.nd rfl (by first | exact Or.inl rfl | exact Or.inr rfl) (se_var 2)) (sss_cons (ss_for PassesOwn.never rfl (si_seq (se_call (ok_followers T) (hr.mono (by decide)) (by rfl) T.g_followers T.F_followers.kp T.b_followers pass0 (sa_cons (se_var 0) (sa_cons (se_var 6) sa_nil)))) (sg_name (i := 8) sc_kept_back.nd rfl (by first | exact Or.inl rfl | exact Or.inr rfl)) (sss_one (ss_set (i := 7) sc_kept_back.nd rfl (by first | exact Or.inl rfl | exact Or.inr rfl) (se_op om_and (se_var 7) (se_ix (im_ix (hu65 hr)) (se_var 1) (se_tup (sa_cons (se_var 6) (sa_cons (se_var 8) sa_nil))) (fun _ _ => rfl)))))) (sss_one (ss_expr (se_mt PySem.F.plainAttrs_list PySem.F.slot_list_append PySem.F.type_list_append mm_append ty_list (se_var 5) (sa_cons (se_op om_or (se_ix (im_ix (hu65 hr)) (se_var 4) (se_var 6) (fun _ _ => rfl)) (se_op om_and (se_op om_xor (se_var 2) (se_ix (im_ix (hu65 hr)) (se_var 3) (se_var 6) (fun _ _ => rfl))) (se_op om_xor (se_var 2) (se_var 7)))) sa_nil))))))) (sss_one (ss_ret (se_var 5))))))))
theorem ok_ahead_of (T : Txt K mg) : FnOk P w K mg base CX0 3 T.f_ahead_of T.fd_ahead_of ["program"] (spM ⟨K, mg⟩ m_ahead_of) :=
  fn_ok (N := n_ahead_of) (b := b_ahead_of) T.F_ahead_of sc_ahead_of fun cdv A outer s H E hr =>
    (sss_cons (ss_setLc (i := 1) (own := [("row", 2)]) rfl sc_ahead_of.nd rfl rfl (sw_true rfl rfl rfl (by decide +kernel)) (si_seq (se_var 0)) (blkOk_by (own := [("row", 2)]) (N := n_ahead_of) (sc := defScope s_ahead_of) (by decide +kernel)) (gonly_name (by decide)) (fun _ _ _ _ _ => pg_name (i := 2) sc_ahead_of.nd rfl (by first | exact Or.inl rfl | exact Or.inr rfl)) (fun _ _ _ _ _ => sts_nil) (fun _ _ _ _ _ => (se_lst sa_nil))) (sss_cons (ss_for PassesOwn.never rfl (si_seq (se_call (ok_places T) (hr.mono (by decide)) (by rfl) T.g_places T.F_places.kp T.b_places pass0 (sa_cons (se_var 0) sa_nil))) (sg_tup rfl (sgs_cons (sg_name (i := 3) sc_ahead_of.nd rfl (by first | exact Or.inl rfl | exact Or.inr rfl)) (sgs_cons (sg_name (i := 4) sc_ahead_of.nd rfl (by first | exact Or.inl rfl | exact Or.inr rfl)) sgs_nil))) (sss_one (ss_if (st_cmp (om_ne (hu65 hr)) (se_var 3) (se_neg se_int) (nomark _)) (sss_one (ss_expr (se_mt PySem.F.plainAttrs_list PySem.F.slot_list_append PySem.F.type_list_append mm_append ty_list (se_ix (im_ix (hu65 hr)) (se_var 1) (se_var 4) (fun _ _ => rfl)) (sa_cons (se_var 3) sa_nil)))) sss_nil))) (sss_one (ss_ret (se_var 1)))))
theorem ok_left_by (T : Txt K mg) : FnOk P w K mg base CX0 4 T.f_left_by T.fd_left_by ["program"] (spM ⟨K, mg⟩ m_left_by) :=
  fn_ok (N := n_left_by) (b := b_left_by) T.F_left_by sc_left_by fun cdv A outer s H E hr =>
    (sss_cons (ss_set (i := 1) sc_left_by.nd rfl (by first | exact Or.inl rfl | exact Or.inr rfl) (se_call (ok_all_bits T) (hr.mono (by decide)) (by rfl) T.g_all_bits T.F_all_bits.kp T.b_all_bits pass0 (sa_cons (se_var 0) sa_nil))) (sss_cons (ss_set (i := 2) sc_left_by.nd rfl (by first | exact Or.inl rfl | exact Or.inr rfl) (se_call (ok_own_bits T) (hr.mono (by decide)) (by rfl) T.g_own_bits T.F_own_bits.kp T.b_own_bits pass0 (sa_cons (se_var 0) sa_nil))) (sss_cons (ss_set (i := 3) sc_left_by.nd rfl (by first | exact Or.inl rfl | exact Or.inr rfl) (se_call (ok_lost_bits T) (hr.mono (by decide)) (by rfl) T.g_lost_bits T.F_lost_bits.kp T.b_lost_bits pass0 (sa_cons (se_var 0) sa_nil))) (sss_cons (ss_set (i := 4) sc_left_by.nd rfl (by first | exact Or.inl rfl | exact Or.inr rfl) (se_call (ok_ahead_of T) (hr.mono (by decide)) (by rfl) T.g_ahead_of T.F_ahead_of.kp T.b_ahead_of pass0 (sa_cons (se_var 0) sa_nil))) (sss_cons (ss_setLc (i := 5) (own := [("row", 6)]) rfl sc_left_by.nd rfl rfl (sw_true rfl rfl rfl (by decide +kernel)) (si_seq (se_var 0)) (blkOk_by (own := [("row", 6)]) (N := n_left_by) (sc := defScope s_left_by) (by decide +kernel)) (gonly_name (by decide)) (fun _ _ _ _ _ => pg_name (i := 6) sc_left_by.nd rfl (by first | exact Or.inl rfl | exact Or.inr rfl)) (fun _ _ _ _ _ => sts_nil) (fun _ _ _ _ _ => (se_var 1))) (sss_cons (ss_set (i := 7) sc_left_by.nd rfl (by first | exact Or.inl rfl | exact Or.inr rfl) se_bl) (sss_cons (ss_while PassesOwn.never (st_tru (se_var 7)) (sss_cons (ss_set (i := 7) sc_left_by.nd rfl (by first | exact Or.inl rfl | exact Or.inr rfl) se_bl) (sss_one (ss_for PassesOwn.never rfl (si_rng1 (by rfl) T.z_range (sa_cons (se_callB cm_len (by rfl) T.z_len bo_len (sa_cons (se_var 0) sa_nil)) sa_nil)) (sg_name (i := 8) sc_left_by.nd rfl (by first | exact Or.inl rfl | exact Or.inr rfl)) (sss_cons (ss_set (i := 9) sc_left_by.nd rfl (by first | exact Or.inl rfl | exact Or.inr rfl) (se_var 1)) (sss_cons (ss_if (st_cmp (om_eq (hu65 hr)) (se_var 8) se_int (nomark _)) (sss_one (ss_set (i := 9) sc_left_by.nd rfl (by first | exact Or.inl rfl | exact Or.inr rfl) se_int)) sss_nil) (sss_cons (ss_for PassesOwn.never rfl (si_seq (se_ix (im_ix (hu65 hr)) (se_var 4) (se_var 8) (fun _ _ => rfl))) (sg_name (i := 10) sc_left_by.nd rfl (by first | exact Or.inl rfl | exact Or.inr rfl)) (sss_one (ss_set (i := 9) sc_left_by.nd rfl (by first | exact Or.inl rfl | exact Or.inr rfl) (se_op om_and (se_var 9) (se_ix (im_ix (hu65 hr)) (se_var 5) (se_var 10) (fun _ _ => rfl)))))) (sss_cons (ss_set (i := 11) sc_left_by.nd rfl (by first | exact Or.inl rfl | exact Or.inr rfl) (se_op om_and (se_op om_or (se_ix (im_ix (hu65 hr)) (se_var 2) (se_var 8) (fun _ _ => rfl)) (se_var 9)) (se_op om_xor (se_var 1) (se_ix (im_ix (hu65 hr)) (se_var 3) (se_var 8) (fun _ _ => rfl))))) (sss_one (ss_if (st_cmp (om_ne (hu65 hr)) (se_var 11) (se_ix (im_ix (hu65 hr)) (se_var 5) (se_var 8) (fun _ _ => rfl)) (nomark _)) (sss_cons (ss_asg (se_var 11) (sg_sub (hu65 hr) (se_var 5) (se_var 8))) (sss_one (ss_set (i := 7) sc_left_by.nd rfl (by first | exact Or.inl rfl | exact Or.inr rfl) se_bl))) sss_nil)))))))))) (sss_one (ss_ret (se_var 5))))))))))
theorem ok_standing (T : Txt K mg) : FnOk P w K mg base CX0 5 T.f_standing T.fd_standing ["program"] (spM ⟨K, mg⟩ m_standing) :=
  fn_ok (N := n_standing) (b := b_standing) T.F_standing sc_standing fun cdv A outer s H E hr =>
    (sss_cons (ss_set (i := 1) sc_standing.nd rfl (by first | exact Or.inl rfl | exact Or.inr rfl) (se_call (ok_left_by T) (hr.mono (by decide)) (by rfl) T.g_left_by T.F_left_by.kp T.b_left_by pass0 (sa_cons (se_var 0) sa_nil))) (sss_cons (ss_set (i := 2) sc_standing.nd rfl (by first | exact Or.inl rfl | exact Or.inr rfl) se_newT) (sss_cons (ss_for PassesOwn.never rfl (si_seq (se_call (ok_places T) (hr.mono (by decide)) (by rfl) T.g_places T.F_places.kp T.b_places pass0 (sa_cons (se_var 0) sa_nil))) (sg_name (i := 3) sc_standing.nd rfl (by first | exact Or.inl rfl | exact Or.inr rfl)) (sss_one (ss_if (st_cmp (om_eq (hu65 hr)) (se_ix (im_ix (hu65 hr)) (se_var 3) se_int (fun _ _ => rfl)) (se_neg se_int) (nomark _)) (sss_one (ss_asg se_int (sg_sub (hu65 hr) (se_var 2) (se_var 3)))) (sss_one (ss_asg (se_ix (im_ix (hu65 hr)) (se_var 1) (se_ix (im_ix (hu65 hr)) (se_var 3) se_int (fun _ _ => rfl)) (fun _ _ => rfl)) (sg_sub (hu65 hr) (se_var 2) (se_var 3))))))) (sss_one (ss_ret (se_var 2))))))
theorem ok_asked_by (T : Txt K mg) : FnOk P w K mg base CX0 4 T.f_asked_by T.fd_asked_by ["program"] (spM ⟨K, mg⟩ m_asked_by) :=
  fn_ok (N := n_asked_by) (b := b_asked_by) T.F_asked_by sc_asked_by fun cdv A outer s H E hr =>
    (sss_cons (ss_set (i := 1) sc_asked_by.nd rfl (by first | exact Or.inl rfl | exact Or.inr rfl) (se_call (ok_all_bits T) (hr.mono (by decide)) (by rfl) T.g_all_bits T.F_all_bits.kp T.b_all_bits pass0 (sa_cons (se_var 0) sa_nil))) (sss_cons (ss_set (i := 2) sc_asked_by.nd rfl (by first | exact Or.inl rfl | exact Or.inr rfl) (se_call (ok_own_bits T) (hr.mono (by decide)) (by rfl) T.g_own_bits T.F_own_bits.kp T.b_own_bits pass0 (sa_cons (se_var 0) sa_nil))) (sss_cons (ss_set (i := 3) sc_asked_by.nd rfl (by first | exact Or.inl rfl | exact Or.inr rfl) (se_call (ok_lost_bits T) (hr.mono (by decide)) (by rfl) T.g_lost_bits T.F_lost_bits.kp T.b_lost_bits pass0 (sa_cons (se_var 0) sa_nil))) (sss_cons (ss_setLc (i := 4) (own := [("row", 5)]) rfl sc_asked_by.nd rfl rfl (sw_true rfl rfl rfl (by decide +kernel)) (si_seq (se_var 0)) (blkOk_by (own := [("row", 5)]) (N := n_asked_by) (sc := defScope s_asked_by) (by decide +kernel)) (gonly_name (by decide)) (fun _ _ _ _ _ => pg_name (i := 5) sc_asked_by.nd rfl (by first | exact Or.inl rfl | exact Or.inr rfl)) (fun _ _ _ _ _ => sts_nil) (fun _ _ _ _ _ => (se_var 1))) (sss_cons (ss_set (i := 6) sc_asked_by.nd rfl (by first | exact Or.inl rfl | exact Or.inr rfl) se_bl) (sss_cons (ss_while PassesOwn.never (st_tru (se_var 6)) (sss_cons (ss_set (i := 6) sc_asked_by.nd rfl (by first | exact Or.inl rfl | exact Or.inr rfl) se_bl) (sss_one (ss_for PassesOwn.never rfl (si_rngD (by rfl) T.z_range (sa_cons (se_op om_sub (se_callB cm_len (by rfl) T.z_len bo_len (sa_cons (se_var 0) sa_nil)) se_int) (sa_cons (se_neg se_int) (sa_cons (se_neg se_int) sa_nil)))) (sg_name (i := 7) sc_asked_by.nd rfl (by first | exact Or.inl rfl | exact Or.inr rfl)) (sss_cons (ss_set (i := 8) sc_asked_by.nd rfl (by first | exact Or.inl rfl | exact Or.inr rfl) (se_var 1)) (sss_cons (ss_if (st_cmp (om_eq (hu65 hr)) (se_ix (im_ix (hu65 hr)) (se_ix (im_ix (hu65 hr)) (se_var 0) (se_var 7) (fun _ _ => rfl)) se_int (fun _ _ => rfl)) (se_str q_end) (nomark _)) (sss_one (ss_set (i := 8) sc_asked_by.nd rfl (by first | exact Or.inl rfl | exact Or.inr rfl) se_int)) sss_nil) (sss_cons (ss_for PassesOwn.never rfl (si_seq (se_call (ok_followers T) (hr.mono (by decide)) (by rfl) T.g_followers T.F_followers.kp T.b_followers pass0 (sa_cons (se_var 0) (sa_cons (se_var 7) sa_nil)))) (sg_name (i := 9) sc_asked_by.nd rfl (by first | exact Or.inl rfl | exact Or.inr rfl)) (sss_one (ss_set (i := 8) sc_asked_by.nd rfl (by first | exact Or.inl rfl | exact Or.inr rfl) (se_op om_and (se_var 8) (se_ix (im_ix (hu65 hr)) (se_var 4) (se_var 9) (fun _ _ => rfl)))))) (sss_cons (ss_set (i := 10) sc_asked_by.nd rfl (by first | exact Or.inl rfl | exact Or.inr rfl) (se_op om_or (se_ix (im_ix (hu65 hr)) (se_var 2) (se_var 7) (fun _ _ => rfl)) (se_op om_and (se_var 8) (se_op om_xor (se_var 1) (se_ix (im_ix (hu65 hr)) (se_var 3) (se_var 7) (fun _ _ => rfl)))))) (sss_one (ss_if (st_cmp (om_ne (hu65 hr)) (se_var 10) (se_ix (im_ix (hu65 hr)) (se_var 4) (se_var 7) (fun _ _ => rfl)) (nomark _)) (sss_cons (ss_asg (se_var 10) (sg_sub (hu65 hr) (se_var 4) (se_var 7))) (sss_one (ss_set (i := 6) sc_asked_by.nd rfl (by first | exact Or.inl rfl | exact Or.inr rfl) se_bl))) sss_nil)))))))))) (sss_one (ss_ret (se_var 4)))))))))
theorem ok_wanted (T : Txt K mg) : FnOk P w K mg base CX0 5 T.f_wanted T.fd_wanted ["program"] (spM ⟨K, mg⟩ m_wanted) :=
  fn_ok (N := n_wanted) (b := b_wanted) T.F_wanted sc_wanted fun cdv A outer s H E hr =>
    (sss_cons (ss_set (i := 1) sc_wanted.nd rfl (by first | exact Or.inl rfl | exact Or.inr rfl) (se_call (ok_asked_by T) (hr.mono (by decide)) (by rfl) T.g_asked_by T.F_asked_by.kp T.b_asked_by pass0 (sa_cons (se_var 0) sa_nil))) (sss_cons (ss_set (i := 2) sc_wanted.nd rfl (by first | exact Or.inl rfl | exact Or.inr rfl) se_newT) (sss_cons (ss_for PassesOwn.never rfl (si_seq (se_call (ok_places T) (hr.mono (by decide)) (by rfl) T.g_places T.F_places.kp T.b_places pass0 (sa_cons (se_var 0) sa_nil))) (sg_name (i := 3) sc_wanted.nd rfl (by first | exact Or.inl rfl | exact Or.inr rfl)) (sss_one (ss_asg (se_ix (im_ix (hu65 hr)) (se_var 1) (se_ix (im_ix (hu65 hr)) (se_var 3) se_int (fun _ _ => rfl)) (fun _ _ => rfl)) (sg_sub (hu65 hr) (se_var 2) (se_var 3))))) (sss_one (ss_ret (se_var 2))))))
theorem ok_firsts (T : Txt K mg) : FnOk P w K mg base CX0 6 T.f_firsts T.fd_firsts ["program"] (spM ⟨K, mg⟩ m_firsts) :=
  fn_ok (N := n_firsts) (b := b_firsts) T.F_firsts sc_firsts fun cdv A outer s H E hr =>
    (sss_cons (ss_set (i := 1) sc_firsts.nd rfl (by first | exact Or.inl rfl | exact Or.inr rfl) (se_call (ok_wanted T) (hr.mono (by decide)) (by rfl) T.g_wanted T.F_wanted.kp T.b_wanted pass0 (sa_cons (se_var 0) sa_nil))) (sss_cons (ss_set (i := 2) sc_firsts.nd rfl (by first | exact Or.inl rfl | exact Or.inr rfl) (se_call (ok_standing T) (hr.mono (by decide)) (by rfl) T.g_standing T.F_standing.kp T.b_standing pass0 (sa_cons (se_var 0) sa_nil))) (sss_cons (ss_set (i := 3) sc_firsts.nd rfl (by first | exact Or.inl rfl | exact Or.inr rfl) (se_call (ok_kept_back T) (hr.mono (by decide)) (by rfl) T.g_kept_back T.F_kept_back.kp T.b_kept_back pass0 (sa_cons (se_var 0) (sa_cons (se_var 1) sa_nil)))) (sss_cons (ss_set (i := 4) sc_firsts.nd rfl (by first | exact Or.inl rfl | exact Or.inr rfl) se_newT) (sss_cons (ss_for PassesOwn.never rfl (si_seq (se_call (ok_places T) (hr.mono (by decide)) (by rfl) T.g_places T.F_places.kp T.b_places pass0 (sa_cons (se_var 0) sa_nil))) (sg_name (i := 5) sc_firsts.nd rfl (by first | exact Or.inl rfl | exact Or.inr rfl)) (sss_cons (ss_set (i := 6) sc_firsts.nd rfl (by first | exact Or.inl rfl | exact Or.inr rfl) (se_op om_sub (se_ix (im_ix (hu65 hr)) (se_var 1) (se_var 5) (fun _ _ => rfl)) (se_op om_and (se_ix (im_ix (hu65 hr)) (se_var 1) (se_var 5) (fun _ _ => rfl)) (se_ix (im_ix (hu65 hr)) (se_var 2) (se_var 5) (fun _ _ => rfl))))) (sss_cons (ss_if (st_cmp (om_ne (hu65 hr)) (se_ix (im_ix (hu65 hr)) (se_var 5) se_int (fun _ _ => rfl)) (se_neg se_int) (nomark _)) (sss_one (ss_set (i := 6) sc_firsts.nd rfl (by first | exact Or.inl rfl | exact Or.inr rfl) (se_op om_and (se_var 6) (se_ix (im_ix (hu65 hr)) (se_var 3) (se_ix (im_ix (hu65 hr)) (se_var 5) se_int (fun _ _ => rfl)) (fun _ _ => rfl))))) sss_nil) (sss_one (ss_asg (se_var 6) (sg_sub (hu65 hr) (se_var 4) (se_var 5))))))) (sss_one (ss_ret (se_var 4))))))))
theorem ok_put_off (T : Txt K mg) : FnOk P w K mg base CX0 7 T.f_put_off T.fd_put_off ["program", "k", "stops"] (spM ⟨K, mg⟩ m_put_off) :=
  fn_okD (N := n_put_off) (b := b_put_off) T.F_put_off sc_put_off fun cdv A outer s H E hr =>
    (sss_cons (ss_if (st_cmp om_is (se_var 2) se_non (nomark _)) (sss_one (ss_set (i := 2) sc_put_off.nd rfl (by first | exact Or.inl rfl | exact Or.inr rfl) (se_lst sa_nil))) sss_nil) (sss_cons (ss_set (i := 3) sc_put_off.nd rfl (by first | exact Or.inl rfl | exact Or.inr rfl) (se_call (ok_firsts T) (hr.mono (by decide)) (by rfl) T.g_firsts T.F_firsts.kp T.b_firsts pass0 (sa_cons (se_var 0) sa_nil))) (sss_cons (ss_set (i := 4) sc_put_off.nd rfl (by first | exact Or.inl rfl | exact Or.inr rfl) (se_call (ok_own_bits T) (hr.mono (by decide)) (by rfl) T.g_own_bits T.F_own_bits.kp T.b_own_bits pass0 (sa_cons (se_var 0) sa_nil))) (sss_cons (ss_setLc (i := 5) (own := [("row", 6)]) rfl sc_put_off.nd rfl rfl (sw_true rfl rfl rfl (by decide +kernel)) (si_seq (se_var 0)) (blkOk_by (own := [("row", 6)]) (N := n_put_off) (sc := defScope s_put_off) (by decide +kernel)) (gonly_name (by decide)) (fun _ _ _ _ _ => pg_name (i := 6) sc_put_off.nd rfl (by first | exact Or.inl rfl | exact Or.inr rfl)) (fun _ _ _ _ _ => sts_nil) (fun _ _ _ _ _ => (se_lst sa_nil))) (sss_cons (ss_for PassesOwn.never rfl (si_seq (se_call (ok_places T) (hr.mono (by decide)) (by rfl) T.g_places T.F_places.kp T.b_places pass0 (sa_cons (se_var 0) sa_nil))) (sg_name (i := 7) sc_put_off.nd rfl (by first | exact Or.inl rfl | exact Or.inr rfl)) (sss_one (ss_expr (se_mt PySem.F.plainAttrs_list PySem.F.slot_list_append PySem.F.type_list_append mm_append ty_list (se_ix (im_ix (hu65 hr)) (se_var 5) (se_ix (im_ix (hu65 hr)) (se_var 7) se_int (fun _ _ => rfl)) (fun _ _ => rfl)) (sa_cons (se_var 7) sa_nil))))) (sss_cons (ss_set (i := 8) sc_put_off.nd rfl (by first | exact Or.inl rfl | exact Or.inr rfl) (se_lc (own := [("row", 6)]) rfl sc_put_off.nd (si_seq (se_var 0)) (blkOk_by (own := [("row", 6)]) (N := n_put_off) (sc := defScope s_put_off) (by decide +kernel)) (gonly_name (by decide)) (fun _ _ _ _ _ => pg_name (i := 6) sc_put_off.nd rfl (by first | exact Or.inl rfl | exact Or.inr rfl)) (fun _ _ _ _ _ => sts_nil) (fun _ _ _ _ _ => se_bl))) (sss_cons (ss_set (i := 9) sc_put_off.nd rfl (by first | exact Or.inl rfl | exact Or.inr rfl) se_bl) (sss_cons (ss_while PassesOwn.never (st_tru (se_var 9)) (sss_cons (ss_set (i := 9) sc_put_off.nd rfl (by first | exact Or.inl rfl | exact Or.inr rfl) se_bl) (sss_one (ss_for PassesOwn.never rfl (si_rng1 (by rfl) T.z_range (sa_cons (se_callB cm_len (by rfl) T.z_len bo_len (sa_cons (se_var 0) sa_nil)) sa_nil)) (sg_name (i := 10) sc_put_off.nd rfl (by first | exact Or.inl rfl | exact Or.inr rfl)) (sss_one (ss_for PassesOwn.never rfl (si_seq (se_ix (im_ix (hu65 hr)) (se_var 5) (se_var 10) (fun _ _ => rfl))) (sg_name (i := 7) sc_put_off.nd rfl (by first | exact Or.inl rfl | exact Or.inr rfl)) (sss_one (ss_if (st_w (sw_and (st_tru (se_ix (im_ix (hu65 hr)) (se_var 8) (se_var 10) (fun _ _ => rfl))) (sw_and1 (st_w (sw_or (st_cmp (om_in (hu65 hr)) (se_var 7) (se_var 2) rfl) (sw_or1 (st_not (st_tru (se_call (ok_comes_off T) (hr.mono (by decide)) (by rfl) T.g_comes_off T.F_comes_off.kp T.b_comes_off pass0 (sa_cons (se_var 7) (sa_cons (se_var 1) (sa_cons (se_var 3) (sa_cons (se_var 4) (sa_cons (se_var 8) sa_nil)))))))))))))) (sss_cons (ss_asg se_bl (sg_sub (hu65 hr) (se_var 8) (se_var 10))) (sss_one (ss_set (i := 9) sc_put_off.nd rfl (by first | exact Or.inl rfl | exact Or.inr rfl) se_bl))) sss_nil)))))))) (sss_cons (ss_setLc (i := 11) (own := [("place", 7)]) rfl sc_put_off.nd rfl rfl (sw_true rfl rfl rfl (by decide +kernel)) (si_seq (se_call (ok_places T) (hr.mono (by decide)) (by rfl) T.g_places T.F_places.kp T.b_places pass0 (sa_cons (se_var 0) sa_nil))) (blkOk_by (own := [("place", 7)]) (N := n_put_off) (sc := defScope s_put_off) (by decide +kernel)) (gonly_name (by decide)) (fun _ _ _ _ _ => pg_name (i := 7) sc_put_off.nd rfl (by first | exact Or.inl rfl | exact Or.inr rfl)) (fun _ _ _ _ _ => sts_one (st_tru (se_call (ok_comes_off T) (hr.mono (by decide)) (by rfl) T.g_comes_off T.F_comes_off.kp T.b_comes_off pass0 (sa_cons (se_var 7) (sa_cons (se_var 1) (sa_cons (se_var 3) (sa_cons (se_var 4) (sa_cons (se_var 8) sa_nil)))))))) (fun _ _ _ _ _ => (se_var 7))) (sss_one (ss_ret (se_tup (sa_cons (se_var 11) (sa_cons (se_lc (own := [("m", 10)]) rfl sc_put_off.nd (si_rng1 (by rfl) T.z_range (sa_cons (se_callB cm_len (by rfl) T.z_len bo_len (sa_cons (se_var 0) sa_nil)) sa_nil)) (blkOk_by (own := [("m", 10)]) (N := n_put_off) (sc := defScope s_put_off) (by decide +kernel)) (gonly_name (by decide)) (fun _ _ _ _ _ => pg_name (i := 10) sc_put_off.nd rfl (by first | exact Or.inl rfl | exact Or.inr rfl)) (fun _ _ _ _ _ => sts_one (st_tru (se_ix (im_ix (hu65 hr)) (se_var 8) (se_var 10) (fun _ _ => rfl)))) (fun _ _ _ _ _ => (se_var 10))) sa_nil))))))))))))))
theorem ok_rows_of (T : Txt K mg) : FnOk P w K mg base CX0 4 T.f_rows_of T.fd_rows_of ["program", "k"] (spM ⟨K, mg⟩ m_rows_of) :=
  fn_ok (N := n_rows_of) (b := b_rows_of) T.F_rows_of sc_rows_of fun cdv A outer s H E hr =>
    (sss_cons (ss_set (i := 2) sc_rows_of.nd rfl (by first | exact Or.inl rfl | exact Or.inr rfl) (se_call (ok_own_bits T) (hr.mono (by decide)) (by rfl) T.g_own_bits T.F_own_bits.kp T.b_own_bits pass0 (sa_cons (se_var 0) sa_nil))) (sss_one (ss_ret (se_lc (own := [("n", 3)]) rfl sc_rows_of.nd (si_rng1 (by rfl) T.z_range (sa_cons (se_callB cm_len (by rfl) T.z_len bo_len (sa_cons (se_var 0) sa_nil)) sa_nil)) (blkOk_by (own := [("n", 3)]) (N := n_rows_of) (sc := defScope s_rows_of) (by decide +kernel)) (gonly_name (by decide)) (fun _ _ _ _ _ => pg_name (i := 3) sc_rows_of.nd rfl (by first | exact Or.inl rfl | exact Or.inr rfl)) (fun _ _ _ _ _ => sts_one (st_tru (se_call (ok_has_bit T) (hr.mono (by decide)) (by rfl) T.g_has_bit T.F_has_bit.kp T.b_has_bit pass0 (sa_cons (se_ix (im_ix (hu65 hr)) (se_var 2) (se_var 3) (fun _ _ => rfl)) (sa_cons (se_var 1) sa_nil))))) (fun _ _ _ _ _ => (se_var 3))))))
theorem ok_paper (T : Txt K mg) : FnOk P w K mg base CX0 8 T.f_paper T.fd_paper ["program", "k", "stops"] (spM ⟨K, mg⟩ m_paper) :=
  fn_okD (N := n_paper) (b := b_paper) T.F_paper sc_paper fun cdv A outer s H E hr =>
    (sss_cons (ss_asg (se_call (ok_put_off T) (hr.mono (by decide)) (by rfl) T.g_put_off T.F_put_off.kp T.b_put_off pass0 (sa_cons (se_var 0) (sa_cons (se_var 1) (sa_cons (se_var 2) sa_nil)))) (sg_tup rfl (sgs_cons (sg_name (i := 3) sc_paper.nd rfl (by first | exact Or.inl rfl | exact Or.inr rfl)) (sgs_cons (sg_name (i := 4) sc_paper.nd rfl (by first | exact Or.inl rfl | exact Or.inr rfl)) sgs_nil)))) (sss_cons (ss_set (i := 5) sc_paper.nd rfl (by first | exact Or.inl rfl | exact Or.inr rfl) (se_callTy cm_tupX (by rfl) T.z_tuple bo_tuple (sa_cons (se_lc (own := [("place", 6)]) rfl sc_paper.nd (si_seq (se_var 3)) (blkOk_by (own := [("place", 6)]) (N := n_paper) (sc := defScope s_paper) (by decide +kernel)) (gonly_name (by decide)) (fun _ _ _ _ _ => pg_name (i := 6) sc_paper.nd rfl (by first | exact Or.inl rfl | exact Or.inr rfl)) (fun _ _ _ _ _ => sts_one (st_cmp (om_notin (hu65 hr)) (se_ix (im_ix (hu65 hr)) (se_var 6) se_int (fun _ _ => rfl)) (se_var 4) rfl)) (fun _ _ _ _ _ => (se_var 6))) sa_nil))) (sss_cons (ss_set (i := 7) sc_paper.nd rfl (by first | exact Or.inl rfl | exact Or.inr rfl) (se_call (ok_lost_bits T) (hr.mono (by decide)) (by rfl) T.g_lost_bits T.F_lost_bits.kp T.b_lost_bits pass0 (sa_cons (se_var 0) sa_nil))) (sss_cons (ss_set (i := 8) sc_paper.nd rfl (by first | exact Or.inl rfl | exact Or.inr rfl) (se_lst sa_nil)) (sss_cons (ss_for PassesOwn.never rfl (si_seq (se_call (ok_rows_of T) (hr.mono (by decide)) (by rfl) T.g_rows_of T.F_rows_of.kp T.b_rows_of pass0 (sa_cons (se_var 0) (sa_cons (se_var 1) sa_nil)))) (sg_name (i := 9) sc_paper.nd rfl (by first | exact Or.inl rfl | exact Or.inr rfl)) (sss_one (ss_if (st_cmp (om_notin (hu65 hr)) (se_var 9) (se_var 4) rfl) (sss_one (ss_expr (se_mt PySem.F.plainAttrs_list PySem.F.slot_list_append PySem.F.type_list_append mm_append ty_list (se_var 8) (sa_cons (se_tup (sa_cons (se_var 9) (sa_cons (se_str q_read) sa_nil))) sa_nil)))) (sss_one (ss_if (st_tru (se_call (ok_has_bit T) (hr.mono (by decide)) (by rfl) T.g_has_bit T.F_has_bit.kp T.b_has_bit pass0 (sa_cons (se_ix (im_ix (hu65 hr)) (se_var 7) (se_var 9) (fun _ _ => rfl)) (sa_cons (se_var 1) sa_nil)))) (sss_one (ss_expr (se_mt PySem.F.plainAttrs_list PySem.F.slot_list_append PySem.F.type_list_append mm_append ty_list (se_var 8) (sa_cons (se_tup (sa_cons (se_var 9) (sa_cons (se_str q_own) sa_nil))) sa_nil)))) (sss_one (ss_expr (se_mt PySem.F.plainAttrs_list PySem.F.slot_list_append PySem.F.type_list_append mm_append ty_list (se_var 8) (sa_cons (se_tup (sa_cons (se_var 9) (sa_cons (se_str q_keep) sa_nil))) sa_nil))))))))) (sss_cons (ss_set (i := 10) sc_paper.nd rfl (by first | exact Or.inl rfl | exact Or.inr rfl) (se_call (ok_live T) (hr.mono (by decide)) (by rfl) T.g_live T.F_live.kp T.b_live pass0 (sa_cons (se_var 0) (sa_cons (se_var 1) (sa_cons (se_tup (sa_cons (se_var 5) (sa_cons (se_callTy cm_tupX (by rfl) T.z_tuple bo_tuple (sa_cons (se_var 8) sa_nil)) sa_nil))) sa_nil))))) (sss_cons (ss_set (i := 11) sc_paper.nd rfl (by first | exact Or.inl rfl | exact Or.inr rfl) (se_lst sa_nil)) (sss_cons (ss_for PassesOwn.never rfl (si_seq (se_var 8)) (sg_tup rfl (sgs_cons (sg_name (i := 9) sc_paper.nd rfl (by first | exact Or.inl rfl | exact Or.inr rfl)) (sgs_cons (sg_name (i := 12) sc_paper.nd rfl (by first | exact Or.inl rfl | exact Or.inr rfl)) sgs_nil))) (sss_cons (ss_if (st_w (sw_and (st_cmp (om_eq (hu65 hr)) (se_var 12) (se_str q_keep) (nomark _)) (sw_and1 (st_not (st_tru (se_call (ok_is_kept_for T) (hr.mono (by decide)) (by rfl) T.g_is_kept_for T.F_is_kept_for.kp T.b_is_kept_for pass0 (sa_cons (se_var 0) (sa_cons (se_var 9) (sa_cons (se_var 5) (sa_cons (se_var 10) sa_nil)))))))))) (sss_one (ss_set (i := 12) sc_paper.nd rfl (by first | exact Or.inl rfl | exact Or.inr rfl) (se_str q_own))) sss_nil) (sss_one (ss_expr (se_mt PySem.F.plainAttrs_list PySem.F.slot_list_append PySem.F.type_list_append mm_append ty_list (se_var 11) (sa_cons (se_tup (sa_cons (se_var 9) (sa_cons (se_var 12) sa_nil))) sa_nil)))))) (sss_one (ss_ret (se_tup (sa_cons (se_var 5) (sa_cons (se_callTy cm_tupX (by rfl) T.z_tuple bo_tuple (sa_cons (se_var 11) sa_nil)) sa_nil)))))))))))))
theorem ok_law (T : Txt K mg) : FnOk P w K mg base CX0 9 T.f_law T.fd_law ["_law_script"] (spM ⟨K, mg⟩ m_law) :=
  fn_ok (N := n_law) (b := b_law) T.F_law sc_law fun cdv A outer s H E hr =>
    (sss_cons (ss_set (i := 1) sc_law.nd rfl (by first | exact Or.inl rfl | exact Or.inr rfl) (se_call (ok_law_names T) (hr.mono (by decide)) (by rfl) T.g_law_names T.F_law_names.kp T.b_law_names pass0 (sa_cons (se_call (ok_law_cell T) (hr.mono (by decide)) (by rfl) T.g_law_cell T.F_law_cell.kp T.b_law_cell pass0 (sa_cons (se_var 0) (sa_cons se_int sa_nil))) (sa_cons (se_call (ok_law_cell T) (hr.mono (by decide)) (by rfl) T.g_law_cell T.F_law_cell.kp T.b_law_cell pass0 (sa_cons (se_var 0) (sa_cons se_int sa_nil))) sa_nil)))) (sss_cons (ss_set (i := 2) sc_law.nd rfl (by first | exact Or.inl rfl | exact Or.inr rfl) (se_call (ok_law_program T) (hr.mono (by decide)) (by rfl) T.g_law_program T.F_law_program.kp T.b_law_program pass0 (sa_cons (se_var 0) (sa_cons (se_var 1) (sa_cons se_int sa_nil))))) (sss_cons (ss_set (i := 3) sc_law.nd rfl (by first | exact Or.inl rfl | exact Or.inr rfl) (se_call (ok_reckonings T) (hr.mono (by decide)) (by rfl) T.g_reckonings T.F_reckonings.kp T.b_reckonings pass0 (sa_cons (se_var 2) sa_nil))) (sss_cons (ss_set (i := 4) sc_law.nd rfl (by first | exact Or.inl rfl | exact Or.inr rfl) (se_call (ok_law_way T) (hr.mono (by decide)) (by rfl) T.g_law_way T.F_law_way.kp T.b_law_way pass0 (sa_cons (se_var 2) (sa_cons (se_sl slm (se_var 0) (so_some se_int) (so_some se_int)) sa_nil)))) (sss_cons (ss_for PassesOwn.never rfl (si_rng1 (by rfl) T.z_range (sa_cons (se_callB cm_len (by rfl) T.z_len bo_len (sa_cons (se_var 3) sa_nil)) sa_nil)) (sg_name (i := 5) sc_law.nd rfl (by first | exact Or.inl rfl | exact Or.inr rfl)) (sss_one (ss_for PassesOwn.never rfl (si_seq (se_lst (sa_cons (se_callD (ok_paper T) (hr.mono (by decide)) (by rfl) T.g_paper T.F_paper.kp T.c_paper (fun _ _ => .cons .non (.nil)) pass0 (sa_cons (se_var 2) (sa_cons (se_var 5) sa_nil))) (sa_cons (se_call (ok_paper T) (hr.mono (by decide)) (by rfl) T.g_paper T.F_paper.kp T.b_paper pass0 (sa_cons (se_var 2) (sa_cons (se_var 5) (sa_cons (se_call (ok_places T) (hr.mono (by decide)) (by rfl) T.g_places T.F_places.kp T.b_places pass0 (sa_cons (se_var 2) sa_nil)) sa_nil)))) sa_nil)))) (sg_name (i := 6) sc_law.nd rfl (by first | exact Or.inl rfl | exact Or.inr rfl)) (sss_cons (ss_set (i := 7) sc_law.nd rfl (by first | exact Or.inl rfl | exact Or.inr rfl) (se_callTy (cm_dict rfl) (by rfl) T.z_dict bo_dict (sa_cons (se_ix (im_ix (hu65 hr)) (se_var 6) se_int (fun _ _ => rfl)) sa_nil))) (sss_cons (ss_set (i := 8) sc_law.nd rfl (by first | exact Or.inl rfl | exact Or.inr rfl) se_int) (sss_cons (ss_set (i := 9) sc_law.nd rfl (by first | exact Or.inl rfl | exact Or.inr rfl) se_int) (sss_cons (ss_set (i := 10) sc_law.nd rfl (by first | exact Or.inl rfl | exact Or.inr rfl) (se_neg se_int)) (sss_cons (ss_for PassesOwn.never rfl (si_seq (se_var 4)) (sg_name (i := 11) sc_law.nd rfl (by first | exact Or.inl rfl | exact Or.inr rfl)) (sss_cons (ss_set (i := 8) sc_law.nd rfl (by first | exact Or.inl rfl | exact Or.inr rfl) (se_op om_add (se_var 8) (se_callTy cm_int (by rfl) T.z_int bo_int (sa_cons (se_and (se_cmp (om_eq (hu65 hr)) (se_ix (im_ix (hu65 hr)) (se_ix (im_ix (hu65 hr)) (se_var 2) (se_var 11) (fun _ _ => rfl)) se_int (fun _ _ => rfl)) (se_str q_reckon) (nomark _)) (se_one (se_cmp (om_eq (hu65 hr)) (se_sl slm (se_ix (im_ix (hu65 hr)) (se_var 2) (se_var 11) (fun _ _ => rfl)) (so_some se_int) so_none) (se_ix (im_ix (hu65 hr)) (se_var 3) (se_var 5) (fun _ _ => rfl)) (nomark _)))) sa_nil)))) (sss_cons (ss_set (i := 9) sc_law.nd rfl (by first | exact Or.inl rfl | exact Or.inr rfl) (se_op om_add (se_op om_add (se_var 9) (se_callTy cm_int (by rfl) T.z_int bo_int (sa_cons (se_cmp (om_in (hu65 hr)) (se_tup (sa_cons (se_var 10) (sa_cons (se_var 11) sa_nil))) (se_ix (im_ix (hu65 hr)) (se_var 6) se_int (fun _ _ => rfl)) rfl) sa_nil))) (se_callTy cm_int (by rfl) T.z_int bo_int (sa_cons (se_cmp (om_ne (hu65 hr)) (se_mt PySem.F.plainAttrs_dict PySem.F.slot_dict_get PySem.F.type_dict_get (mm_dget (Nat.lt_of_le_of_lt (Nat.add_le_add_left (by decide : 1 ≤ 65) _) (hu65 hr))) ty_dict (se_var 7) (sa_cons (se_var 11) (sa_cons (se_str q_read) sa_nil))) (se_str q_read) (nomark _)) sa_nil)))) (sss_cons (ss_set (i := 10) sc_law.nd rfl (by first | exact Or.inl rfl | exact Or.inr rfl) (se_var 11)) (sss_one (ss_if (st_cmp om_gt (se_var 9) (se_op om_add (se_var 8) se_int) (nomark _)) (sss_one (ss_ret se_bl)) sss_nil)))))) (sss_one (ss_if (st_cmp om_gt (se_var 9) (se_var 8) (nomark _)) (sss_one (ss_ret se_bl)) sss_nil)))))))))) (sss_one (ss_ret se_bl)))))))
end
theorem all_mk {P : Program} {w : World} {K : PySem.W.Frag} {h : Heap} {mg : Str → Option Value} {fa : Addr} (X : K.In h) (G : h.Ns mainGlobals mg) (hfa : mg "law" = some (.ref fa))
    {od1 an1 : Option Addr} {sl1 : Array (Option Value)} {oc1 kV1 dc1 pm1 cd1 ct1 : Value} {f1 : Addr}
    {od2 an2 : Option Addr} {sl2 : Array (Option Value)} {oc2 kV2 dc2 pm2 cd2 ct2 : Value} {f2 : Addr}
    {od3 an3 : Option Addr} {sl3 : Array (Option Value)} {oc3 kV3 dc3 pm3 cd3 ct3 : Value} {f3 : Addr}
    {od4 an4 : Option Addr} {sl4 : Array (Option Value)} {oc4 kV4 dc4 pm4 cd4 ct4 : Value} {f4 : Addr}
    {od5 an5 : Option Addr} {sl5 : Array (Option Value)} {oc5 kV5 dc5 pm5 cd5 ct5 : Value} {f5 : Addr}
    {od6 an6 : Option Addr} {sl6 : Array (Option Value)} {oc6 kV6 dc6 pm6 cd6 ct6 : Value} {f6 : Addr}
    {od7 an7 : Option Addr} {sl7 : Array (Option Value)} {oc7 kV7 dc7 pm7 cd7 ct7 : Value} {f7 : Addr}
    {od8 an8 : Option Addr} {sl8 : Array (Option Value)} {oc8 kV8 dc8 pm8 cd8 ct8 : Value} {f8 : Addr}
    {od9 an9 : Option Addr} {sl9 : Array (Option Value)} {oc9 kV9 dc9 pm9 cd9 ct9 : Value} {f9 : Addr}
    {od10 an10 : Option Addr} {sl10 : Array (Option Value)} {oc10 kV10 dc10 pm10 cd10 ct10 : Value} {f10 : Addr}
    {od11 an11 : Option Addr} {sl11 : Array (Option Value)} {oc11 kV11 dc11 pm11 cd11 ct11 : Value} {f11 : Addr}
    {od12 an12 : Option Addr} {sl12 : Array (Option Value)} {oc12 kV12 dc12 pm12 cd12 ct12 : Value} {f12 : Addr}
    {od13 an13 : Option Addr} {sl13 : Array (Option Value)} {oc13 kV13 dc13 pm13 cd13 ct13 : Value} {f13 : Addr}
    {od14 an14 : Option Addr} {sl14 : Array (Option Value)} {oc14 kV14 dc14 pm14 cd14 ct14 : Value} {f14 : Addr}
    {od15 an15 : Option Addr} {sl15 : Array (Option Value)} {oc15 kV15 dc15 pm15 cd15 ct15 : Value} {f15 : Addr}
    {od16 an16 : Option Addr} {sl16 : Array (Option Value)} {oc16 kV16 dc16 pm16 cd16 ct16 : Value} {f16 : Addr}
    {od17 an17 : Option Addr} {sl17 : Array (Option Value)} {oc17 kV17 dc17 pm17 cd17 ct17 : Value} {f17 : Addr}
    {od18 an18 : Option Addr} {sl18 : Array (Option Value)} {oc18 kV18 dc18 pm18 cd18 ct18 : Value} {f18 : Addr}
    {od19 an19 : Option Addr} {sl19 : Array (Option Value)} {oc19 kV19 dc19 pm19 cd19 ct19 : Value} {f19 : Addr}
    {od20 an20 : Option Addr} {sl20 : Array (Option Value)} {oc20 kV20 dc20 pm20 cd20 ct20 : Value} {f20 : Addr}
    {od21 an21 : Option Addr} {sl21 : Array (Option Value)} {oc21 kV21 dc21 pm21 cd21 ct21 : Value} {f21 : Addr}
    {od22 an22 : Option Addr} {sl22 : Array (Option Value)} {oc22 kV22 dc22 pm22 cd22 ct22 : Value} {f22 : Addr}
    {od23 an23 : Option Addr} {sl23 : Array (Option Value)} {oc23 kV23 dc23 pm23 cd23 ct23 : Value} {f23 : Addr}
    {od24 an24 : Option Addr} {sl24 : Array (Option Value)} {oc24 kV24 dc24 pm24 cd24 ct24 : Value} {f24 : Addr}
    {od25 an25 : Option Addr} {sl25 : Array (Option Value)} {oc25 kV25 dc25 pm25 cd25 ct25 : Value} {f25 : Addr}
    {od26 an26 : Option Addr} {sl26 : Array (Option Value)} {oc26 kV26 dc26 pm26 cd26 ct26 : Value} {f26 : Addr}
    {od27 an27 : Option Addr} {sl27 : Array (Option Value)} {oc27 kV27 dc27 pm27 cd27 ct27 : Value} {f27 : Addr}
    {od28 an28 : Option Addr} {sl28 : Array (Option Value)} {oc28 kV28 dc28 pm28 cd28 ct28 : Value} {f28 : Addr}
    {od29 an29 : Option Addr} {sl29 : Array (Option Value)} {oc29 kV29 dc29 pm29 cd29 ct29 : Value} {f29 : Addr}
    {od30 an30 : Option Addr} {sl30 : Array (Option Value)} {oc30 kV30 dc30 pm30 cd30 ct30 : Value} {f30 : Addr}
    {od31 an31 : Option Addr} {sl31 : Array (Option Value)} {oc31 kV31 dc31 pm31 cd31 ct31 : Value} {f31 : Addr}
    {od32 an32 : Option Addr} {sl32 : Array (Option Value)} {oc32 kV32 dc32 pm32 cd32 ct32 : Value} {f32 : Addr}
    {od33 an33 : Option Addr} {sl33 : Array (Option Value)} {oc33 kV33 dc33 pm33 cd33 ct33 : Value} {f33 : Addr}
    {od34 an34 : Option Addr} {sl34 : Array (Option Value)} {oc34 kV34 dc34 pm34 cd34 ct34 : Value} {f34 : Addr}
    {dT35 : Addr} {dd35 : Option Addr} {ds35 : Array (Option Value)} {dn35 : Nat}
    {od35 an35 : Option Addr} {sl35 : Array (Option Value)} {oc35 kV35 dc35 pm35 cd35 ct35 : Value} {f35 : Addr}
    {od36 an36 : Option Addr} {sl36 : Array (Option Value)} {oc36 kV36 dc36 pm36 cd36 ct36 : Value} {f36 : Addr}
    {dT37 : Addr} {dd37 : Option Addr} {ds37 : Array (Option Value)} {dn37 : Nat}
    {od37 an37 : Option Addr} {sl37 : Array (Option Value)} {oc37 kV37 dc37 pm37 cd37 ct37 : Value} {f37 : Addr}
    {od38 an38 : Option Addr} {sl38 : Array (Option Value)} {oc38 kV38 dc38 pm38 cd38 ct38 : Value} {f38 : Addr}
    (a1 : PySem.W.nsIn K mainGlobals "_law_cell" = some (some (.ref f1))) (l1 : K.lookup f1 = some ⟨oc1, od1, .func (PySem.W.fnOf "_law_cell" "_law_cell" (defArgs s_law_cell) (defBody s_law_cell) (defScope s_law_cell) .none kV1 dc1 pm1 an1 cd1 ct1), sl1⟩) (c1 : PySem.W.codeIn K cd1 "_law_cell" = true) (k1 : PySem.W.keepIn K (.ref f1) = true)
    (a2 : PySem.W.nsIn K mainGlobals "_law_names" = some (some (.ref f2))) (l2 : K.lookup f2 = some ⟨oc2, od2, .func (PySem.W.fnOf "_law_names" "_law_names" (defArgs s_law_names) (defBody s_law_names) (defScope s_law_names) .none kV2 dc2 pm2 an2 cd2 ct2), sl2⟩) (c2 : PySem.W.codeIn K cd2 "_law_names" = true) (k2 : PySem.W.keepIn K (.ref f2) = true)
    (a3 : PySem.W.nsIn K mainGlobals "_law_mixed" = some (some (.ref f3))) (l3 : K.lookup f3 = some ⟨oc3, od3, .func (PySem.W.fnOf "_law_mixed" "_law_mixed" (defArgs s_law_mixed) (defBody s_law_mixed) (defScope s_law_mixed) .none kV3 dc3 pm3 an3 cd3 ct3), sl3⟩) (c3 : PySem.W.codeIn K cd3 "_law_mixed" = true) (k3 : PySem.W.keepIn K (.ref f3) = true)
    (a4 : PySem.W.nsIn K mainGlobals "_law_drawn" = some (some (.ref f4))) (l4 : K.lookup f4 = some ⟨oc4, od4, .func (PySem.W.fnOf "_law_drawn" "_law_drawn" (defArgs s_law_drawn) (defBody s_law_drawn) (defScope s_law_drawn) .none kV4 dc4 pm4 an4 cd4 ct4), sl4⟩) (c4 : PySem.W.codeIn K cd4 "_law_drawn" = true) (k4 : PySem.W.keepIn K (.ref f4) = true)
    (a5 : PySem.W.nsIn K mainGlobals "_law_followers" = some (some (.ref f5))) (l5 : K.lookup f5 = some ⟨oc5, od5, .func (PySem.W.fnOf "_law_followers" "_law_followers" (defArgs s_law_followers) (defBody s_law_followers) (defScope s_law_followers) .none kV5 dc5 pm5 an5 cd5 ct5), sl5⟩) (c5 : PySem.W.codeIn K cd5 "_law_followers" = true) (k5 : PySem.W.keepIn K (.ref f5) = true)
    (a6 : PySem.W.nsIn K mainGlobals "_law_far" = some (some (.ref f6))) (l6 : K.lookup f6 = some ⟨oc6, od6, .func (PySem.W.fnOf "_law_far" "_law_far" (defArgs s_law_far) (defBody s_law_far) (defScope s_law_far) .none kV6 dc6 pm6 an6 cd6 ct6), sl6⟩) (c6 : PySem.W.codeIn K cd6 "_law_far" = true) (k6 : PySem.W.keepIn K (.ref f6) = true)
    (a7 : PySem.W.nsIn K mainGlobals "_law_reached" = some (some (.ref f7))) (l7 : K.lookup f7 = some ⟨oc7, od7, .func (PySem.W.fnOf "_law_reached" "_law_reached" (defArgs s_law_reached) (defBody s_law_reached) (defScope s_law_reached) .none kV7 dc7 pm7 an7 cd7 ct7), sl7⟩) (c7 : PySem.W.codeIn K cd7 "_law_reached" = true) (k7 : PySem.W.keepIn K (.ref f7) = true)
    (a8 : PySem.W.nsIn K mainGlobals "_law_mended" = some (some (.ref f8))) (l8 : K.lookup f8 = some ⟨oc8, od8, .func (PySem.W.fnOf "_law_mended" "_law_mended" (defArgs s_law_mended) (defBody s_law_mended) (defScope s_law_mended) .none kV8 dc8 pm8 an8 cd8 ct8), sl8⟩) (c8 : PySem.W.codeIn K cd8 "_law_mended" = true) (k8 : PySem.W.keepIn K (.ref f8) = true)
    (a9 : PySem.W.nsIn K mainGlobals "_law_operand" = some (some (.ref f9))) (l9 : K.lookup f9 = some ⟨oc9, od9, .func (PySem.W.fnOf "_law_operand" "_law_operand" (defArgs s_law_operand) (defBody s_law_operand) (defScope s_law_operand) .none kV9 dc9 pm9 an9 cd9 ct9), sl9⟩) (c9 : PySem.W.codeIn K cd9 "_law_operand" = true) (k9 : PySem.W.keepIn K (.ref f9) = true)
    (a10 : PySem.W.nsIn K mainGlobals "_law_pool" = some (some (.ref f10))) (l10 : K.lookup f10 = some ⟨oc10, od10, .func (PySem.W.fnOf "_law_pool" "_law_pool" (defArgs s_law_pool) (defBody s_law_pool) (defScope s_law_pool) .none kV10 dc10 pm10 an10 cd10 ct10), sl10⟩) (c10 : PySem.W.codeIn K cd10 "_law_pool" = true) (k10 : PySem.W.keepIn K (.ref f10) = true)
    (a11 : PySem.W.nsIn K mainGlobals "_law_row" = some (some (.ref f11))) (l11 : K.lookup f11 = some ⟨oc11, od11, .func (PySem.W.fnOf "_law_row" "_law_row" (defArgs s_law_row) (defBody s_law_row) (defScope s_law_row) .none kV11 dc11 pm11 an11 cd11 ct11), sl11⟩) (c11 : PySem.W.codeIn K cd11 "_law_row" = true) (k11 : PySem.W.keepIn K (.ref f11) = true)
    (a12 : PySem.W.nsIn K mainGlobals "_law_program" = some (some (.ref f12))) (l12 : K.lookup f12 = some ⟨oc12, od12, .func (PySem.W.fnOf "_law_program" "_law_program" (defArgs s_law_program) (defBody s_law_program) (defScope s_law_program) .none kV12 dc12 pm12 an12 cd12 ct12), sl12⟩) (c12 : PySem.W.codeIn K cd12 "_law_program" = true) (k12 : PySem.W.keepIn K (.ref f12) = true)
    (a13 : PySem.W.nsIn K mainGlobals "_law_way" = some (some (.ref f13))) (l13 : K.lookup f13 = some ⟨oc13, od13, .func (PySem.W.fnOf "_law_way" "_law_way" (defArgs s_law_way) (defBody s_law_way) (defScope s_law_way) .none kV13 dc13 pm13 an13 cd13 ct13), sl13⟩) (c13 : PySem.W.codeIn K cd13 "_law_way" = true) (k13 : PySem.W.keepIn K (.ref f13) = true)
    (a14 : PySem.W.nsIn K mainGlobals "has_bit" = some (some (.ref f14))) (l14 : K.lookup f14 = some ⟨oc14, od14, .func (PySem.W.fnOf "has_bit" "has_bit" (defArgs s_has_bit) (defBody s_has_bit) (defScope s_has_bit) .none kV14 dc14 pm14 an14 cd14 ct14), sl14⟩) (c14 : PySem.W.codeIn K cd14 "has_bit" = true) (k14 : PySem.W.keepIn K (.ref f14) = true)
    (a15 : PySem.W.nsIn K mainGlobals "followers" = some (some (.ref f15))) (l15 : K.lookup f15 = some ⟨oc15, od15, .func (PySem.W.fnOf "followers" "followers" (defArgs s_followers) (defBody s_followers) (defScope s_followers) .none kV15 dc15 pm15 an15 cd15 ct15), sl15⟩) (c15 : PySem.W.codeIn K cd15 "followers" = true) (k15 : PySem.W.keepIn K (.ref f15) = true)
    (a16 : PySem.W.nsIn K mainGlobals "is_kept_for" = some (some (.ref f16))) (l16 : K.lookup f16 = some ⟨oc16, od16, .func (PySem.W.fnOf "is_kept_for" "is_kept_for" (defArgs s_is_kept_for) (defBody s_is_kept_for) (defScope s_is_kept_for) .none kV16 dc16 pm16 an16 cd16 ct16), sl16⟩) (c16 : PySem.W.codeIn K cd16 "is_kept_for" = true) (k16 : PySem.W.keepIn K (.ref f16) = true)
    (a17 : PySem.W.nsIn K mainGlobals "sets" = some (some (.ref f17))) (l17 : K.lookup f17 = some ⟨oc17, od17, .func (PySem.W.fnOf "sets" "sets" (defArgs s_sets) (defBody s_sets) (defScope s_sets) .none kV17 dc17 pm17 an17 cd17 ct17), sl17⟩) (c17 : PySem.W.codeIn K cd17 "sets" = true) (k17 : PySem.W.keepIn K (.ref f17) = true)
    (a18 : PySem.W.nsIn K mainGlobals "changes" = some (some (.ref f18))) (l18 : K.lookup f18 = some ⟨oc18, od18, .func (PySem.W.fnOf "changes" "changes" (defArgs s_changes) (defBody s_changes) (defScope s_changes) .none kV18 dc18 pm18 an18 cd18 ct18), sl18⟩) (c18 : PySem.W.codeIn K cd18 "changes" = true) (k18 : PySem.W.keepIn K (.ref f18) = true)
    (a19 : PySem.W.nsIn K mainGlobals "reckoning_of" = some (some (.ref f19))) (l19 : K.lookup f19 = some ⟨oc19, od19, .func (PySem.W.fnOf "reckoning_of" "reckoning_of" (defArgs s_reckoning_of) (defBody s_reckoning_of) (defScope s_reckoning_of) .none kV19 dc19 pm19 an19 cd19 ct19), sl19⟩) (c19 : PySem.W.codeIn K cd19 "reckoning_of" = true) (k19 : PySem.W.keepIn K (.ref f19) = true)
    (a20 : PySem.W.nsIn K mainGlobals "reckonings" = some (some (.ref f20))) (l20 : K.lookup f20 = some ⟨oc20, od20, .func (PySem.W.fnOf "reckonings" "reckonings" (defArgs s_reckonings) (defBody s_reckonings) (defScope s_reckonings) .none kV20 dc20 pm20 an20 cd20 ct20), sl20⟩) (c20 : PySem.W.codeIn K cd20 "reckonings" = true) (k20 : PySem.W.keepIn K (.ref f20) = true)
    (a21 : PySem.W.nsIn K mainGlobals "lost_bits" = some (some (.ref f21))) (l21 : K.lookup f21 = some ⟨oc21, od21, .func (PySem.W.fnOf "lost_bits" "lost_bits" (defArgs s_lost_bits) (defBody s_lost_bits) (defScope s_lost_bits) .none kV21 dc21 pm21 an21 cd21 ct21), sl21⟩) (c21 : PySem.W.codeIn K cd21 "lost_bits" = true) (k21 : PySem.W.keepIn K (.ref f21) = true)
    (a22 : PySem.W.nsIn K mainGlobals "asks_box" = some (some (.ref f22))) (l22 : K.lookup f22 = some ⟨oc22, od22, .func (PySem.W.fnOf "asks_box" "asks_box" (defArgs s_asks_box) (defBody s_asks_box) (defScope s_asks_box) .none kV22 dc22 pm22 an22 cd22 ct22), sl22⟩) (c22 : PySem.W.codeIn K cd22 "asks_box" = true) (k22 : PySem.W.keepIn K (.ref f22) = true)
    (a23 : PySem.W.nsIn K mainGlobals "places" = some (some (.ref f23))) (l23 : K.lookup f23 = some ⟨oc23, od23, .func (PySem.W.fnOf "places" "places" (defArgs s_places) (defBody s_places) (defScope s_places) .none kV23 dc23 pm23 an23 cd23 ct23), sl23⟩) (c23 : PySem.W.codeIn K cd23 "places" = true) (k23 : PySem.W.keepIn K (.ref f23) = true)
    (a24 : PySem.W.nsIn K mainGlobals "live" = some (some (.ref f24))) (l24 : K.lookup f24 = some ⟨oc24, od24, .func (PySem.W.fnOf "live" "live" (defArgs s_live) (defBody s_live) (defScope s_live) .none kV24 dc24 pm24 an24 cd24 ct24), sl24⟩) (c24 : PySem.W.codeIn K cd24 "live" = true) (k24 : PySem.W.keepIn K (.ref f24) = true)
    (a25 : PySem.W.nsIn K mainGlobals "comes_off" = some (some (.ref f25))) (l25 : K.lookup f25 = some ⟨oc25, od25, .func (PySem.W.fnOf "comes_off" "comes_off" (defArgs s_comes_off) (defBody s_comes_off) (defScope s_comes_off) .none kV25 dc25 pm25 an25 cd25 ct25), sl25⟩) (c25 : PySem.W.codeIn K cd25 "comes_off" = true) (k25 : PySem.W.keepIn K (.ref f25) = true)
    (a26 : PySem.W.nsIn K mainGlobals "all_bits" = some (some (.ref f26))) (l26 : K.lookup f26 = some ⟨oc26, od26, .func (PySem.W.fnOf "all_bits" "all_bits" (defArgs s_all_bits) (defBody s_all_bits) (defScope s_all_bits) .none kV26 dc26 pm26 an26 cd26 ct26), sl26⟩) (c26 : PySem.W.codeIn K cd26 "all_bits" = true) (k26 : PySem.W.keepIn K (.ref f26) = true)
    (a27 : PySem.W.nsIn K mainGlobals "own_bits" = some (some (.ref f27))) (l27 : K.lookup f27 = some ⟨oc27, od27, .func (PySem.W.fnOf "own_bits" "own_bits" (defArgs s_own_bits) (defBody s_own_bits) (defScope s_own_bits) .none kV27 dc27 pm27 an27 cd27 ct27), sl27⟩) (c27 : PySem.W.codeIn K cd27 "own_bits" = true) (k27 : PySem.W.keepIn K (.ref f27) = true)
    (a28 : PySem.W.nsIn K mainGlobals "kept_back" = some (some (.ref f28))) (l28 : K.lookup f28 = some ⟨oc28, od28, .func (PySem.W.fnOf "kept_back" "kept_back" (defArgs s_kept_back) (defBody s_kept_back) (defScope s_kept_back) .none kV28 dc28 pm28 an28 cd28 ct28), sl28⟩) (c28 : PySem.W.codeIn K cd28 "kept_back" = true) (k28 : PySem.W.keepIn K (.ref f28) = true)
    (a29 : PySem.W.nsIn K mainGlobals "ahead_of" = some (some (.ref f29))) (l29 : K.lookup f29 = some ⟨oc29, od29, .func (PySem.W.fnOf "ahead_of" "ahead_of" (defArgs s_ahead_of) (defBody s_ahead_of) (defScope s_ahead_of) .none kV29 dc29 pm29 an29 cd29 ct29), sl29⟩) (c29 : PySem.W.codeIn K cd29 "ahead_of" = true) (k29 : PySem.W.keepIn K (.ref f29) = true)
    (a30 : PySem.W.nsIn K mainGlobals "left_by" = some (some (.ref f30))) (l30 : K.lookup f30 = some ⟨oc30, od30, .func (PySem.W.fnOf "left_by" "left_by" (defArgs s_left_by) (defBody s_left_by) (defScope s_left_by) .none kV30 dc30 pm30 an30 cd30 ct30), sl30⟩) (c30 : PySem.W.codeIn K cd30 "left_by" = true) (k30 : PySem.W.keepIn K (.ref f30) = true)
    (a31 : PySem.W.nsIn K mainGlobals "standing" = some (some (.ref f31))) (l31 : K.lookup f31 = some ⟨oc31, od31, .func (PySem.W.fnOf "standing" "standing" (defArgs s_standing) (defBody s_standing) (defScope s_standing) .none kV31 dc31 pm31 an31 cd31 ct31), sl31⟩) (c31 : PySem.W.codeIn K cd31 "standing" = true) (k31 : PySem.W.keepIn K (.ref f31) = true)
    (a32 : PySem.W.nsIn K mainGlobals "asked_by" = some (some (.ref f32))) (l32 : K.lookup f32 = some ⟨oc32, od32, .func (PySem.W.fnOf "asked_by" "asked_by" (defArgs s_asked_by) (defBody s_asked_by) (defScope s_asked_by) .none kV32 dc32 pm32 an32 cd32 ct32), sl32⟩) (c32 : PySem.W.codeIn K cd32 "asked_by" = true) (k32 : PySem.W.keepIn K (.ref f32) = true)
    (a33 : PySem.W.nsIn K mainGlobals "wanted" = some (some (.ref f33))) (l33 : K.lookup f33 = some ⟨oc33, od33, .func (PySem.W.fnOf "wanted" "wanted" (defArgs s_wanted) (defBody s_wanted) (defScope s_wanted) .none kV33 dc33 pm33 an33 cd33 ct33), sl33⟩) (c33 : PySem.W.codeIn K cd33 "wanted" = true) (k33 : PySem.W.keepIn K (.ref f33) = true)
    (a34 : PySem.W.nsIn K mainGlobals "firsts" = some (some (.ref f34))) (l34 : K.lookup f34 = some ⟨oc34, od34, .func (PySem.W.fnOf "firsts" "firsts" (defArgs s_firsts) (defBody s_firsts) (defScope s_firsts) .none kV34 dc34 pm34 an34 cd34 ct34), sl34⟩) (c34 : PySem.W.codeIn K cd34 "firsts" = true) (k34 : PySem.W.keepIn K (.ref f34) = true)
    (a35 : PySem.W.nsIn K mainGlobals "put_off" = some (some (.ref f35))) (l35 : K.lookup f35 = some ⟨oc35, od35, .func (PySem.W.fnOf "put_off" "put_off" (defArgs s_put_off) (defBody s_put_off) (defScope s_put_off) (.ref dT35) kV35 dc35 pm35 an35 cd35 ct35), sl35⟩) (c35 : PySem.W.codeIn K cd35 "put_off" = true) (k35 : PySem.W.keepIn K (.ref f35) = true)
    (e35 : K.lookup dT35 = some ⟨.type "tuple", dd35, .seq #[.none] dn35, ds35⟩)
    (a36 : PySem.W.nsIn K mainGlobals "rows_of" = some (some (.ref f36))) (l36 : K.lookup f36 = some ⟨oc36, od36, .func (PySem.W.fnOf "rows_of" "rows_of" (defArgs s_rows_of) (defBody s_rows_of) (defScope s_rows_of) .none kV36 dc36 pm36 an36 cd36 ct36), sl36⟩) (c36 : PySem.W.codeIn K cd36 "rows_of" = true) (k36 : PySem.W.keepIn K (.ref f36) = true)
    (a37 : PySem.W.nsIn K mainGlobals "paper" = some (some (.ref f37))) (l37 : K.lookup f37 = some ⟨oc37, od37, .func (PySem.W.fnOf "paper" "paper" (defArgs s_paper) (defBody s_paper) (defScope s_paper) (.ref dT37) kV37 dc37 pm37 an37 cd37 ct37), sl37⟩) (c37 : PySem.W.codeIn K cd37 "paper" = true) (k37 : PySem.W.keepIn K (.ref f37) = true)
    (e37 : K.lookup dT37 = some ⟨.type "tuple", dd37, .seq #[.none] dn37, ds37⟩)
    (a38 : PySem.W.nsIn K mainGlobals "law" = some (some (.ref f38))) (l38 : K.lookup f38 = some ⟨oc38, od38, .func (PySem.W.fnOf "law" "law" (defArgs s_law) (defBody s_law) (defScope s_law) .none kV38 dc38 pm38 an38 cd38 ct38), sl38⟩) (c38 : PySem.W.codeIn K cd38 "law" = true) (k38 : PySem.W.keepIn K (.ref f38) = true)
    (z1 : PySem.W.nsIn K mainGlobals "dict" = some none)
    (z2 : PySem.W.nsIn K mainGlobals "enumerate" = some none)
    (z3 : PySem.W.nsIn K mainGlobals "int" = some none)
    (z4 : PySem.W.nsIn K mainGlobals "len" = some none)
    (z5 : PySem.W.nsIn K mainGlobals "list" = some none)
    (z6 : PySem.W.nsIn K mainGlobals "range" = some none)
    (z7 : PySem.W.nsIn K mainGlobals "tuple" = some none)
    (pure : ∀ ns : List Int, ns.length ≤ 63 → ∃ S, m_law [.ref 0] [.fls (ns.map .int)] = .ok (.bl true) S) :
    ∃ fd : FuncData, (∀ (s : Shared) (v : Value), BindsTo s fd ⟨[v], []⟩ [("_law_script", v)]) ∧ ∀ base : Heap, K.In base → base.Ns mainGlobals mg → FnOk P w K mg base CX0 9 fa fd ["_law_script"] (spLaw K) := by
  have e := hfa.symm.trans (PySem.W.mg_of X G a38)
  cases e
  have F1 := fun_mk (st := s_law_cell) l1 c1 k1
  have F2 := fun_mk (st := s_law_names) l2 c2 k2
  have F3 := fun_mk (st := s_law_mixed) l3 c3 k3
  have F4 := fun_mk (st := s_law_drawn) l4 c4 k4
  have F5 := fun_mk (st := s_law_followers) l5 c5 k5
  have F6 := fun_mk (st := s_law_far) l6 c6 k6
  have F7 := fun_mk (st := s_law_reached) l7 c7 k7
  have F8 := fun_mk (st := s_law_mended) l8 c8 k8
  have F9 := fun_mk (st := s_law_operand) l9 c9 k9
  have F10 := fun_mk (st := s_law_pool) l10 c10 k10
  have F11 := fun_mk (st := s_law_row) l11 c11 k11
  have F12 := fun_mk (st := s_law_program) l12 c12 k12
  have F13 := fun_mk (st := s_law_way) l13 c13 k13
  have F14 := fun_mk (st := s_has_bit) l14 c14 k14
  have F15 := fun_mk (st := s_followers) l15 c15 k15
  have F16 := fun_mk (st := s_is_kept_for) l16 c16 k16
  have F17 := fun_mk (st := s_sets) l17 c17 k17
  have F18 := fun_mk (st := s_changes) l18 c18 k18
  have F19 := fun_mk (st := s_reckoning_of) l19 c19 k19
  have F20 := fun_mk (st := s_reckonings) l20 c20 k20
  have F21 := fun_mk (st := s_lost_bits) l21 c21 k21
  have F22 := fun_mk (st := s_asks_box) l22 c22 k22
  have F23 := fun_mk (st := s_places) l23 c23 k23
  have F24 := fun_mk (st := s_live) l24 c24 k24
  have F25 := fun_mk (st := s_comes_off) l25 c25 k25
  have F26 := fun_mk (st := s_all_bits) l26 c26 k26
  have F27 := fun_mk (st := s_own_bits) l27 c27 k27
  have F28 := fun_mk (st := s_kept_back) l28 c28 k28
  have F29 := fun_mk (st := s_ahead_of) l29 c29 k29
  have F30 := fun_mk (st := s_left_by) l30 c30 k30
  have F31 := fun_mk (st := s_standing) l31 c31 k31
  have F32 := fun_mk (st := s_asked_by) l32 c32 k32
  have F33 := fun_mk (st := s_wanted) l33 c33 k33
  have F34 := fun_mk (st := s_firsts) l34 c34 k34
  have F35 := fnD_mk (st := s_put_off) (dvs := [V.non]) (its := [.none]) l35 c35 k35 e35 (.cons rfl (.nil)) (List.cons_ne_nil _ _)
  have F36 := fun_mk (st := s_rows_of) l36 c36 k36
  have F37 := fnD_mk (st := s_paper) (dvs := [V.non]) (its := [.none]) l37 c37 k37 e37 (.cons rfl (.nil)) (List.cons_ne_nil _ _)
  have F38 := fun_mk (st := s_law) l38 c38 k38
  let T : Txt K mg := {
    f_law_cell := f1, fd_law_cell := _, F_law_cell := F1, g_law_cell := PySem.W.mg_of X G a1, b_law_cell := F1.binds (ps := ["_law_script", "_law_k"]) fun _ _ _ _ _ _ us hl => match us, hl with | [_, _], _ => rfl,
    f_law_names := f2, fd_law_names := _, F_law_names := F2, g_law_names := PySem.W.mg_of X G a2, b_law_names := F2.binds (ps := ["_law_cell_here", "_law_at"]) fun _ _ _ _ _ _ us hl => match us, hl with | [_, _], _ => rfl,
    f_law_mixed := f3, fd_law_mixed := _, F_law_mixed := F3, g_law_mixed := PySem.W.mg_of X G a3, b_law_mixed := F3.binds (ps := ["_law_cell_here", "_law_k"]) fun _ _ _ _ _ _ us hl => match us, hl with | [_, _], _ => rfl,
    f_law_drawn := f4, fd_law_drawn := _, F_law_drawn := F4, g_law_drawn := PySem.W.mg_of X G a4, b_law_drawn := F4.binds (ps := ["_law_script", "_law_k"]) fun _ _ _ _ _ _ us hl => match us, hl with | [_, _], _ => rfl,
    f_law_followers := f5, fd_law_followers := _, F_law_followers := F5, g_law_followers := PySem.W.mg_of X G a5, b_law_followers := F5.binds (ps := ["_law_program_here", "_law_n"]) fun _ _ _ _ _ _ us hl => match us, hl with | [_, _], _ => rfl,
    f_law_far := f6, fd_law_far := _, F_law_far := F6, g_law_far := PySem.W.mg_of X G a6, b_law_far := F6.binds (ps := ["_law_program_here"]) fun _ _ _ _ _ _ us hl => match us, hl with | [_], _ => rfl,
    f_law_reached := f7, fd_law_reached := _, F_law_reached := F7, g_law_reached := PySem.W.mg_of X G a7, b_law_reached := F7.binds (ps := ["_law_rows"]) fun _ _ _ _ _ _ us hl => match us, hl with | [_], _ => rfl,
    f_law_mended := f8, fd_law_mended := _, F_law_mended := F8, g_law_mended := PySem.W.mg_of X G a8, b_law_mended := F8.binds (ps := ["_law_rows"]) fun _ _ _ _ _ _ us hl => match us, hl with | [_], _ => rfl,
    f_law_operand := f9, fd_law_operand := _, F_law_operand := F9, g_law_operand := PySem.W.mg_of X G a9, b_law_operand := F9.binds (ps := ["_law_cell_here", "_law_names_here"]) fun _ _ _ _ _ _ us hl => match us, hl with | [_, _], _ => rfl,
    f_law_pool := f10, fd_law_pool := _, F_law_pool := F10, g_law_pool := PySem.W.mg_of X G a10, b_law_pool := F10.binds (ps := ["_law_script", "_law_names_here"]) fun _ _ _ _ _ _ us hl => match us, hl with | [_, _], _ => rfl,
    f_law_row := f11, fd_law_row := _, F_law_row := F11, g_law_row := PySem.W.mg_of X G a11, b_law_row := F11.binds (ps := ["_law_cell_here", "_law_n", "_law_many", "_law_names_here", "_law_pool_here"]) fun _ _ _ _ _ _ us hl => match us, hl with | [_, _, _, _, _], _ => rfl,
    f_law_program := f12, fd_law_program := _, F_law_program := F12, g_law_program := PySem.W.mg_of X G a12, b_law_program := F12.binds (ps := ["_law_script", "_law_names_here", "_law_most"]) fun _ _ _ _ _ _ us hl => match us, hl with | [_, _, _], _ => rfl,
    f_law_way := f13, fd_law_way := _, F_law_way := F13, g_law_way := PySem.W.mg_of X G a13, b_law_way := F13.binds (ps := ["_law_program_here", "_law_cells"]) fun _ _ _ _ _ _ us hl => match us, hl with | [_, _], _ => rfl,
    f_has_bit := f14, fd_has_bit := _, F_has_bit := F14, g_has_bit := PySem.W.mg_of X G a14, b_has_bit := F14.binds (ps := ["bits", "k"]) fun _ _ _ _ _ _ us hl => match us, hl with | [_, _], _ => rfl,
    f_followers := f15, fd_followers := _, F_followers := F15, g_followers := PySem.W.mg_of X G a15, b_followers := F15.binds (ps := ["program", "n"]) fun _ _ _ _ _ _ us hl => match us, hl with | [_, _], _ => rfl,
    f_is_kept_for := f16, fd_is_kept_for := _, F_is_kept_for := F16, g_is_kept_for := PySem.W.mg_of X G a16, b_is_kept_for := F16.binds (ps := ["program", "n", "kept", "wished"]) fun _ _ _ _ _ _ us hl => match us, hl with | [_, _, _, _], _ => rfl,
    f_sets := f17, fd_sets := _, F_sets := F17, g_sets := PySem.W.mg_of X G a17, b_sets := F17.binds (ps := ["row"]) fun _ _ _ _ _ _ us hl => match us, hl with | [_], _ => rfl,
    f_changes := f18, fd_changes := _, F_changes := F18, g_changes := PySem.W.mg_of X G a18, b_changes := F18.binds (ps := ["row", "reckoning"]) fun _ _ _ _ _ _ us hl => match us, hl with | [_, _], _ => rfl,
    f_reckoning_of := f19, fd_reckoning_of := _, F_reckoning_of := F19, g_reckoning_of := PySem.W.mg_of X G a19, b_reckoning_of := F19.binds (ps := ["row"]) fun _ _ _ _ _ _ us hl => match us, hl with | [_], _ => rfl,
    f_reckonings := f20, fd_reckonings := _, F_reckonings := F20, g_reckonings := PySem.W.mg_of X G a20, b_reckonings := F20.binds (ps := ["program"]) fun _ _ _ _ _ _ us hl => match us, hl with | [_], _ => rfl,
    f_lost_bits := f21, fd_lost_bits := _, F_lost_bits := F21, g_lost_bits := PySem.W.mg_of X G a21, b_lost_bits := F21.binds (ps := ["program"]) fun _ _ _ _ _ _ us hl => match us, hl with | [_], _ => rfl,
    f_asks_box := f22, fd_asks_box := _, F_asks_box := F22, g_asks_box := PySem.W.mg_of X G a22, b_asks_box := F22.binds (ps := ["program", "k", "sheet"]) fun _ _ _ _ _ _ us hl => match us, hl with | [_, _, _], _ => rfl,
    f_places := f23, fd_places := _, F_places := F23, g_places := PySem.W.mg_of X G a23, b_places := F23.binds (ps := ["program"]) fun _ _ _ _ _ _ us hl => match us, hl with | [_], _ => rfl,
    f_live := f24, fd_live := _, F_live := F24, g_live := PySem.W.mg_of X G a24, b_live := F24.binds (ps := ["program", "k", "sheet"]) fun _ _ _ _ _ _ us hl => match us, hl with | [_, _, _], _ => rfl,
    f_comes_off := f25, fd_comes_off := _, F_comes_off := F25, g_comes_off := PySem.W.mg_of X G a25, b_comes_off := F25.binds (ps := ["place", "k", "begins", "own", "rows_off"]) fun _ _ _ _ _ _ us hl => match us, hl with | [_, _, _, _, _], _ => rfl,
    f_all_bits := f26, fd_all_bits := _, F_all_bits := F26, g_all_bits := PySem.W.mg_of X G a26, b_all_bits := F26.binds (ps := ["program"]) fun _ _ _ _ _ _ us hl => match us, hl with | [_], _ => rfl,
    f_own_bits := f27, fd_own_bits := _, F_own_bits := F27, g_own_bits := PySem.W.mg_of X G a27, b_own_bits := F27.binds (ps := ["program"]) fun _ _ _ _ _ _ us hl => match us, hl with | [_], _ => rfl,
    f_kept_back := f28, fd_kept_back := _, F_kept_back := F28, g_kept_back := PySem.W.mg_of X G a28, b_kept_back := F28.binds (ps := ["program", "wants"]) fun _ _ _ _ _ _ us hl => match us, hl with | [_, _], _ => rfl,
    f_ahead_of := f29, fd_ahead_of := _, F_ahead_of := F29, g_ahead_of := PySem.W.mg_of X G a29, b_ahead_of := F29.binds (ps := ["program"]) fun _ _ _ _ _ _ us hl => match us, hl with | [_], _ => rfl,
    f_left_by := f30, fd_left_by := _, F_left_by := F30, g_left_by := PySem.W.mg_of X G a30, b_left_by := F30.binds (ps := ["program"]) fun _ _ _ _ _ _ us hl => match us, hl with | [_], _ => rfl,
    f_standing := f31, fd_standing := _, F_standing := F31, g_standing := PySem.W.mg_of X G a31, b_standing := F31.binds (ps := ["program"]) fun _ _ _ _ _ _ us hl => match us, hl with | [_], _ => rfl,
    f_asked_by := f32, fd_asked_by := _, F_asked_by := F32, g_asked_by := PySem.W.mg_of X G a32, b_asked_by := F32.binds (ps := ["program"]) fun _ _ _ _ _ _ us hl => match us, hl with | [_], _ => rfl,
    f_wanted := f33, fd_wanted := _, F_wanted := F33, g_wanted := PySem.W.mg_of X G a33, b_wanted := F33.binds (ps := ["program"]) fun _ _ _ _ _ _ us hl => match us, hl with | [_], _ => rfl,
    f_firsts := f34, fd_firsts := _, F_firsts := F34, g_firsts := PySem.W.mg_of X G a34, b_firsts := F34.binds (ps := ["program"]) fun _ _ _ _ _ _ us hl => match us, hl with | [_], _ => rfl,
    f_put_off := f35, fd_put_off := _, F_put_off := F35, g_put_off := PySem.W.mg_of X G a35, b_put_off := fnD_all F35 3 (fun _ _ _ _ _ _ _ us its hl hi => match us, its, hl, hi with | [_, _, _], [_], _, _ => ⟨_, rfl, rfl⟩), c_put_off := fnD_dfl F35 2 (fun _ _ _ _ _ _ _ us its hl hi => match us, its, hl, hi with | [_, _], [_], _, _ => ⟨_, rfl, rfl⟩),
    f_rows_of := f36, fd_rows_of := _, F_rows_of := F36, g_rows_of := PySem.W.mg_of X G a36, b_rows_of := F36.binds (ps := ["program", "k"]) fun _ _ _ _ _ _ us hl => match us, hl with | [_, _], _ => rfl,
    f_paper := f37, fd_paper := _, F_paper := F37, g_paper := PySem.W.mg_of X G a37, b_paper := fnD_all F37 3 (fun _ _ _ _ _ _ _ us its hl hi => match us, its, hl, hi with | [_, _, _], [_], _, _ => ⟨_, rfl, rfl⟩), c_paper := fnD_dfl F37 2 (fun _ _ _ _ _ _ _ us its hl hi => match us, its, hl, hi with | [_, _], [_], _, _ => ⟨_, rfl, rfl⟩),
    f_law := fa, fd_law := _, F_law := F38, g_law := PySem.W.mg_of X G a38, b_law := F38.binds (ps := ["_law_script"]) fun _ _ _ _ _ _ us hl => match us, hl with | [_], _ => rfl,
    z_dict := PySem.W.mg_none_of X G z1,
    z_enumerate := PySem.W.mg_none_of X G z2,
    z_int := PySem.W.mg_none_of X G z3,
    z_len := PySem.W.mg_none_of X G z4,
    z_list := PySem.W.mg_none_of X G z5,
    z_range := PySem.W.mg_none_of X G z6,
    z_tuple := PySem.W.mg_none_of X G z7 }
  exact ⟨T.fd_law, fun s v => .of_eq rfl, fun base _ _ => (ok_law T).imp (law_sp pure)⟩
end Lk94
open PySem PySem.W PyProof.Rows
set_option maxRecDepth 100000 in
set_option maxHeartbeats 0 in
theorem PySem.Challenge.cw_lazyhoist_k94_whole_on_beginnings_holds : PySem.Challenge.rw_lazyhoist_k94_whole_on_beginnings.Holds := by
  w_on; o_law; k_head; (case hw => w_witness2)
  k_fill
  refine L2.walk_of (l := PySem.Challenge.rw_lazyhoist_k94_whole_on_beginnings) (n := 63) (k := 9) (x := "_law_script") (CX := fun _ => L2.CX0) (sp := fun w => Sm.spLaw _) rfl (by decide) rfl ⟨rfl, by decide, by decide⟩ (fun w h Y => PySem.W.kIn_of Y) ?F (fun _ _ a ns hl hO hS => ⟨a, ns, rfl, hS, hO, hl, fun _ => rfl⟩) (fun _ _ _ _ _ h => h)
  case F =>
    intro w mg fa h KX G hmg
    refine' Lk94.all_mk KX G hmg ?a1 ?l1 ?c1 ?k1 ?a2 ?l2 ?c2 ?k2 ?a3 ?l3 ?c3 ?k3 ?a4 ?l4 ?c4 ?k4 ?a5 ?l5 ?c5 ?k5 ?a6 ?l6 ?c6 ?k6 ?a7 ?l7 ?c7 ?k7 ?a8 ?l8 ?c8 ?k8 ?a9 ?l9 ?c9 ?k9 ?a10 ?l10 ?c10 ?k10 ?a11 ?l11 ?c11 ?k11 ?a12 ?l12 ?c12 ?k12 ?a13 ?l13 ?c13 ?k13 ?a14 ?l14 ?c14 ?k14 ?a15 ?l15 ?c15 ?k15 ?a16 ?l16 ?c16 ?k16 ?a17 ?l17 ?c17 ?k17 ?a18 ?l18 ?c18 ?k18 ?a19 ?l19 ?c19 ?k19 ?a20 ?l20 ?c20 ?k20 ?a21 ?l21 ?c21 ?k21 ?a22 ?l22 ?c22 ?k22 ?a23 ?l23 ?c23 ?k23 ?a24 ?l24 ?c24 ?k24 ?a25 ?l25 ?c25 ?k25 ?a26 ?l26 ?c26 ?k26 ?a27 ?l27 ?c27 ?k27 ?a28 ?l28 ?c28 ?k28 ?a29 ?l29 ?c29 ?k29 ?a30 ?l30 ?c30 ?k30 ?a31 ?l31 ?c31 ?k31 ?a32 ?l32 ?c32 ?k32 ?a33 ?l33 ?c33 ?k33 ?a34 ?l34 ?c34 ?k34 ?a35 ?l35 ?c35 ?k35 ?e35 ?a36 ?l36 ?c36 ?k36 ?a37 ?l37 ?c37 ?k37 ?e37 ?a38 ?l38 ?c38 ?k38 ?z1 ?z2 ?z3 ?z4 ?z5 ?z6 ?z7 ?pure
    (case a1 => k_is); (case l1 => k_is); (case c1 => k_is); (case k1 => k_is); (case a2 => k_is); (case l2 => k_is); (case c2 => k_is); (case k2 => k_is)
    (case a3 => k_is); (case l3 => k_is); (case c3 => k_is); (case k3 => k_is); (case a4 => k_is); (case l4 => k_is); (case c4 => k_is); (case k4 => k_is)
    (case a5 => k_is); (case l5 => k_is); (case c5 => k_is); (case k5 => k_is); (case a6 => k_is); (case l6 => k_is); (case c6 => k_is); (case k6 => k_is)
    (case a7 => k_is); (case l7 => k_is); (case c7 => k_is); (case k7 => k_is); (case a8 => k_is); (case l8 => k_is); (case c8 => k_is); (case k8 => k_is)
    (case a9 => k_is); (case l9 => k_is); (case c9 => k_is); (case k9 => k_is); (case a10 => k_is); (case l10 => k_is); (case c10 => k_is); (case k10 => k_is)
    (case a11 => k_is); (case l11 => k_is); (case c11 => k_is); (case k11 => k_is); (case a12 => k_is); (case l12 => k_is); (case c12 => k_is); (case k12 => k_is)
    (case a13 => k_is); (case l13 => k_is); (case c13 => k_is); (case k13 => k_is); (case a14 => k_is); (case l14 => k_is); (case c14 => k_is); (case k14 => k_is)
    (case a15 => k_is); (case l15 => k_is); (case c15 => k_is); (case k15 => k_is); (case a16 => k_is); (case l16 => k_is); (case c16 => k_is); (case k16 => k_is)
    (case a17 => k_is); (case l17 => k_is); (case c17 => k_is); (case k17 => k_is); (case a18 => k_is); (case l18 => k_is); (case c18 => k_is); (case k18 => k_is)
    (case a19 => k_is); (case l19 => k_is); (case c19 => k_is); (case k19 => k_is); (case a20 => k_is); (case l20 => k_is); (case c20 => k_is); (case k20 => k_is)
    (case a21 => k_is); (case l21 => k_is); (case c21 => k_is); (case k21 => k_is); (case a22 => k_is); (case l22 => k_is); (case c22 => k_is); (case k22 => k_is)
    (case a23 => k_is); (case l23 => k_is); (case c23 => k_is); (case k23 => k_is); (case a24 => k_is); (case l24 => k_is); (case c24 => k_is); (case k24 => k_is)
    (case a25 => k_is); (case l25 => k_is); (case c25 => k_is); (case k25 => k_is); (case a26 => k_is); (case l26 => k_is); (case c26 => k_is); (case k26 => k_is)
    (case a27 => k_is); (case l27 => k_is); (case c27 => k_is); (case k27 => k_is); (case a28 => k_is); (case l28 => k_is); (case c28 => k_is); (case k28 => k_is)
    (case a29 => k_is); (case l29 => k_is); (case c29 => k_is); (case k29 => k_is); (case a30 => k_is); (case l30 => k_is); (case c30 => k_is); (case k30 => k_is)
    (case a31 => k_is); (case l31 => k_is); (case c31 => k_is); (case k31 => k_is); (case a32 => k_is); (case l32 => k_is); (case c32 => k_is); (case k32 => k_is)
    (case a33 => k_is); (case l33 => k_is); (case c33 => k_is); (case k33 => k_is); (case a34 => k_is); (case l34 => k_is); (case c34 => k_is); (case k34 => k_is)
    (case a35 => k_is); (case l35 => k_is); (case c35 => k_is); (case k35 => k_is); (case e35 => k_is); (case a36 => k_is); (case l36 => k_is); (case c36 => k_is)
    (case k36 => k_is); (case a37 => k_is); (case l37 => k_is); (case c37 => k_is); (case k37 => k_is); (case e37 => k_is); (case a38 => k_is); (case l38 => k_is)
    (case c38 => k_is); (case k38 => k_is); (case z1 => k_is); (case z2 => k_is); (case z3 => k_is); (case z4 => k_is); (case z5 => k_is); (case z6 => k_is)
    (case z7 => k_is)
    (case pure => exact Lk94.law_pure)
