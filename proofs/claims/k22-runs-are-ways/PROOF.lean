import PyProof.Rows.All
import PyProof.EqLayable
import PySem.Builtin.Str.Common
import Wide.All
import OpenK.AllK
import Wide.FinOn
import HandS.ForMost
import HandS.Wide
import HandS.Deep
import HandS.IsInst
import HandS.Walk
import HandS.TupLen
import HandS.Replace
import HandS.Conv
import HandS.More
import HandS.NoneIn
import HandS.RevRange
import HandS.Text
import HandS.FStr
import HandS.RaiseMore
import KE.KxIndex
import HandS.TupAny
import PyProof.EqAt
import PyProof.EqKinds
import HandS.Iter
import HandS.Dict
import HandS.DictTup
import HandS.DictComp
import HandS.Finally
import KE.KDictWalk
import KE.KDictCopyH
import HandS.Defaults
import KE.KDictPairs
import KE.DataFind
import HandS.ForExc
import HandS.ExcInit
import HandS.ExcField
import HandS.TryOnly
import HandS.WordsExc
import HandS.WideBits
import KE.KDictList
import HandS.ListEq
import HandS.DeepEq
import HandS.Sort
import PySem.Challenge.RW_lazyhoist_k22_runs_are_ways
set_option Elab.async false
set_option linter.all false
/-! Mi: a small language of values, stores and steps, in plain Lean. -/
namespace Mi
abbrev Tx := List Nat
inductive D where
  | non | bl (b : Bool) | int (i : Int) | str (s : Tx) | tup (l : List D) | wtp (l : List D) | ref (n : Nat)
abbrev Ky := Sum Int Tx
inductive O where
  | lst (l : List D) | fls (l : List D) | dK (k : List (Ky × D)) | dT (k : List (List Ky × D)) | zK (k : List (Ky × D)) | zT (k : List (List Ky × D)) | ins (C : String) (f : List (Tx × D))
abbrev Store := List O
structure Exn where
  cls : String
  fs : List (Tx × D)
inductive Res (α : Type) where
  | ok (a : α) (S : Store) | exc (x : Exn) (S : Store) | bad
def Res.bind {α β : Type} : Res α → (α → Store → Res β) → Res β
  | .ok a S, f => f a S
  | .exc x S, _ => .exc x S
  | .bad, _ => .bad
@[simp] theorem bind_ok {α β : Type} (a : α) (S : Store) (f : α → Store → Res β) : (Res.ok a S).bind f = f a S := rfl
@[simp] theorem bind_exc {α β : Type} (x : Exn) (S : Store) (f : α → Store → Res β) : (Res.exc x S).bind f = .exc x S := rfl
@[simp] theorem bind_bad {α β : Type} (f : α → Store → Res β) : (Res.bad : Res α).bind f = .bad := rfl
abbrev Fr := List (Option D)
abbrev EM := Fr → Store → Res D
abbrev TM := Fr → Store → Res Bool
abbrev AM := Fr → Store → Res (List D)
inductive Out where
  | nx (fr : Fr) | rt (d : D) | bk (fr : Fr) | ct (fr : Fr)
abbrev SM := Fr → Store → Res Out
abbrev Op2 := D → D → Store → Res D
abbrev Fn := List D → Store → Res D
abbrev LINE : Nat := 16777216

/-! ### data -/
mutual
def toP (rd : Nat → Option PySem.PyData) : D → Option PySem.PyData
  | .non => some .none
  | .bl b => some (.bool b)
  | .int i => some (.int i)
  | .str s => some (.str ⟨s.toArray⟩)
  | .tup l => (toPs rd l).map .tuple
  | .wtp l => (toPs rd l).map .tuple
  | .ref n => rd n
def toPs (rd : Nat → Option PySem.PyData) : List D → Option (List PySem.PyData)
  | [] => some []
  | d :: l => (toP rd d).bind fun p => (toPs rd l).map fun r => p :: r
end
def lookP : Nat → Store → Nat → Option PySem.PyData
  | 0, _, _ => none
  | k + 1, S, n => match S[n]? with
    | some (.lst l) => (toPs (lookP k S) l).map .list
    | some (.fls l) => (toPs (lookP k S) l).map .list
    | _ => none
def pd (S : Store) (d : D) : Option PySem.PyData := toP (lookP 8 S) d
def shp (p : PySem.PyData) : Bool := PySem.SeqAt.shaped p
/-- == of scalars -/
def scq : D → D → Option Bool
  | .non, .non => some true
  | .non, .int _ => some false | .int _, .non => some false
  | .non, .bl _ => some false | .bl _, .non => some false
  | .non, .str _ => some false | .str _, .non => some false
  | .int i, .int j => some (decide (i = j))
  | .bl a, .bl b => some (decide (a = b))
  | .str a, .str b => some (decide (a = b))
  | .int _, .str _ => some false | .str _, .int _ => some false
  | .bl _, .str _ => some false | .str _, .bl _ => some false
  | _, _ => none
def pyEq (x y : D) (S : Store) : Option Bool := match scq x y with
  | some b => some b
  | none => match pd S x, pd S y with
    | some p, some q => if shp p = true ∧ shp q = true then some (PySem.PyData.eqv p q) else none
    | _, _ => none
def oEq : Op2 := fun x y S => match pyEq x y S with
  | some b => .ok (.bl b) S
  | none => .bad
def oNe : Op2 := fun x y S => match pyEq x y S with
  | some b => .ok (.bl (!b)) S
  | none => .bad
def isN : D → Bool
  | .non => true
  | _ => false
def oIs : Op2 := fun x y S => if isN y then .ok (.bl (isN x)) S else .bad
def oIsNot : Op2 := fun x y S => if isN y then .ok (.bl (!isN x)) S else .bad

/-! ### keys -/
def kyOf : D → Option Ky
  | .int i => some (.inl i)
  | .str s => some (.inr s)
  | _ => none
def kyD : Ky → D
  | .inl i => .int i
  | .inr s => .str s
def kysOf : List D → Option (List Ky)
  | [] => some []
  | d :: l => (kyOf d).bind fun k => (kysOf l).map fun r => k :: r
def ktOf : D → Option (List Ky)
  | .tup l => kysOf l
  | _ => none
def dGet {κ α : Type} [DecidableEq κ] (kvs : List (κ × α)) (k : κ) : Option α := (kvs.find? fun kv => decide (kv.1 = k)).map (·.2)
def dPut {κ α : Type} [DecidableEq κ] (kvs : List (κ × α)) (k : κ) (v : α) : List (κ × α) :=
  if (kvs.any fun kv => decide (kv.1 = k)) = true then kvs.map fun kv => if kv.1 = k then (kv.1, v) else kv else kvs ++ [(k, v)]
/-- what a dict holds at a key: none where it is no dict or no key -/
def dLook (S : Store) (n : Nat) (k : D) : Option (Option D) := match S[n]? with
  | some (.dK kvs) => (kyOf k).map (dGet kvs)
  | some (.dT kvs) => (ktOf k).map (dGet kvs)
  | some (.zK kvs) => (kyOf k).map (dGet kvs)
  | some (.zT kvs) => (ktOf k).map (dGet kvs)
  | _ => none

/-! ### lists and tuples -/
def lstOf (S : Store) (n : Nat) : Option (List D) := match S[n]? with
  | some (.lst l) => some l
  | some (.fls l) => some l
  | _ => none
def seqOf (S : Store) : D → Option (List D)
  | .tup l => some l
  | .wtp l => some l
  | .ref n => lstOf S n
  | _ => none
def ixN (n : Nat) (i : Int) : Option Nat := if 0 ≤ i then (if i < n then some i.toNat else none) else if -(n : Int) ≤ i then some (i + n).toNat else none
def atI {α : Type} (xs : List α) (i : Int) : Option α := (ixN xs.length i).bind fun j => xs[j]?
def sIx (n d : Nat) : Option Int → Nat
  | none => d
  | some v => if v < 0 then (v + (n : Int)).toNat else min v.toNat n
def cut {α : Type} (xs : List α) (lo hi : Option Int) : List α := (xs.drop (sIx xs.length 0 lo)).take (sIx xs.length xs.length hi - sIx xs.length 0 lo)
def new (o : O) (S : Store) : Res D := .ok (.ref S.length) (S ++ [o])

/-! ### operators -/
def small (i : Int) : Prop := -(2 ^ 64) < i ∧ i < 2 ^ 64
instance (i : Int) : Decidable (small i) := by unfold small; infer_instance
def mulOk (i j : Int) : Prop := small i ∨ small j ∨ i.natAbs.log2 + j.natAbs.log2 < 1000000
instance (i j : Int) : Decidable (mulOk i j) := by unfold mulOk; infer_instance
def oAdd : Op2
  | .int i, .int j, S => .ok (.int (i + j)) S
  | .str a, .str b, S => if a.length + b.length ≤ LINE then .ok (.str (a ++ b)) S else .bad
  | .tup a, .tup b, S => if a ≠ [] ∧ a.length + b.length ≤ LINE then .ok (.tup (a ++ b)) S else .bad
  | .ref m, .ref n, S => match S[m]?, S[n]? with
    | some (.lst a), some (.lst b) => if a.length + b.length ≤ LINE then new (.lst (a ++ b)) S else .bad
    | _, _ => .bad
  | _, _, _ => .bad
def oSub : Op2
  | .int i, .int j, S => .ok (.int (i - j)) S
  | _, _, _ => .bad
def oMul : Op2
  | .int i, .int j, S => if mulOk i j then .ok (.int (i * j)) S else .bad
  | .ref m, .int k, S => match S[m]? with
    | some (.lst a) => if -(2 ^ 63) ≤ k ∧ k < 2 ^ 63 ∧ a.length * k.toNat ≤ LINE then new (.lst (List.replicate k.toNat a).flatten) S else .bad
    | _ => .bad
  | _, _, _ => .bad
def divOk (j : Int) : Prop := 0 < j ∧ j.natAbs.log2 < 9000
instance (j : Int) : Decidable (divOk j) := by unfold divOk; infer_instance
def oDiv : Op2
  | .int i, .int j, S => if divOk j then .ok (.int (i / j)) S else .bad
  | _, _, _ => .bad
def oMod : Op2
  | .int i, .int j, S => if 0 < j then .ok (.int (i % j)) S else .bad
  | _, _, _ => .bad
def powOk (i j : Int) : Prop := 0 ≤ j ∧ j ≤ 1000000 ∧ i.natAbs < 2 ^ 64
instance (i j : Int) : Decidable (powOk i j) := by unfold powOk; infer_instance
def oPow : Op2
  | .int i, .int j, S => if powOk i j then .ok (.int (i ^ j.toNat)) S else .bad
  | _, _, _ => .bad
def oShl : Op2
  | .int i, .int j, S => if powOk i j then .ok (.int (i * 2 ^ j.toNat)) S else .bad
  | _, _, _ => .bad
def oShr : Op2
  | .int i, .int j, S => if 0 ≤ j then .ok (.int (i / 2 ^ j.toNat)) S else .bad
  | _, _, _ => .bad
def oBit (f : Nat → Nat → Nat) : Op2
  | .int i, .int j, S => if 0 ≤ i ∧ 0 ≤ j then .ok (.int (f i.toNat j.toNat : Nat)) S else .bad
  | _, _, _ => .bad
def oAnd : Op2 := oBit fun a b => a &&& b
def oOr : Op2 := oBit fun a b => a ||| b
def oXor : Op2 := oBit fun a b => a ^^^ b
def oCmp (p : Int → Int → Bool) : Op2
  | .int i, .int j, S => .ok (.bl (p i j)) S
  | _, _, _ => .bad
def oLt : Op2 := oCmp fun i j => decide (i < j)
def oLe : Op2 := oCmp fun i j => decide (i ≤ j)
def oGt : Op2 := oCmp fun i j => decide (j < i)
def oGe : Op2 := oCmp fun i j => decide (j ≤ i)
/-- x in y: a list or a tuple, a dict, a text (one sign) -/
def flatD : D → Bool
  | .non => true
  | .bl _ => true
  | .int _ => true
  | .str _ => true
  | _ => false
def eqF : D → D → Bool
  | .non, .non => true
  | .bl a, .bl b => a == b
  | .bl a, .int b => (if a then 1 else 0) == b
  | .int a, .bl b => a == (if b then 1 else 0)
  | .int a, .int b => a == b
  | .str a, .str b => a == b
  | _, _ => false
def inSeq (x : D) (l : List D) (S : Store) : Option Bool :=
  if flatD x = true ∧ l.all flatD = true then some (l.any fun y => eqF y x) else
  match pd S x, toPs (lookP 8 S) l with
    | some p, some q => if shp p = true ∧ shp (.list q) = true then some (q.any fun z => PySem.PyData.eqv z p) else none
    | _, _ => none
def isIn (x y : D) (S : Store) : Option Bool := match y with
  | .str z => match x with
    | .str [c] => some (decide (c ∈ z))
    | _ => none
  | .tup l => inSeq x l S
  | .wtp l => inSeq x l S
  | .ref n => match S[n]? with
    | some (.lst l) => inSeq x l S
    | some (.fls l) => inSeq x l S
    | some (.dK kvs) => (kyOf x).map fun k => (dGet kvs k).isSome
    | some (.dT kvs) => (ktOf x).map fun k => (dGet kvs k).isSome
    | _ => none
  | _ => none
def oIn : Op2 := fun x y S => match isIn x y S with
  | some b => .ok (.bl b) S
  | none => .bad
def oNotIn : Op2 := fun x y S => match isIn x y S with
  | some b => .ok (.bl (!b)) S
  | none => .bad
/-- x[y] -/
def oIx : Op2 := fun x y S => match x, y with
  | .str z, .int i => if z.length ≤ LINE then (match atI z i with
    | some c => .ok (.str [c]) S
    | none => .bad) else .bad
  | .tup l, .int i => match atI l i with
    | some v => .ok v S
    | none => .bad
  | .wtp l, .int i => match atI l i with
    | some v => .ok v S
    | none => .bad
  | .ref n, k => match S[n]? with
    | some (.lst l) => (match k with
      | .int i => (match atI l i with
        | some v => .ok v S
        | none => .bad)
      | _ => .bad)
    | some (.fls l) => (match k with
      | .int i => (match atI l i with
        | some v => .ok v S
        | none => .bad)
      | _ => .bad)
    | _ => match dLook S n k with
      | some (some v) => .ok v S
      | _ => .bad
  | _, _ => .bad
/-- x[lo:hi] -/
def oSl (x : D) (lo hi : Option Int) (S : Store) : Res D := match x with
  | .str z => if z.length ≤ LINE then .ok (.str (cut z lo hi)) S else .bad
  | .tup l => if (cut l lo hi).length < l.length then .ok (.tup (cut l lo hi)) S else .bad
  | .ref n => match lstOf S n with
    | some l => new (.lst (cut l lo hi)) S
    | none => .bad
  | _ => .bad
/-- -x -/
def uNeg : D → Store → Res D
  | .int i, S => .ok (.int (-i)) S
  | _, _ => .bad
/-- truth -/
def truth (d : D) (S : Store) : Option Bool := match d with
  | .non => some false
  | .bl b => some b
  | .int i => some (i != 0)
  | .str s => if s.length ≤ LINE then some (s.length != 0) else none
  | .tup l => some (!l.isEmpty)
  | .ref n => match lstOf S n with
    | some l => some (!l.isEmpty)
    | none => none
  | _ => none
end Mi

set_option Elab.async false
set_option linter.all false
/-! Mi: steps. -/
namespace Mi
/-- a decision on any statement -/
noncomputable def dec (p : Prop) : Bool := @decide p (Classical.propDecidable p)
theorem dec_true {p : Prop} (h : p) : dec p = true := @decide_eq_true p (Classical.propDecidable p) h
theorem of_dec {p : Prop} (h : dec p = true) : p := @of_decide_eq_true p (Classical.propDecidable p) h

/-! ### expressions -/
def mVar (i : Nat) : EM := fun fr S => match fr[i]? with
  | some (some d) => .ok d S
  | _ => .bad
def mC (d : D) : EM := fun _ S => .ok d S
def mOp (g : Op2) (a b : EM) : EM := fun fr S => (a fr S).bind fun x S1 => (b fr S1).bind fun y S2 => g x y S2
def mUn (g : D → Store → Res D) (a : EM) : EM := fun fr S => (a fr S).bind fun x S1 => g x S1
def toB (d : D) (S : Store) : Res Bool := match d with
  | .bl b => .ok b S
  | _ => .bad
def mNot (a : EM) : EM := fun fr S => (a fr S).bind fun x S1 => (toB x S1).bind fun b S2 => .ok (.bl (!b)) S2
def mAnd (a b : EM) : EM := fun fr S => (a fr S).bind fun x S1 => (toB x S1).bind fun c S2 => if c then b fr S2 else .ok (.bl false) S2
def mOr (a b : EM) : EM := fun fr S => (a fr S).bind fun x S1 => (toB x S1).bind fun c S2 => if c then .ok (.bl true) S2 else b fr S2
def tTru (a : EM) : TM := fun fr S => (a fr S).bind fun x S1 => match truth x S1 with
  | some b => .ok b S1
  | none => .bad
def tBl (a : EM) : TM := fun fr S => (a fr S).bind fun x S1 => toB x S1
def tAnd (a b : TM) : TM := fun fr S => (a fr S).bind fun c S1 => if c then b fr S1 else .ok false S1
def tOr (a b : TM) : TM := fun fr S => (a fr S).bind fun c S1 => if c then .ok true S1 else b fr S1
def tNot (a : TM) : TM := fun fr S => (a fr S).bind fun c S1 => .ok (!c) S1
def mIfE (t : TM) (a b : EM) : EM := fun fr S => (t fr S).bind fun c S1 => if c then a fr S1 else b fr S1
/-- a < b < c -/
def mChain (g h : Op2) (a b c : EM) : EM := fun fr S => (a fr S).bind fun x S1 => (b fr S1).bind fun y S2 => (g x y S2).bind fun z S3 => (toB z S3).bind fun k S4 =>
  if k then (c fr S4).bind fun w S5 => h y w S5 else .ok (.bl false) S4
def aNil : AM := fun _ S => .ok [] S
def aCons (a : EM) (r : AM) : AM := fun fr S => (a fr S).bind fun x S1 => (r fr S1).bind fun xs S2 => .ok (x :: xs) S2
def mTup (a : AM) : EM := fun fr S => (a fr S).bind fun xs S1 => if xs.length ≤ LINE then .ok (.tup xs) S1 else .bad
def mLst (a : AM) : EM := fun fr S => (a fr S).bind fun xs S1 => if xs.length ≤ LINE then new (.lst xs) S1 else .bad
def mCall (f : Fn) (a : AM) : EM := fun fr S => (a fr S).bind f
/-- o.m(..) of a built-in type: first the type, then the arguments -/
def mMt (T : D → Store → Bool) (f : D → Fn) (o : EM) (a : AM) : EM := fun fr S => (o fr S).bind fun x S1 => if T x S1 then (a fr S1).bind (f x) else .bad
def mNewK : EM := fun _ S => new (.dK []) S
def mNewT : EM := fun _ S => new (.dT []) S
/-- a slice's part -/
abbrev PM := Fr → Store → Res (Option Int)
def pNo : PM := fun _ S => .ok none S
def pSome (a : EM) : PM := fun fr S => (a fr S).bind fun x S1 => match x with
  | .int i => .ok (some i) S1
  | _ => .bad
def mSl (a : EM) (lo hi : PM) : EM := fun fr S => (a fr S).bind fun x S1 => (lo fr S1).bind fun l S2 => (hi fr S2).bind fun h S3 => oSl x l h S3

/-! ### targets -/
abbrev GM := D → Fr → Store → Res Fr
abbrev GMs := List D → Fr → Store → Res Fr
def gName (i : Nat) : GM := fun d fr S => .ok (fr.set i (some d)) S
def gNil : GMs := fun ds fr S => match ds with
  | [] => .ok fr S
  | _ => .bad
def gCons (g : GM) (gs : GMs) : GMs := fun ds fr S => match ds with
  | d :: r => (g d fr S).bind fun fr' S' => gs r fr' S'
  | [] => .bad
/-- a, b, ..: of a tuple of that size -/
def gTup (n : Nat) (g : GMs) : GM := fun d fr S => match seqOf S d with
  | some l => if l.length = n then g l fr S else .bad
  | none => .bad
/-- o[i] = v: a list, a dict -/
def setIx (o i v : D) (S : Store) : Res Unit := match o with
  | .ref n => match S[n]? with
    | some (.lst l) => match i with
      | .int k => match ixN l.length k with
        | some j => .ok () (S.set n (.lst (l.set j v)))
        | none => .bad
      | _ => .bad
    | some (.dK kvs) => match kyOf i with
      | some k => if kvs.length < LINE then .ok () (S.set n (.dK (dPut kvs k v))) else .bad
      | none => .bad
    | some (.dT kvs) => match ktOf i with
      | some k => if kvs.length < LINE then .ok () (S.set n (.dT (dPut kvs k v))) else .bad
      | none => .bad
    | _ => .bad
  | _ => .bad
def gSub (o i : EM) : GM := fun v fr S => (o fr S).bind fun x S1 => (i fr S1).bind fun y S2 => (setIx x y v S2).bind fun _ S3 => .ok fr S3

/-! ### statements -/
def sNx : SM := fun fr S => .ok (.nx fr) S
def sSeq (a b : SM) : SM := fun fr S => (a fr S).bind fun o S1 => match o with
  | .nx fr' => b fr' S1
  | o => .ok o S1
def sAsg (e : EM) (g : GM) : SM := fun fr S => (e fr S).bind fun x S1 => (g x fr S1).bind fun fr' S2 => .ok (.nx fr') S2
def sPar (i j : Nat) (a : AM) : SM := fun fr S => (a fr S).bind fun ds S1 => match ds with
  | [x, y] => .ok (.nx ((fr.set i (some x)).set j (some y))) S1
  | _ => .bad
def oAddI : Op2 := fun x y S => match x, y with
  | .int a, .int b => .ok (.int (a + b)) S
  | _, _ => .bad
def sAug (i : Nat) (g : Op2) (e : EM) : SM := fun fr S => match fr[i]? with
  | some (some x) => (e fr S).bind fun y S1 => (g x y S1).bind fun z S2 => .ok (.nx (fr.set i (some z))) S2
  | _ => .bad
def sExp (e : EM) : SM := fun fr S => (e fr S).bind fun _ S1 => .ok (.nx fr) S1
def sRet (e : EM) : SM := fun fr S => (e fr S).bind fun x S1 => .ok (.rt x) S1
def sRetN : SM := fun _ S => .ok (.rt .non) S
def sBrk : SM := fun fr S => .ok (.bk fr) S
def sCnt : SM := fun fr S => .ok (.ct fr) S
def sBad : SM := fun _ _ => .bad
def sIf (t : TM) (a b : SM) : SM := fun fr S => (t fr S).bind fun c S1 => if c then a fr S1 else b fr S1

/-! ### what is walked -/
structure Its where
  items : List D
  hs : List (Nat × List D)
abbrev IM := Fr → Store → Res Its
def stands (hs : List (Nat × List D)) (S : Store) : Prop := ∀ p, p ∈ hs → lstOf S p.1 = some p.2
def iSeq (e : EM) : IM := fun fr S => (e fr S).bind fun x S1 => match x with
  | .tup l => .ok ⟨l, []⟩ S1
  | .wtp l => .ok ⟨l, []⟩ S1
  | .ref n => match lstOf S1 n with
    | some l => .ok ⟨l, [(n, l)]⟩ S1
    | none => .bad
  | _ => .bad
def iStr (e : EM) : IM := fun fr S => (e fr S).bind fun x S1 => match x with
  | .str z => .ok ⟨z.map fun c => .str [c], []⟩ S1
  | _ => .bad
def rng (lo : Int) (n : Nat) : List D := (List.range n).map fun k => .int (lo + (k : Nat))
def far (i : Int) : Prop := -(2 ^ 62) ≤ i ∧ i < 2 ^ 62
instance (i : Int) : Decidable (far i) := by unfold far; infer_instance
def iRng1 (a : AM) : IM := fun fr S => (a fr S).bind fun ds S1 => match ds with
  | [.int j] => if far j then .ok ⟨rng 0 j.toNat, []⟩ S1 else .bad
  | _ => .bad
def iRng2 (a : AM) : IM := fun fr S => (a fr S).bind fun ds S1 => match ds with
  | [.int i, .int j] => if far i ∧ far j then .ok ⟨rng i (j - i).toNat, []⟩ S1 else .bad
  | _ => .bad
/-- range(a, b, -1) -/
def iRngD (a : AM) : IM := fun fr S => (a fr S).bind fun ds S1 => match ds with
  | [.int i, .int j, .int c] => if far i ∧ far j ∧ c = -1 then .ok ⟨(List.range (i - j).toNat).map fun k => .int (i - (k : Nat)), []⟩ S1 else .bad
  | _ => .bad
/-- enumerate(list): the pairs -/
def prs (i : Nat) : List D → List D
  | [] => []
  | d :: l => .tup [.int (i : Nat), d] :: prs (i + 1) l
def iEnum (a : AM) : IM := fun fr S => (a fr S).bind fun ds S1 => match ds with
  | [.ref n] => match lstOf S1 n with
    | some l => .ok ⟨prs 0 l, [(n, l)]⟩ S1
    | none => .bad
  | _ => .bad
def iZip (a : AM) : IM := fun fr S => (a fr S).bind fun ds S1 => match ds with
  | [.ref m, .ref n] => match lstOf S1 m, lstOf S1 n with
    | some l, some r => .ok ⟨List.zipWith (fun x y => .tup [x, y]) l r, [(m, l), (n, r)]⟩ S1
    | _, _ => .bad
  | _ => .bad
def iRev (a : AM) : IM := fun fr S => (a fr S).bind fun ds S1 => match ds with
  | [.ref n] => match lstOf S1 n with
    | some l => .ok ⟨l.reverse, [(n, l)]⟩ S1
    | none => .bad
  | _ => .bad
/-- behind a turn -/
def goOn (k : SM) : Out → Store → Res Out
  | .nx fr, S => k fr S
  | .ct fr, S => k fr S
  | .bk fr, S => .ok (.nx fr) S
  | .rt x, S => .ok (.rt x) S
noncomputable def loopM (hs : List (Nat × List D)) (turn : D → SM) : List D → SM
  | [], fr, S => if dec (stands hs S) = true then .ok (.nx fr) S else .bad
  | d :: ds, fr, S => if dec (stands hs S) = true then (turn d fr S).bind (goOn (loopM hs turn ds)) else .bad
noncomputable def sFor (i : IM) (g : GM) (b : SM) : SM := fun fr S => (i fr S).bind fun I S1 => loopM I.hs (fun d fr S => (g d fr S).bind fun fr' S' => b fr' S') I.items fr S1
def whileN (t : TM) (b : SM) : Nat → SM
  | 0, _, _ => .bad
  | n + 1, fr, S => (t fr S).bind fun c S1 => if c then (b fr S1).bind (goOn (whileN t b n)) else .ok (.nx fr) S1
open Classical in
noncomputable def sWhile (t : TM) (b : SM) : SM := fun fr S => if h : ∃ n, whileN t b n fr S ≠ .bad then whileN t b (Classical.choose h) fr S else .bad

/-! ### comprehensions -/
def unset : List Nat → Fr → Fr
  | [], fr => fr
  | i :: r, fr => (unset r fr).set i none
noncomputable def lcLoop (hs : List (Nat × List D)) (n : Nat) (g : GM) (t : TM) (e : EM) (fr : Fr) : List D → Store → Res D
  | [], S => if dec (stands hs S) = true then .ok (.ref n) S else .bad
  | d :: ds, S => if dec (stands hs S) = true then (g d fr S).bind fun fr' S1 => (t fr' S1).bind fun c S2 =>
      if c then (e fr' S2).bind fun x S3 => match S3[n]? with
        | some (.lst acc) => if acc.length < LINE then lcLoop hs n g t e fr ds (S3.set n (.lst (acc ++ [x]))) else .bad
        | _ => .bad
      else lcLoop hs n g t e fr ds S2
    else .bad
def tYes : TM := fun _ S => .ok true S
/-- no refusal within -/
def quiet {α : Type} : Res α → Res α
  | .ok a S => .ok a S
  | _ => .bad
noncomputable def mLc (vs : List Nat) (i : IM) (g : GM) (t : TM) (e : EM) : EM := fun fr S => (i fr S).bind fun I S1 =>
  lcLoop I.hs S1.length g (fun fr S => quiet (t fr S)) (fun fr S => quiet (e fr S)) (unset vs fr) I.items (S1 ++ [.lst []])

/-! ### a def -/
def startF (n : Nat) (ds : List D) : Fr := ds.map some ++ List.replicate (n - ds.length) none
def mDefX (np n : Nat) (b : SM) : Fn := fun ds S => if ds.length = np then (b (startF n ds) S).bind fun o S1 => match o with
  | .rt x => .ok x S1
  | .nx _ => .ok .non S1
  | _ => .bad
  else .bad
/-- a def that refuses nothing -/
def mDef (np n : Nat) (b : SM) : Fn := fun ds S => quiet (mDefX np n b ds S)

/-! ### built-ins -/
def bLen : Fn := fun ds S => match ds with
  | [.str s] => if s.length ≤ LINE then .ok (.int (s.length : Nat)) S else .bad
  | [.tup l] => .ok (.int (l.length : Nat)) S
  | [.wtp l] => .ok (.int (l.length : Nat)) S
  | [.ref n] => match S[n]? with
    | some (.lst l) => .ok (.int (l.length : Nat)) S
    | some (.fls l) => .ok (.int (l.length : Nat)) S
    | some (.dK k) => .ok (.int (k.length : Nat)) S
    | some (.dT k) => .ok (.int (k.length : Nat)) S
    | _ => .bad
  | _ => .bad
def bAbs : Fn := fun ds S => match ds with
  | [.int i] => .ok (.int (if i < 0 then -i else i)) S
  | _ => .bad
def bInt : Fn := fun ds S => match ds with
  | [.int i] => .ok (.int i) S
  | [.bl b] => .ok (.int (if b then 1 else 0)) S
  | _ => .bad
def bMax : Fn := fun ds S => match ds with
  | [.int i, .int j] => .ok (.int (if j > i then j else i)) S
  | _ => .bad
def bMin : Fn := fun ds S => match ds with
  | [.int i, .int j] => .ok (.int (if j < i then j else i)) S
  | _ => .bad
def bList : Fn := fun ds S => match ds with
  | [x] => match seqOf S x with
    | some l => new (.lst l) S
    | none => match x with
      | .ref n => match S[n]? with
        | some (.dK k) => new (.lst (k.map fun p => kyD p.1)) S
        | some (.dT k) => new (.lst (k.map fun p => .tup (p.1.map kyD))) S
        | _ => .bad
      | _ => .bad
  | _ => .bad
def bTuple : Fn := fun ds S => match ds with
  | [.tup l] => .ok (.tup l) S
  | [.ref n] => match lstOf S n with
    | some l => .ok (.tup l) S
    | none => .bad
  | _ => .bad
def intsOf : List D → Option (List Int)
  | [] => some []
  | .int i :: r => (intsOf r).map fun l => i :: l
  | _ => none
def bSum : Fn := fun ds S => match ds with
  | [.ref n] => match (lstOf S n).bind intsOf with
    | some l => .ok (.int l.sum) S
    | none => .bad
  | _ => .bad
def blsOf : List D → Option (List Bool)
  | [] => some []
  | .bl i :: r => (blsOf r).map fun l => i :: l
  | _ => none
def bAny : Fn := fun ds S => match ds with
  | [.ref n] => match (lstOf S n).bind blsOf with
    | some l => .ok (.bl (l.any id)) S
    | none => .bad
  | _ => .bad
def bAll : Fn := fun ds S => match ds with
  | [.ref n] => match (lstOf S n).bind blsOf with
    | some l => .ok (.bl (l.all id)) S
    | none => .bad
  | _ => .bad
/-- isinstance(x, T), T one of the built-in types by name -/
inductive Ty where
  | int | bool | str | list | tuple | dict
  deriving DecidableEq
def tyOf (S : Store) : D → Option Ty
  | .bl _ => some .bool
  | .int _ => some .int
  | .str _ => some .str
  | .tup _ => some .tuple
  | .wtp _ => none
  | .non => none
  | .ref n => match S[n]? with
    | some (.lst _) => some .list
    | some (.fls _) => some .list
    | some (.dK _) => some .dict
    | some (.dT _) => some .dict
    | _ => none
def isI (T : Ty) (x : D) (S : Store) : Option Bool := match x with
  | .non => some false
  | x => (tyOf S x).map fun U => decide (U = T) || (decide (U = .bool) && decide (T = .int))
def bIsI (T : Ty) : D → Store → Res D := fun x S => match isI T x S with
  | some b => .ok (.bl b) S
  | none => .bad

/-! ### methods -/
def isLst (d : D) (S : Store) : Bool := match d with
  | .ref n => (lstOf S n).isSome
  | _ => false
def isDct (d : D) (S : Store) : Bool := match d with
  | .ref n => match S[n]? with
    | some (.dK _) => true
    | some (.dT _) => true
    | _ => false
  | _ => false
def isStr (d : D) (_ : Store) : Bool := match d with
  | .str _ => true
  | _ => false
def mutL (d : D) (S : Store) (f : Nat → List D → Res D) : Res D := match d with
  | .ref n => match S[n]? with
    | some (.lst l) => f n l
    | _ => .bad
  | _ => .bad
def lAppend (o : D) : Fn := fun ds S => match ds with
  | [x] => mutL o S fun n l => if l.length < LINE then .ok .non (S.set n (.lst (l ++ [x]))) else .bad
  | _ => .bad
def lPop (o : D) : Fn := fun ds S => match ds with
  | [] => mutL o S fun n l => match l[l.length - 1]? with
    | some y => .ok y (S.set n (.lst l.dropLast))
    | none => .bad
  | [.int i] => mutL o S fun n l => if -(2 ^ 63) ≤ i ∧ i < 2 ^ 63 then (match (ixN l.length i) with
    | some k => (match l[k]? with
      | some y => .ok y (S.set n (.lst (l.eraseIdx k)))
      | none => .bad)
    | none => .bad) else .bad
  | _ => .bad
def lReverse (o : D) : Fn := fun ds S => match ds with
  | [] => mutL o S fun n l => .ok .non (S.set n (.lst l.reverse))
  | _ => .bad
def lClear (o : D) : Fn := fun ds S => match ds with
  | [] => mutL o S fun n l => .ok .non (S.set n (.lst []))
  | _ => .bad
def lExtend (o : D) : Fn := fun ds S => match ds with
  | [.ref m] => mutL o S fun n l => match S[m]? with
    | some (.lst r) => if l.length + r.length ≤ LINE then .ok .non (S.set n (.lst (l ++ r))) else .bad
    | _ => .bad
  | _ => .bad
/-- l.insert(i, x), i from 0 on -/
def lInsert (o : D) : Fn := fun ds S => match ds with
  | [.int i, x] => mutL o S fun n l => if l.length < LINE ∧ 0 ≤ i ∧ i < 2 ^ 63 then .ok .non (S.set n (.lst (l.take i.toNat ++ [x] ++ l.drop i.toNat))) else .bad
  | _ => .bad
/-- where the first equal one stands -/
def firstAt (p : D → Bool) : List D → Nat → Option Nat
  | [], _ => none
  | d :: l, k => if p d then some k else firstAt p l (k + 1)
def lIndexF (o : D) : Fn := fun ds S => match ds with
  | [x] => match o with
    | .ref n => match lstOf S n with
      | some l => if flatD x = true ∧ l.all flatD = true then (match firstAt (fun y => eqF y x) l 0 with
        | some k => .ok (.int (k : Nat)) S
        | none => .bad) else .bad
      | none => .bad
    | _ => .bad
  | _ => .bad
def dGetM (o : D) : Fn := fun ds S => match o with
  | .ref n => match ds with
    | [k] => match dLook S n k with
      | some r => .ok (r.getD .non) S
      | none => .bad
    | [k, x] => match dLook S n k with
      | some r => .ok (r.getD x) S
      | none => .bad
    | _ => .bad
  | _ => .bad
/-- texts of a list -/
def txsOf : List D → Option (List Tx)
  | [] => some []
  | .str s :: r => (txsOf r).map fun l => s :: l
  | _ => none
def joinT (sep : Tx) : List Tx → Tx
  | [] => []
  | [x] => x
  | x :: y :: r => x ++ sep ++ joinT sep (y :: r)
def sJoin (o : D) : Fn := fun ds S => match o with
  | .str a => match ds with
    | [d] => match (seqOf S d).bind txsOf with
      | some ys => if (ys.map List.length).sum + ys.length * a.length ≤ LINE then .ok (.str (joinT a ys)) S else .bad
      | none => .bad
    | _ => .bad
  | _ => .bad
def sIndex (o : D) : Fn := fun ds S => match o with
  | .str a => match ds with
    | [.str b] => match PySem.Builtin.Str.occurrences ⟨a.toArray⟩ ⟨b.toArray⟩ 0 (PySem.Str.mk a.toArray).length 1 with
      | i :: _ => .ok (.int (i : Nat)) S
      | [] => .bad
    | _ => .bad
  | _ => .bad
/-- reversed(range(n)) -/
def iRevR (a : EM) : IM := fun fr S => (a fr S).bind fun x S1 => match x with
  | .int j => if far j then .ok ⟨(List.range j.toNat).map fun k => .int ((j.toNat : Int) - 1 - (k : Nat)), []⟩ S1 else .bad
  | _ => .bad
/-- the i-th place of a sign in a text -/
def findC (c : Nat) : Tx → Nat → Option Nat
  | [], _ => none
  | d :: l, k => if d = c then some k else findC c l (k + 1)
end Mi

set_option Elab.async false
set_option linter.all false
/-! Mi: more steps. -/
namespace Mi
theorem Res.bind_assoc {α β γ : Type} (r : Res α) (f : α → Store → Res β) (g : β → Store → Res γ) : (r.bind f).bind g = r.bind fun a S => (f a S).bind g := by
  cases r <;> rfl
/-- the pairs of a display -/
def mPairs : List (EM × EM) → Fr → Store → Res (List (D × D))
  | [], _, S => .ok [] S
  | (a, b) :: r, fr, S => (a fr S).bind fun x S1 => (b fr S1).bind fun y S2 => (mPairs r fr S2).bind fun ps S3 => .ok ((x, y) :: ps) S3
def kvsM : List (D × D) → Option (List (Ky × D))
  | [] => some []
  | (k, v) :: r => (kyOf k).bind fun q => (kvsM r).map fun l => (q, v) :: l
def putM (l : List (Ky × D)) : List (Ky × D) := l.foldl (fun acc kv => dPut acc kv.1 kv.2) []
def disK (n : Nat) (S : Store) : Option (List (Ky × D)) → Option O → Res D
  | some kvs, some (.dK []) => if kvs.length ≤ 15 then .ok (.ref n) (S.set n (.dK (putM kvs))) else .bad
  | _, _ => .bad
/-- {k: v, ..} -/
def mDis (ps : List (EM × EM)) : EM := fun fr S => (mPairs ps fr (S ++ [.dK []])).bind fun xs S1 => disK S.length S1 (kvsM xs) S1[S.length]?
/-! ### texts -/
/-- cut at each c -/
def spC (c : Nat) : Tx → Tx → List Tx
  | acc, [] => [acc]
  | acc, d :: r => if d = c then acc :: spC c [] r else spC c (acc ++ [d]) r
/-- what stands before the first c, and behind it -/
def paC (c : Nat) : Tx → Tx → Option (Tx × Tx)
  | _, [] => none
  | acc, d :: r => if d = c then some (acc, r) else paC c (acc ++ [d]) r
def sSplit (o : D) : Fn := fun ds S => match o with
  | .str a => match ds with
    | [.str [c]] => if c < 256 ∧ a.length + 2 ≤ LINE then new (.lst ((spC c [] a).map .str)) S else .bad
    | _ => .bad
  | _ => .bad
def sPartition (o : D) : Fn := fun ds S => match o with
  | .str a => match ds with
    | [.str [c]] => if a.length ≤ LINE then (match paC c [] a with
      | some (x, y) => .ok (.tup [.str x, .str [c], .str y]) S
      | none => .ok (.tup [.str a, .str [], .str []]) S) else .bad
    | _ => .bad
  | _ => .bad
/-- a whole number's figures -/
def numT (n : Nat) : Tx := (Nat.toDigits 10 n).map Char.toNat
def bStr : Fn := fun ds S => match ds with
  | [.int i] => if 0 ≤ i ∧ i.natAbs.log2 < 1920 then .ok (.str (numT i.toNat)) S else .bad
  | [.str s] => .ok (.str s) S
  | _ => .bad
def digV (s : Tx) : Nat := s.foldl (fun acc c => acc * 10 + (c - 48)) 0
def isDig (c : Nat) : Bool := decide (48 ≤ c) && decide (c ≤ 57)
/-- int(text) -/
def bIntS : Fn := fun ds S => match ds with
  | [.str s] => if s.all isDig = true ∧ s ≠ [] ∧ s.length ≤ 640 then .ok (.int (digV s : Nat)) S else .bad
  | _ => .bad
def oMulS : Op2 := fun x y S => match x, y with
  | .str a, .int k => if a.length ≤ 16 ∧ 0 ≤ k ∧ k ≤ 1048576 then .ok (.str (List.replicate k.toNat a).flatten) S else .bad
  | _, _ => .bad
/-- {x} -/
def fmtD : D → Store → Res D := fun x S => match x with
  | .str s => if s.length ≤ LINE then .ok (.str s) S else .bad
  | .int i => if 0 ≤ i ∧ i.natAbs.log2 < 1920 then .ok (.str (numT i.toNat)) S else .bad
  | _ => .bad
def mJs : List EM → Tx → EM
  | [], acc, _, S => .ok (.str acc) S
  | e :: r, acc, fr, S => (e fr S).bind fun x S1 => match x with
    | .str y => if (acc ++ y).length ≤ LINE then mJs r (acc ++ y) fr S1 else .bad
    | _ => .bad
/-- f'..' -/
def mFst (l : List EM) : EM := mJs l []
end Mi

set_option Elab.async false
set_option linter.all false
/-! Mi: == where a dict may stand, upper of the six words -/
namespace Mi
def oEqX : Op2 := fun x y S => match x, y with
  | .ref n, .str _ => (match S[n]? with
    | some (.dK _) => .ok (.bl false) S
    | _ => oEq x y S)
  | _, _ => oEq x y S
def sixW : List Tx := [[114, 101, 99, 107, 111, 110], [99, 111, 112, 121], [115, 97, 121], [103, 111], [112, 97, 114, 116], [101, 110, 100]]
def sUpper (o : D) : Fn := fun ds S => match o with
  | .str s => match ds with
    | [] => if s ∈ sixW then .ok (.str (s.map fun c => c - 32)) S else .bad
    | _ => .bad
  | _ => .bad
/-- x + y, tuples of any size -/
def oAddA : Op2 := fun x y S => match x, y with
  | .tup a, .tup b => if a.length + b.length ≤ LINE then .ok (.tup (a ++ b)) S else .bad
  | _, _ => oAdd x y S
/-- x[lo:hi], tuples of any size -/
def oSlA (x : D) (lo hi : Option Int) (S : Store) : Res D := match x with
  | .tup l => .ok (.tup (cut l lo hi)) S
  | _ => oSl x lo hi S
def mSlA (a : EM) (lo hi : PM) : EM := fun fr S => (a fr S).bind fun x S1 => (lo fr S1).bind fun l S2 => (hi fr S2).bind fun h S3 => oSlA x l h S3
end Mi

set_option Elab.async false
set_option linter.all false
/-! Mi: a[::-1] of a list -/
namespace Mi
def oRev (x : D) (S : Store) : Res D := match x with
  | .ref n => (match lstOf S n with
    | some l => new (.lst l.reverse) S
    | none => .bad)
  | _ => .bad
def mRev (a : EM) (st : PM) : EM := fun fr S => (a fr S).bind fun x S1 => (st fr S1).bind fun o S2 => if o = some (-1) then oRev x S2 else .bad
end Mi

set_option Elab.async false
set_option linter.all false
/-! Mi: walks over dicts, == of dicts, clear -/
namespace Mi
/-- the locked dict -/
def zOf : O → Option O
  | .dK k => some (.zK k)
  | .dT k => some (.zT k)
  | _ => none
inductive Wk where
  | key | val | itm
def zItems : Wk → O → Option (List D)
  | .key, .zK k => some (k.map fun p => kyD p.1)
  | .key, .zT k => some (k.map fun p => .tup (p.1.map kyD))
  | .val, .zK k => some (k.map fun p => p.2)
  | .val, .zT k => some (k.map fun p => p.2)
  | .itm, .zK k => some (k.map fun p => .tup [kyD p.1, p.2])
  | _, _ => none
noncomputable def loopZ (n : Nat) (z : O) (turn : D → SM) : List D → SM
  | [], fr, S => if dec (S[n]? = some z) = true then .ok (.nx fr) S else .bad
  | d :: ds, fr, S => if dec (S[n]? = some z) = true then (turn d fr S).bind (goOn (loopZ n z turn ds)) else .bad
noncomputable def runZ (e : EM) (g : GM) (b : SM) (fr : Fr) (S : Store) (n : Nat) (o z : O) (l : List D) : Res Out :=
  (e fr (S.set n z)).bind fun x S1 => match x with
    | .ref n' => if n' = n then (loopZ n z (fun d fr S => (g d fr S).bind fun fr' S' => b fr' S') l fr S1).bind fun out S2 => if dec (S2[n]? = some z) = true then .ok out (S2.set n o) else .bad else .bad
    | _ => .bad
/-- for x in d, d.values(), d.items() -/
noncomputable def sForD (w : Wk) (e : EM) (g : GM) (b : SM) : SM := fun fr S => match e fr S with
  | .ok (.ref n) _ => (match S[n]? with
    | some o => (match zOf o with
      | some z => (match zItems w z with
        | some l => runZ e g b fr S n o z l
        | none => .bad)
      | none => .bad)
    | none => .bad)
  | _ => .bad
/-- the same keys, the same flat values -/
def dSame {κ : Type} [DecidableEq κ] (k l : List (κ × D)) : Bool := decide (k.length = l.length) && k.all fun p => match dGet l p.1 with
  | some v => flatD p.2 && flatD v && decide (scq p.2 v = some true)
  | none => false
def oSame (x y : D) (S : Store) : Bool := match x, y with
  | .ref m, .ref n => (match S[m]?, S[n]? with
    | some (.dK k), some (.dK l) => dSame k l
    | some (.dT k), some (.dT l) => dSame k l
    | _, _ => false)
  | _, _ => false
def oEqD : Op2 := fun x y S => if oSame x y S then .ok (.bl true) S else oEq x y S
def oNeD : Op2 := fun x y S => if oSame x y S then .ok (.bl false) S else oNe x y S
/-- d.clear() -/
def dClear (o : D) : Fn := fun ds S => match o with
  | .ref n => (match ds with
    | [] => (match S[n]? with
      | some (.dK _) => .ok .non (S.set n (.dK []))
      | some (.dT _) => .ok .non (S.set n (.dT []))
      | _ => .bad)
    | _ => .bad)
  | _ => .bad
end Mi

set_option Elab.async false
set_option linter.all false
/-! Mi: defaults; tuples known as they stand; dict(..) -/
namespace Mi
/-- the defaults behind what is written -/
def mDfl (g : Fn) (xs : List D) : Fn := fun ds S => g (ds ++ xs) S
@[simp] theorem mDfl_s (g : Fn) (xs ds : List D) (S : Store) : mDfl g xs ds S = g (ds ++ xs) S := (rfl)
def bTupX : Fn := fun ds S => match ds with
  | [.tup l] => .ok (.tup l) S
  | [.wtp l] => .ok (.wtp l) S
  | [.ref n] => match lstOf S n with
    | some l => .ok (.wtp l) S
    | none => .bad
  | _ => .bad
def prsOf : List D → Option (List (Ky × D))
  | [] => some []
  | .tup [k, v] :: r => (kyOf k).bind fun q => (prsOf r).map fun l => (q, v) :: l
  | _ => none
def bDict : Fn := fun ds S => match ds with
  | [.wtp l] => match prsOf l with
    | some ps => new (.dK (ps.foldl (fun acc p => dPut acc p.1 p.2) [])) S
    | none => .bad
  | [.ref n] => match S[n]? with
    | some (.dK k) => new (.dK k) S
    | _ => .bad
  | _ => .bad
end Mi

set_option Elab.async false
set_option linter.all false
/-! Mi: a[lo::st] of a list -/
namespace Mi
/-- lo, lo + st, .. -/
def stpL {α : Type} (l : List α) (lo st : Nat) : List α := (List.range l.length).filterMap fun k => l[lo + st * k]?
def oStp (x : D) (lo st : Nat) (S : Store) : Res D := match x with
  | .ref n => (match lstOf S n with
    | some l => new (.lst (stpL l lo st)) S
    | none => .bad)
  | _ => .bad
def stpI (x : D) (S : Store) : Option Int → Option Int → Res D
  | some lo, some st => if 0 ≤ lo ∧ 1 ≤ st then oStp x lo.toNat st.toNat S else .bad
  | _, _ => .bad
def mStp (a : EM) (lo st : PM) : EM := fun fr S => (a fr S).bind fun x S1 => (lo fr S1).bind fun l S2 => (st fr S2).bind fun o S3 => stpI x S3 l o
end Mi

set_option Elab.async false
set_option linter.all false
/-! Mi: list + list, either side a fixed list -/
namespace Mi
def oAddL : Op2 := fun x y S => match x, y with
  | .ref m, .ref n => (match lstOf S m, lstOf S n with
    | some a, some b => if a.length + b.length ≤ LINE then new (.lst (a ++ b)) S else .bad
    | _, _ => .bad)
  | _, _ => .bad
end Mi

set_option Elab.async false
set_option linter.all false
/-! Mi: l.remove(x) of data; o[i] += x -/
namespace Mi
def placeD (ps : List PySem.PyData) (d : PySem.PyData) : Option Nat := ps.findIdx? fun z => PySem.PyData.eqv z d
def lRemove (o : D) : Fn := fun ds S => match ds with
  | [x] => mutL o S fun n l => match pd S x, toPs (lookP 8 S) l with
    | some d, some ps => if shp d = true ∧ shp (.list ps) = true then (match placeD ps d with
      | some j => .ok .non (S.set n (.lst (l.eraseIdx j)))
      | none => .bad) else .bad
    | _, _ => .bad
  | _ => .bad
end Mi

set_option Elab.async false
set_option linter.all false
/-! Mi: own exceptions raised and caught -/
namespace Mi
/-- raise C(..): its fields, in the order in which they are set -/
def sRaise (cn : String) (fs : List Tx) (a : AM) : SM := fun fr S => (a fr S).bind fun ds S1 => if ds.length = fs.length then .exc ⟨cn, (fs.zip ds).reverse⟩ S1 else .bad
def tryK (sub : String → Option Bool) (h : Exn → Store → Res Out) : Res Out → Res Out
  | .ok o S => .ok o S
  | .exc x S => (match sub x.cls with
    | some true => quiet (h x S)
    | some false => .exc x S
    | none => .bad)
  | .bad => .bad
/-- try: b / except C: h, where b stores nothing before it raises -/
def sTry (sub : String → Option Bool) (b : SM) (h : Exn → SM) : SM := fun fr S => tryK sub (fun x => h x fr) (b fr S)
def offI (i : Nat) : Out → Out
  | .nx fr => .nx (fr.set i none)
  | .rt d => .rt d
  | .bk fr => .bk (fr.set i none)
  | .ct fr => .ct (fr.set i none)
/-- try: b / except C as n: h, n in slot i -/
def sTryA (sub : String → Option Bool) (i : Nat) (b : SM) (h : Exn → SM) : SM := fun fr S =>
  tryK sub (fun x S' => if i < fr.length then (h x (fr.set i none) S').bind fun o S2 => .ok (offI i o) S2 else .bad) (b fr S)
def lkF (l : List (Tx × D)) (f : Tx) : Option D := (l.find? fun p => decide (p.1 = f)).map (·.2)
/-- e.f of a caught C -/
def mXf (cn : String) (x : Exn) (f : Tx) : EM := fun _ S => if x.cls = cn then (match lkF x.fs f with
  | some d => .ok d S
  | none => .bad) else .bad
end Mi

set_option Elab.async false
set_option linter.all false
/-! Mi: l.index(x) of data; o[i] += e of a list -/
namespace Mi
def lIndexD (o : D) : Fn := fun ds S => match ds with
  | [x] => match pd S o, pd S x with
    | some (.list ps), some d => if shp d = true ∧ shp (.list ps) = true then (match placeD ps d with
      | some j => .ok (.int (j : Nat)) S
      | none => .bad) else .bad
    | _, _ => .bad
  | _ => .bad
def getL (x y : D) (S : Store) : Res D := match x, y with
  | .ref n, .int i => if 0 ≤ i ∧ i < 2 ^ 63 then (match lstOf S n with
    | some l => match l[i.toNat]? with
      | some v => .ok v S
      | none => .bad
    | none => .bad) else .bad
  | _, _ => .bad
/-- o[i] += e -/
def sAugS (o i e : EM) : SM := fun fr S => (o fr S).bind fun x S1 => (i fr S1).bind fun y S2 => (getL x y S2).bind fun z S3 => (e fr S3).bind fun w S4 => (oAddI z w S4).bind fun u S5 => (setIx x y u S5).bind fun _ S6 => .ok (.nx fr) S6
end Mi

set_option Elab.async false
set_option linter.all false
/-! Mi: calls with keywords -/
namespace Mi
/-- n values written, then k by keyword -/
def aKw (n k : Nat) (f f2 : AM) : AM := fun fr S => (f fr S).bind fun ds S1 => (f2 fr S1).bind fun es S2 => if ds.length = n ∧ es.length = k then .ok (ds ++ es) S2 else .bad
theorem aKw_bind {α : Type} {n k : Nat} {f f2 : AM} {fr : Fr} {S : Store} {g : List D → Store → Res α} : (aKw n k f f2 fr S).bind g = (f fr S).bind fun ds S1 => (f2 fr S1).bind fun es S2 => if ds.length = n ∧ es.length = k then g (ds ++ es) S2 else .bad := by
  unfold aKw
  cases f fr S with
  | exc x S1 => rfl
  | bad => rfl
  | ok ds S1 =>
    simp only [bind_ok]
    cases f2 fr S1 with
    | exc x S1 => rfl
    | bad => rfl
    | ok es S2 =>
      simp only [bind_ok]
      split <;> rfl
/-- i & 1 of any i -/
def oAnd1 : Op2
  | .int i, .int j, S => if j = 1 then .ok (.int (i % 2)) S else .bad
  | _, _, _ => .bad
end Mi

set_option Elab.async false
set_option linter.all false
/-! Mi: displays, slices and sums of tuples known as they stand -/
namespace Mi
def mTupX (a : AM) : EM := fun fr S => (a fr S).bind fun xs S1 => if xs.length ≤ LINE then .ok (.wtp xs) S1 else .bad
def oAddW : Op2
  | .wtp a, .wtp b, S => if a.length + b.length ≤ LINE then .ok (.wtp (a ++ b)) S else .bad
  | _, _, _ => .bad
def oSlW (x : D) (lo hi : Option Int) (S : Store) : Res D := match x with
  | .wtp l => .ok (.wtp (cut l lo hi)) S
  | _ => .bad
def mSlW (a : EM) (lo hi : PM) : EM := fun fr S => (a fr S).bind fun x S1 => (lo fr S1).bind fun l S2 => (hi fr S2).bind fun h S3 => oSlW x l h S3
end Mi

set_option Elab.async false
set_option linter.all false
/-! Mi: instances of own classes -/
namespace Mi
/-- an instance's fields: f put -/
def fPut (f : Tx) (d : D) : List (Tx × D) → List (Tx × D)
  | [] => [(f, d)]
  | (g, x) :: r => if g = f then (g, d) :: r else (g, x) :: fPut f d r
/-- the fields of an instance of cn -/
def insOf (cn : String) (S : Store) : D → Option (Nat × List (Tx × D))
  | .ref n => match S[n]? with
    | some (.ins C fs) => if C = cn then some (n, fs) else none
    | _ => none
  | _ => none
/-- e.f -/
def mFld (cn : String) (f : Tx) (a : EM) : EM := fun fr S => (a fr S).bind fun x S1 => match insOf cn S1 x with
  | some (_, fs) => (match lkF fs f with
    | some d => .ok d S1
    | none => .bad)
  | none => .bad
/-- e.f = v -/
def sFldM (cn : String) (f : Tx) (v a : EM) : SM := fun fr S => (v fr S).bind fun y S1 => (a fr S1).bind fun x S2 => match insOf cn S2 x with
  | some (n, fs) => if fs.length < 1000 then .ok (.nx fr) (S2.set n (.ins cn (fPut f y fs))) else .bad
  | none => .bad
/-- e.m(..) -/
def mMeth (cn : String) (mn : Tx) (g : Fn) (a : EM) (as : AM) : EM := fun fr S => (a fr S).bind fun x S1 => match insOf cn S1 x with
  | some (_, fs) => if lkF fs mn = none then (as fr S1).bind fun ds S2 => g (x :: ds) S2 else .bad
  | none => .bad
/-- C(..) -/
def mMake (cn : String) (g : Fn) (as : AM) : EM := fun fr S => (as fr S).bind fun ds S1 => (g (.ref S1.length :: ds) (S1 ++ [.ins cn []])).bind fun d S2 => if isN d then .ok (.ref S1.length) S2 else .bad
end Mi

set_option Elab.async false
set_option linter.all false
/-! Mi: s.isalpha() of one sign -/
namespace Mi
def alpC (c : Nat) : Bool := (decide (65 ≤ c) && decide (c ≤ 90)) || (decide (97 ≤ c) && decide (c ≤ 122))
def sAlpha (x : D) : Fn := fun ds S => match x with
  | .str [c] => (match ds with
    | [] => if c < 128 then .ok (.bl (alpC c)) S else .bad
    | _ => .bad)
  | _ => .bad
end Mi

set_option Elab.async false
set_option linter.all false
/-! Mi: list(d.values()), sorted([i, j]) -/
namespace Mi
def uVals : D → Store → Res D := fun x S => match x with
  | .ref n => (match S[n]? with
    | some (.dK k) => new (.lst (k.map fun p => p.2)) S
    | _ => .bad)
  | _ => .bad
def mValL (e : EM) : EM := mUn uVals e
end Mi

set_option Elab.async false
set_option linter.all false
/-! Mi: sorted([i, j]); == of tuples of equal items, dicts among them -/
namespace Mi
/-- sorted of a list of two numbers -/
def bSort2 : Fn := fun ds S => match ds with
  | [.ref n] => (match lstOf S n with
    | some [.int i, .int j] => new (.lst (if i ≤ j then [.int i, .int j] else [.int j, .int i])) S
    | _ => .bad)
  | _ => .bad
/-- equal items: flat ones, lists of numbers, dicts -/
def eqI (x y : D) (S : Store) : Bool := match x, y with
  | .ref m, .ref n => (match S[m]?, S[n]? with
    | some (.dK k), some (.dK l) => dSame k l
    | _, _ => false) || (match lstOf S m, lstOf S n with
    | some a, some b => (match intsOf a, intsOf b with
      | some u, some v => decide (u = v)
      | _, _ => false)
    | _, _ => false)
  | x, y => flatD x && flatD y && decide (scq x y = some true)
def eqIs : List D → List D → Store → Bool
  | [], [], _ => true
  | x :: a, y :: b, S => eqI x y S && eqIs a b S
  | _, _, _ => false
def oTup (x y : D) (S : Store) : Bool := match x, y with
  | .tup a, .tup b => eqIs a b S
  | _, _ => false
def oEqT : Op2 := fun x y S => if oTup x y S then .ok (.bl true) S else oEq x y S
def oNeT : Op2 := fun x y S => if oTup x y S then .ok (.bl false) S else oNe x y S
end Mi

set_option Elab.async false
set_option linter.all false
set_option maxRecDepth 100000
set_option maxHeartbeats 2000000
/-! the small language against the layer -/
namespace Sm
open PySem PySem.Spec PyProof.Rows L2 Mi

/-- what the written part is, what the module's names stand for -/
structure Ct where
  K : PySem.W.Frag
  mg : Str → Option Value
def sOf (s : Tx) : Str := ⟨s.toArray⟩
theorem sOf_inj {a b : Tx} (h : sOf a = sOf b) : a = b := by
  have e : a.toArray = b.toArray := congrArg Str.cps h
  simpa using e
theorem sOf_eq {a b : Tx} : decide (sOf a = sOf b) = decide (a = b) := by
  by_cases h : a = b
  · subst h; simp
  · have q : ¬ sOf a = sOf b := fun z => h (sOf_inj z)
    rw [decide_eq_false h, decide_eq_false q]
theorem sOf_len (a : Tx) : (sOf a).length = a.length := by
  show a.toArray.size = a.length
  simp
def H0 : Hp := fun _ => none
/-- a tuple known as it stands: no dict of its own -/
def Wt (K : PySem.W.Frag) (H : Hp) (a : Addr) (xs : List V) : Prop := (∃ o : Obj, H a = some (.frz o (.tup xs)) ∧ o.dict = none) ∨ (SqT K H0 a xs ∧ ∃ o : Obj, K.lookup a = some o ∧ o.dict = none)
mutual
inductive RelD (K : PySem.W.Frag) (H : Hp) (m : List Addr) : D → V → Prop
  | non : RelD K H m .non .non
  | bl (b : Bool) : RelD K H m (.bl b) (.bl b)
  | int (i : Int) : RelD K H m (.int i) (.int i)
  | str (s : Tx) : RelD K H m (.str s) (.str (sOf s))
  | tup {l : List D} {a : Addr} {xs : List V} (h : H a = some (.tup xs)) (r : RelL K H m l xs) : RelD K H m (.tup l) (.ref a)
  | wtp {l : List D} {a : Addr} {xs : List V} (h : Wt K H a xs) (r : RelL K H m l xs) : RelD K H m (.wtp l) (.ref a)
  | ref {n : Nat} {a : Addr} (h : m[n]? = some a) : RelD K H m (.ref n) (.ref a)
inductive RelL (K : PySem.W.Frag) (H : Hp) (m : List Addr) : List D → List V → Prop
  | nil : RelL K H m [] []
  | cons {d : D} {l : List D} {v : V} {r : List V} (h : RelD K H m d v) (t : RelL K H m l r) : RelL K H m (d :: l) (v :: r)
end
def tupO (u : HO) : Prop := (∃ xs, u = .tup xs) ∨ (∃ o xs, u = .frz o (.tup xs)) ∨ ∃ fs, u = .xd fs
def TStay (H H' : Hp) : Prop := ∀ a u, tupO u → H a = some u → H' a = some u
theorem Wt.mono {K : PySem.W.Frag} {H H' : Hp} {a : Addr} {xs : List V} (t : TStay H H') (h : Wt K H a xs) : Wt K H' a xs := by
  rcases h with ⟨o, h, e⟩ | h
  · exact .inl ⟨o, t _ _ (.inr (.inl ⟨o, xs, rfl⟩)) h, e⟩
  · exact .inr h
theorem Wt.sq {K : PySem.W.Frag} {H : Hp} {a : Addr} {xs : List V} (h : Wt K H a xs) : SqT K H a xs := by
  rcases h with ⟨o, h, _⟩ | ⟨h, _⟩
  · exact .inl (.inr ⟨o, h⟩)
  · rcases h with h | h
    · rcases h with h | ⟨o, h⟩ <;> cases h
    · exact .inr h
def MExt (m m' : List Addr) : Prop := ∀ (n : Nat) (a : Addr), m[n]? = some a → m'[n]? = some a
structure Ex0 (m : List Addr) (H : Hp) (m' : List Addr) (H' : Hp) : Prop where
  mx : MExt m m'
  ts : TStay H H'
structure Ext (m : List Addr) (H : Hp) (m' : List Addr) (H' : Hp) : Prop extends Ex0 m H m' H' where
  fz : ∀ a o u, H a = some (.frz o u) → H' a = some (.frz o u)
theorem Ext.refl (m : List Addr) (H : Hp) : Ext m H m H := ⟨⟨fun _ _ h => h, fun _ _ _ h => h⟩, fun _ _ _ h => h⟩
theorem Ext.trans {m m1 m2 : List Addr} {H H1 H2 : Hp} (a : Ext m H m1 H1) (b : Ext m1 H1 m2 H2) : Ext m H m2 H2 :=
  ⟨⟨fun n x h => b.mx n x (a.mx n x h), fun x u t h => b.ts x u t (a.ts x u t h)⟩, fun x o u h => b.fz x o u (a.fz x o u h)⟩
section
variable {K : PySem.W.Frag} {H H' : Hp} {m m' : List Addr}
mutual
theorem RelD.mono0 (e : Ex0 m H m' H') : ∀ {d : D} {v : V}, RelD K H m d v → RelD K H' m' d v
  | _, _, .non => .non
  | _, _, .bl b => .bl b
  | _, _, .int i => .int i
  | _, _, .str s => .str s
  | _, _, .tup h r => .tup (e.ts _ _ (.inl ⟨_, rfl⟩) h) (RelL.mono0 e r)
  | _, _, .wtp h r => .wtp (h.mono e.ts) (RelL.mono0 e r)
  | _, _, .ref h => .ref (e.mx _ _ h)
theorem RelL.mono0 (e : Ex0 m H m' H') : ∀ {d : List D} {v : List V}, RelL K H m d v → RelL K H' m' d v
  | _, _, .nil => .nil
  | _, _, .cons h t => .cons (RelD.mono0 e h) (RelL.mono0 e t)
end
theorem RelD.mono (e : Ext m H m' H') {d : D} {v : V} (h : RelD K H m d v) : RelD K H' m' d v := h.mono0 e.toEx0
theorem RelL.mono (e : Ext m H m' H') {d : List D} {v : List V} (h : RelL K H m d v) : RelL K H' m' d v := h.mono0 e.toEx0
theorem RelL.len : ∀ {l : List D} {xs : List V}, RelL K H m l xs → l.length = xs.length
  | _, _, .nil => rfl
  | _, _, .cons _ t => by rw [List.length_cons, List.length_cons, RelL.len t]
theorem RelL.ix : ∀ {l : List D} {xs : List V} {i : Nat} {d : D}, RelL K H m l xs → l[i]? = some d → ∃ v, xs[i]? = some v ∧ RelD K H m d v
  | _, _, 0, _, .cons h _, e => by
    have e' := Option.some.inj e
    subst e'
    exact ⟨_, rfl, h⟩
  | _, _, i + 1, _, .cons _ t, e => RelL.ix (i := i) t e
  | _, _, _, _, .nil, e => by cases e
theorem RelL.back : ∀ {l : List D} {xs : List V} {i : Nat} {v : V}, RelL K H m l xs → xs[i]? = some v → ∃ d, l[i]? = some d ∧ RelD K H m d v
  | _, _, 0, _, .cons h _, e => by
    have e' := Option.some.inj e
    subst e'
    exact ⟨_, rfl, h⟩
  | _, _, i + 1, _, .cons _ t, e => RelL.back (i := i) t e
  | _, _, _, _, .nil, e => by cases e
theorem RelL.app : ∀ {l r : List D} {xs ys : List V}, RelL K H m l xs → RelL K H m r ys → RelL K H m (l ++ r) (xs ++ ys)
  | _, _, _, _, .nil, h => h
  | _, _, _, _, .cons h t, h2 => .cons h (RelL.app t h2)
theorem RelL.one {d : D} {v : V} (h : RelD K H m d v) : RelL K H m [d] [v] := .cons h .nil
theorem RelL.take : ∀ {l : List D} {xs : List V} (n : Nat), RelL K H m l xs → RelL K H m (l.take n) (xs.take n)
  | _, _, 0, _ => .nil
  | _, _, _ + 1, .nil => .nil
  | _, _, n + 1, .cons h t => .cons h (RelL.take n t)
theorem RelL.drop : ∀ {l : List D} {xs : List V} (n : Nat), RelL K H m l xs → RelL K H m (l.drop n) (xs.drop n)
  | _, _, 0, h => h
  | _, _, _ + 1, .nil => .nil
  | _, _, n + 1, .cons _ t => RelL.drop n t
theorem RelL.set {d : D} {v : V} (h : RelD K H m d v) : ∀ {l : List D} {xs : List V} (i : Nat), RelL K H m l xs → RelL K H m (l.set i d) (xs.set i v)
  | _, _, _, .nil => .nil
  | _, _, 0, .cons _ t => .cons h t
  | _, _, i + 1, .cons q t => .cons q (RelL.set h i t)
theorem RelL.rev {l : List D} {xs : List V} (h : RelL K H m l xs) : RelL K H m l.reverse xs.reverse := by
  induction h using RelL.rec (motive_1 := fun _ _ _ => True) with
  | nil => exact .nil
  | cons h t _ ih =>
    rw [List.reverse_cons, List.reverse_cons]
    exact ih.app (.one h)
  | _ => trivial
theorem RelL.erase : ∀ {l : List D} {xs : List V} (i : Nat), RelL K H m l xs → RelL K H m (l.eraseIdx i) (xs.eraseIdx i)
  | _, _, _, .nil => .nil
  | _, _, 0, .cons _ t => t
  | _, _, i + 1, .cons q t => .cons q (RelL.erase i t)
theorem RelL.dropLast {l : List D} {xs : List V} (h : RelL K H m l xs) : RelL K H m l.dropLast xs.dropLast := by
  rw [List.dropLast_eq_take, List.dropLast_eq_take, h.len]
  exact h.take _
end
/-! ### keys -/
def kyK : Ky → Key
  | .inl i => .inl i
  | .inr s => .inr (sOf s)
theorem kyK_inj {a b : Ky} (h : kyK a = kyK b) : a = b := by
  cases a with
  | inl i => cases b with
    | inl j => cases (Sum.inl.inj h); rfl
    | inr s => cases h
  | inr s => cases b with
    | inl j => cases h
    | inr t => rw [sOf_inj (Sum.inr.inj h)]
theorem kysK_inj {a b : List Ky} (h : a.map kyK = b.map kyK) : a = b := by
  induction a generalizing b with
  | nil => cases b with
    | nil => rfl
    | cons => cases h
  | cons x a ih => cases b with
    | nil => cases h
    | cons y b =>
      rw [List.map_cons, List.map_cons] at h
      obtain ⟨h1, h2⟩ := List.cons.inj h
      rw [kyK_inj h1, ih h2]
section
variable {K : PySem.W.Frag} {H H' : Hp} {m m' : List Addr}
abbrev RelK (K : PySem.W.Frag) (H : Hp) (m : List Addr) {κ κ' : Type} (f : κ → κ') : List (κ × D) → List (κ' × V) → Prop := Paired fun p q => f p.1 = q.1 ∧ RelD K H m p.2 q.2
theorem RelK.mono0 {κ κ' : Type} {f : κ → κ'} (e : Ex0 m H m' H') {k : List (κ × D)} {kv : List (κ' × V)} (h : RelK K H m f k kv) : RelK K H' m' f k kv := Paired.mapP h fun _ _ z => ⟨z.1, z.2.mono0 e⟩
theorem RelK.mono {κ κ' : Type} {f : κ → κ'} (e : Ext m H m' H') {k : List (κ × D)} {kv : List (κ' × V)} (h : RelK K H m f k kv) : RelK K H' m' f k kv := RelK.mono0 e.toEx0 h
end
/-- what stands at an address -/
def RelO (c : Ct) (H : Hp) (m : List Addr) (a : Addr) : O → Prop
  | .lst l => ∃ xs, H a = some (.lst xs) ∧ RelL c.K H m l xs
  | .fls l => ∃ xs, ((∃ o, H a = some (.frz o (.lst xs))) ∨ SqL c.K H0 a xs) ∧ RelL c.K H m l xs
  | .dK k => ∃ kv, H a = some (.dK kv) ∧ RelK c.K H m kyK k kv
  | .dT k => ∃ kv, H a = some (.dT kv) ∧ RelK c.K H m (fun x => x.map kyK) k kv
  | .zK k => ∃ od kv, H a = some (.frz od (.dK kv)) ∧ RelK c.K H m kyK k kv
  | .zT k => ∃ od kv, H a = some (.frz od (.dT kv)) ∧ RelK c.K H m (fun x => x.map kyK) k kv
  | .ins C f => ∃ Ca dx fs, c.mg (C : Str) = some (.ref Ca) ∧ H a = some (.ins Ca dx fs) ∧ RelK c.K H m sOf f fs
def liv : O → Prop
  | .fls _ => False
  | .zK _ => False
  | .zT _ => False
  | _ => True
def own : O → Prop
  | .fls _ => False
  | _ => True
theorem liv.own {o : O} (h : liv o) : own o := by cases o <;> trivial
structure RS (c : Ct) (m : List Addr) (S : Store) (H : Hp) : Prop where
  len : m.length = S.length
  ob : ∀ (n : Nat) (a : Addr) (o : O), m[n]? = some a → S[n]? = some o → RelO c H m a o
  inj : ∀ (n n' : Nat) (a : Addr) (o o' : O), m[n]? = some a → m[n']? = some a → S[n]? = some o → S[n']? = some o' → own o → own o' → n = n'
structure RF (K : PySem.W.Frag) (H : Hp) (m : List Addr) (fr : Fr) (σ : L2.St) : Prop where
  len : fr.length = σ.length
  get : ∀ (i : Nat) (d : D), fr[i]? = some (some d) → ∃ v, σ[i]? = some (some v) ∧ RelD K H m d v
section
variable {c : Ct} {H H' : Hp} {m m' : List Addr} {S : Store}
theorem RF.mono {fr : Fr} {σ : L2.St} (e : Ext m H m' H') (h : RF c.K H m fr σ) : RF c.K H' m' fr σ := ⟨h.len, fun i d q => let ⟨v, h1, h2⟩ := h.get i d q; ⟨v, h1, h2.mono e⟩⟩
theorem RF.set {fr : Fr} {σ : L2.St} {d : D} {v : V} (h : RF c.K H m fr σ) (r : RelD c.K H m d v) (i : Nat) : RF c.K H m (fr.set i (some d)) (σ.set i (some v)) := by
  refine ⟨by rw [List.length_set, List.length_set]; exact h.len, fun j d' q => ?_⟩
  by_cases e : i = j
  · subst e
    have hi : i < fr.length := by
      have := (List.getElem?_eq_some_iff.mp q).1
      rwa [List.length_set] at this
    rw [List.getElem?_set_self hi] at q
    cases q
    exact ⟨v, by rw [List.getElem?_set_self (by rw [← h.len]; exact hi)], r⟩
  · rw [List.getElem?_set_ne e] at q
    rw [List.getElem?_set_ne e]
    exact h.get j d' q
theorem RF.none {fr : Fr} {σ : L2.St} (h : RF c.K H m fr σ) (i : Nat) : RF c.K H m (fr.set i none) (σ.set i none) := by
  refine ⟨by rw [List.length_set, List.length_set]; exact h.len, fun j d' q => ?_⟩
  by_cases e : i = j
  · subst e
    have hi : i < fr.length := by
      have := (List.getElem?_eq_some_iff.mp q).1
      rwa [List.length_set] at this
    rw [List.getElem?_set_self hi] at q
    cases q
  · rw [List.getElem?_set_ne e] at q
    rw [List.getElem?_set_ne e]
    exact h.get j d' q
theorem RF.unset {fr : Fr} {σ : L2.St} (h : RF c.K H m fr σ) : ∀ vs : List Nat, RF c.K H m (unset vs fr) (wipe σ vs)
  | [] => h
  | i :: r => (RF.unset h r).none i
theorem RelO.mono0 {a : Addr} {o : O} (e : Ex0 m H m' H') (hk : liv o → ∀ u, H a = some u → H' a = some u) (hf : ∀ ob u, H a = some (.frz ob u) → H' a = some (.frz ob u)) (h : RelO c H m a o) : RelO c H' m' a o := by
  cases o with
  | lst l => obtain ⟨xs, h1, h2⟩ := h; exact ⟨xs, hk trivial _ h1, h2.mono0 e⟩
  | fls l =>
    obtain ⟨xs, h1, h2⟩ := h
    refine ⟨xs, ?_, h2.mono0 e⟩
    rcases h1 with ⟨ob, h1⟩ | h1
    · exact .inl ⟨ob, hf _ _ h1⟩
    · exact .inr h1
  | dK k => obtain ⟨xs, h1, h2⟩ := h; exact ⟨xs, hk trivial _ h1, RelK.mono0 e h2⟩
  | dT k => obtain ⟨xs, h1, h2⟩ := h; exact ⟨xs, hk trivial _ h1, RelK.mono0 e h2⟩
  | zK k => obtain ⟨od, xs, h1, h2⟩ := h; exact ⟨od, xs, hf _ _ h1, RelK.mono0 e h2⟩
  | zT k => obtain ⟨od, xs, h1, h2⟩ := h; exact ⟨od, xs, hf _ _ h1, RelK.mono0 e h2⟩
  | ins C f => obtain ⟨Ca, dx, fs, h0, h1, h2⟩ := h; exact ⟨Ca, dx, fs, h0, hk trivial _ h1, RelK.mono0 e h2⟩
theorem RelO.mono {a : Addr} {o : O} (e : Ext m H m' H') (hk : liv o → ∀ u, H a = some u → H' a = some u) (hf : ∀ ob u, H a = some (.frz ob u) → H' a = some (.frz ob u)) (h : RelO c H m a o) : RelO c H' m' a o := h.mono0 e.toEx0 hk hf
/-- a live object is tracked, and may be changed -/
theorem RelO.mut {a : Addr} {o : O} (h : RelO c H m a o) (l : liv o) : Mut (H a) := by
  cases o with
  | lst l => obtain ⟨xs, h1, _⟩ := h; rw [h1]; trivial
  | fls l => exact l.elim
  | dK k => obtain ⟨xs, h1, _⟩ := h; rw [h1]; trivial
  | dT k => obtain ⟨xs, h1, _⟩ := h; rw [h1]; trivial
  | zK k => exact l.elim
  | zT k => exact l.elim
  | ins C f => obtain ⟨Ca, dx, fs, h0, h1, _⟩ := h; rw [h1]; trivial
/-- an own object stands -/
theorem RelO.stands {a : Addr} {o : O} (h : RelO c H m a o) (l : own o) : H a ≠ none := by
  cases o with
  | lst l => obtain ⟨xs, h1, _⟩ := h; rw [h1]; simp
  | fls l => exact l.elim
  | dK k => obtain ⟨xs, h1, _⟩ := h; rw [h1]; simp
  | dT k => obtain ⟨xs, h1, _⟩ := h; rw [h1]; simp
  | zK k => obtain ⟨od, xs, h1, _⟩ := h; rw [h1]; simp
  | zT k => obtain ⟨od, xs, h1, _⟩ := h; rw [h1]; simp
  | ins C f => obtain ⟨Ca, dx, fs, h0, h1, _⟩ := h; rw [h1]; simp
theorem tstay_new {p : Addr} {o : HO} (h : H p = none) : TStay H (upd H p o) := fun a u _ e => by rw [upd_ne (ne_of_none e h)]; exact e
theorem tstay_mut {p : Addr} {o : HO} (h : Mut (H p)) : TStay H (upd H p o) := fun a u t e => by
  have ne : a ≠ p := fun z => by
    subst z; rw [e] at h
    rcases t with ⟨xs, rfl⟩ | ⟨o, xs, rfl⟩ | ⟨fs, rfl⟩ <;> exact h
  rw [upd_ne ne]; exact e
theorem fstay_new {p : Addr} {o : HO} (h : H p = none) : ∀ a ob u, H a = some (.frz ob u) → upd H p o a = some (.frz ob u) := fun a ob u e => by rw [upd_ne (ne_of_none e h)]; exact e
theorem fstay_mut {p : Addr} {o : HO} (h : Mut (H p)) : ∀ a ob u, H a = some (.frz ob u) → upd H p o a = some (.frz ob u) := fun a ob u e => by
  have ne : a ≠ p := fun z => by subst z; rw [e] at h; exact h
  rw [upd_ne ne]; exact e
theorem mext_push (m : List Addr) (p : Addr) : MExt m (m ++ [p]) := fun n a h => by
  rw [List.getElem?_append_left (List.getElem?_eq_some_iff.mp h).1]; exact h
/-- a new object -/
theorem RS.push {p : Addr} {o : O} {u : HO} (r : RS c m S H) (h : H p = none) (ho : RelO c (upd H p u) (m ++ [p]) p o) : RS c (m ++ [p]) (S ++ [o]) (upd H p u) ∧ Ext m H (m ++ [p]) (upd H p u) := by
  have e : Ext m H (m ++ [p]) (upd H p u) := ⟨⟨mext_push m p, tstay_new h⟩, fstay_new h⟩
  have old : ∀ (n : Nat) (a : Addr), n < m.length → (m ++ [p])[n]? = some a → m[n]? = some a := fun n a hn q => by rwa [List.getElem?_append_left hn] at q
  have oldS : ∀ (n : Nat) (x : O), n < m.length → (S ++ [o])[n]? = some x → S[n]? = some x := fun n x hn q => by rwa [List.getElem?_append_left (by rw [← r.len]; exact hn)] at q
  have last : ∀ (n : Nat) (a : Addr), ¬ n < m.length → (m ++ [p])[n]? = some a → n = m.length ∧ a = p := fun n a hn q => by
    have h1 := (List.getElem?_eq_some_iff.mp q).1
    rw [List.length_append] at h1
    have h2 : n = m.length := by simp at h1; omega
    subst h2
    rw [List.getElem?_append_right (Nat.le_refl _), Nat.sub_self] at q
    exact ⟨rfl, (Option.some.inj q).symm⟩
  have lastS : ∀ (n : Nat) (x : O), n = m.length → (S ++ [o])[n]? = some x → x = o := fun n x hn q => by
    rw [hn, r.len, List.getElem?_append_right (Nat.le_refl _), Nat.sub_self] at q
    exact (Option.some.inj q).symm
  refine ⟨⟨by rw [List.length_append, List.length_append, r.len] <;> rfl, fun n a x q1 q2 => ?_, fun n n' a x x' q1 q2 q3 q4 l1 l2 => ?_⟩, e⟩
  · by_cases hn : n < m.length
    · have k1 := old n a hn q1
      have k2 := r.ob n a x k1 (oldS n x hn q2)
      exact k2.mono e (fun _ u' z => by rw [upd_ne (ne_of_none z h)]; exact z) fun ob u' z => by rw [upd_ne (ne_of_none z h)]; exact z
    · obtain ⟨e1, e2⟩ := last n a hn q1
      have e3 := lastS n x e1 q2
      subst e2 e3
      exact ho
  · have nl : ∀ (n : Nat) (a : Addr) (x : O), n < m.length → (m ++ [p])[n]? = some a → (S ++ [o])[n]? = some x → own x → a ≠ p := fun n a x hn q1 q3 l => by
      have k := (r.ob n a x (old n a hn q1) (oldS n x hn q3)).stands l
      intro z
      subst z
      exact k h
    by_cases hn : n < m.length
    · by_cases hn' : n' < m.length
      · exact r.inj n n' a x x' (old n a hn q1) (old n' a hn' q2) (oldS n x hn q3) (oldS n' x' hn' q4) l1 l2
      · exact absurd (last n' a hn' q2).2 (nl n a x hn q1 q3 l1)
    · by_cases hn' : n' < m.length
      · exact absurd (last n a hn q1).2 (nl n' a x' hn' q2 q4 l2)
      · rw [(last n a hn q1).1, (last n' a hn' q2).1]
/-- a fresh thing that is not in the store -/
theorem RS.fresh {p : Addr} {u : HO} (r : RS c m S H) (h : H p = none) : RS c m S (upd H p u) := by
  have e : Ext m H m (upd H p u) := ⟨⟨fun _ _ z => z, tstay_new h⟩, fstay_new h⟩
  exact ⟨r.len, fun n a x q1 q2 => (r.ob n a x q1 q2).mono e (fun _ u' z => by rw [upd_ne (ne_of_none z h)]; exact z) fun ob u' z => by rw [upd_ne (ne_of_none z h)]; exact z, r.inj⟩
/-- an object changed -/
theorem RS.set {n : Nat} {a : Addr} {o o' : O} {u : HO} (r : RS c m S H) (ha : m[n]? = some a) (hs : S[n]? = some o) (l : liv o) (l' : liv o') (ho : Ext m H m (upd H a u) → RelO c (upd H a u) m a o') : RS c m (S.set n o') (upd H a u) ∧ Ext m H m (upd H a u) := by
  have mu := (r.ob n a o ha hs).mut l
  have e : Ext m H m (upd H a u) := ⟨⟨fun _ _ z => z, tstay_mut mu⟩, fstay_mut mu⟩
  refine ⟨⟨by rw [List.length_set]; exact r.len, fun k b x q1 q2 => ?_, fun k k' b x x' q1 q2 q3 q4 l1 l2 => ?_⟩, e⟩
  · by_cases hk : n = k
    · subst hk
      rw [ha] at q1
      cases q1
      have hn := (List.getElem?_eq_some_iff.mp hs).1
      rw [List.getElem?_set_self hn] at q2
      cases q2
      exact ho e
    · rw [List.getElem?_set_ne hk] at q2
      have k2 := r.ob k b x q1 q2
      refine k2.mono e (fun lx u' z => ?_) fun ob u' z => ?_
      · have ne : b ≠ a := fun w => hk (r.inj n k a o x ha (by rw [← w]; exact q1) hs q2 l.own lx.own)
        rw [upd_ne ne]; exact z
      · have ne : b ≠ a := fun w => by subst w; rw [z] at mu; exact mu
        rw [upd_ne ne]; exact z
  · have at_ : ∀ (k : Nat) (x : O), (S.set n o')[k]? = some x → own x → ∃ x0, S[k]? = some x0 ∧ own x0 := fun k x q lx => by
      by_cases hk : n = k
      · subst hk; exact ⟨o, hs, l.own⟩
      · rw [List.getElem?_set_ne hk] at q; exact ⟨x, q, lx⟩
    obtain ⟨y, z1, z2⟩ := at_ k x q3 l1
    obtain ⟨y', z1', z2'⟩ := at_ k' x' q4 l2
    exact r.inj k k' b y y' q1 q2 z1 z1' z2 z2'
/-- an object locked -/
theorem RS.lockz {n : Nat} {a : Addr} {o z : O} {u : HO} (r : RS c m S H) (ha : m[n]? = some a) (hs : S[n]? = some o) (l : liv o) (ho : Ext m H m (upd H a u) → RelO c (upd H a u) m a z) : RS c m (S.set n z) (upd H a u) ∧ Ext m H m (upd H a u) := by
  have mu := (r.ob n a o ha hs).mut l
  have e : Ext m H m (upd H a u) := ⟨⟨fun _ _ z => z, tstay_mut mu⟩, fstay_mut mu⟩
  refine ⟨⟨by rw [List.length_set]; exact r.len, fun k b x q1 q2 => ?_, fun k k' b x x' q1 q2 q3 q4 l1 l2 => ?_⟩, e⟩
  · by_cases hk : n = k
    · subst hk
      rw [ha] at q1
      cases q1
      have hn := (List.getElem?_eq_some_iff.mp hs).1
      rw [List.getElem?_set_self hn] at q2
      cases q2
      exact ho e
    · rw [List.getElem?_set_ne hk] at q2
      have k2 := r.ob k b x q1 q2
      refine k2.mono e (fun lx u' z => ?_) fun ob u' z => ?_
      · have ne : b ≠ a := fun w => hk (r.inj n k a o x ha (by rw [← w]; exact q1) hs q2 l.own lx.own)
        rw [upd_ne ne]; exact z
      · have ne : b ≠ a := fun w => by subst w; rw [z] at mu; exact mu
        rw [upd_ne ne]; exact z
  · have at_ : ∀ (k : Nat) (x : O), (S.set n z)[k]? = some x → own x → ∃ x0, S[k]? = some x0 ∧ own x0 := fun k x q lx => by
      by_cases hk : n = k
      · subst hk; exact ⟨o, hs, l.own⟩
      · rw [List.getElem?_set_ne hk] at q; exact ⟨x, q, lx⟩
    obtain ⟨y, z1, z2⟩ := at_ k x q3 l1
    obtain ⟨y', z1', z2'⟩ := at_ k' x' q4 l2
    exact r.inj k k' b y y' q1 q2 z1 z1' z2 z2'
/-- and set free again -/
theorem RS.unlockz {n : Nat} {a : Addr} {o z : O} {u v : HO} {od : Obj} (r : RS c m S H) (ha : m[n]? = some a) (hs : S[n]? = some z) (l : own z) (l' : own o) (hz : H a = some (.frz od v)) (hv : ∀ xs, v ≠ .lst xs) (hvt : ∀ xs, v ≠ .tup xs) (ho : Ex0 m H m (upd H a u) → RelO c (upd H a u) m a o) : RS c m (S.set n o) (upd H a u) := by
  have e : Ex0 m H m (upd H a u) := ⟨fun _ _ z => z, fun b u t q => by
    have ne : b ≠ a := fun w => by
      subst w; rw [hz] at q
      rcases t with ⟨xs, rfl⟩ | ⟨o, xs, rfl⟩ | ⟨fs, rfl⟩
      · cases q
      · injection q with q; injection q with _ q; exact hvt xs q
      · cases q
    rw [upd_ne ne]; exact q⟩
  refine ⟨by rw [List.length_set]; exact r.len, fun k b x q1 q2 => ?_, fun k k' b x x' q1 q2 q3 q4 l1 l2 => ?_⟩
  · by_cases hk : n = k
    · subst hk
      rw [ha] at q1
      cases q1
      have hn := (List.getElem?_eq_some_iff.mp hs).1
      rw [List.getElem?_set_self hn] at q2
      cases q2
      exact ho e
    · rw [List.getElem?_set_ne hk] at q2
      have k2 := r.ob k b x q1 q2
      have ne : own x → b ≠ a := fun lx w => hk (r.inj n k a z x ha (by rw [← w]; exact q1) hs q2 l lx)
      cases x with
      | fls l =>
        obtain ⟨xs, h1, h2⟩ := k2
        refine ⟨xs, ?_, h2.mono0 e⟩
        rcases h1 with ⟨ob, h1⟩ | h1
        · have ne : b ≠ a := fun w => by subst w; rw [hz] at h1; injection h1 with h1; injection h1 with _ h1; exact hv xs h1
          exact .inl ⟨ob, by rw [upd_ne ne]; exact h1⟩
        · exact .inr h1
      | _ =>
        have ne' := ne trivial
        exact k2.mono0 e (fun lx u' z => by rw [upd_ne ne']; exact z) fun ob u' z => by rw [upd_ne ne']; exact z
  · have at_ : ∀ (k : Nat) (x : O), (S.set n o)[k]? = some x → own x → ∃ x0, S[k]? = some x0 ∧ own x0 := fun k x q lx => by
      by_cases hk : n = k
      · subst hk; exact ⟨z, hs, l⟩
      · rw [List.getElem?_set_ne hk] at q; exact ⟨x, q, lx⟩
    obtain ⟨y, z1, z2⟩ := at_ k x q3 l1
    obtain ⟨y', z1', z2'⟩ := at_ k' x' q4 l2
    exact r.inj k k' b y y' q1 q2 z1 z1' z2 z2'
theorem RS.get {n : Nat} {a : Addr} (r : RS c m S H) (h : m[n]? = some a) : ∃ o, S[n]? = some o := by
  have h1 := (List.getElem?_eq_some_iff.mp h).1
  rw [r.len] at h1
  exact ⟨S[n], List.getElem?_eq_getElem h1⟩
theorem RS.adr {n : Nat} {o : O} (r : RS c m S H) (h : S[n]? = some o) : ∃ a, m[n]? = some a := by
  have h1 := (List.getElem?_eq_some_iff.mp h).1
  rw [← r.len] at h1
  exact ⟨m[n], List.getElem?_eq_getElem h1⟩
/-- a list may be read -/
theorem sql0 {K : PySem.W.Frag} {H : Hp} {a : Addr} {xs : List V} (h : SqL K H0 a xs) : SqL K H a xs := by
  rcases h with h | h
  · rcases h with h | ⟨o, h⟩ <;> cases h
  · exact .inr h
theorem sqt0 {K : PySem.W.Frag} {H : Hp} {a : Addr} {xs : List V} (h : SqT K H0 a xs) : SqT K H a xs := by
  rcases h with h | h
  · rcases h with h | ⟨o, h⟩ <;> cases h
  · exact .inr h
theorem RS.lst {n : Nat} {a : Addr} {l : List D} (r : RS c m S H) (ha : m[n]? = some a) (hl : lstOf S n = some l) : ∃ xs, SqL c.K H a xs ∧ RelL c.K H m l xs := by
  unfold lstOf at hl
  split at hl
  · rename_i l' e
    cases hl
    obtain ⟨xs, h1, h2⟩ := r.ob n a _ ha e
    exact ⟨xs, .inl (.inl h1), h2⟩
  · rename_i l' e
    cases hl
    obtain ⟨xs, h1, h2⟩ := r.ob n a _ ha e
    refine ⟨xs, ?_, h2⟩
    rcases h1 with ⟨ob, h1⟩ | h1
    · exact .inl (.inr ⟨ob, h1⟩)
    · exact sql0 h1
  · cases hl
end
end Sm

set_option Elab.async false
set_option linter.all false
set_option maxRecDepth 100000
set_option maxHeartbeats 2000000
/-! readings by the small language: expressions -/
namespace Sm
open PySem PySem.Spec PyProof.Rows L2 Mi

/-- an exception as the layer bears it -/
def RelX (c : Ct) (H : Hp) (m : List Addr) (x : Exn) (cls : Value) (da : Option Addr) : Prop :=
  ∃ C : Addr, c.mg (x.cls : Str) = some (.ref C) ∧ cls = .ref C ∧ ∃ d fs, da = some d ∧ H d = some (.xd fs) ∧ RelK c.K H m sOf x.fs fs
def Post {α : Type} (c : Ct) (E : XK) (m : List Addr) (H : Hp) (r : Res α) (k : α → Store → List Addr → Hp → Prop) : Prop := match r with
  | .ok a S => ∀ m' H', Ext m H m' H' → RS c m' S H' → k a S m' H'
  | .exc x S => ∀ m' H', Ext m H m' H' → RS c m' S H' → ∀ cls da, RelX c H' m' x cls da → E cls da H'
  | .bad => False
section
variable {α β : Type} {c : Ct} {E : XK} {m m' : List Addr} {H H' : Hp} {r : Res α} {k k' : α → Store → List Addr → Hp → Prop}
theorem Post.ext (p : Post c E m H r k) (e : Ext m H m' H') : Post c E m' H' r k := by
  cases r with
  | ok a S => exact fun m2 H2 e2 r2 => p m2 H2 (e.trans e2) r2
  | exc x S => exact fun m2 H2 e2 r2 => p m2 H2 (e.trans e2) r2
  | bad => exact p
theorem Post.imp (p : Post c E m H r k) (f : ∀ a S m' H', Ext m H m' H' → RS c m' S H' → k a S m' H' → k' a S m' H') : Post c E m H r k' := by
  cases r with
  | ok a S => exact fun m2 H2 e2 r2 => f a S m2 H2 e2 r2 (p m2 H2 e2 r2)
  | exc x S => exact p
  | bad => exact p
theorem post_bind {f : α → Store → Res β} {k : β → Store → List Addr → Hp → Prop} (p : Post c E m H (r.bind f) k) : Post c E m H r fun a S m1 H1 => Post c E m1 H1 (f a S) k := by
  cases r with
  | ok a S => exact fun m2 H2 e2 _ => Post.ext (r := f a S) p e2
  | exc x S => exact p
  | bad => exact p
theorem post_quiet {E' : XK} (p : Post c E m H (quiet r) k) : Post c E' m H r k := by
  cases r with
  | ok a S => exact p
  | exc x S => exact p.elim
  | bad => exact p
theorem Post.here {a : α} {S : Store} (p : Post c E m H (.ok a S) k) (r : RS c m S H) : k a S m H := p m H (Ext.refl m H) r
end

/-! ### readings -/
abbrev cx (X : Cx) : Ct := ⟨X.K, X.mg⟩
abbrev kE (c : Ct) (Q : VK) : D → Store → List Addr → Hp → Prop := fun d _ m H => ∀ v, RelD c.K H m d v → Q v H
def rdE (c : Ct) (E : XK) (f : EM) : TE := fun σ H Q => ∃ fr S m, RF c.K H m fr σ ∧ RS c m S H ∧ Post c E m H (f fr S) (kE c Q)
def rdT (c : Ct) (E : XK) (f : TM) : TT := fun σ H Q => ∃ fr S m, RF c.K H m fr σ ∧ RS c m S H ∧ Post c E m H (f fr S) fun b _ _ H => Q b H
def rdA (c : Ct) (E : XK) (f : AM) : TA := fun σ H Q => ∃ fr S m, RF c.K H m fr σ ∧ RS c m S H ∧ Post c E m H (f fr S) fun ds _ m H => ∀ vs, RelL c.K H m ds vs → Q vs H
def rdP (c : Ct) (E : XK) (f : PM) : TO := fun σ H Q => ∃ fr S m, RF c.K H m fr σ ∧ RS c m S H ∧ Post c E m H (f fr S) fun o _ _ H => Q o H
def rdG (c : Ct) (E : XK) (g : GM) : TG := fun v σ H Q => ∃ d fr S m, RelD c.K H m d v ∧ RF c.K H m fr σ ∧ RS c m S H ∧ Post c E m H (g d fr S) fun fr' _ m H => ∀ σ', RF c.K H m fr' σ' → Q σ' H
def rdGs (c : Ct) (E : XK) (g : GMs) : TGs := fun vs σ H Q => ∃ ds fr S m, RelL c.K H m ds vs ∧ RF c.K H m fr σ ∧ RS c m S H ∧ Post c E m H (g ds fr S) fun fr' _ m H => ∀ σ', RF c.K H m fr' σ' → Q σ' H
def kS (c : Ct) (D : Ends) : Out → Store → List Addr → Hp → Prop := fun o _ m H => match o with
  | .nx fr => ∀ σ, RF c.K H m fr σ → D.nx σ H
  | .rt d => ∀ v, RelD c.K H m d v → D.rt v H
  | .bk fr => ∀ σ, RF c.K H m fr σ → D.bk σ H
  | .ct fr => ∀ σ, RF c.K H m fr σ → D.ct σ H
def rdS (c : Ct) (E : XK) (g : SM) : TS := fun D σ H => ∃ fr S m, RF c.K H m fr σ ∧ RS c m S H ∧ Post c E m H (g fr S) (kS c D)
abbrev SE (X : Cx) (E : XK) (e : Expr) (f : EM) : Prop := PE X e (rdE (cx X) E f)
abbrev STt (X : Cx) (E : XK) (e : Expr) (f : TM) : Prop := PT X e (rdT (cx X) E f)
abbrev SW (X : Cx) (E : XK) (e : Expr) (f : TM) : Prop := PW X e (rdT (cx X) E f)
abbrev SA (X : Cx) (E : XK) (es : List Expr) (f : AM) : Prop := PA X es (rdA (cx X) E f)
abbrev SO (X : Cx) (E : XK) (e : Option Expr) (f : PM) : Prop := PO X e (rdP (cx X) E f)
abbrev SG (X : Cx) (E : XK) (e : Expr) (g : GM) : Prop := PG X e (rdG (cx X) E g)
abbrev SGs (X : Cx) (E : XK) (e : List Expr) (g : GMs) : Prop := PGs X e (rdGs (cx X) E g)
abbrev SS (X : Cx) (E : XK) (st : Stmt) (g : SM) : Prop := PS X st (rdS (cx X) E g)
abbrev SSs (X : Cx) (E : XK) (st : List Stmt) (g : SM) : Prop := PSs X st (rdS (cx X) E g)
section
variable {X : Cx}
theorem PE.mono {e : Expr} {t t' : TE} (h : PE X e t) (f : ∀ σ H Q, t' σ H Q → t σ H Q) : PE X e t' := ⟨fun pins s σ H Q I q => h.run pins s σ H Q I (f σ H Q q)⟩
theorem PT.mono {e : Expr} {t t' : TT} (h : PT X e t) (f : ∀ σ H Q, t' σ H Q → t σ H Q) : PT X e t' := ⟨fun pins s σ H Q I q => h.run pins s σ H Q I (f σ H Q q)⟩
theorem PW.mono {e : Expr} {t t' : TT} (h : PW X e t) (f : ∀ σ H Q, t' σ H Q → t σ H Q) : PW X e t' := ⟨fun wh pins s σ H Q I q => h.run wh pins s σ H Q I (f σ H Q q)⟩
theorem PA.mono {e : List Expr} {t t' : TA} (h : PA X e t) (f : ∀ σ H Q, t' σ H Q → t σ H Q) : PA X e t' := ⟨fun pos pins s σ H Q I q => h.run pos pins s σ H Q I (f σ H Q q)⟩
theorem PS.mono {e : Stmt} {t t' : TS} (h : PS X e t) (f : ∀ D σ H, t' D σ H → t D σ H) : PS X e t' := ⟨fun pins s σ H D I q => h.run pins s σ H D I (f D σ H q)⟩
theorem PSs.mono {e : List Stmt} {t t' : TS} (h : PSs X e t) (f : ∀ D σ H, t' D σ H → t D σ H) : PSs X e t' := ⟨fun pins s σ H D I q => h.run pins s σ H D I (f D σ H q)⟩
end
section
variable {X : Cx} {E : XK} {a b e : Expr} {fa fb : EM} {pos : Pos}
/-- the reading of a part, from a bind -/
theorem rd_bind {f : EM} {fr : Fr} {S : Store} {m : List Addr} {σ : L2.St} {H : Hp} {Q : VK} {c : Ct} {α : Type} {h : D → Store → Res α} {kk : α → Store → List Addr → Hp → Prop}
    (rf : RF c.K H m fr σ) (rs : RS c m S H) (p : Post c E m H ((f fr S).bind h) kk)
    (n : ∀ d S1 m1 H1, Ext m H m1 H1 → RF c.K H1 m1 fr σ → RS c m1 S1 H1 → Post c E m1 H1 (h d S1) kk → ∀ v, RelD c.K H1 m1 d v → Q v H1) : rdE c E f σ H Q :=
  ⟨fr, S, m, rf, rs, (post_bind p).imp fun d S1 m1 H1 e1 rs1 p1 => n d S1 m1 H1 e1 (rf.mono e1) rs1 p1⟩
theorem rdT_bind {f : TM} {fr : Fr} {S : Store} {m : List Addr} {σ : L2.St} {H : Hp} {Q : Bool → Hp → Prop} {c : Ct} {α : Type} {h : Bool → Store → Res α} {kk : α → Store → List Addr → Hp → Prop}
    (rf : RF c.K H m fr σ) (rs : RS c m S H) (p : Post c E m H ((f fr S).bind h) kk)
    (n : ∀ d S1 m1 H1, Ext m H m1 H1 → RF c.K H1 m1 fr σ → RS c m1 S1 H1 → Post c E m1 H1 (h d S1) kk → Q d H1) : rdT c E f σ H Q :=
  ⟨fr, S, m, rf, rs, (post_bind p).imp fun d S1 m1 H1 e1 rs1 p1 => n d S1 m1 H1 e1 (rf.mono e1) rs1 p1⟩
theorem rdA_bind {f : AM} {fr : Fr} {S : Store} {m : List Addr} {σ : L2.St} {H : Hp} {Q : List V → Hp → Prop} {c : Ct} {α : Type} {h : List D → Store → Res α} {kk : α → Store → List Addr → Hp → Prop}
    (rf : RF c.K H m fr σ) (rs : RS c m S H) (p : Post c E m H ((f fr S).bind h) kk)
    (n : ∀ d S1 m1 H1, Ext m H m1 H1 → RF c.K H1 m1 fr σ → RS c m1 S1 H1 → Post c E m1 H1 (h d S1) kk → ∀ v, RelL c.K H1 m1 d v → Q v H1) : rdA c E f σ H Q :=
  ⟨fr, S, m, rf, rs, (post_bind p).imp fun d S1 m1 H1 e1 rs1 p1 => n d S1 m1 H1 e1 (rf.mono e1) rs1 p1⟩
theorem rdP_bind {f : PM} {fr : Fr} {S : Store} {m : List Addr} {σ : L2.St} {H : Hp} {Q : Option Int → Hp → Prop} {c : Ct} {α : Type} {h : Option Int → Store → Res α} {kk : α → Store → List Addr → Hp → Prop}
    (rf : RF c.K H m fr σ) (rs : RS c m S H) (p : Post c E m H ((f fr S).bind h) kk)
    (n : ∀ d S1 m1 H1, Ext m H m1 H1 → RF c.K H1 m1 fr σ → RS c m1 S1 H1 → Post c E m1 H1 (h d S1) kk → Q d H1) : rdP c E f σ H Q :=
  ⟨fr, S, m, rf, rs, (post_bind p).imp fun d S1 m1 H1 e1 rs1 p1 => n d S1 m1 H1 e1 (rf.mono e1) rs1 p1⟩

/-! ### names and constants -/
theorem se_var (i : Nat) {x : Str} {pos : Pos} (hN : X.N[i]? = some x := by rfl) (hv : Vis X.env.scope x := by first | exact Or.inl rfl | exact Or.inr (Or.inl rfl) | exact Or.inr (Or.inr rfl)) (hd : (x == ("__debug__" : Str)) = false := by decide)
    (hcd : (x == ("__classdict__" : Str)) = false := by decide) : SE X E (.Name x pos) (mVar i) := by
  refine PE.mono (pe_var hN hv hd hcd) fun σ H Q ⟨fr, S, m, rf, rs, p⟩ => ?_
  unfold mVar at p
  split at p
  · rename_i d e
    obtain ⟨v, h1, h2⟩ := rf.get i d e
    exact ⟨v, h1, p.here rs v h2⟩
  · exact p.elim
theorem se_c {d : D} {v : V} {e : Expr} (h : PE X e (tC v)) (r : ∀ H m, RelD X.K H m d v) : SE X E e (mC d) :=
  PE.mono h fun σ H Q ⟨fr, S, m, rf, rs, p⟩ => p.here rs v (r H m)
theorem se_int {i : Int} {j pos} : SE X E (.Constant (.int i) j pos) (mC (.int i)) := se_c pe_int fun _ _ => .int i
theorem se_bl {i : Bool} {j pos} : SE X E (.Constant (.bool i) j pos) (mC (.bl i)) := se_c pe_bl fun _ _ => .bl i
theorem se_non {j pos} : SE X E (.Constant .none j pos) (mC .non) := se_c pe_non fun _ _ => .non
theorem se_str {x : Str} {s : Tx} {j pos} (h : x = sOf s) : SE X E (.Constant (.str x) j pos) (mC (.str s)) := by
  subst h
  exact se_c pe_str fun _ _ => .str s
/-- a number of the module's top -/
theorem se_gint {x : Str} {i : Int} {t : Tok} {pos : Pos} (hg : Gl X x) (hm : X.mg x = some (.int i t)) (hd : (x == ("__debug__" : Str)) = false := by decide) : SE X E (.Name x pos) (mC (.int i)) := se_c (pe_glob hg hm (v := .int i) ⟨t, rfl⟩ hd) fun _ _ => .int i
theorem se_gstr {x : Str} {y : Str} {s : Tx} {t : Tok} {pos : Pos} (hg : Gl X x) (hm : X.mg x = some (.str y t)) (h : y = sOf s) (hd : (x == ("__debug__" : Str)) = false := by decide) : SE X E (.Name x pos) (mC (.str s)) := by
  subst h
  exact se_c (pe_glob hg hm (v := .str (sOf s)) ⟨t, rfl⟩ hd) fun _ _ => .str s
/-- a tuple of the module's top -/
theorem se_gtup {x : Str} {l : List D} {a : Addr} {xs : List V} {pos : Pos} (hg : Gl X x) (hm : X.mg x = some (.ref a)) (h : SqT X.K H0 a xs ∧ ∃ o : Obj, X.K.lookup a = some o ∧ o.dict = none) (r : RelL X.K H0 [] l xs) (hd : (x == ("__debug__" : Str)) = false := by decide) : SE X E (.Name x pos) (mC (.wtp l)) :=
  se_c (pe_glob hg hm (v := .ref a) rfl hd) fun H m => .wtp (.inr h) (r.mono ⟨⟨fun _ _ z => by simp at z, fun _ _ _ z => by cases z⟩, fun _ _ _ z => by cases z⟩)

/-! ### operators -/
def OpM (X : Cx) (E : XK) (f : Value → Value → Sem Value) (g : Op2) : Prop := ∃ r : R2, OpR X f r ∧
  ∀ x y v w S m H Q, RS (cx X) m S H → RelD X.K H m x v → RelD X.K H m y w → Post (cx X) E m H (g x y S) (kE (cx X) Q) → r v w H Q
theorem opr_or {f : Value → Value → Sem Value} {r r' : R2} (h : OpR X f r) (h' : OpR X f r') : OpR X f fun x y H Q => r x y H Q ∨ r' x y H Q := by
  intro pins s σ H x y v u Q I rx ry q
  rcases q with q | q
  · exact h pins s σ H x y v u Q I rx ry q
  · exact h' pins s σ H x y v u Q I rx ry q
theorem se_op {op : Operator} {g : Op2} (o : OpM X E (binaryOp op) g) (ha : SE X E a fa) (hb : SE X E b fb) : SE X E (.BinOp a op b pos) (mOp g fa fb) := by
  obtain ⟨r, ho, hr⟩ := o
  refine PE.mono (pe_op ho ha hb) fun σ H Q ⟨fr, S, m, rf, rs, p⟩ => ?_
  refine rd_bind rf rs p fun x S1 m1 H1 e1 rf1 rs1 p1 v hv => ?_
  refine rd_bind rf1 rs1 p1 fun y S2 m2 H2 e2 rf2 rs2 p2 w hw => ?_
  exact hr x y v w S2 m2 H2 Q rs2 (hv.mono e2) hw p2
theorem se_cmp {op : CmpOp} {g : Op2} (o : OpM X E (compareOp op) g) (ha : SE X E a fa) (hb : SE X E b fb) (hm : behindInMarks op b = false) : SE X E (.Compare a [op] [b] pos) (mOp g fa fb) := by
  obtain ⟨r, ho, hr⟩ := o
  refine PE.mono (pe_cmpR ho ha hb hm) fun σ H Q ⟨fr, S, m, rf, rs, p⟩ => ?_
  refine rd_bind rf rs p fun x S1 m1 H1 e1 rf1 rs1 p1 v hv => ?_
  refine rd_bind rf1 rs1 p1 fun y S2 m2 H2 e2 rf2 rs2 p2 w hw => ?_
  exact hr x y v w S2 m2 H2 Q rs2 (hv.mono e2) hw p2
/-- a Bool of a value -/
theorem of_toB {c : Ct} {x : D} {S : Store} {m : List Addr} {H : Hp} {k : Bool → Store → List Addr → Hp → Prop} {v : V} (rs : RS c m S H) (hv : RelD c.K H m x v) (p : Post c E m H (toB x S) k) : ∃ b, v = .bl b ∧ k b S m H := by
  cases hv with
  | bl b => exact ⟨b, rfl, p.here rs⟩
  | _ => exact p.elim
theorem st_cmp {op : CmpOp} {g : Op2} (o : OpM X E (compareOp op) g) (ha : SE X E a fa) (hb : SE X E b fb) (hm : behindInMarks op b = false) : STt X E (.Compare a [op] [b] pos) (tBl (mOp g fa fb)) := by
  obtain ⟨r, ho, hr⟩ := o
  refine PT.mono (pt_cmpR ho ha hb hm) fun σ H Q ⟨fr, S, m, rf, rs, p⟩ => ?_
  have p' := post_bind p
  refine rd_bind rf rs p' fun x S1 m1 H1 e1 rf1 rs1 p1 v hv => ?_
  refine rd_bind rf1 rs1 p1 fun y S2 m2 H2 e2 rf2 rs2 p2 w hw => ?_
  refine hr x y v w S2 m2 H2 _ rs2 (hv.mono e2) hw (p2.imp fun d S3 m3 H3 e3 rs3 p3 z hz => ?_)
  exact of_toB rs3 hz p3
/-- a < b < c -/
theorem se_chain {op op' : CmpOp} {g h : Op2} {d : Expr} {fd : EM} (o : OpM X E (compareOp op) g) (o' : OpM X E (compareOp op') h) (ha : SE X E a fa) (hb : SE X E b fb) (hd : SE X E d fd)
    (hm : lastMarks [op, op'] [b, d] = false := by with_unfolding_all rfl) : SE X E (.Compare a [op, op'] [b, d] pos) (mChain g h fa fb fd) := by
  obtain ⟨r, ho, hr⟩ := o
  obtain ⟨r', ho', hr'⟩ := o'
  refine PE.mono (pe_chain ho ho' ha hb hd hm) fun σ H Q ⟨fr, S, m, rf, rs, p⟩ => ?_
  refine rd_bind rf rs p fun x S1 m1 H1 e1 rf1 rs1 p1 v hv => ?_
  refine rd_bind rf1 rs1 p1 fun y S2 m2 H2 e2 rf2 rs2 p2 w hw => ?_
  refine hr x y v w S2 m2 H2 _ rs2 (hv.mono e2) hw ((post_bind p2).imp fun z S3 m3 H3 e3 rs3 p3 zv hz => ?_)
  obtain ⟨k, ek, q⟩ := of_toB rs3 hz (post_bind p3)
  refine ⟨k, ek, ?_⟩
  cases k with
  | true =>
    refine rd_bind (rf2.mono e3) rs3 q fun u S4 m4 H4 e4 rf4 rs4 p4 uv hu => ?_
    exact hr' y u w uv S4 m4 H4 Q rs4 ((hw.mono e3).mono e4) hu p4
  | false => exact q.here rs3 _ (.bl _)
theorem st_chain {op op' : CmpOp} {g h : Op2} {d : Expr} {fd : EM} (o : OpM X E (compareOp op) g) (o' : OpM X E (compareOp op') h) (ha : SE X E a fa) (hb : SE X E b fb) (hd : SE X E d fd)
    (hm : lastMarks [op, op'] [b, d] = false := by with_unfolding_all rfl) : STt X E (.Compare a [op, op'] [b, d] pos) (tBl (mChain g h fa fb fd)) := by
  obtain ⟨r, ho, hr⟩ := o
  obtain ⟨r', ho', hr'⟩ := o'
  refine PT.mono (pt_chain ho ho' ha hb hd hm) fun σ H Q ⟨fr, S, m, rf, rs, p⟩ => ?_
  refine rd_bind rf rs (post_bind p) fun x S1 m1 H1 e1 rf1 rs1 p1 v hv => ?_
  refine rd_bind rf1 rs1 p1 fun y S2 m2 H2 e2 rf2 rs2 p2 w hw => ?_
  refine hr x y v w S2 m2 H2 _ rs2 (hv.mono e2) hw ((post_bind p2).imp fun z S3 m3 H3 e3 rs3 p3 zv hz => ?_)
  obtain ⟨k, ek, q⟩ := of_toB rs3 hz (post_bind p3)
  refine ⟨k, ek, ?_⟩
  cases k with
  | true =>
    refine rd_bind (rf2.mono e3) rs3 q fun u S4 m4 H4 e4 rf4 rs4 p4 uv hu => ?_
    exact hr' y u w uv S4 m4 H4 _ rs4 ((hw.mono e3).mono e4) hu (p4.imp fun d S5 m5 H5 e5 rs5 p5 z5 hz5 => of_toB rs5 hz5 p5)
  | false => exact ⟨false, rfl, (q.here rs3).here rs3⟩
theorem st_val (h : SE X E e fa) (he : ∀ whole, isTrue e X.env whole = (do let v ← whole; standAt e.pos; holding [v] (truthy v)) := by intro _; rfl) : STt X E e (tBl fa) := by
  refine PT.mono (pt_val h he) fun σ H Q ⟨fr, S, m, rf, rs, p⟩ => ?_
  exact rd_bind rf rs p fun x S1 m1 H1 e1 rf1 rs1 p1 v hv => of_toB rs1 hv p1
theorem st_tru (h : SE X E e fa) (he : ∀ whole, isTrue e X.env whole = (do let v ← whole; standAt e.pos; holding [v] (truthy v)) := by intro _; rfl) : STt X E e (tTru fa) := by
  refine PT.mono (pt_truth h he) fun σ H Q ⟨fr, S, m, rf, rs, p⟩ => ?_
  refine rd_bind rf rs p fun x S1 m1 H1 e1 rf1 rs1 p1 v hv => ?_
  split at p1
  · rename_i b hb
    refine ⟨b, ?_, p1.here rs1⟩
    cases hv with
    | non => cases hb; exact rfl
    | bl k => cases hb; exact rfl
    | int i => cases hb; exact rfl
    | str s =>
      unfold truth at hb
      dsimp only at hb
      split at hb
      · rename_i hl
        cases hb
        refine ⟨by rw [sOf_len, sizeLine_eq]; exact hl, ?_⟩
        rw [sOf_len]
        cases s with
        | nil => rfl
        | cons => simp; omega
      · cases hb
    | @tup l a xs ha r =>
      cases hb
      refine .inr (.inl ⟨xs, .inl (.inl ha), ?_⟩)
      have := r.len
      cases r <;> rfl
    | wtp => cases hb
    | @ref n ad ha =>
      unfold truth at hb
      dsimp only at hb
      split at hb
      · rename_i l hl
        cases hb
        obtain ⟨xs, h1, h2⟩ := rs1.lst ha hl
        refine .inl ⟨xs, h1, ?_⟩
        cases h2 <;> rfl
      · cases hb
  · exact p1.elim
theorem se_not (ha : SE X E a fa) : SE X E (.UnaryOp .Not a pos) (mNot fa) := by
  refine PE.mono (pe_not ha) fun σ H Q ⟨fr, S, m, rf, rs, p⟩ => ?_
  refine rd_bind rf rs p fun x S1 m1 H1 e1 rf1 rs1 p1 v hv => ?_
  obtain ⟨k, e, q⟩ := of_toB rs1 hv (post_bind p1)
  exact ⟨k, e, q.here rs1 _ (.bl _)⟩
theorem se_one {op} (h : SE X E a fa) : SE X E (.BoolOp op [a] pos) fa := pe_one h
theorem se_and {rest : List Expr} (ha : SE X E a fa) (hb : SE X E (.BoolOp .And (b :: rest) pos) fb) : SE X E (.BoolOp .And (a :: b :: rest) pos) (mAnd fa fb) := by
  refine PE.mono (pe_and ha hb) fun σ H Q ⟨fr, S, m, rf, rs, p⟩ => ?_
  refine rd_bind rf rs p fun x S1 m1 H1 e1 rf1 rs1 p1 v hv => ?_
  obtain ⟨k, e, q⟩ := of_toB rs1 hv (post_bind p1)
  refine ⟨k, e, ?_⟩
  cases k with
  | true => exact ⟨fr, S1, m1, rf1, rs1, q⟩
  | false => exact q.here rs1 _ (.bl _)
theorem se_or {rest : List Expr} (ha : SE X E a fa) (hb : SE X E (.BoolOp .Or (b :: rest) pos) fb) : SE X E (.BoolOp .Or (a :: b :: rest) pos) (mOr fa fb) := by
  refine PE.mono (pe_or ha hb) fun σ H Q ⟨fr, S, m, rf, rs, p⟩ => ?_
  refine rd_bind rf rs p fun x S1 m1 H1 e1 rf1 rs1 p1 v hv => ?_
  obtain ⟨k, e, q⟩ := of_toB rs1 hv (post_bind p1)
  refine ⟨k, e, ?_⟩
  cases k with
  | true => exact q.here rs1 _ (.bl _)
  | false => exact ⟨fr, S1, m1, rf1, rs1, q⟩
/-- tests -/
theorem sw_and1 {ft : TM} (ha : STt X E a ft) : SW X E (.BoolOp .And [a] pos) ft := pw_and1 ha
theorem sw_or1 {ft : TM} (ha : STt X E a ft) : SW X E (.BoolOp .Or [a] pos) ft := pw_or1 ha
theorem sw_and {rest : List Expr} {ft fu : TM} (ha : STt X E a ft) (hb : SW X E (.BoolOp .And (b :: rest) pos) fu) : SW X E (.BoolOp .And (a :: b :: rest) pos) (tAnd ft fu) := by
  refine PW.mono (pw_and ha hb) fun σ H Q ⟨fr, S, m, rf, rs, p⟩ => ?_
  refine rdT_bind rf rs p fun k S1 m1 H1 e1 rf1 rs1 p1 => ?_
  cases k with
  | true => exact ⟨fr, S1, m1, rf1, rs1, p1⟩
  | false => exact p1.here rs1
theorem sw_or {rest : List Expr} {ft fu : TM} (ha : STt X E a ft) (hb : SW X E (.BoolOp .Or (b :: rest) pos) fu) : SW X E (.BoolOp .Or (a :: b :: rest) pos) (tOr ft fu) := by
  refine PW.mono (pw_or ha hb) fun σ H Q ⟨fr, S, m, rf, rs, p⟩ => ?_
  refine rdT_bind rf rs p fun k S1 m1 H1 e1 rf1 rs1 p1 => ?_
  cases k with
  | true => exact p1.here rs1
  | false => exact ⟨fr, S1, m1, rf1, rs1, p1⟩
theorem st_w {ft : TM} (h : SW X E e ft) : STt X E e ft := PW.pt h
theorem st_not {ft : TM} (ha : STt X E a ft) : STt X E (.UnaryOp .Not a pos) (tNot ft) := by
  refine PT.mono (pt_not ha) fun σ H Q ⟨fr, S, m, rf, rs, p⟩ => ?_
  exact rdT_bind rf rs p fun k S1 m1 H1 e1 rf1 rs1 p1 => p1.here rs1
theorem se_ife {ft : TM} {t : Expr} (ht : STt X E t ft) (ha : SE X E a fa) (hb : SE X E b fb) : SE X E (.IfExp t a b pos) (mIfE ft fa fb) := by
  refine PE.mono (pe_ifExp ht ha hb) fun σ H Q ⟨fr, S, m, rf, rs, p⟩ => ?_
  refine rdT_bind rf rs p fun k S1 m1 H1 e1 rf1 rs1 p1 => ?_
  cases k with
  | true => exact ⟨fr, S1, m1, rf1, rs1, p1⟩
  | false => exact ⟨fr, S1, m1, rf1, rs1, p1⟩

/-! ### arguments, displays -/
theorem sa_nil : SA X E [] aNil := PA.mono pa_nil fun σ H Q ⟨fr, S, m, rf, rs, p⟩ => p.here rs [] .nil
theorem sa_cons {es : List Expr} {fs : AM} (ha : SE X E e fa) (hr : SA X E es fs) (hs : starEach (e :: es) X.env = (false, eval e X.env) :: starEach es X.env := by rfl) : SA X E (e :: es) (aCons fa fs) := by
  refine PA.mono (pa_cons ha hr hs) fun σ H Q ⟨fr, S, m, rf, rs, p⟩ => ?_
  refine rd_bind rf rs p fun x S1 m1 H1 e1 rf1 rs1 p1 v hv => ?_
  refine rdA_bind rf1 rs1 p1 fun xs S2 m2 H2 e2 rf2 rs2 p2 vs hvs => ?_
  exact p2.here rs2 _ (.cons (hv.mono e2) hvs)
theorem line_eq : sizeLine = LINE := sizeLine_eq
/-- a new object: its reference -/
theorem post_new {c : Ct} {m : List Addr} {S : Store} {H : Hp} {o : O} {Q : VK} {p : Addr} {u : HO} (rs : RS c m S H) (q : Post c E m H (new o S) (kE c Q)) (hp : H p = none) (ho : Ext m H (m ++ [p]) (upd H p u) → RelO c (upd H p u) (m ++ [p]) p o) : Q (.ref p) (upd H p u) := by
  have e0 : Ext m H (m ++ [p]) (upd H p u) := ⟨⟨mext_push m p, tstay_new hp⟩, fstay_new hp⟩
  obtain ⟨rs', e⟩ := rs.push hp (ho e0)
  refine q _ _ e rs' _ (.ref ?_)
  rw [← rs.len, List.getElem?_append_right (Nat.le_refl _), Nat.sub_self]
  rfl
theorem post_tup {c : Ct} {m : List Addr} {S : Store} {H : Hp} {l : List D} {Q : VK} {p : Addr} {xs : List V} (rs : RS c m S H) (q : Post c E m H (.ok (.tup l) S) (kE c Q)) (hp : H p = none) (r : RelL c.K H m l xs) : Q (.ref p) (upd H p (.tup xs)) := by
  have e : Ext m H m (upd H p (.tup xs)) := ⟨⟨fun _ _ z => z, tstay_new hp⟩, fstay_new hp⟩
  exact q _ _ e (rs.fresh hp) _ (.tup upd_same (r.mono e))
theorem se_tup {es : List Expr} {fs : AM} {x1} (h : SA X E es fs) : SE X E (.Tuple es x1 pos) (mTup fs) := by
  refine PE.mono (pe_tup h) fun σ H Q ⟨fr, S, m, rf, rs, p⟩ => ?_
  refine rdA_bind rf rs p fun xs S1 m1 H1 e1 rf1 rs1 p1 vs hv => ?_
  split at p1
  · rename_i hl
    exact ⟨by rw [← hv.len, line_eq]; exact hl, fun a ha => post_tup rs1 p1 ha hv⟩
  · exact p1.elim
theorem se_lst {es : List Expr} {fs : AM} (h : SA X E es fs) : SE X E (.List es pos) (mLst fs) := by
  refine PE.mono (pe_lst h) fun σ H Q ⟨fr, S, m, rf, rs, p⟩ => ?_
  refine rdA_bind rf rs p fun xs S1 m1 H1 e1 rf1 rs1 p1 vs hv => ?_
  split at p1
  · rename_i hl
    exact ⟨by rw [← hv.len, line_eq]; exact hl, fun a ha => post_new rs1 p1 ha fun e0 => ⟨vs, upd_same, hv.mono e0⟩⟩
  · exact p1.elim
theorem se_newK : SE X E (.Dict [] [] pos) mNewK := PE.mono pe_dnewK fun σ H Q ⟨fr, S, m, rf, rs, p⟩ a ha => post_new rs p ha fun _ => ⟨[], upd_same, .nil⟩
theorem se_newT : SE X E (.Dict [] [] pos) mNewT := PE.mono pe_dnewT fun σ H Q ⟨fr, S, m, rf, rs, p⟩ a ha => post_new rs p ha fun _ => ⟨[], upd_same, .nil⟩

/-! ### calls -/
/-- a def's promise by its small program -/
def spM (c : Ct) (g : Fn) : Sp := fun vs H Q E => ∃ ds S m, RelL c.K H m ds vs ∧ RS c m S H ∧ Post c E m H (g ds S) (kE c Q)
theorem rd_call {f : AM} {g : Fn} {fr : Fr} {S : Store} {m : List Addr} {σ : L2.St} {H : Hp} {Q : VK} {c : Ct} {E : XK}
    (rf : RF c.K H m fr σ) (rs : RS c m S H) (p : Post c E m H ((f fr S).bind g) (kE c Q)) : rdA c E f σ H fun vs H1 => spM c g vs H1 Q E :=
  rdA_bind rf rs p fun ds S1 m1 H1 e1 rf1 rs1 p1 vs hv => ⟨ds, S1, m1, hv, rs1, p1⟩
theorem se_call {CX : CXT} {k : Nat} {f : Addr} {fd : FuncData} {ps : List Str} {g : Fn} {x : Str} {p : Pos} {es : List Expr} {fs : AM} (F : FnOk X.prog X.w X.K X.mg X.base CX k f fd ps (spM (cx X) g)) (hr : Room k X.A) (hg : Gl X x) (hm : X.mg x = some (.ref f)) (hk : PySem.W.keepIn X.K (.ref f) = true) (hb : Binds X.K fd ps []) (hx : Passes CX X E)
    (ha : SA X E (e :: es) fs) (hdb : (x == ("__debug__" : Str)) = false := by decide) (he : starEach (e :: es) X.env = (false, eval e X.env) :: starEach es X.env := by rfl) (hpl : (backTo pos (starEach es X.env)).any (·.1) = false := by rfl) :
    SE X E (.Call (.Name x p) (e :: es) [] pos) (mCall g fs) := by
  refine PE.mono (pe_call F hr hg hm hk hb .nil hx ha hdb he hpl) fun σ H Q ⟨fr, S, m, rf, rs, p⟩ => ?_
  show rdA (cx X) E fs σ H fun vs H1 => spM (cx X) g (vs ++ []) H1 Q E
  have h := rd_call rf rs p
  simpa only [List.append_nil] using h
theorem se_call0 {CX : CXT} {k : Nat} {f : Addr} {fd : FuncData} {ps : List Str} {g : Fn} {x : Str} {p : Pos} (F : FnOk X.prog X.w X.K X.mg X.base CX k f fd ps (spM (cx X) g)) (hr : Room k X.A) (hg : Gl X x) (hm : X.mg x = some (.ref f)) (hk : PySem.W.keepIn X.K (.ref f) = true) (hb : Binds X.K fd ps []) (hx : Passes CX X E)
    (hdb : (x == ("__debug__" : Str)) = false := by decide) : SE X E (.Call (.Name x p) [] [] pos) (mCall g aNil) := by
  refine PE.mono (pe_call0 F hr hg hm hk hb .nil hx hdb) fun σ H Q ⟨fr, S, m, rf, rs, p⟩ => ?_
  exact ⟨[], S, m, .nil, rs, p⟩
/-- a built-in's value rule against the small one -/
def CallM (X : Cx) (E : XK) (f : Value) (g : Fn) : Prop := ∃ r : List V → Hp → VK → Prop, CallR X f r ∧
  ∀ ds vs S m H Q, RS (cx X) m S H → RelL X.K H m ds vs → Post (cx X) E m H (g ds S) (kE (cx X) Q) → r vs H Q
theorem callr_or {f : Value} {r r' : List V → Hp → VK → Prop} (h : CallR X f r) (h' : CallR X f r') : CallR X f fun xs H Q => r xs H Q ∨ r' xs H Q := by
  intro pins s σ H xs us Q I rx q
  rcases q with q | q
  · exact h pins s σ H xs us Q I rx q
  · exact h' pins s σ H xs us Q I rx q
theorem se_callB {id : String} {g : Fn} {x : Str} {p : Pos} {es : List Expr} {fs : AM} (o : CallM X E (.builtin id) g) (hg : Gl X x) (hm : X.mg x = none) (hv : bootBuiltins x = some (.builtin id)) (ha : SA X E (e :: es) fs) (hn : x ≠ "__name__" := by decide) (hdb : (x == ("__debug__" : Str)) = false := by decide)
    (he : starEach (e :: es) X.env = (false, eval e X.env) :: starEach es X.env := by rfl) (hpl : (backTo pos (starEach es X.env)).any (·.1) = false := by rfl) : SE X E (.Call (.Name x p) (e :: es) [] pos) (mCall g fs) := by
  obtain ⟨r, hc, hr⟩ := o
  refine PE.mono (pe_callB hc hg hm hv ha hn hdb he hpl) fun σ H Q ⟨fr, S, m, rf, rs, p⟩ => ?_
  exact rdA_bind rf rs p fun ds S1 m1 H1 e1 rf1 rs1 p1 vs hvs => hr ds vs S1 m1 H1 Q rs1 hvs p1
theorem se_callTy {T : String} {g : Fn} {x : Str} {p : Pos} {es : List Expr} {fs : AM} (o : CallM X E (.type T) g) (hg : Gl X x) (hm : X.mg x = none) (hv : bootBuiltins x = some (.type T)) (ha : SA X E (e :: es) fs) (hn : x ≠ "__name__" := by decide) (hdb : (x == ("__debug__" : Str)) = false := by decide)
    (he : starEach (e :: es) X.env = (false, eval e X.env) :: starEach es X.env := by rfl) (hpl : (backTo pos (starEach es X.env)).any (·.1) = false := by rfl) : SE X E (.Call (.Name x p) (e :: es) [] pos) (mCall g fs) := by
  obtain ⟨r, hc, hr⟩ := o
  refine PE.mono (pe_callTy hc hg hm hv ha hn hdb he hpl) fun σ H Q ⟨fr, S, m, rf, rs, p⟩ => ?_
  exact rdA_bind rf rs p fun ds S1 m1 H1 e1 rf1 rs1 p1 vs hvs => hr ds vs S1 m1 H1 Q rs1 hvs p1
/-- a subscript -/
def IxM (X : Cx) (E : XK) (g : Op2) : Prop := ∃ r : R2, IxR X r ∧
  ∀ x y v w S m H Q, RS (cx X) m S H → RelD X.K H m x v → RelD X.K H m y w → Post (cx X) E m H (g x y S) (kE (cx X) Q) → r v w H Q
theorem se_ix {g : Op2} (o : IxM X E g) (ha : SE X E a fa) (hb : SE X E b fb) (hs : PlainIx b) : SE X E (.Subscript a b pos) (mOp g fa fb) := by
  obtain ⟨r, ho, hr⟩ := o
  refine PE.mono (pe_ix ho ha hb hs) fun σ H Q ⟨fr, S, m, rf, rs, p⟩ => ?_
  refine rd_bind rf rs p fun x S1 m1 H1 e1 rf1 rs1 p1 v hv => ?_
  refine rd_bind rf1 rs1 p1 fun y S2 m2 H2 e2 rf2 rs2 p2 w hw => ?_
  exact hr x y v w S2 m2 H2 Q rs2 (hv.mono e2) hw p2
/-- a slice -/
theorem so_none : SO X E none pNo := by
  refine ⟨fun pins s σ H Q I ⟨fr, S, m, rf, rs, p⟩ => po_none.run pins s σ H Q I (p.here rs)⟩
theorem so_some (h : SE X E e fa) : SO X E (some e) (pSome fa) := by
  refine ⟨fun pins s σ H Q I ⟨fr, S, m, rf, rs, p⟩ => (po_some h).run pins s σ H Q I ?_⟩
  refine rd_bind rf rs p fun x S1 m1 H1 e1 rf1 rs1 p1 v hv => ?_
  cases hv with
  | int i => exact ⟨i, rfl, p1.here rs1⟩
  | _ => exact p1.elim
def SlM (X : Cx) (E : XK) (g : D → Option Int → Option Int → Store → Res D) : Prop := ∃ r : V → Option Int → Option Int → Hp → VK → Prop, SlR X r ∧
  ∀ x lo hi v S m H Q, RS (cx X) m S H → RelD X.K H m x v → Post (cx X) E m H (g x lo hi S) (kE (cx X) Q) → r v lo hi H Q
theorem slr_or {r r' : V → Option Int → Option Int → Hp → VK → Prop} (h : SlR X r) (h' : SlR X r') : SlR X fun x a b H Q => r x a b H Q ∨ r' x a b H Q := by
  intro pins s σ H x v vl vu lo hi sl Q I rx hs pl pu q
  rcases q with q | q
  · exact h pins s σ H x v vl vu lo hi sl Q I rx hs pl pu q
  · exact h' pins s σ H x v vl vu lo hi sl Q I rx hs pl pu q
theorem se_sl {lo hi : Option Expr} {fl fh : PM} {p2 : Pos} (o : SlM X E oSl) (ha : SE X E a fa) (hl : SO X E lo fl) (hh : SO X E hi fh) : SE X E (.Subscript a (.Slice lo hi none p2) pos) (mSl fa fl fh) := by
  obtain ⟨r, ho, hr⟩ := o
  refine PE.mono (pe_slice ho ha hl hh) fun σ H Q ⟨fr, S, m, rf, rs, p⟩ => ?_
  refine rd_bind rf rs p fun x S1 m1 H1 e1 rf1 rs1 p1 v hv => ?_
  refine rdP_bind rf1 rs1 p1 fun l S2 m2 H2 e2 rf2 rs2 p2 => ?_
  refine rdP_bind rf2 rs2 p2 fun h S3 m3 H3 e3 rf3 rs3 p3 => ?_
  exact hr x l h v S3 m3 H3 Q rs3 ((hv.mono e2).mono e3) p3
/-- -a -/
theorem se_neg (ha : SE X E a fa) : SE X E (.UnaryOp .USub a pos) (mUn uNeg fa) := by
  refine PE.mono (pe_un un_neg ha) fun σ H Q ⟨fr, S, m, rf, rs, p⟩ => ?_
  refine rd_bind rf rs p fun x S1 m1 H1 e1 rf1 rs1 p1 v hv => ?_
  cases hv with
  | int i => exact ⟨i, rfl, p1.here rs1 _ (.int _)⟩
  | _ => exact p1.elim
/-- a method of a built-in type -/
def MtMm (X : Cx) (E : XK) (id : String) (g : D → Fn) : Prop := ∃ r : V → List V → Hp → VK → Prop, MtR X id r ∧
  ∀ x ds v vs S m H Q, RS (cx X) m S H → RelD X.K H m x v → RelL X.K H m ds vs → Post (cx X) E m H (g x ds S) (kE (cx X) Q) → r v vs H Q
def TyM (X : Cx) (T : String) (p : D → Store → Bool) : Prop := ∀ x v S m H, RS (cx X) m S H → RelD X.K H m x v → p x S = true → tyV X.K T v H
theorem se_mt0 {T id : String} {name : Str} {apos cpos : Pos} {g : D → Fn} {tp : D → Store → Bool} {o : Expr} {fo : EM} (pa : PlainAttrs T) (slot : Slot T name id) (hty : typeOf (.builtin id) = pure (.type "method_descriptor")) (mt : MtMm X E id g) (ty : TyM X T tp) (ho : SE X E o fo)
    (hbase : attributeBase o name X.env (eval o X.env) = eval o X.env := by rfl) (hline : (apos.endLine == cpos.line) = true := by rfl) : SE X E (.Call (.Attribute o name apos) [] [] cpos) (mMt tp g fo aNil) := by
  obtain ⟨r, hm, hr⟩ := mt
  refine PE.mono (pe_bm0 pa slot hty hm ho hbase hline) fun σ H Q ⟨fr, S, m, rf, rs, p⟩ => ?_
  refine rd_bind rf rs p fun x S1 m1 H1 e1 rf1 rs1 p1 v hv => ?_
  split at p1
  · rename_i h
    exact ⟨ty x v S1 m1 H1 rs1 hv h, hr x [] v [] S1 m1 H1 Q rs1 hv .nil p1⟩
  · exact p1.elim
theorem se_mt {T id : String} {name : Str} {apos cpos : Pos} {g : D → Fn} {tp : D → Store → Bool} {o : Expr} {fo : EM} {es : List Expr} {fs : AM} (pa : PlainAttrs T) (slot : Slot T name id) (hty : typeOf (.builtin id) = pure (.type "method_descriptor")) (mt : MtMm X E id g) (ty : TyM X T tp) (ho : SE X E o fo) (ha : SA X E (e :: es) fs)
    (hbase : attributeBase o name X.env (eval o X.env) = eval o X.env := by rfl)
    (hfew : ((backTo cpos (starEach (e :: es) X.env)).all (fun x => !x.1) && (backToKw cpos (keywordEach [] X.env)).all (fun x => x.1.isSome)
      && decide ((e :: es).length + ([] : List Keyword).length + (if ([] : List Keyword).isEmpty then 0 else 1) < 30)) = true := by rfl)
    (hline : (apos.endLine == cpos.line) = true := by rfl) (hs : starEach (e :: es) X.env = (false, eval e X.env) :: starEach es X.env := by rfl) (hplain : (backTo cpos (starEach es X.env)).any (·.1) = false := by rfl) : SE X E (.Call (.Attribute o name apos) (e :: es) [] cpos) (mMt tp g fo fs) := by
  obtain ⟨r, hm, hr⟩ := mt
  refine PE.mono (pe_bm pa slot hty hm ho ha hbase hfew hline hs hplain) fun σ H Q ⟨fr, S, m, rf, rs, p⟩ => ?_
  refine rd_bind rf rs p fun x S1 m1 H1 e1 rf1 rs1 p1 v hv => ?_
  split at p1
  · rename_i h
    refine ⟨ty x v S1 m1 H1 rs1 hv h, ?_⟩
    exact rdA_bind rf1 rs1 p1 fun ds S2 m2 H2 e2 rf2 rs2 p2 vs hvs => hr x ds v vs S2 m2 H2 Q rs2 (hv.mono e2) hvs p2
  · exact p1.elim
end
end Sm

set_option Elab.async false
set_option linter.all false
set_option maxRecDepth 100000
set_option maxHeartbeats 2000000
/-! readings by the small language: operators on values -/
namespace Sm
open PySem PySem.Spec PyProof.Rows L2 Mi
section
variable {X : Cx} {E : XK} {f : Value → Value → Sem Value}
theorem post_int {c : Ct} {E : XK} {m : List Addr} {H : Hp} {S : Store} {Q : VK} {i : Int} (rs : RS c m S H) (p : Post c E m H (.ok (.int i) S) (kE c Q)) : Q (.int i) H := p.here rs _ (.int i)
theorem post_bl {c : Ct} {E : XK} {m : List Addr} {H : Hp} {S : Store} {Q : VK} {i : Bool} (rs : RS c m S H) (p : Post c E m H (.ok (.bl i) S) (kE c Q)) : Q (.bl i) H := p.here rs _ (.bl i)
/-- an operator of two ints alone -/
theorem om_int {g : Int → Int → D} {w : Int → Int → V} (ho : OpR X f (rI0 w)) (h : ∀ i j H m, RelD X.K H m (g i j) (w i j)) :
    OpM X E f (fun x y S => match x, y with
      | .int i, .int j => .ok (g i j) S
      | _, _ => .bad) := by
  refine ⟨_, ho, fun x y v u S m H Q rs hv hw p => ?_⟩
  cases hv <;> cases hw <;> first
    | exact p.elim
    | exact ⟨_, _, rfl, rfl, p.here rs _ (h _ _ _ _)⟩
theorem om_intC {C C' : Int → Int → Prop} [∀ i j, Decidable (C i j)] {g : Int → Int → Int} {g' : Int → Int → Int} (ho : OpR X f (rI C' fun i j => .int (g' i j))) (hc : ∀ i j, C i j → C' i j) (he : ∀ i j, C i j → g' i j = g i j) :
    OpM X E f (fun x y S => match x, y with
      | .int i, .int j => if C i j then .ok (.int (g i j)) S else .bad
      | _, _ => .bad) := by
  refine ⟨_, ho, fun x y v u S m H Q rs hv hw p => ?_⟩
  cases hv <;> cases hw <;> first
    | exact p.elim
    | (rename_i i j
       dsimp only at p
       split at p
       · rename_i h
         refine ⟨_, _, rfl, rfl, hc _ _ h, ?_⟩
         show Q (.int (g' i j)) H
         rw [he _ _ h]
         exact post_int rs p
       · exact p.elim)
theorem OpM.eq {g g' : Op2} (h : OpM X E f g) (e : ∀ x y S, g x y S = g' x y S) : OpM X E f g' := by
  obtain ⟨r, h1, h2⟩ := h
  exact ⟨r, h1, fun x y v w S m H Q rs hv hw p => h2 x y v w S m H Q rs hv hw (by rw [e]; exact p)⟩
theorem om_sub : OpM X E (binaryOp .Sub) oSub := (om_int (g := fun i j => .int (i - j)) op_sub fun i j H m => .int _).eq fun x y S => by cases x <;> cases y <;> rfl
theorem om_cmp {op : CmpOp} {p : Int → Int → Bool} (ho : OpR X (compareOp op) (rI0 fun i j => .bl (p i j))) : OpM X E (compareOp op) (oCmp p) := (om_int (g := fun i j => .bl (p i j)) ho fun i j H m => .bl _).eq fun x y S => by cases x <;> cases y <;> rfl
theorem om_lt : OpM X E (compareOp .Lt) oLt := om_cmp op_lt
theorem om_le : OpM X E (compareOp .LtE) oLe := om_cmp op_le
theorem om_gt : OpM X E (compareOp .Gt) oGt := om_cmp op_gt
theorem om_ge : OpM X E (compareOp .GtE) oGe := om_cmp op_ge
theorem om_div : OpM X E (binaryOp .FloorDiv) oDiv := (om_intC (C := fun _ j => divOk j) (g := fun i j => i / j) op_fdivW (fun _ _ h => h) fun _ _ _ => rfl).eq fun x y S => by cases x <;> cases y <;> rfl
theorem om_mod : OpM X E (binaryOp .Mod) oMod := (om_intC (C := fun _ j => 0 < j) (g := fun i j => i % j) op_mod (fun _ _ h => h) fun _ _ _ => rfl).eq fun x y S => by cases x <;> cases y <;> rfl
theorem om_pow : OpM X E (binaryOp .Pow) oPow := (om_intC (C := powOk) (g := fun i j => i ^ j.toNat) op_pow (fun _ _ h => h) fun _ _ _ => rfl).eq fun x y S => by cases x <;> cases y <;> rfl
theorem om_shl : OpM X E (binaryOp .LShift) oShl := (om_intC (C := powOk) (g := fun i j => i * 2 ^ j.toNat) op_shl (fun _ _ h => h) fun _ _ _ => rfl).eq fun x y S => by cases x <;> cases y <;> rfl
theorem om_shr : OpM X E (binaryOp .RShift) oShr := (om_intC (C := fun _ j => 0 ≤ j) (g := fun i j => i / 2 ^ j.toNat) op_shr (fun _ _ h => h) fun _ _ _ => rfl).eq fun x y S => by cases x <;> cases y <;> rfl
theorem om_bit {op : Operator} {b : Int → Int → Int} {g : Nat → Nat → Nat} (ho : OpR X (binaryOp op) (rI0 fun i j => .int (b i j))) (he : ∀ i j : Int, 0 ≤ i → 0 ≤ j → b i j = (g i.toNat j.toNat : Nat)) : OpM X E (binaryOp op) (oBit g) := by
  refine ⟨_, ho, fun x y v u S m H Q rs hv hw p => ?_⟩
  cases hv <;> cases hw <;> first
    | exact p.elim
    | (rename_i i j
       unfold oBit at p
       dsimp only at p
       split at p
       · rename_i h
         refine ⟨_, _, rfl, rfl, ?_⟩
         show Q (.int (b i j)) H
         rw [he _ _ h.1 h.2]
         exact post_int rs p
       · exact p.elim)
theorem bitAnd_nn {x y : Int} (hx : 0 ≤ x) (hy : 0 ≤ y) : Builtin.bitAnd x y = ((x.toNat &&& y.toNat : Nat) : Int) := by
  obtain ⟨a, rfl⟩ := Int.eq_ofNat_of_zero_le hx
  obtain ⟨b, rfl⟩ := Int.eq_ofNat_of_zero_le hy
  rfl
theorem om_and : OpM X E (binaryOp .BitAnd) oAnd := om_bit op_and fun i j h1 h2 => bitAnd_nn h1 h2
theorem om_or : OpM X E (binaryOp .BitOr) oOr := om_bit op_or fun i j h1 h2 => Bits.bitOr_pp h1 h2
theorem om_xor : OpM X E (binaryOp .BitXor) oXor := om_bit op_xor fun i j h1 h2 => Bits.bitXor_pp h1 h2
/-- two rules for one operator -/
theorem RS.mlst {c : Ct} {m : List Addr} {S : Store} {H : Hp} {n : Nat} {a : Addr} {l : List D} (rs : RS c m S H) (ha : m[n]? = some a) (hs : S[n]? = some (.lst l)) : ∃ xs, H a = some (.lst xs) ∧ RelL c.K H m l xs := rs.ob n a _ ha hs
theorem om_add : OpM X E (binaryOp .Add) oAdd := by
  refine ⟨_, opr_or op_add (opr_or op_add_str (opr_or op_cat op_catT)), fun x y v u S m H Q rs hv hw p => ?_⟩
  cases hv with
  | int i => cases hw with
    | int j => exact .inl ⟨i, j, rfl, rfl, post_int rs p⟩
    | _ => exact p.elim
  | str s => cases hw with
    | str t =>
      unfold oAdd at p
      dsimp only at p
      split at p
      · rename_i h
        refine .inr (.inl ⟨sOf s, sOf t, rfl, rfl, by rw [sOf_len, sOf_len, line_eq]; exact h, ?_⟩)
        have e : sOf s ++ sOf t = sOf (s ++ t) := by
          show Str.mk (s.toArray ++ t.toArray) = Str.mk (s ++ t).toArray
          simp
        rw [e]
        exact p.here rs _ (.str _)
      · exact p.elim
    | _ => exact p.elim
  | @tup l a xs ha r => cases hw with
    | @tup l' a' xs' ha' r' =>
      unfold oAdd at p
      dsimp only at p
      split at p
      · rename_i h
        have n1 : xs ≠ [] := fun z => by
          have := r.len
          rw [z] at this
          exact h.1 (List.length_eq_zero_iff.mp this)
        refine .inr (.inr (.inr ⟨a, a', xs, xs', rfl, rfl, .inl (.inl ha), .inl (.inl ha'), n1, by rw [← r.len, ← r'.len, line_eq]; exact h.2, fun z => ?_, fun z b hb => ?_⟩))
        · subst z
          cases r'
          rw [List.append_nil] at p
          exact p.here rs _ (.tup ha r)
        · exact post_tup rs p hb (r.app r')
      · exact p.elim
    | _ => exact p.elim
  | @ref n a ha => cases hw with
    | @ref n' a' ha' =>
      unfold oAdd at p
      dsimp only at p
      split at p
      · rename_i l l' e1 e2
        split at p
        · rename_i h
          obtain ⟨xs, h1, r1⟩ := rs.mlst ha e1
          obtain ⟨ys, h2, r2⟩ := rs.mlst ha' e2
          exact .inr (.inr (.inl ⟨a, a', xs, ys, rfl, rfl, h1, h2, by rw [← r1.len, ← r2.len, line_eq]; exact h, fun b hb => post_new rs p hb fun e0 => ⟨_, upd_same, (r1.app r2).mono e0⟩⟩))
        · exact p.elim
      · exact p.elim
    | _ => exact p.elim
  | _ => cases hw <;> exact p.elim
theorem RelL.rep {K : PySem.W.Frag} {H : Hp} {m : List Addr} {l : List D} {xs : List V} (r : RelL K H m l xs) : ∀ n, RelL K H m (List.replicate n l).flatten (List.replicate n xs).flatten
  | 0 => .nil
  | n + 1 => by
    rw [List.replicate_succ, List.replicate_succ, List.flatten_cons, List.flatten_cons]
    exact r.app (r.rep n)
theorem om_mul : OpM X E (binaryOp .Mult) oMul := by
  refine ⟨_, opr_or op_mul (opr_or op_mulW op_rep), fun x y v u S m H Q rs hv hw p => ?_⟩
  cases hv with
  | int i => cases hw with
    | int j =>
      unfold oMul at p
      dsimp only at p
      split at p
      · rename_i h
        rcases h with h | h | h
        · exact .inl ⟨i, j, rfl, rfl, .inl h, post_int rs p⟩
        · exact .inl ⟨i, j, rfl, rfl, .inr h, post_int rs p⟩
        · exact .inr (.inl ⟨i, j, rfl, rfl, h, post_int rs p⟩)
      · exact p.elim
    | _ => exact p.elim
  | @ref n a ha => cases hw with
    | int k =>
      unfold oMul at p
      dsimp only at p
      split at p
      · rename_i l e1
        split at p
        · rename_i h
          obtain ⟨xs, h1, r1⟩ := rs.mlst ha e1
          exact .inr (.inr ⟨a, k, xs, rfl, rfl, h1, h.1, h.2.1, by rw [← r1.len, line_eq]; exact h.2.2, fun b hb => post_new rs p hb fun e0 => ⟨_, upd_same, (r1.rep _).mono e0⟩⟩)
        · exact p.elim
      · exact p.elim
    | _ => exact p.elim
  | _ => cases hw <;> exact p.elim

/-! ### equality -/
mutual
theorem dp_of {rd : Nat → Option PyData} {K : PySem.W.Frag} {H : Hp} {m : List Addr} (hrd : ∀ n a d, m[n]? = some a → rd n = some d → Dp K H (.ref a) d) : ∀ (x : D) (v : V) (d : PyData), RelD K H m x v → toP rd x = some d → Dp K H v d
  | .non, _, _, h, e => by
    cases h
    simp only [toP, Option.some.injEq] at e
    subst e
    exact .non
  | .bl b, _, _, h, e => by
    cases h
    simp only [toP, Option.some.injEq] at e
    subst e
    exact .bl b
  | .int b, _, _, h, e => by
    cases h
    simp only [toP, Option.some.injEq] at e
    subst e
    exact .int b
  | .str b, _, _, h, e => by
    cases h
    simp only [toP, Option.some.injEq] at e
    subst e
    exact .str _
  | .tup l, _, _, h, e => by
    cases h with
    | tup ha r =>
      simp only [toP] at e
      obtain ⟨q, h1, h2⟩ := Option.map_eq_some_iff.mp e
      subst h2
      exact .tup (.inl (.inl ha)) (dps_of hrd l _ q r h1)
  | .wtp l, _, _, h, e => by
    cases h with
    | wtp ha r =>
      simp only [toP] at e
      obtain ⟨q, h1, h2⟩ := Option.map_eq_some_iff.mp e
      subst h2
      exact .tup ha.sq (dps_of hrd l _ q r h1)
  | .ref n, _, _, h, e => by
    cases h with
    | ref ha =>
      simp only [toP] at e
      exact hrd n _ _ ha e
theorem dps_of {rd : Nat → Option PyData} {K : PySem.W.Frag} {H : Hp} {m : List Addr} (hrd : ∀ n a d, m[n]? = some a → rd n = some d → Dp K H (.ref a) d) : ∀ (l : List D) (xs : List V) (ds : List PyData), RelL K H m l xs → toPs rd l = some ds → DpAll K H xs ds
  | [], _, _, h, e => by
    cases h
    simp only [toPs, Option.some.injEq] at e
    subst e
    exact .nil
  | x :: l, _, _, h, e => by
    cases h with
    | cons h1 h2 =>
      simp only [toPs] at e
      obtain ⟨q, e1, e2⟩ := Option.bind_eq_some_iff.mp e
      obtain ⟨r, e3, e4⟩ := Option.map_eq_some_iff.mp e2
      subst e4
      exact .cons (dp_of hrd x _ q h1 e1) (dps_of hrd l _ r h2 e3)
end
theorem look_dp {c : Ct} {m : List Addr} {S : Store} {H : Hp} (rs : RS c m S H) : ∀ (k : Nat) (n : Nat) (a : Addr) (d : PyData), m[n]? = some a → lookP k S n = some d → Dp c.K H (.ref a) d
  | 0, _, _, _, _, e => by simp only [lookP] at e; cases e
  | k + 1, n, a, d, ha, e => by
    simp only [lookP] at e
    split at e
    · rename_i l hl
      obtain ⟨q, h1, h2⟩ := Option.map_eq_some_iff.mp e
      subst h2
      obtain ⟨xs, h3, h4⟩ := rs.lst (l := l) ha (by unfold lstOf; rw [hl])
      exact .lst h3 (dps_of (look_dp rs k) l xs q h4 h1)
    · rename_i l hl
      obtain ⟨q, h1, h2⟩ := Option.map_eq_some_iff.mp e
      subst h2
      obtain ⟨xs, h3, h4⟩ := rs.lst (l := l) ha (by unfold lstOf; rw [hl])
      exact .lst h3 (dps_of (look_dp rs k) l xs q h4 h1)
    · cases e
theorem pd_dp {c : Ct} {m : List Addr} {S : Store} {H : Hp} (rs : RS c m S H) {x : D} {v : V} {d : PyData} (h : RelD c.K H m x v) (e : pd S x = some d) : Dp c.K H v d := dp_of (look_dp rs 8) x v d h e
theorem scal_scq {K : PySem.W.Frag} {H : Hp} {m : List Addr} {x y : D} {v w : V} {b : Bool} (h1 : RelD K H m x v) (h2 : RelD K H m y w) (e : scq x y = some b) : scal v w = true ∧ decide (v = w) = b := by
  cases h1 <;> cases h2 <;> simp only [scq, Option.some.injEq, reduceCtorEq] at e <;> first
    | (subst e; exact ⟨rfl, by rw [← sOf_eq]; exact decide_eq_decide.mpr ⟨fun z => V.str.inj z, fun z => congrArg V.str z⟩⟩)
    | (subst e; exact ⟨rfl, by simp⟩)
theorem om_eq (hu : X.A.units + 65 < cLine) : OpM X E (compareOp .Eq) oEq := by
  refine ⟨_, opr_or op_eq (op_eqD (by omega)), fun x y v u S m H Q rs hv hw p => ?_⟩
  unfold oEq pyEq at p
  cases e : scq x y with
  | some b =>
    rw [e] at p
    obtain ⟨h1, h2⟩ := scal_scq hv hw e
    exact .inl ⟨h1, by rw [h2]; exact post_bl rs p⟩
  | none =>
    rw [e] at p
    dsimp only at p
    cases e1 : pd S x with
    | none => rw [e1] at p; exact p.elim
    | some a =>
      cases e2 : pd S y with
      | none => rw [e1, e2] at p; exact p.elim
      | some b =>
        rw [e1, e2] at p
        dsimp only at p
        by_cases hs : shp a = true ∧ shp b = true
        · rw [if_pos hs] at p
          exact .inr ⟨a, b, pd_dp rs hv e1, pd_dp rs hw e2, hs.1, hs.2, post_bl rs p⟩
        · rw [if_neg hs] at p
          exact p.elim
theorem om_ne (hu : X.A.units + 65 < cLine) : OpM X E (compareOp .NotEq) oNe := by
  refine ⟨_, opr_or op_ne (op_neD (by omega)), fun x y v u S m H Q rs hv hw p => ?_⟩
  unfold oNe pyEq at p
  cases e : scq x y with
  | some b =>
    rw [e] at p
    obtain ⟨h1, h2⟩ := scal_scq hv hw e
    exact .inl ⟨h1, by rw [h2]; exact post_bl rs p⟩
  | none =>
    rw [e] at p
    dsimp only at p
    cases e1 : pd S x with
    | none => rw [e1] at p; exact p.elim
    | some a =>
      cases e2 : pd S y with
      | none => rw [e1, e2] at p; exact p.elim
      | some b =>
        rw [e1, e2] at p
        dsimp only at p
        by_cases hs : shp a = true ∧ shp b = true
        · rw [if_pos hs] at p
          exact .inr ⟨a, b, pd_dp rs hv e1, pd_dp rs hw e2, hs.1, hs.2, post_bl rs p⟩
        · rw [if_neg hs] at p
          exact p.elim
theorem isN_non {K : PySem.W.Frag} {H : Hp} {m : List Addr} {x : D} {v : V} (h : RelD K H m x v) : decide (v = .non) = isN x := by
  cases h <;> first | rfl | simp [isN]
theorem om_is : OpM X E (compareOp .Is) oIs := by
  refine ⟨_, op_isN, fun x y v u S m H Q rs hv hw p => ?_⟩
  unfold oIs at p
  split at p
  · rename_i h
    refine ⟨?_, ?_⟩
    · cases hw <;> first | rfl | exact absurd h (by simp [isN])
    · rw [isN_non hv]; exact post_bl rs p
  · exact p.elim
theorem om_isnot : OpM X E (compareOp .IsNot) oIsNot := by
  refine ⟨_, op_notN, fun x y v u S m H Q rs hv hw p => ?_⟩
  unfold oIsNot at p
  split at p
  · rename_i h
    refine ⟨?_, ?_⟩
    · cases hw <;> first | rfl | exact absurd h (by simp [isN])
    · rw [isN_non hv]; exact post_bl rs p
  · exact p.elim

/-! ### dicts -/
section
variable {κ κ' : Type} [DecidableEq κ] [DecidableEq κ'] {ff : κ → κ'} {K : PySem.W.Frag} {H : Hp} {m : List Addr}
theorem RelK.get (inj : ∀ a b, ff a = ff b → a = b) {k : List (κ × D)} {kv : List (κ' × V)} (r : RelK K H m ff k kv) (x : κ) : match dGet k x with
    | some d => ∃ v, valV kv (ff x) = some v ∧ RelD K H m d v
    | none => valV kv (ff x) = none := by
  induction r with
  | nil => exact rfl
  | @cons p q ps qs h t ih =>
    by_cases e : p.1 = x
    · have e1 : dGet (p :: ps) x = some p.2 := by simp [dGet, List.find?_cons, e]
      rw [e1]
      refine ⟨q.2, valV_pos (by rw [← h.1, e]), h.2⟩
    · have e1 : dGet (p :: ps) x = dGet ps x := by simp [dGet, List.find?_cons, e]
      rw [e1, valV_neg (show ¬ q.1 = ff x from fun z => e (inj _ _ (h.1.trans z)))]
      exact ih
theorem RelK.any (inj : ∀ a b, ff a = ff b → a = b) {k : List (κ × D)} {kv : List (κ' × V)} (r : RelK K H m ff k kv) (x : κ) : (kv.any fun z => decide (z.1 = ff x)) = (k.any fun z => decide (z.1 = x)) := by
  induction r with
  | nil => rfl
  | @cons p q ps qs h t ih =>
    rw [List.any_cons, List.any_cons, ih]
    congr 1
    by_cases e : p.1 = x
    · rw [decide_eq_true e, decide_eq_true (show q.1 = ff x by rw [← h.1, e])]
    · rw [decide_eq_false e, decide_eq_false (show ¬ q.1 = ff x from fun z => e (inj _ _ (h.1.trans z)))]
theorem RelK.map (inj : ∀ a b, ff a = ff b → a = b) {k : List (κ × D)} {kv : List (κ' × V)} {d : D} {v : V} (r : RelK K H m ff k kv) (x : κ) (hv : RelD K H m d v) :
    RelK K H m ff (k.map fun kv => if kv.1 = x then (kv.1, d) else kv) (kv.map fun kv => if kv.1 = ff x then (kv.1, v) else kv) := by
  induction r with
  | nil => exact .nil
  | @cons p q ps qs h t ih =>
    rw [List.map_cons, List.map_cons]
    refine .cons ?_ ih
    by_cases e : p.1 = x
    · rw [if_pos e, if_pos (show q.1 = ff x by rw [← h.1, e])]
      exact ⟨h.1, hv⟩
    · rw [if_neg e, if_neg (show ¬ q.1 = ff x from fun z => e (inj _ _ (h.1.trans z)))]
      exact h
theorem RelK.put (inj : ∀ a b, ff a = ff b → a = b) {k : List (κ × D)} {kv : List (κ' × V)} {d : D} {v : V} (r : RelK K H m ff k kv) (x : κ) (hv : RelD K H m d v) : RelK K H m ff (dPut k x d) (putK kv (ff x) v) := by
  unfold dPut putK
  rw [RelK.any inj r x]
  split
  · exact r.map inj x hv
  · exact Paired.snoc r ⟨rfl, hv⟩
end
end
end Sm

set_option Elab.async false
set_option linter.all false
set_option maxRecDepth 100000
set_option maxHeartbeats 2000000
/-! readings by the small language: in, subscripts, slices, built-ins, methods -/
namespace Sm
open PySem PySem.Spec PyProof.Rows L2 Mi
section
variable {X : Cx} {E : XK}
theorem kys_of {K : PySem.W.Frag} {H : Hp} {m : List Addr} : ∀ {l : List D} {xs : List V} {k : List Ky}, RelL K H m l xs → kysOf l = some k → xs = (k.map kyK).map kV
  | [], _, _, .nil, e => by
    simp only [kysOf, Option.some.injEq] at e
    subst e
    rfl
  | d :: l, _, k, .cons h t, e => by
    simp only [kysOf] at e
    obtain ⟨q, e1, e2⟩ := Option.bind_eq_some_iff.mp e
    obtain ⟨r, e3, e4⟩ := Option.map_eq_some_iff.mp e2
    subst e4
    rw [List.map_cons, List.map_cons, ← kys_of t e3]
    congr 1
    cases h <;> simp only [kyOf, Option.some.injEq, reduceCtorEq] at e1 <;> (subst e1; rfl)
theorem ky_of {K : PySem.W.Frag} {H : Hp} {m : List Addr} {d : D} {v : V} {k : Ky} (h : RelD K H m d v) (e : kyOf d = some k) : v = kV (kyK k) := by
  cases h <;> simp only [kyOf, Option.some.injEq, reduceCtorEq] at e <;> (subst e; rfl)
/-- there or not, alike -/
def RelOD (K : PySem.W.Frag) (H : Hp) (m : List Addr) : Option D → Option V → Prop
  | some d, o => ∃ v, o = some v ∧ RelD K H m d v
  | none, o => o = none
theorem RelOD.isSome {K : PySem.W.Frag} {H : Hp} {m : List Addr} {r : Option D} {o : Option V} (h : RelOD K H m r o) : o.isSome = r.isSome := by
  cases r with
  | none => rw [show o = none from h] <;> rfl
  | some d => obtain ⟨v, e, _⟩ := h; rw [e] <;> rfl
/-- a look into a dict -/
theorem look_get {c : Ct} {m : List Addr} {S : Store} {H : Hp} (rs : RS c m S H) {n : Nat} {a : Addr} {k : D} {y : V} {r : Option D} (ha : m[n]? = some a) (hk : RelD c.K H m k y) (e : dLook S n k = some r) :
    ∃ o, DGet H a y o ∧ RelOD c.K H m r o := by
  unfold dLook at e
  split at e
  · rename_i kvs hs
    obtain ⟨kk, e1, e2⟩ := Option.map_eq_some_iff.mp e
    obtain ⟨kv, h1, h2⟩ := rs.ob n a _ ha hs
    have g := RelK.get (fun _ _ => kyK_inj) h2 kk
    rw [ky_of hk e1]
    refine ⟨_, DGet.k h1, ?_⟩
    rw [e2] at g
    cases r with
    | none => exact g
    | some d => exact g
  · rename_i kvs hs
    obtain ⟨kk, e1, e2⟩ := Option.map_eq_some_iff.mp e
    obtain ⟨kv, h1, h2⟩ := rs.ob n a _ ha hs
    have g := RelK.get (fun _ _ => kysK_inj) h2 kk
    cases hk with
    | tup hb hr =>
      refine ⟨_, DGet.t h1 (by rw [← kys_of hr e1]; exact hb), ?_⟩
      rw [e2] at g
      cases r with
      | none => exact g
      | some d => exact g
    | _ => cases e1
  · rename_i kvs hs
    obtain ⟨kk, e1, e2⟩ := Option.map_eq_some_iff.mp e
    obtain ⟨od, kv, h1, h2⟩ := rs.ob n a _ ha hs
    have g := RelK.get (fun _ _ => kyK_inj) h2 kk
    rw [ky_of hk e1]
    refine ⟨_, .inl ⟨_, _, .inr ⟨_, h1⟩, rfl, rfl⟩, ?_⟩
    rw [e2] at g
    cases r with
    | none => exact g
    | some d => exact g
  · rename_i kvs hs
    obtain ⟨kk, e1, e2⟩ := Option.map_eq_some_iff.mp e
    obtain ⟨od, kv, h1, h2⟩ := rs.ob n a _ ha hs
    have g := RelK.get (fun _ _ => kysK_inj) h2 kk
    cases hk with
    | tup hb hr =>
      refine ⟨_, .inr ⟨_, _, _, .inr ⟨_, h1⟩, rfl, by rw [← kys_of hr e1]; exact hb, rfl⟩, ?_⟩
      rw [e2] at g
      cases r with
      | none => exact g
      | some d => exact g
    | _ => cases e1
  · cases e
theorem look_put {c : Ct} {m : List Addr} {S : Store} {H : Hp} (rs : RS c m S H) {o k x : D} {vo vk vx : V} (ho : RelD c.K H m o vo) (hk : RelD c.K H m k vk) (hx : RelD c.K H m x vx) {q : Unit → Store → List Addr → Hp → Prop} {E : XK} (p : Post c E m H (setIx o k x S) q) :
    (rSetL vo vk vx H fun H' => ∃ S' m', Ext m H m' H' ∧ RS c m' S' H' ∧ q () S' m' H') ∨ ∃ a H', vo = .ref a ∧ DPut H a vk vx H' ∧ ∃ S' m', Ext m H m' H' ∧ RS c m' S' H' ∧ q () S' m' H' := by
  unfold setIx at p
  cases ho with
  | @ref n a ha =>
    dsimp only at p
    split at p
    · rename_i l hs
      cases hk with
      | int i =>
        dsimp only at p
        split at p
        · rename_i j hj
          obtain ⟨xs, h1, h2⟩ := rs.ob n a _ ha hs
          obtain ⟨rs', e⟩ := rs.set (o' := .lst (l.set j x)) (u := .lst (xs.set j vx)) ha hs trivial trivial fun e => ⟨_, upd_same, (h2.mono e).set (hx.mono e) j⟩
          exact .inl ⟨a, xs, i, j, rfl, rfl, h1, by rw [← h2.len]; exact hj, _, _, e, rs', p _ _ e rs'⟩
        · exact p.elim
      | _ => exact p.elim
    · rename_i kvs hs
      split at p
      · rename_i kk hkk
        split at p
        · rename_i hl
          obtain ⟨kv, h1, h2⟩ := rs.ob n a _ ha hs
          obtain ⟨rs', e⟩ := rs.set (o' := .dK (dPut kvs kk x)) (u := .dK (putK kv (kyK kk) vx)) ha hs trivial trivial fun e => ⟨_, upd_same, RelK.put (fun _ _ => kyK_inj) (RelK.mono e h2) kk (hx.mono e)⟩
          refine .inr ⟨a, _, rfl, ?_, _, _, e, rs', p _ _ e rs'⟩
          rw [ky_of hk hkk]
          exact DPut.k h1 (by rw [← Paired.length h2, line_eq]; exact hl)
        · exact p.elim
      · exact p.elim
    · rename_i kvs hs
      split at p
      · rename_i kk hkk
        split at p
        · rename_i hl
          obtain ⟨kv, h1, h2⟩ := rs.ob n a _ ha hs
          obtain ⟨rs', e⟩ := rs.set (o' := .dT (dPut kvs kk x)) (u := .dT (putK kv (kk.map kyK) vx)) ha hs trivial trivial fun e => ⟨_, upd_same, RelK.put (fun _ _ => kysK_inj) (RelK.mono e h2) kk (hx.mono e)⟩
          cases hk with
          | tup hb hr =>
            exact .inr ⟨a, _, rfl, DPut.t h1 (by rw [← kys_of hr hkk]; exact hb) (by rw [← Paired.length h2, line_eq]; exact hl), _, _, e, rs', p _ _ e rs'⟩
          | _ => cases hkk
        · exact p.elim
      · exact p.elim
    · exact p.elim
  | _ => exact p.elim

/-! ### in -/
theorem flatV_of {K : PySem.W.Frag} {H : Hp} {m : List Addr} {d : D} {v : V} (h : RelD K H m d v) (f : flatD d = true) : flatV v = true := by
  cases h <;> first | rfl | cases f
theorem flatVs_of {K : PySem.W.Frag} {H : Hp} {m : List Addr} : ∀ {l : List D} {xs : List V}, RelL K H m l xs → l.all flatD = true → xs.all flatV = true
  | _, _, .nil, _ => rfl
  | _, _, .cons h t, f => by
    rw [List.all_cons, Bool.and_eq_true] at f
    rw [List.all_cons, flatV_of h f.1, flatVs_of t f.2]
    rfl
theorem sOf_beq {a b : Tx} : (sOf a == sOf b) = (a == b) := by
  rw [Bool.eq_iff_iff, beq_iff_eq, beq_iff_eq]
  exact ⟨sOf_inj, congrArg _⟩
theorem eqF_of {K : PySem.W.Frag} {H : Hp} {m : List Addr} {d e : D} {v w : V} (h : RelD K H m d v) (h' : RelD K H m e w) (f : flatD d = true) (f' : flatD e = true) : eqV v w = eqF d e := by
  cases h <;> cases h' <;> first | rfl | exact sOf_beq | cases f | cases f'
theorem inV_of {K : PySem.W.Frag} {H : Hp} {m : List Addr} {x : D} {v : V} (h : RelD K H m x v) (f : flatD x = true) : ∀ {l : List D} {xs : List V}, RelL K H m l xs → l.all flatD = true → inV v xs = l.any fun y => eqF y x
  | _, _, .nil, _ => rfl
  | _, _, .cons h1 t, g => by
    rw [List.all_cons, Bool.and_eq_true] at g
    have ih := inV_of h f t g.2
    unfold inV at ih ⊢
    rw [List.any_cons, List.any_cons, eqF_of h1 h g.1 f, ih]
theorem op_inT (hu : X.A.units + 65 < cLine) : OpR X (compareOp .In) (fun x y H Q => ∃ d ds, Dp X.K H x d ∧ Dp X.K H y (.tuple ds) ∧ SeqAt.shaped d = true ∧ SeqAt.shaped (.list ds) = true ∧ Q (.bl (ds.any fun z => PyData.eqv z d)) H) := by
  intro pins s σ H x y v u Q I rx ry h
  obtain ⟨d, ds, hd, he, sd, se, q⟩ := h
  obtain ⟨as, r1⟩ := Dp.reads I d x v hd rx
  obtain ⟨bs, r2⟩ := Dp.reads I (.tuple ds) y u he ry
  exact SeqAt.in_tuple_reads r2 r1 (SeqAt.canLay_of_shaped se) (SeqAt.canLay_of_shaped sd) (room_in_shaped sd hu) ⟨.bl _, H, I, rfl, q⟩
theorem op_notInT (hu : X.A.units + 65 < cLine) : OpR X (compareOp .NotIn) (fun x y H Q => ∃ d ds, Dp X.K H x d ∧ Dp X.K H y (.tuple ds) ∧ SeqAt.shaped d = true ∧ SeqAt.shaped (.list ds) = true ∧ Q (.bl (!ds.any fun z => PyData.eqv z d)) H) := by
  intro pins s σ H x y v u Q I rx ry h
  obtain ⟨d, ds, hd, he, sd, se, q⟩ := h
  obtain ⟨as, r1⟩ := Dp.reads I d x v hd rx
  obtain ⟨bs, r2⟩ := Dp.reads I (.tuple ds) y u he ry
  exact SeqAt.notIn_tuple_reads r2 r1 (SeqAt.canLay_of_shaped se) (SeqAt.canLay_of_shaped sd) (room_in_shaped sd hu) ⟨.bl _, H, I, rfl, q⟩
theorem op_inDc (hu : X.A.units + 1 < cLine) : OpR X (compareOp .In) (fun y x H Q => ∃ a o, x = .ref a ∧ DGet H a y o ∧ Q (.bl o.isSome) H) := by
  intro pins s σ H y x u v Q I ry rx h
  obtain ⟨a, o, rfl, g, q⟩ := h
  obtain rfl : v = Value.ref a := rx
  exact d_in hu I g ry fun s3 I3 => ⟨.bl o.isSome, H, I3, rfl, q⟩
theorem op_notInDc (hu : X.A.units + 1 < cLine) : OpR X (compareOp .NotIn) (fun y x H Q => ∃ a o, x = .ref a ∧ DGet H a y o ∧ Q (.bl (!o.isSome)) H) := by
  intro pins s σ H y x u v Q I ry rx h
  obtain ⟨a, o, rfl, g, q⟩ := h
  obtain rfl : v = Value.ref a := rx
  exact d_notIn hu I g ry fun s3 I3 => ⟨.bl (!o.isSome), H, I3, rfl, q⟩
/-- what «in» is, whatever is asked of the answer -/
theorem in_cases {c : Ct} {m : List Addr} {S : Store} {H : Hp} (rs : RS c m S H) {x y : D} {v w : V} {b : Bool} (hv : RelD c.K H m x v) (hw : RelD c.K H m y w) (e : isIn x y S = some b) :
    (∃ (k : Nat) (z : Str), v = .str ⟨#[k]⟩ ∧ w = .str z ∧ decide (k ∈ z.cps.toList) = b) ∨ (∃ p xs, w = .ref p ∧ (SqL c.K H p xs ∨ SqT c.K H p xs) ∧ flatV v = true ∧ xs.all flatV = true ∧ inV v xs = b) ∨
    (∃ d ds, Dp c.K H v d ∧ Dp c.K H w (.list ds) ∧ SeqAt.shaped d = true ∧ SeqAt.shaped (.list ds) = true ∧ (ds.any fun z => PyData.eqv z d) = b) ∨
    (∃ d ds, Dp c.K H v d ∧ Dp c.K H w (.tuple ds) ∧ SeqAt.shaped d = true ∧ SeqAt.shaped (.list ds) = true ∧ (ds.any fun z => PyData.eqv z d) = b) ∨
    (∃ a o, w = .ref a ∧ DGet H a v o ∧ o.isSome = b) := by
  have seqc : ∀ {l : List D} {xs : List V} {p : Addr}, RelL c.K H m l xs → inSeq x l S = some b → (flatV v = true ∧ xs.all flatV = true ∧ inV v xs = b) ∨ ∃ d ds, Dp c.K H v d ∧ DpAll c.K H xs ds ∧ SeqAt.shaped d = true ∧ SeqAt.shaped (.list ds) = true ∧ (ds.any fun z => PyData.eqv z d) = b := by
    intro l xs p r h
    unfold inSeq at h
    split at h
    · rename_i f
      cases h
      exact .inl ⟨flatV_of hv f.1, flatVs_of r f.2, inV_of hv f.1 r f.2⟩
    · split at h
      · rename_i d ds e1 e2
        split at h
        · rename_i f
          cases h
          exact .inr ⟨d, ds, pd_dp rs hv e1, dps_of (look_dp rs 8) l xs ds r e2, f.1, f.2, rfl⟩
        · cases h
      · cases h
  cases hw with
  | str z =>
    unfold isIn at e
    dsimp only at e
    split at e
    · rename_i k
      cases e
      cases hv
      exact .inl ⟨k, sOf z, rfl, rfl, rfl⟩
    · cases e
  | @tup l a xs ha r =>
    rcases seqc (p := a) r e with ⟨h1, h2, h3⟩ | ⟨d, ds, h1, h2, h3, h4, h5⟩
    · exact .inr (.inl ⟨a, xs, rfl, .inr (.inl (.inl ha)), h1, h2, h3⟩)
    · exact .inr (.inr (.inr (.inl ⟨d, ds, h1, .tup (.inl (.inl ha)) h2, h3, h4, h5⟩)))
  | @wtp l a xs ha r =>
    rcases seqc (p := a) r e with ⟨h1, h2, h3⟩ | ⟨d, ds, h1, h2, h3, h4, h5⟩
    · exact .inr (.inl ⟨a, xs, rfl, .inr ha.sq, h1, h2, h3⟩)
    · exact .inr (.inr (.inr (.inl ⟨d, ds, h1, .tup ha.sq h2, h3, h4, h5⟩)))
  | @ref n a ha =>
    unfold isIn at e
    dsimp only at e
    split at e
    · rename_i l hs
      obtain ⟨xs, h0, r⟩ := rs.lst (l := l) ha (by unfold lstOf; rw [hs])
      rcases seqc (p := a) r e with ⟨h1, h2, h3⟩ | ⟨d, ds, h1, h2, h3, h4, h5⟩
      · exact .inr (.inl ⟨a, xs, rfl, .inl h0, h1, h2, h3⟩)
      · exact .inr (.inr (.inl ⟨d, ds, h1, .lst h0 h2, h3, h4, h5⟩))
    · rename_i l hs
      obtain ⟨xs, h0, r⟩ := rs.lst (l := l) ha (by unfold lstOf; rw [hs])
      rcases seqc (p := a) r e with ⟨h1, h2, h3⟩ | ⟨d, ds, h1, h2, h3, h4, h5⟩
      · exact .inr (.inl ⟨a, xs, rfl, .inl h0, h1, h2, h3⟩)
      · exact .inr (.inr (.inl ⟨d, ds, h1, .lst h0 h2, h3, h4, h5⟩))
    · rename_i kvs hs
      obtain ⟨kk, e1, e2⟩ := Option.map_eq_some_iff.mp e
      obtain ⟨o, g, q⟩ := look_get rs ha hv (r := dGet kvs kk) (by unfold dLook; rw [hs]; dsimp only; rw [e1]; rfl)
      refine .inr (.inr (.inr (.inr ⟨a, o, rfl, g, ?_⟩)))
      rw [← e2]
      exact q.isSome
    · rename_i kvs hs
      obtain ⟨kk, e1, e2⟩ := Option.map_eq_some_iff.mp e
      obtain ⟨o, g, q⟩ := look_get rs ha hv (r := dGet kvs kk) (by unfold dLook; rw [hs]; dsimp only; rw [e1]; rfl)
      refine .inr (.inr (.inr (.inr ⟨a, o, rfl, g, ?_⟩)))
      rw [← e2]
      exact q.isSome
    · cases e
  | _ => cases e
theorem om_in (hu : X.A.units + 65 < cLine) : OpM X E (compareOp .In) oIn := by
  refine ⟨_, opr_or op_in_sign (opr_or op_in_seq (opr_or (op_inD hu) (opr_or (op_inT hu) (op_inDc (by omega))))), fun x y v u S m H Q rs hv hw p => ?_⟩
  unfold oIn at p
  split at p
  · rename_i b e
    have q := post_bl rs p
    rcases in_cases rs hv hw e with ⟨k, z, h1, h2, h3⟩ | ⟨a, xs, h1, h2, h3, h4, h5⟩ | ⟨d, ds, h1, h2, h3, h4, h5⟩ | ⟨d, ds, h1, h2, h3, h4, h5⟩ | ⟨a, o, h1, h2, h3⟩
    · exact .inl ⟨k, z, h1, h2, by rw [h3]; exact q⟩
    · exact .inr (.inl ⟨a, xs, h1, h2, h3, h4, by rw [h5]; exact q⟩)
    · exact .inr (.inr (.inl ⟨d, ds, h1, h2, h3, h4, by rw [h5]; exact q⟩))
    · exact .inr (.inr (.inr (.inl ⟨d, ds, h1, h2, h3, h4, by rw [h5]; exact q⟩)))
    · exact .inr (.inr (.inr (.inr ⟨a, o, h1, h2, by rw [h3]; exact q⟩)))
  · exact p.elim
theorem om_notin (hu : X.A.units + 65 < cLine) : OpM X E (compareOp .NotIn) oNotIn := by
  refine ⟨_, opr_or op_notIn_sign (opr_or op_notIn_seq (opr_or (op_notInD hu) (opr_or (op_notInT hu) (op_notInDc (by omega))))), fun x y v u S m H Q rs hv hw p => ?_⟩
  unfold oNotIn at p
  split at p
  · rename_i b e
    have q := post_bl rs p
    rcases in_cases rs hv hw e with ⟨k, z, h1, h2, h3⟩ | ⟨a, xs, h1, h2, h3, h4, h5⟩ | ⟨d, ds, h1, h2, h3, h4, h5⟩ | ⟨d, ds, h1, h2, h3, h4, h5⟩ | ⟨a, o, h1, h2, h3⟩
    · exact .inl ⟨k, z, h1, h2, by rw [h3]; exact q⟩
    · exact .inr (.inl ⟨a, xs, h1, h2, h3, h4, by
        show Q (.bl (!inV v xs)) H
        rw [h5]; exact q⟩)
    · exact .inr (.inr (.inl ⟨d, ds, h1, h2, h3, h4, by rw [h5]; exact q⟩))
    · exact .inr (.inr (.inr (.inl ⟨d, ds, h1, h2, h3, h4, by rw [h5]; exact q⟩)))
    · exact .inr (.inr (.inr (.inr ⟨a, o, h1, h2, by rw [h3]; exact q⟩)))
  · exact p.elim

/-! ### subscripts -/
theorem ix_dict (hu : X.A.units + 1 < cLine) : IxR X (fun x y H Q => ∃ a v, x = .ref a ∧ DGet H a y (some v) ∧ Q v H) := by
  intro value slice pins s σ H x y v u Q I rx ry h hs
  obtain ⟨a, z, rfl, g, q⟩ := h
  obtain rfl : v = Value.ref a := rx
  unfold subscriptTail
  refine wpAny_bind ?_
  rw [getitemInPython_of_ne (dict_typeIs I g).not_modules]
  refine wpAny_bind (wpAny_specialOf (dict_typeIs I g) PySem.F.slot_dict_getitem.lookup ?_)
  have fin : wpAny (model X.prog X.w) X.A (subscripted slice false (.ref a) u) (fun r s₃ => wpAny (model X.prog X.w) X.A (letTemporaryGo value (.ref a) r >>= fun _ => pure r) (EP X pins σ Q) X.xe s₃) X.xe s := by
    rw [hs]
    exact wpAny_operating (d_getItem hu I g ry fun w' s3 I3 rw' => wpAny_bind (wpAny_letTemporaryGo (wpAny_pure ⟨z, H, I3, rw', q⟩)))
  first
    | exact wpAny_pure (wpAny_bind fin)
    | exact wpAny_bind (wpAny_pure (wpAny_bind fin))
    | exact wpAny_bind fin
theorem atI_rel {K : PySem.W.Frag} {H : Hp} {m : List Addr} {l : List D} {xs : List V} {i : Int} {d : D} (r : RelL K H m l xs) (e : Mi.atI l i = some d) : ∃ v, L2.atI xs i = some v ∧ RelD K H m d v := by
  unfold Mi.atI at e
  obtain ⟨j, e1, e2⟩ := Option.bind_eq_some_iff.mp e
  obtain ⟨v, h1, h2⟩ := r.ix e2
  refine ⟨v, ?_, h2⟩
  unfold L2.atI
  have e3 : L2.ixN xs.length i = some j := by rw [← r.len]; exact e1
  rw [e3]
  exact h1
theorem im_ix (hu : X.A.units + 65 < cLine) : IxM X E oIx := by
  refine ⟨_, ix_seq.or (ix_dict (by omega)), fun x y v u S m H Q rs hv hw p => ?_⟩
  unfold oIx at p
  cases hv with
  | str z =>
    cases hw with
    | int i =>
      dsimp only at p
      split at p
      · rename_i hl
        split at p
        · rename_i c hc
          refine .inl (.inr (.inr ⟨sOf z, i, c, rfl, rfl, by rw [sOf_len, line_eq]; exact hl, hc, p.here rs _ (.str [c])⟩))
        · exact p.elim
      · exact p.elim
    | _ => exact p.elim
  | @tup l a xs ha r =>
    cases hw with
    | int i =>
      dsimp only at p
      split at p
      · rename_i d hd
        obtain ⟨v, h1, h2⟩ := atI_rel r hd
        exact .inl (.inr (.inl ⟨a, xs, i, v, rfl, rfl, .inl (.inl ha), h1, p.here rs _ h2⟩))
      · exact p.elim
    | _ => exact p.elim
  | @wtp l a xs ha r =>
    cases hw with
    | int i =>
      dsimp only at p
      split at p
      · rename_i d hd
        obtain ⟨v, h1, h2⟩ := atI_rel r hd
        exact .inl (.inr (.inl ⟨a, xs, i, v, rfl, rfl, ha.sq, h1, p.here rs _ h2⟩))
      · exact p.elim
    | _ => exact p.elim
  | @ref n a ha =>
    dsimp only at p
    have lst : ∀ l, lstOf S n = some l → Post (cx X) E m H (match y with
        | .int i => (match Mi.atI l i with
          | some v => .ok v S
          | none => .bad)
        | _ => .bad) (kE (cx X) Q) → rIx X.K (.ref a) u H Q := by
      intro l hl p
      obtain ⟨xs, h0, r⟩ := rs.lst ha hl
      cases hw with
      | int i =>
        dsimp only at p
        split at p
        · rename_i d hd
          obtain ⟨v, h1, h2⟩ := atI_rel r hd
          exact .inl ⟨a, xs, i, v, rfl, rfl, h0, h1, p.here rs _ h2⟩
        · exact p.elim
      | _ => exact p.elim
    split at p
    · rename_i l hs
      exact .inl (lst l (by unfold lstOf; rw [hs]) p)
    · rename_i l hs
      exact .inl (lst l (by unfold lstOf; rw [hs]) p)
    · split at p
      · rename_i d hd
        obtain ⟨o, g, z, e, h2⟩ := look_get rs ha hw hd
        subst e
        exact .inr ⟨a, z, rfl, g, p.here rs _ h2⟩
      · exact p.elim
  | _ => exact p.elim

/-! ### slices -/
theorem cut_rel {K : PySem.W.Frag} {H : Hp} {m : List Addr} {l : List D} {xs : List V} (r : RelL K H m l xs) (lo hi : Option Int) : RelL K H m (cut l lo hi) (cutV xs lo hi) := by
  unfold cut cutV
  rw [← r.len]
  exact (r.drop _).take _
theorem slm : SlM X E oSl := by
  refine ⟨_, slr_or sl_str (slr_or sl_tup sl_list), fun x lo hi v S m H Q rs hv p => ?_⟩
  unfold oSl at p
  cases hv with
  | str z =>
    dsimp only at p
    split at p
    · rename_i hl
      refine .inl ⟨sOf z, rfl, by rw [sOf_len, line_eq]; exact hl, ?_⟩
      have e : cutS (sOf z) lo hi = sOf (cut z lo hi) := by
        unfold cutS cut
        rw [sOf_len]
        rfl
      rw [e]
      exact p.here rs _ (.str _)
    · exact p.elim
  | @tup l a xs ha r =>
    dsimp only at p
    split at p
    · rename_i hl
      refine .inr (.inl ⟨a, xs, rfl, .inl (.inl ha), fun z => ?_, fun b hb => post_tup rs p hb (cut_rel r lo hi)⟩)
      have h1 := (cut_rel r lo hi).len
      unfold cutV at h1
      rw [z.1, z.2, List.drop_zero, Nat.sub_zero, List.take_length] at h1
      rw [h1, r.len] at hl
      exact absurd hl (Nat.lt_irrefl _)
    · exact p.elim
  | @ref n a ha =>
    dsimp only at p
    split at p
    · rename_i l hl
      obtain ⟨xs, h0, r⟩ := rs.lst ha hl
      exact .inr (.inr ⟨a, xs, rfl, h0, fun b hb => post_new rs p hb fun e => ⟨_, upd_same, (cut_rel r lo hi).mono e⟩⟩)
    · exact p.elim
  | _ => exact p.elim
end
end Sm

set_option Elab.async false
set_option linter.all false
set_option maxRecDepth 100000
set_option maxHeartbeats 2000000
/-! readings by the small language: built-ins, methods -/
namespace Sm
open PySem PySem.Spec PyProof.Rows L2 Mi
section
variable {X : Cx} {E : XK}
theorem cm_len : CallM X E (.builtin "len") bLen := by
  refine ⟨_, callr_or call_len_seq (callr_or call_len_str (callr_or call_lenD call_len_dT)), fun ds vs S m H Q rs hv p => ?_⟩
  unfold bLen at p
  split at p
  · rename_i s
    cases hv with
    | cons h t =>
      cases t
      cases h
      split at p
      · rename_i hl
        exact .inr (.inl ⟨sOf s, rfl, by rw [sOf_len, line_eq]; exact hl, by rw [sOf_len]; exact post_int rs p⟩)
      · exact p.elim
  · rename_i l
    cases hv with
    | cons h t =>
      cases t
      cases h with
      | tup ha r => exact .inl ⟨_, _, rfl, .inr (.inl (.inl ha)), by rw [← r.len]; exact post_int rs p⟩
  · rename_i l
    cases hv with
    | cons h t =>
      cases t
      cases h with
      | wtp ha r => exact .inl ⟨_, _, rfl, .inr ha.sq, by rw [← r.len]; exact post_int rs p⟩
  · rename_i n
    cases hv with
    | cons h t =>
      cases t
      cases h with
      | ref ha =>
        split at p
        · rename_i l hs
          obtain ⟨xs, h0, r⟩ := rs.lst (l := l) ha (by unfold lstOf; rw [hs])
          exact .inl ⟨_, xs, rfl, .inl h0, by rw [← r.len]; exact post_int rs p⟩
        · rename_i l hs
          obtain ⟨xs, h0, r⟩ := rs.lst (l := l) ha (by unfold lstOf; rw [hs])
          exact .inl ⟨_, xs, rfl, .inl h0, by rw [← r.len]; exact post_int rs p⟩
        · rename_i k hs
          obtain ⟨kv, h1, h2⟩ := rs.ob _ _ _ ha hs
          exact .inr (.inr (.inl ⟨_, kv, rfl, h1, by rw [← Paired.length h2]; exact post_int rs p⟩))
        · rename_i k hs
          obtain ⟨kv, h1, h2⟩ := rs.ob _ _ _ ha hs
          exact .inr (.inr (.inr ⟨_, kv, rfl, h1, by rw [← Paired.length h2]; exact post_int rs p⟩))
        · exact p.elim
  · exact p.elim
theorem rel1 {K : PySem.W.Frag} {H : Hp} {m : List Addr} {d : D} {vs : List V} (h : RelL K H m [d] vs) : ∃ v, vs = [v] ∧ RelD K H m d v := by
  cases h with
  | cons h t => cases t; exact ⟨_, rfl, h⟩
theorem rel2 {K : PySem.W.Frag} {H : Hp} {m : List Addr} {d e : D} {vs : List V} (h : RelL K H m [d, e] vs) : ∃ v w, vs = [v, w] ∧ RelD K H m d v ∧ RelD K H m e w := by
  cases h with
  | cons h t =>
    obtain ⟨w, rfl, h2⟩ := rel1 t
    exact ⟨_, w, rfl, h, h2⟩
theorem cm_abs : CallM X E (.builtin "abs") bAbs := by
  refine ⟨_, call_abs, fun ds vs S m H Q rs hv p => ?_⟩
  unfold bAbs at p
  split at p
  · rename_i i
    obtain ⟨v, rfl, h⟩ := rel1 hv
    cases h
    exact ⟨i, rfl, post_int rs p⟩
  · exact p.elim
theorem cm_int : CallM X E (.type "int") bInt := by
  refine ⟨_, call_int1, fun ds vs S m H Q rs hv p => ?_⟩
  unfold bInt at p
  split at p
  · rename_i i
    obtain ⟨v, rfl, h⟩ := rel1 hv
    cases h
    exact .inl ⟨i, rfl, post_int rs p⟩
  · rename_i i
    obtain ⟨v, rfl, h⟩ := rel1 hv
    cases h
    exact .inr ⟨i, rfl, post_int rs p⟩
  · exact p.elim
theorem cm_max (hc : X.calm = true) : CallM X E (.builtin "max") bMax := by
  refine ⟨_, call_max2 hc, fun ds vs S m H Q rs hv p => ?_⟩
  unfold bMax at p
  split at p
  · rename_i i j
    obtain ⟨v, w, rfl, h, h'⟩ := rel2 hv
    cases h
    cases h'
    exact ⟨i, j, rfl, post_int rs p⟩
  · exact p.elim
theorem cm_min (hc : X.calm = true) : CallM X E (.builtin "min") bMin := by
  refine ⟨_, call_min2 hc, fun ds vs S m H Q rs hv p => ?_⟩
  unfold bMin at p
  split at p
  · rename_i i j
    obtain ⟨v, w, rfl, h, h'⟩ := rel2 hv
    cases h
    cases h'
    exact ⟨i, j, rfl, post_int rs p⟩
  · exact p.elim
theorem RelL.keys {K : PySem.W.Frag} {H : Hp} {m : List Addr} {k : List (Ky × D)} {kv : List (Key × V)} (h : RelK K H m kyK k kv) : RelL K H m (k.map fun p => kyD p.1) (kv.map fun p => kV p.1) := by
  induction h with
  | nil => exact .nil
  | @cons p q ps qs h t ih =>
    rw [List.map_cons, List.map_cons]
    refine .cons ?_ ih
    rw [← h.1]
    cases p.1 with
    | inl i => exact .int i
    | inr s => exact .str s
theorem RelL.kys {K : PySem.W.Frag} {H : Hp} {m : List Addr} : ∀ k : List Ky, RelL K H m (k.map kyD) ((k.map kyK).map kV)
  | [] => .nil
  | .inl i :: k => .cons (.int i) (RelL.kys k)
  | .inr s :: k => .cons (.str s) (RelL.kys k)
theorem RelL.keysT {K : PySem.W.Frag} {H : Hp} {m : List Addr} {k : List (List Ky × D)} {kv : List (List Key × V)} {bs : List Addr} (h : RelK K H m (fun x => x.map kyK) k kv) (hk : IsKeys H kv bs) : RelL K H m (k.map fun p => .tup (p.1.map kyD)) (bs.map V.ref) := by
  induction h generalizing bs with
  | nil =>
    cases hk
    exact .nil
  | @cons p q ps qs h t ih =>
    cases hk with
    | cons h1 h2 =>
      rw [List.map_cons, List.map_cons]
      refine .cons (.tup h1 ?_) (ih h2)
      rw [← h.1]
      exact RelL.kys p.1
theorem seq_rel {c : Ct} {m : List Addr} {S : Store} {H : Hp} (rs : RS c m S H) {d : D} {v : V} {l : List D} (h : RelD c.K H m d v) (e : seqOf S d = some l) : ∃ a xs, v = .ref a ∧ (SqL c.K H a xs ∨ SqT c.K H a xs) ∧ RelL c.K H m l xs := by
  unfold seqOf at e
  cases h with
  | tup ha r => cases e; exact ⟨_, _, rfl, .inr (.inl (.inl ha)), r⟩
  | wtp ha r => cases e; exact ⟨_, _, rfl, .inr ha.sq, r⟩
  | ref ha =>
    obtain ⟨xs, h1, h2⟩ := rs.lst ha e
    exact ⟨_, xs, rfl, .inl h1, h2⟩
  | _ => cases e
theorem cm_list (hc : X.calm = true) : CallM X E (.type "list") bList := by
  refine ⟨_, callr_or call_list_of (callr_or (call_listD hc) (call_list_dT hc)), fun ds vs S m H Q rs hv p => ?_⟩
  unfold bList at p
  split at p
  · rename_i x
    obtain ⟨v, rfl, h⟩ := rel1 hv
    split at p
    · rename_i l hl
      obtain ⟨a, xs, rfl, h1, h2⟩ := seq_rel rs h hl
      exact .inl ⟨a, xs, rfl, h1, fun b hb => post_new rs p hb fun e => ⟨xs, upd_same, h2.mono e⟩⟩
    · cases h with
      | @ref n a ha =>
        dsimp only at p
        split at p
        · rename_i k hs
          obtain ⟨kv, h1, h2⟩ := rs.ob _ _ _ ha hs
          exact .inr (.inl ⟨a, kv, rfl, .inl h1, fun b hb => post_new rs p hb fun e => ⟨_, upd_same, (RelL.keys h2).mono e⟩⟩)
        · rename_i k hs
          obtain ⟨kv, h1, h2⟩ := rs.ob _ _ _ ha hs
          exact .inr (.inr ⟨a, kv, rfl, .inl h1, fun b bs hb hk => post_new rs p hb fun e => ⟨_, upd_same, (RelL.keysT h2 hk).mono e⟩⟩)
        · exact p.elim
      | _ => exact p.elim
  · exact p.elim
theorem cm_tuple : CallM X E (.type "tuple") bTuple := by
  refine ⟨_, call_tuple_of, fun ds vs S m H Q rs hv p => ?_⟩
  unfold bTuple at p
  split at p
  · rename_i l
    obtain ⟨v, rfl, h⟩ := rel1 hv
    cases h with
    | tup ha r => exact ⟨_, _, rfl, .inr ⟨.inl (.inl ha), p.here rs _ (.tup ha r)⟩⟩
  · rename_i n
    obtain ⟨v, rfl, h⟩ := rel1 hv
    cases h with
    | ref ha =>
      split at p
      · rename_i l hl
        obtain ⟨xs, h1, h2⟩ := rs.lst ha hl
        exact ⟨_, xs, rfl, .inl ⟨h1, fun b hb => post_tup rs p hb h2⟩⟩
      · exact p.elim
  · exact p.elim
theorem ints_rel {K : PySem.W.Frag} {H : Hp} {m : List Addr} : ∀ {l : List D} {xs : List V} {ns : List Int}, RelL K H m l xs → intsOf l = some ns → xs = ns.map V.int
  | _, _, _, .nil, e => by simp only [intsOf, Option.some.injEq] at e; subst e; rfl
  | _, _, ns, .cons (d := d) h t, e => by
    cases h <;> simp only [intsOf, reduceCtorEq] at e
    obtain ⟨r, e1, e2⟩ := Option.map_eq_some_iff.mp e
    subst e2
    rw [List.map_cons, ← ints_rel t e1]
theorem bls_rel {K : PySem.W.Frag} {H : Hp} {m : List Addr} : ∀ {l : List D} {xs : List V} {ns : List Bool}, RelL K H m l xs → blsOf l = some ns → xs = ns.map V.bl
  | _, _, _, .nil, e => by simp only [blsOf, Option.some.injEq] at e; subst e; rfl
  | _, _, ns, .cons (d := d) h t, e => by
    cases h <;> simp only [blsOf, reduceCtorEq] at e
    obtain ⟨r, e1, e2⟩ := Option.map_eq_some_iff.mp e
    subst e2
    rw [List.map_cons, ← bls_rel t e1]
theorem cm_sum (hc : X.calm = true) : CallM X E (.builtin "sum") bSum := by
  refine ⟨_, cr_sum hc, fun ds vs S m H Q rs hv p => ?_⟩
  unfold bSum at p
  split at p
  · obtain ⟨v, rfl, h⟩ := rel1 hv
    cases h with
    | ref ha =>
      split at p
      · rename_i l hl
        obtain ⟨k, h1, h2⟩ := Option.bind_eq_some_iff.mp hl
        obtain ⟨xs, h3, h4⟩ := rs.lst ha h1
        rw [ints_rel h4 h2] at h3
        exact ⟨_, l, rfl, h3, post_int rs p⟩
      · exact p.elim
  · exact p.elim
theorem cm_any (hc : X.calm = true) : CallM X E (.builtin "any") bAny := by
  refine ⟨_, cr_any hc, fun ds vs S m H Q rs hv p => ?_⟩
  unfold bAny at p
  split at p
  · obtain ⟨v, rfl, h⟩ := rel1 hv
    cases h with
    | ref ha =>
      split at p
      · rename_i l hl
        obtain ⟨k, h1, h2⟩ := Option.bind_eq_some_iff.mp hl
        obtain ⟨xs, h3, h4⟩ := rs.lst ha h1
        rw [bls_rel h4 h2] at h3
        exact ⟨_, l, rfl, h3, post_bl rs p⟩
      · exact p.elim
  · exact p.elim
theorem cm_all (hc : X.calm = true) : CallM X E (.builtin "all") bAll := by
  refine ⟨_, cr_all hc, fun ds vs S m H Q rs hv p => ?_⟩
  unfold bAll at p
  split at p
  · obtain ⟨v, rfl, h⟩ := rel1 hv
    cases h with
    | ref ha =>
      split at p
      · rename_i l hl
        obtain ⟨k, h1, h2⟩ := Option.bind_eq_some_iff.mp hl
        obtain ⟨xs, h3, h4⟩ := rs.lst ha h1
        rw [bls_rel h4 h2] at h3
        exact ⟨_, l, rfl, h3, post_bl rs p⟩
      · exact p.elim
  · exact p.elim

/-! ### isinstance -/
def tyN : Ty → String
  | .int => "int"
  | .bool => "bool"
  | .str => "str"
  | .list => "list"
  | .tuple => "tuple"
  | .dict => "dict"
theorem tyx_of {c : Ct} {m : List Addr} {S : Store} {H : Hp} (rs : RS c m S H) {d : D} {v : V} {U : Ty} (h : RelD c.K H m d v) (e : tyOf S d = some U) : TyX c.K H v (.type (tyN U)) := by
  cases h with
  | non => cases e
  | bl b => cases e; exact .base (.bl b)
  | int b => cases e; exact .base (.int b)
  | str b => cases e; exact .base (.str _)
  | tup ha r => cases e; exact .base (.tup ha)
  | wtp ha r => cases e
  | @ref n a ha =>
    unfold tyOf at e
    dsimp only at e
    split at e
    · rename_i l hs
      cases e
      obtain ⟨xs, h1, _⟩ := rs.ob n a _ ha hs
      exact .base (.lst h1)
    · rename_i l hs
      cases e
      obtain ⟨xs, h1, _⟩ := rs.ob n a _ ha hs
      rcases h1 with ⟨o, h1⟩ | h1
      · exact .base (.frz h1)
      · rcases h1 with h1 | ⟨o, its, k, h1, h2, _⟩
        · rcases h1 with h1 | ⟨o, h1⟩ <;> cases h1
        · exact .kList h1 h2
    · rename_i l hs
      cases e
      obtain ⟨xs, h1, _⟩ := rs.ob n a _ ha hs
      exact .base (.dK h1)
    · rename_i l hs
      cases e
      obtain ⟨xs, h1, _⟩ := rs.ob n a _ ha hs
      exact .base (.dT h1)
    · cases e
theorem kit_all : ∀ U T : Ty, kitB (tyN U) (tyN T) = some (decide (U = T) || (decide (U = .bool) && decide (T = .int)))
  | .int, .int => by decide +kernel | .int, .bool => by decide +kernel | .int, .str => by decide +kernel | .int, .list => by decide +kernel | .int, .tuple => by decide +kernel | .int, .dict => by decide +kernel
  | .bool, .int => by decide +kernel | .bool, .bool => by decide +kernel | .bool, .str => by decide +kernel | .bool, .list => by decide +kernel | .bool, .tuple => by decide +kernel | .bool, .dict => by decide +kernel
  | .str, .int => by decide +kernel | .str, .bool => by decide +kernel | .str, .str => by decide +kernel | .str, .list => by decide +kernel | .str, .tuple => by decide +kernel | .str, .dict => by decide +kernel
  | .list, .int => by decide +kernel | .list, .bool => by decide +kernel | .list, .str => by decide +kernel | .list, .list => by decide +kernel | .list, .tuple => by decide +kernel | .list, .dict => by decide +kernel
  | .tuple, .int => by decide +kernel | .tuple, .bool => by decide +kernel | .tuple, .str => by decide +kernel | .tuple, .list => by decide +kernel | .tuple, .tuple => by decide +kernel | .tuple, .dict => by decide +kernel
  | .dict, .int => by decide +kernel | .dict, .bool => by decide +kernel | .dict, .str => by decide +kernel | .dict, .list => by decide +kernel | .dict, .tuple => by decide +kernel | .dict, .dict => by decide +kernel
theorem kit_non : ∀ T : Ty, kitB "NoneType" (tyN T) = some false
  | .int => by decide +kernel | .bool => by decide +kernel | .str => by decide +kernel | .list => by decide +kernel | .tuple => by decide +kernel | .dict => by decide +kernel
theorem isi_ok {c : Ct} {m : List Addr} {S : Store} {H : Hp} (rs : RS c m S H) {d : D} {v : V} {T : Ty} {b : Bool} (h : RelD c.K H m d v) (e : isI T d S = some b) : ∃ t, TyX c.K H v t ∧ PySem.W.kitOne c.K t (.type (tyN T)) = some b := by
  unfold isI at e
  split at e
  · cases e
    cases h
    exact ⟨_, .base .non, kit_ty (kit_non T)⟩
  · obtain ⟨U, e1, e2⟩ := Option.map_eq_some_iff.mp e
    subst e2
    exact ⟨_, tyx_of rs h e1, kit_ty (kit_all U T)⟩
theorem se_isi {a : Expr} {fa : EM} {p p2 pos : Pos} {y : Str} (T : Ty) (hg : Gl X "isinstance") (hm : X.mg "isinstance" = none) (hg2 : Gl X y) (hm2 : X.mg y = none) (hv2 : bootBuiltins y = some (.type (tyN T))) (ha : SE X E a fa) (hn2 : y ≠ "__name__" := by decide) (hd2 : (y == ("__debug__" : Str)) = false := by decide)
    (he : starEach [a, .Name y p2] X.env = (false, eval a X.env) :: starEach [.Name y p2] X.env := by rfl) (he2 : starEach [.Name y p2] X.env = (false, eval (.Name y p2) X.env) :: starEach [] X.env := by rfl) (hpl : (backTo pos (starEach [.Name y p2] X.env)).any (·.1) = false := by rfl) :
    SE X E (.Call (.Name "isinstance" p) [a, .Name y p2] [] pos) (mUn (bIsI T) fa) := by
  refine PE.mono (pe_callB call_isi hg hm PyProof.Rows.boot_isinstance (pa_cons ha (pa_cons (pe_bltn (v := .ty (tyN T)) hg2 hm2 hv2 rfl hn2 hd2) pa_nil he2) he) (by decide) (by decide) he hpl) fun σ H Q ⟨fr, S, m, rf, rs, p⟩ => ?_
  refine rd_bind rf rs p fun x S1 m1 H1 e1 rf1 rs1 p1 v hv => ?_
  unfold bIsI at p1
  split at p1
  · rename_i b hb
    obtain ⟨t, h1, h2⟩ := isi_ok rs1 hv hb
    exact ⟨v, .ty (tyN T), t, _, b, rfl, .ty _, h1, h2, post_bl rs1 p1⟩
  · exact p1.elim

/-! ### methods -/
theorem ty_list : TyM X "list" isLst := by
  intro x v S m H rs h e
  unfold isLst at e
  cases h with
  | @ref n a ha =>
    dsimp only at e
    obtain ⟨l, hl⟩ := Option.isSome_iff_exists.mp e
    obtain ⟨xs, h1, _⟩ := rs.lst ha hl
    exact .inl ⟨rfl, xs, h1⟩
  | _ => cases e
theorem ty_dict : TyM X "dict" isDct := by
  intro x v S m H rs h e
  unfold isDct at e
  cases h with
  | @ref n a ha =>
    dsimp only at e
    split at e
    · rename_i k hs
      obtain ⟨xs, h1, _⟩ := rs.ob n a _ ha hs
      exact .inr (.inr (.inl ⟨rfl, .inl ⟨xs, h1⟩⟩))
    · rename_i k hs
      obtain ⟨xs, h1, _⟩ := rs.ob n a _ ha hs
      exact .inr (.inr (.inl ⟨rfl, .inr ⟨xs, h1⟩⟩))
    · cases e
  | _ => cases e
theorem ty_str : TyM X "str" isStr := by
  intro x v S m H rs h e
  unfold isStr at e
  cases h with
  | str s => exact rfl
  | _ => cases e
/-- a list that is changed -/
theorem mut_list {c : Ct} {m : List Addr} {S : Store} {H : Hp} (rs : RS c m S H) {o : D} {v : V} {f : Nat → List D → Res D} {k : D → Store → List Addr → Hp → Prop} (h : RelD c.K H m o v) (p : Post c E m H (mutL o S f) k) :
    ∃ n a l xs, o = .ref n ∧ v = .ref a ∧ m[n]? = some a ∧ S[n]? = some (.lst l) ∧ H a = some (.lst xs) ∧ RelL c.K H m l xs ∧ Post c E m H (f n l) k := by
  unfold mutL at p
  cases h with
  | @ref n a ha =>
    dsimp only at p
    split at p
    · rename_i l hs
      obtain ⟨xs, h1, h2⟩ := rs.ob n a _ ha hs
      exact ⟨n, a, l, xs, rfl, rfl, ha, hs, h1, h2, p⟩
    · exact p.elim
  | _ => exact p.elim
theorem put_list {c : Ct} {m : List Addr} {S : Store} {H : Hp} (rs : RS c m S H) {n : Nat} {a : Addr} {l l' : List D} {xs' : List V} {d : D} {Q : VK} {v : V} (ha : m[n]? = some a) (hs : S[n]? = some (.lst l)) (r : RelL c.K H m l' xs') (hd : RelD c.K H m d v)
    (p : Post c E m H (.ok d (S.set n (.lst l'))) (kE c Q)) : Q v (upd H a (.lst xs')) := by
  obtain ⟨rs', e⟩ := rs.set (o' := .lst l') (u := .lst xs') ha hs trivial trivial fun e => ⟨xs', upd_same, r.mono e⟩
  exact p _ _ e rs' _ (hd.mono e)
theorem mm_append : MtMm X E "list.append" lAppend := by
  refine ⟨_, mt_append, fun x ds v vs S m H Q rs hv hvs p => ?_⟩
  unfold lAppend at p
  split at p
  · rename_i d
    obtain ⟨w, rfl, hw⟩ := rel1 hvs
    obtain ⟨n, a, l, xs, rfl, rfl, ha, hs, h1, h2, p⟩ := mut_list rs hv p
    split at p
    · rename_i hl
      exact ⟨a, xs, w, rfl, rfl, h1, by rw [← h2.len, line_eq]; exact hl, put_list rs ha hs (h2.app (.one hw)) .non p⟩
    · exact p.elim
  · exact p.elim
theorem mt_or {id : String} {r r' : V → List V → Hp → VK → Prop} (h : MtR X id r) (h' : MtR X id r') : MtR X id fun x xs H Q => r x xs H Q ∨ r' x xs H Q := h.or h'
theorem seqIx_of {n : Nat} {i : Int} {k : Nat} (h : Mi.ixN n i = some k) : seqIndex? i n = some k := by
  have := ixN_seq (show L2.ixN n i = some k from h)
  exact this.1
theorem mm_pop : MtMm X E "list.pop" lPop := by
  refine ⟨_, mt_or (X := X) mt_pop mt_popAt, fun x ds v vs S m H Q rs hv hvs p => ?_⟩
  unfold lPop at p
  split at p
  · cases hvs
    obtain ⟨n, a, l, xs, rfl, rfl, ha, hs, h1, h2, p⟩ := mut_list rs hv p
    split at p
    · rename_i y hy
      obtain ⟨w, e1, e2⟩ := h2.ix hy
      exact .inl ⟨a, xs, w, rfl, rfl, h1, by rw [← h2.len]; exact e1, put_list rs ha hs h2.dropLast e2 p⟩
    · exact p.elim
  · rename_i i
    obtain ⟨w, rfl, hw⟩ := rel1 hvs
    cases hw
    obtain ⟨n, a, l, xs, rfl, rfl, ha, hs, h1, h2, p⟩ := mut_list rs hv p
    split at p
    · rename_i hb
      split at p
      · rename_i k hk
        split at p
        · rename_i y hy
          obtain ⟨w, e1, e2⟩ := h2.ix hy
          exact .inr ⟨a, xs, i, k, w, rfl, rfl, h1, hb.1, hb.2, by rw [← h2.len]; exact seqIx_of hk, e1, put_list rs ha hs (h2.erase k) e2 p⟩
        · exact p.elim
      · exact p.elim
    · exact p.elim
  · exact p.elim
theorem mm_reverse : MtMm X E "list.reverse" lReverse := by
  refine ⟨_, mt_reverse, fun x ds v vs S m H Q rs hv hvs p => ?_⟩
  unfold lReverse at p
  split at p
  · cases hvs
    obtain ⟨n, a, l, xs, rfl, rfl, ha, hs, h1, h2, p⟩ := mut_list rs hv p
    exact ⟨a, xs, rfl, rfl, h1, put_list rs ha hs h2.rev .non p⟩
  · exact p.elim
theorem mm_lclear : MtMm X E "list.clear" lClear := by
  refine ⟨_, mt_clear, fun x ds v vs S m H Q rs hv hvs p => ?_⟩
  unfold lClear at p
  split at p
  · cases hvs
    obtain ⟨n, a, l, xs, rfl, rfl, ha, hs, h1, h2, p⟩ := mut_list rs hv p
    exact ⟨a, xs, rfl, rfl, h1, put_list rs ha hs .nil .non p⟩
  · exact p.elim
theorem mm_extend : MtMm X E "list.extend" lExtend := by
  refine ⟨_, mt_extend, fun x ds v vs S m H Q rs hv hvs p => ?_⟩
  unfold lExtend at p
  split at p
  · rename_i k
    obtain ⟨w, rfl, hw⟩ := rel1 hvs
    obtain ⟨n, a, l, xs, rfl, rfl, ha, hs, h1, h2, p⟩ := mut_list rs hv p
    split at p
    · rename_i r hr
      split at p
      · rename_i hl
        cases hw with
        | ref hb =>
          obtain ⟨zs, h3, h4⟩ := rs.ob _ _ _ hb hr
          exact ⟨a, _, xs, zs, rfl, rfl, h1, h3, by rw [← h2.len, ← h4.len, line_eq]; exact hl, put_list rs ha hs (h2.app h4) .non p⟩
      · exact p.elim
    · exact p.elim
  · exact p.elim
theorem mm_insert : MtMm X E "list.insert" lInsert := by
  refine ⟨_, mt_insert, fun x ds v vs S m H Q rs hv hvs p => ?_⟩
  unfold lInsert at p
  split at p
  · rename_i i d
    obtain ⟨w, w', rfl, hw, hw'⟩ := rel2 hvs
    cases hw
    obtain ⟨n, a, l, xs, rfl, rfl, ha, hs, h1, h2, p⟩ := mut_list rs hv p
    split at p
    · rename_i hl
      exact ⟨a, xs, i, w', rfl, rfl, h1, by rw [← h2.len, line_eq]; exact hl.1, hl.2.1, hl.2.2, put_list rs ha hs (((h2.take _).app (.one hw')).app (h2.drop _)) .non p⟩
    · exact p.elim
  · exact p.elim
theorem mm_dget (hu : X.A.units + 1 < cLine) : MtMm X E "dict.get" dGetM := by
  refine ⟨fun x vs H Q => (∃ a y o, x = V.ref a ∧ vs = [y] ∧ DGet H a y o ∧ Q (o.getD .non) H) ∨ ∃ a y z o, x = V.ref a ∧ vs = [y, z] ∧ DGet H a y o ∧ Q (o.getD z) H, ?_, fun x ds v vs S m H Q rs hv hvs p => ?_⟩
  · intro pins s σ H x xs v us Q I rx rxs h
    rcases h with ⟨a, y, o, rfl, rfl, g, q⟩ | ⟨a, y, z, o, rfl, rfl, g, q⟩
    · obtain rfl : v = Value.ref a := rx
      obtain ⟨u, rfl, ru⟩ := Vals.one rxs
      exact d_get1 hu I g ru fun w' s' I' rw' => ⟨_, H, I', rw', q⟩
    · obtain rfl : v = Value.ref a := rx
      obtain ⟨u, w, rfl, ru, rw⟩ := Vals.two rxs
      exact d_get2 hu I g ru rw fun w' s' I' rw' => ⟨_, H, I', rw', q⟩
  · unfold dGetM at p
    cases hv with
    | @ref n a ha =>
      dsimp only at p
      split at p
      · rename_i k
        obtain ⟨w, rfl, hw⟩ := rel1 hvs
        split at p
        · rename_i r hr
          obtain ⟨o, g, q⟩ := look_get rs ha hw hr
          refine .inl ⟨a, w, o, rfl, rfl, g, p.here rs _ ?_⟩
          cases r with
          | none => rw [show o = none from q]; exact .non
          | some d => obtain ⟨z, e, h⟩ := q; rw [e]; exact h
        · exact p.elim
      · rename_i k y
        obtain ⟨w, w', rfl, hw, hw'⟩ := rel2 hvs
        split at p
        · rename_i r hr
          obtain ⟨o, g, q⟩ := look_get rs ha hw hr
          refine .inr ⟨a, w, w', o, rfl, rfl, g, p.here rs _ ?_⟩
          cases r with
          | none => rw [show o = none from q]; exact hw'
          | some d => obtain ⟨z, e, h⟩ := q; rw [e]; exact h
        · exact p.elim
      · exact p.elim
    | _ => exact p.elim
end
end Sm

set_option Elab.async false
set_option linter.all false
set_option maxRecDepth 100000
set_option maxHeartbeats 2000000
/-! readings by the small language: targets, statements, loops, comprehensions, defs -/
namespace Sm
open PySem PySem.Spec PyProof.Rows L2 Mi
abbrev EF : XK := fun _ _ _ => False
section
variable {X : Cx} {E : XK} {pos : Pos}
theorem PG.mono {e : Expr} {t t' : TG} (h : PG X e t) (f : ∀ v σ H Q, t' v σ H Q → t v σ H Q) : PG X e t' := ⟨fun pins s σ H x v Q I r q => h.run pins s σ H x v Q I r (f x σ H Q q)⟩
theorem PGs.mono {e : List Expr} {t t' : TGs} (h : PGs X e t) (f : ∀ v σ H Q, t' v σ H Q → t v σ H Q) : PGs X e t' := ⟨fun pins s σ H xs vs Q I r q => h.run pins s σ H xs vs Q I r (f xs σ H Q q)⟩
/-! ### targets -/
theorem sg_name {i : Nat} {x : Str} (hN : X.N.Nodup) (hi : X.N[i]? = some x) (hx : Loc X.env.scope x) (hf : X.fn x = true ∨ X.env.scope.names.lookup x = some .local := by first | exact .inl rfl | exact .inr rfl | assumption) : SG X E (.Name x pos) (Mi.gName i) := by
  refine PG.mono (pg_name hN hi hx hf) fun v σ H Q ⟨d, fr, S, m, r, rf, rs, p⟩ => ?_
  exact p.here rs _ (rf.set r i)
theorem sgs_nil : SGs X E [] Mi.gNil := by
  refine PGs.mono pgs_nil fun vs σ H Q ⟨ds, fr, S, m, r, rf, rs, p⟩ => ?_
  cases r with
  | nil => exact ⟨rfl, p.here rs σ rf⟩
  | cons => exact p.elim
theorem sgs_cons {e : Expr} {es : List Expr} {g : GM} {gs : GMs} (h1 : SG X E e g) (h2 : SGs X E es gs) (hs : (assignEach (e :: es) X.env).map (·.2) = assign e X.env :: (assignEach es X.env).map (·.2) := by rfl) : SGs X E (e :: es) (Mi.gCons g gs) := by
  refine PGs.mono (pgs_cons h1 h2 hs) fun vs σ H Q ⟨ds, fr, S, m, r, rf, rs, p⟩ => ?_
  cases r with
  | nil => exact p.elim
  | @cons d l v r' hd t =>
    refine ⟨v, r', rfl, d, fr, S, m, hd, rf, rs, (post_bind p).imp fun fr' S' m' H' e' rs' p' σ' rf' => ?_⟩
    exact ⟨l, fr', S', m', t.mono e', rf', rs', p'⟩
theorem pg_or {e : Expr} {t t' : TG} (h : PG X e t) (h' : PG X e t') : PG X e fun v σ H Q => t v σ H Q ∨ t' v σ H Q :=
  ⟨fun pins s σ H x v Q I r q => q.elim (fun q => h.run pins s σ H x v Q I r q) fun q => h'.run pins s σ H x v Q I r q⟩
theorem sg_tup {es : List Expr} {k : Nat} {gs : GMs} {n : Nat} (hc : X.calm = true) (h : SGs X E es gs) (hn : (assignEach es X.env).length = n := by rfl) (hst : (assignEach es X.env).findIdx? (·.1) = none := by rfl) : SG X E (.Tuple es k pos) (Mi.gTup n gs) := by
  refine PG.mono (pg_or (pg_tup hc h hn hst) (pg_unl hc h hn hst)) fun v σ H Q ⟨d, fr, S, m, r, rf, rs, p⟩ => ?_
  unfold Mi.gTup at p
  split at p
  · rename_i l hl
    split at p
    · rename_i hlen
      obtain ⟨a, xs, rfl, h1, h2⟩ := seq_rel rs r hl
      rcases h1 with h1 | h1
      · exact .inr ⟨a, xs, rfl, h1, by rw [← h2.len]; exact hlen, l, fr, S, m, h2, rf, rs, p⟩
      · exact .inl ⟨a, xs, rfl, h1, by rw [← h2.len]; exact hlen, l, fr, S, m, h2, rf, rs, p⟩
    · exact p.elim
  · exact p.elim
theorem set_dict (hu : X.A.units + 1 < cLine) : PSet X (fun o i v H Q => ∃ a H', o = V.ref a ∧ DPut H a i v H' ∧ Q H') := by
  intro pins s σ H o i v ov iv u Q I ro ri rv h
  obtain ⟨a, H', rfl, g, q⟩ := h
  obtain rfl : ov = Value.ref a := ro
  exact d_setItem hu I g ri rv fun s' I' => ⟨H', I', q⟩
theorem pset_or {t t' : TSet} (h : PSet X t) (h' : PSet X t') : PSet X fun o i v H Q => t o i v H Q ∨ t' o i v H Q := by
  intro pins s σ H o i v ov iv u Q I ro ri rv q
  exact q.elim (fun q => h pins s σ H o i v ov iv u Q I ro ri rv q) fun q => h' pins s σ H o i v ov iv u Q I ro ri rv q
theorem sg_sub {o i : Expr} {fo fi : EM} (hu : X.A.units + 65 < cLine) (ho : SE X E o fo) (hi : SE X E i fi)
    (ha : ∀ v, assign (.Subscript o i pos) X.env v = (do
      let ov ← holding [v] (eval o X.env)
      let iv ← holding [v, ov] (eval i X.env)
      standAt pos
      holding [v, ov, iv] (setItem ov iv v)
      release [v, ov, iv] []) := by intro _; rfl) : SG X E (.Subscript o i pos) (Mi.gSub fo fi) := by
  refine PG.mono (pg_sub ho hi (pset_or set_list (set_dict (by omega))) ha) fun v σ H Q ⟨d, fr, S, m, r, rf, rs, p⟩ => ?_
  refine rd_bind rf rs p fun x S1 m1 H1 e1 rf1 rs1 p1 xv hx => ?_
  refine rd_bind rf1 rs1 p1 fun y S2 m2 H2 e2 rf2 rs2 p2 yv hy => ?_
  have e12 := e1.trans e2
  rcases look_put rs2 (hx.mono e2) hy (r.mono e12) (post_bind p2) with h | ⟨a, H', e0, g, S', m', e3, rs3, q⟩
  · left
    obtain ⟨p0, xs, k, j, h1, h2, h3, h4, S', m', e3, rs3, q⟩ := h
    exact ⟨p0, xs, k, j, h1, h2, h3, h4, q.here rs3 σ (rf2.mono e3)⟩
  · exact .inr ⟨a, H', e0, g, q.here rs3 σ (rf2.mono e3)⟩

/-! ### statements -/
theorem sss_nil : SSs X E [] sNx := PSs.mono pss_nil fun D σ H ⟨fr, S, m, rf, rs, p⟩ => p.here rs σ rf
theorem sss_cons {st : Stmt} {rest : List Stmt} {a b : SM} (h1 : SS X E st a) (h2 : SSs X E rest b) : SSs X E (st :: rest) (sSeq a b) := by
  refine PSs.mono (pss_cons h1 h2) fun D σ H ⟨fr, S, m, rf, rs, p⟩ => ?_
  refine ⟨fr, S, m, rf, rs, (post_bind p).imp fun o S1 m1 H1 e1 rs1 p1 => ?_⟩
  cases o with
  | nx fr' => exact fun σ' rf' => ⟨fr', S1, m1, rf', rs1, p1⟩
  | rt d => exact p1.here rs1
  | bk fr' => exact p1.here rs1
  | ct fr' => exact p1.here rs1
theorem sss_one {st : Stmt} {a : SM} (h1 : SS X E st a) : SSs X E [st] a := pss_one h1
theorem ss_asg {tg e : Expr} {fe : EM} {g : GM} (he : SE X E e fe) (hg : SG X E tg g) (hs : swapsWithSole [tg] e pos.line X.env = pure false := by rfl) (hw : swappedStores [tg] e X.env = pure none := by rfl)
    (h1 : (assignEach [tg] X.env).map (·.2) = [assign tg X.env] := by rfl) : SS X E (.Assign [tg] e pos) (sAsg fe g) := by
  refine PS.mono (ps_asg he hg hs hw h1) fun D σ H ⟨fr, S, m, rf, rs, p⟩ => ?_
  refine rd_bind rf rs p fun x S1 m1 H1 e1 rf1 rs1 p1 v hv => ?_
  exact ⟨x, fr, S1, m1, hv, rf1, rs1, (post_bind p1).imp fun fr' S2 m2 H2 e2 rs2 p2 => p2.here rs2⟩
theorem ss_set {i : Nat} {x : Str} {e : Expr} {fe : EM} {pos' : Pos} (hN : X.N.Nodup) (hi : X.N[i]? = some x) (hx : Loc X.env.scope x) (he : SE X E e fe) (hs : swapsWith e (some (.Name x pos')) pos.line X.env = pure false := by rfl) (hf : X.fn x = true ∨ X.env.scope.names.lookup x = some .local := by first | exact .inl rfl | exact .inr rfl | assumption) :
    SS X E (.Assign [.Name x pos'] e pos) (sAsg fe (Mi.gName i)) := by
  refine PS.mono (ps_set hN hi hx he hs hf) fun D σ H ⟨fr, S, m, rf, rs, p⟩ => ?_
  refine rd_bind rf rs p fun x S1 m1 H1 e1 rf1 rs1 p1 v hv => ?_
  exact (post_bind p1).here rs1 |>.here rs1 _ (rf1.set hv i)
theorem ss_par {i j : Nat} {x y : Str} {a b : Expr} {fa : AM} {px py pt : Pos} {kt k2 pt2} (hc : X.calm = true) (hN : X.N.Nodup) (hi : X.N[i]? = some x) (hj : X.N[j]? = some y) (hij : i ≠ j)
    (hx : X.env.scope.names.lookup x = some .local) (hy : X.env.scope.names.lookup y = some .local) (ha : SA X E [a, b] fa)
    (hw : swappedStores [.Tuple [.Name x px, .Name y py] kt pt] (.Tuple [a, b] k2 pt2) X.env = pure (some [x, y]))
    (hs : swapsWithSole [.Tuple [.Name x px, .Name y py] kt pt] (.Tuple [a, b] k2 pt2) pos.line X.env = pure false := by rfl) :
    SS X E (.Assign [.Tuple [.Name x px, .Name y py] kt pt] (.Tuple [a, b] k2 pt2) pos) (sPar i j fa) := by
  refine PS.mono (ps_par hc hN hi hj hij hx hy ha hw hs) fun D σ H ⟨fr, S, m, rf, rs, p⟩ => ?_
  refine rdA_bind rf rs p fun ds S1 m1 H1 e1 rf1 rs1 p1 vs hv => ?_
  split at p1
  · obtain ⟨v, w, rfl, h1, h2⟩ := rel2 hv
    exact ⟨v, w, rfl, p1.here rs1 _ ((rf1.set h1 i).set h2 j)⟩
  · exact p1.elim
theorem ss_augadd {i : Nat} {x : Str} {e : Expr} {fe : EM} {pos' : Pos} (hN : X.N.Nodup) (hi : X.N[i]? = some x) (hx : Loc X.env.scope x) (he : SE X E e fe) (hf : X.fn x = true ∨ X.env.scope.names.lookup x = some .local := by first | exact .inl rfl | exact .inr rfl | assumption) :
    SS X E (.AugAssign (.Name x pos') .Add e pos) (sAug i oAddI fe) := by
  refine PS.mono (ps_aug hN hi hx he ip_add hf) fun D σ H ⟨fr, S, m, rf, rs, p⟩ => ?_
  unfold sAug at p
  split at p
  · rename_i d hd
    obtain ⟨v, h1, h2⟩ := rf.get i d hd
    refine ⟨v, h1, rd_bind rf rs p fun y S1 m1 H1 e1 rf1 rs1 p1 w hw => ?_⟩
    have p2 := post_bind p1
    cases h2 <;> first | exact p2.elim | skip
    cases hw <;> first | exact p2.elim | skip
    exact ⟨_, _, rfl, rfl, (p2.here rs1).here rs1 _ (rf1.set (.int _) i)⟩
  · exact p.elim
theorem ss_expr {e : Expr} {fe : EM} (he : SE X E e fe) (hs : swapsWith e none pos.line X.env = pure false := by rfl) : SS X E (.Expr e pos) (sExp fe) := by
  refine PS.mono (ps_expr he hs) fun D σ H ⟨fr, S, m, rf, rs, p⟩ => ?_
  exact rd_bind rf rs p fun x S1 m1 H1 e1 rf1 rs1 p1 v hv => p1.here rs1 σ rf1
theorem ss_ret {e : Expr} {fe : EM} (he : SE X E e fe) : SS X E (.Return (some e) pos) (sRet fe) := by
  refine PS.mono (ps_ret he) fun D σ H ⟨fr, S, m, rf, rs, p⟩ => ?_
  exact rd_bind rf rs p fun x S1 m1 H1 e1 rf1 rs1 p1 v hv => p1.here rs1 v hv
theorem ss_retN : SS X E (.Return none pos) sRetN := PS.mono ps_retN fun D σ H ⟨fr, S, m, rf, rs, p⟩ => p.here rs _ .non
theorem ss_pass : SS X E (.Pass pos) sNx := PS.mono ps_pass fun D σ H ⟨fr, S, m, rf, rs, p⟩ => p.here rs σ rf
theorem ss_brk : SS X E (.Break pos) sBrk := PS.mono ps_break fun D σ H ⟨fr, S, m, rf, rs, p⟩ => p.here rs σ rf
theorem ss_cnt : SS X E (.Continue pos) sCnt := PS.mono ps_continue fun D σ H ⟨fr, S, m, rf, rs, p⟩ => p.here rs σ rf
theorem ss_bad {st : Stmt} : SS X E st sBad := PS.mono ps_never fun D σ H ⟨fr, S, m, rf, rs, p⟩ => p.elim
theorem ss_doc {x : Str} {j pos pos'} : SS X E (.Expr (.Constant (.str x) j pos) pos') sNx := PS.mono ps_doc fun D σ H ⟨fr, S, m, rf, rs, p⟩ => p.here rs σ rf
theorem ss_if {t : Expr} {a b : List Stmt} {ft : TM} {ga gb : SM} (ht : STt X E t ft) (ha : SSs X E a ga) (hb : SSs X E b gb) : SS X E (.If t a b pos) (sIf ft ga gb) := by
  refine PS.mono (ps_if ht ha hb) fun D σ H ⟨fr, S, m, rf, rs, p⟩ => ?_
  refine rdT_bind rf rs p fun k S1 m1 H1 e1 rf1 rs1 p1 => ?_
  cases k with
  | true => exact ⟨fr, S1, m1, rf1, rs1, p1⟩
  | false => exact ⟨fr, S1, m1, rf1, rs1, p1⟩

/-! ### what is walked -/
structure WalkD (c : Ct) (J : It) (I : Its) (m0 : List Addr) (H0 : Hp) : Prop where
  go : ∀ i m S H, i < I.items.length → Ext m0 H0 m H → RS c m S H → stands I.hs S → J.go i H
  stop : ∀ m S H, Ext m0 H0 m H → RS c m S H → stands I.hs S → J.stop I.items.length H
  yld : ∀ i m S H x H' d, I.items[i]? = some d → Ext m0 H0 m H → RS c m S H → stands I.hs S → J.yld i H x H' → Ext m H m H' ∧ RS c m S H' ∧ RelD c.K H' m d x
def rdI (c : Ct) (E : XK) (f : IM) : TI := fun σ H R => ∃ fr S m, RF c.K H m fr σ ∧ RS c m S H ∧ Post c E m H (f fr S) fun I _ m' H' => ∀ J, WalkD c J I m' H' → R J H'
abbrev SI (X : Cx) (E : XK) (tg e : Expr) (f : IM) : Prop := PI X tg e (rdI (cx X) E f)
theorem PI.mono {tg e : Expr} {t t' : TI} (h : PI X tg e t) (f : ∀ σ H R, t' σ H R → t σ H R) : PI X tg e t' := ⟨fun pins s σ H R I q => h.run pins s σ H R I (f σ H R q)⟩
theorem stand1 {n : Nat} {l : List D} {S : Store} (h : stands [(n, l)] S) : lstOf S n = some l := h (n, l) List.mem_cons_self
theorem walkd_list {c : Ct} {n : Nat} {a : Addr} {l : List D} {m0 : List Addr} {H0 : Hp} (ha : m0[n]? = some a) : WalkD c (Itl c.K a) ⟨l, [(n, l)]⟩ m0 H0 where
  go := fun i m S H hi e rs st => by
    obtain ⟨xs, h1, h2⟩ := rs.lst (e.mx _ _ ha) (stand1 st)
    obtain ⟨v, h3, _⟩ := h2.ix (List.getElem?_eq_getElem hi)
    exact ⟨xs, v, h1, h3⟩
  stop := fun m S H e rs st => by
    obtain ⟨xs, h1, h2⟩ := rs.lst (e.mx _ _ ha) (stand1 st)
    exact ⟨xs, h1, by rw [← h2.len]; exact Nat.le_refl _⟩
  yld := fun i m S H x H' d hd e rs st y => by
    obtain ⟨rfl, hy⟩ := y
    obtain ⟨xs, h1, h2⟩ := rs.lst (e.mx _ _ ha) (stand1 st)
    obtain ⟨v, h3, h4⟩ := h2.ix hd
    have := (hy xs h1).symm.trans h3
    cases this
    exact ⟨Ext.refl _ _, rs, h4⟩
theorem walkd_tup {c : Ct} {a : Addr} {l : List D} {xs : List V} {m0 : List Addr} {H0 : Hp} (hs : ∀ m H, Ext m0 H0 m H → SqT c.K H a xs) (r : RelL c.K H0 m0 l xs) : WalkD c (Itt c.K a) ⟨l, []⟩ m0 H0 where
  go := fun i m S H hi e rs st => by
    obtain ⟨v, h3, _⟩ := r.ix (List.getElem?_eq_getElem hi)
    exact ⟨xs, v, hs m H e, h3⟩
  stop := fun m S H e rs st => ⟨xs, hs m H e, by rw [← r.len]; exact Nat.le_refl _⟩
  yld := fun i m S H x H' d hd e rs st y => by
    obtain ⟨rfl, hy⟩ := y
    obtain ⟨v, h3, h4⟩ := r.ix hd
    have := (hy xs (hs m _ e)).symm.trans h3
    cases this
    exact ⟨Ext.refl _ _, rs, h4.mono e⟩
theorem walkd_str {c : Ct} {z : Tx} {m0 : List Addr} {H0 : Hp} : WalkD c (Its (sOf z)) ⟨z.map fun k => .str [k], []⟩ m0 H0 where
  go := fun i m S H hi e rs st => by
    have h : i < (z.map fun k => D.str [k]).length := hi
    rw [List.length_map] at h
    show i < z.toArray.size
    simpa using h
  stop := fun m S H e rs st => by
    show z.toArray.size ≤ (z.map fun k => D.str [k]).length
    simp
  yld := fun i m S H x H' d hd e rs st y => by
    obtain ⟨rfl, k, hk, rfl⟩ := y
    have h : (z.map fun k => D.str [k])[i]? = some d := hd
    have hk' : z[i]? = some k := by
      have : z.toArray[i]? = some k := hk
      simpa using this
    rw [List.getElem?_map, hk'] at h
    cases h
    exact ⟨Ext.refl _ _, rs, .str [k]⟩
theorem walkd_rng {c : Ct} {lo : Int} {n : Nat} {m0 : List Addr} {H0 : Hp} : WalkD c (Itr lo n) ⟨rng lo n, []⟩ m0 H0 where
  go := fun i m S H hi e rs st => by
    have h : i < (rng lo n).length := hi
    unfold rng at h
    rw [List.length_map, List.length_range] at h
    exact h
  stop := fun m S H e rs st => by
    show n ≤ (rng lo n).length
    unfold rng
    rw [List.length_map, List.length_range]
    exact Nat.le_refl _
  yld := fun i m S H x H' d hd e rs st y => by
    obtain ⟨rfl, rfl⟩ := y
    have h : (rng lo n)[i]? = some d := hd
    unfold rng at h
    rw [List.getElem?_map] at h
    obtain ⟨k, h1, h2⟩ := Option.map_eq_some_iff.mp h
    obtain ⟨h3, h4⟩ := List.getElem?_eq_some_iff.mp h1
    rw [List.getElem_range] at h4
    subst h4 h2
    exact ⟨Ext.refl _ _, rs, .int _⟩
theorem walkd_rngD {c : Ct} {hi : Int} {n : Nat} {m0 : List Addr} {H0 : Hp} : WalkD c (Itc hi (-1) n) ⟨(List.range n).map fun k => .int (hi - (k : Nat)), []⟩ m0 H0 where
  go := fun i m S H hi e rs st => by
    have h : i < ((List.range n).map fun k : Nat => D.int _).length := hi
    rw [List.length_map, List.length_range] at h
    exact h
  stop := fun m S H e rs st => by
    show n ≤ ((List.range n).map fun k : Nat => D.int _).length
    rw [List.length_map, List.length_range]
    exact Nat.le_refl _
  yld := fun i m S H x H' d hd e rs st y => by
    obtain ⟨rfl, rfl⟩ := y
    have h : ((List.range n).map fun k : Nat => D.int (hi - (k : Nat)))[i]? = some d := hd
    rw [List.getElem?_map] at h
    obtain ⟨k, h1, h2⟩ := Option.map_eq_some_iff.mp h
    obtain ⟨h3, h4⟩ := List.getElem?_eq_some_iff.mp h1
    rw [List.getElem_range] at h4
    subst h4 h2
    refine ⟨Ext.refl _ _, rs, ?_⟩
    have e : hi - (i : Int) = hi + (i : Int) * -1 := by omega
    rw [e]
    exact .int _
theorem prs_at : ∀ (l : List D) (k i : Nat), (prs k l)[i]? = l[i]?.map fun d => .tup [.int ((k + i : Nat) : Int), d]
  | [], k, i => by simp [prs]
  | d :: l, k, 0 => by simp [prs]
  | d :: l, k, i + 1 => by
    have h := prs_at l (k + 1) i
    show (prs (k + 1) l)[i]? = _
    rw [h]
    show _ = l[i]?.map _
    rw [show k + 1 + i = k + (i + 1) by omega]
theorem prs_len : ∀ (l : List D) (k : Nat), (prs k l).length = l.length
  | [], _ => rfl
  | d :: l, k => by
    show (prs (k + 1) l).length + 1 = l.length + 1
    rw [prs_len l (k + 1)]
theorem rel_pair {c : Ct} {m : List Addr} {S : Store} {H : Hp} {d e : D} {x y : V} {T : Addr} (rs : RS c m S H) (h : H T = none) (r1 : RelD c.K H m d x) (r2 : RelD c.K H m e y) : Ext m H m (upd H T (.tup [x, y])) ∧ RS c m S (upd H T (.tup [x, y])) ∧ RelD c.K (upd H T (.tup [x, y])) m (.tup [d, e]) (.ref T) := by
  have ex : Ext m H m (upd H T (.tup [x, y])) := ⟨⟨fun _ _ z => z, tstay_new h⟩, fstay_new h⟩
  exact ⟨ex, rs.fresh h, .tup upd_same (.cons (r1.mono ex) (.cons (r2.mono ex) .nil))⟩
theorem walkd_enum {c : Ct} {n : Nat} {a : Addr} {l : List D} {m0 : List Addr} {H0 : Hp} (ha : m0[n]? = some a) : WalkD c (Ite c.K a) ⟨prs 0 l, [(n, l)]⟩ m0 H0 where
  go := fun i m S H hi e rs st => by
    have h : i < (prs 0 l).length := hi
    rw [prs_len] at h
    obtain ⟨xs, h1, h2⟩ := rs.lst (e.mx _ _ ha) (stand1 st)
    obtain ⟨v, h3, _⟩ := h2.ix (List.getElem?_eq_getElem h)
    exact ⟨xs, v, h1, h3⟩
  stop := fun m S H e rs st => by
    obtain ⟨xs, h1, h2⟩ := rs.lst (e.mx _ _ ha) (stand1 st)
    refine ⟨xs, h1, ?_⟩
    show xs.length ≤ (prs 0 l).length
    rw [← h2.len, prs_len]
    exact Nat.le_refl _
  yld := fun i m S H x H' d hd e rs st y => by
    obtain ⟨T, w, rfl, hT, rfl, hy⟩ := y
    obtain ⟨xs, h1, h2⟩ := rs.lst (e.mx _ _ ha) (stand1 st)
    have h : (prs 0 l)[i]? = some d := hd
    rw [prs_at, Nat.zero_add] at h
    obtain ⟨d', h3, h4⟩ := Option.map_eq_some_iff.mp h
    subst h4
    obtain ⟨v, h5, h6⟩ := h2.ix h3
    have := (hy xs h1).symm.trans h5
    cases this
    exact rel_pair rs hT (.int _) h6
theorem walkd_zip {c : Ct} {n n' : Nat} {a a' : Addr} {l r : List D} {m0 : List Addr} {H0 : Hp} (ha : m0[n]? = some a) (ha' : m0[n']? = some a') : WalkD c (Itz c.K a a') ⟨List.zipWith (fun x y => .tup [x, y]) l r, [(n, l), (n', r)]⟩ m0 H0 where
  go := fun i m S H hi e rs st => by
    have h : i < (List.zipWith (fun x y => D.tup [x, y]) l r).length := hi
    rw [List.length_zipWith] at h
    obtain ⟨xs, h1, h2⟩ := rs.lst (e.mx _ _ ha) (st (n, l) List.mem_cons_self)
    obtain ⟨ys, h3, h4⟩ := rs.lst (e.mx _ _ ha') (st (n', r) (List.mem_cons_of_mem _ List.mem_cons_self))
    obtain ⟨v, h5, _⟩ := h2.ix (List.getElem?_eq_getElem (show i < l.length by omega))
    obtain ⟨w, h6, _⟩ := h4.ix (List.getElem?_eq_getElem (show i < r.length by omega))
    exact ⟨xs, ys, v, w, h1, h3, h5, h6⟩
  stop := fun m S H e rs st => by
    obtain ⟨xs, h1, h2⟩ := rs.lst (e.mx _ _ ha) (st (n, l) List.mem_cons_self)
    obtain ⟨ys, h3, h4⟩ := rs.lst (e.mx _ _ ha') (st (n', r) (List.mem_cons_of_mem _ List.mem_cons_self))
    refine ⟨xs, ys, h1, h3, ?_⟩
    show xs.length ≤ (List.zipWith (fun x y => D.tup [x, y]) l r).length ∨ ys.length ≤ (List.zipWith (fun x y => D.tup [x, y]) l r).length
    have q1 : l.length = xs.length := h2.len
    have q2 : r.length = ys.length := h4.len
    rw [List.length_zipWith, ← q1, ← q2]
    omega
  yld := fun i m S H x H' d hd e rs st y => by
    obtain ⟨T, w, w', rfl, hT, rfl, hy, hy'⟩ := y
    obtain ⟨xs, h1, h2⟩ := rs.lst (e.mx _ _ ha) (st (n, l) List.mem_cons_self)
    obtain ⟨ys, h3, h4⟩ := rs.lst (e.mx _ _ ha') (st (n', r) (List.mem_cons_of_mem _ List.mem_cons_self))
    have h : (List.zipWith (fun x y => D.tup [x, y]) l r)[i]? = some d := hd
    rw [List.getElem?_zipWith] at h
    cases hl : l[i]? with
    | none => rw [hl] at h; cases h
    | some d1 =>
      cases hr : r[i]? with
      | none => rw [hl, hr] at h; cases h
      | some d2 =>
        rw [hl, hr] at h
        cases h
        obtain ⟨v, h5, h6⟩ := h2.ix hl
        obtain ⟨v', h7, h8⟩ := h4.ix hr
        have e1 := (hy xs h1).symm.trans h5
        have e2 := (hy' ys h3).symm.trans h7
        cases e1
        cases e2
        exact rel_pair rs hT h6 h8
theorem walkd_rev {c : Ct} {n : Nat} {a : Addr} {l : List D} {m0 : List Addr} {H0 : Hp} (ha : m0[n]? = some a) : WalkD c (Itv c.K a l.length) ⟨l.reverse, [(n, l)]⟩ m0 H0 where
  go := fun i m S H hi e rs st => by
    have h : i < l.reverse.length := hi
    rw [List.length_reverse] at h
    obtain ⟨xs, h1, h2⟩ := rs.lst (e.mx _ _ ha) (stand1 st)
    obtain ⟨v, h3, _⟩ := h2.ix (List.getElem?_eq_getElem (show l.length - 1 - i < l.length by omega))
    exact ⟨h, xs, v, h1, h3⟩
  stop := fun m S H e rs st => by
    show l.length ≤ l.reverse.length
    rw [List.length_reverse]
    exact Nat.le_refl _
  yld := fun i m S H x H' d hd e rs st y => by
    obtain ⟨rfl, hy⟩ := y
    obtain ⟨xs, h1, h2⟩ := rs.lst (e.mx _ _ ha) (stand1 st)
    have h : l.reverse[i]? = some d := hd
    have hi := (List.getElem?_eq_some_iff.mp h).1
    rw [List.length_reverse] at hi
    rw [List.getElem?_reverse hi] at h
    obtain ⟨v, h3, h4⟩ := h2.ix h
    have := (hy xs h1).symm.trans h3
    cases this
    exact ⟨Ext.refl _ _, rs, h4⟩
/-! ### the walked thing by its syntax -/
theorem pi_seq {tg l : Expr} {tl : TE} (hl : PE X l tl) : PI X tg l (fun σ H R => tl σ H fun x H1 => (∃ a, x = .ref a ∧ (∃ xs, SqL X.K H1 a xs) ∧ R (Itl X.K a) H1) ∨ ∃ a, x = .ref a ∧ (∃ xs, SqT X.K H1 a xs) ∧ R (Itt X.K a) H1) := by
  refine ⟨fun pins s σ H R I h => ?_⟩
  refine thn (hl.run pins s σ H _ I h) fun v s1 ⟨x, H1, I1, r1, q1⟩ => ?_
  rcases q1 with ⟨a, e, ⟨xs, hq⟩, q⟩ | ⟨a, e, ⟨xs, hq⟩, q⟩
  · subst e
    cases r1
    obtain ⟨its, rv, p, hz⟩ := I1.list hq
    refine wpAny_pyIter_list p.isList ?_
    refine ⟨s1.heap.objs.size, [s1.heap.objs.size], _, _, H1, rfl, I1.kept (t' := s1.toks) fun b o e => Heap.get?_push_of_some _ e, turn_list a _, ⟨_, Heap.get?_push_size _ rfl, rfl, rfl⟩, fun b hb => ?_, q⟩
    have e : b = s1.heap.objs.size := by simpa using hb
    subst e
    exact I1.fpOk (Nat.le_refl _) (I1.hok.fresh (Nat.le_refl _))
  · subst e
    cases r1
    obtain ⟨its, rv, p, hz⟩ := I1.tuple hq
    refine wpAny_pyIter_tuple (show s1.heap.IsTuple a its.toArray from p) ?_
    refine ⟨s1.heap.objs.size, [s1.heap.objs.size], _, _, H1, rfl, I1.kept (t' := s1.toks) fun b o e => Heap.get?_push_of_some _ e, turn_tuple a _, ⟨_, Heap.get?_push_size _ rfl, rfl, rfl⟩, fun b hb => ?_, q⟩
    have e : b = s1.heap.objs.size := by simpa using hb
    subst e
    exact I1.fpOk (Nat.le_refl _) (I1.hok.fresh (Nat.le_refl _))
theorem si_seq {tg e : Expr} {fe : EM} (he : SE X E e fe) : SI X E tg e (Mi.iSeq fe) := by
  refine PI.mono (pi_seq he) fun σ H R ⟨fr, S, m, rf, rs, p⟩ => ?_
  refine rd_bind rf rs p fun x S1 m1 H1 e1 rf1 rs1 p1 v hv => ?_
  cases hv with
  | tup ha r => exact .inr ⟨_, rfl, ⟨_, .inl (.inl ha)⟩, p1.here rs1 _ (walkd_tup (fun m H e => .inl (.inl (e.ts _ _ (.inl ⟨_, rfl⟩) ha))) r)⟩
  | wtp ha r => exact .inr ⟨_, rfl, ⟨_, ha.sq⟩, p1.here rs1 _ (walkd_tup (fun m H e => (ha.mono e.ts).sq) r)⟩
  | ref ha =>
    dsimp only at p1
    split at p1
    · rename_i l hl
      obtain ⟨xs, h1, _⟩ := rs1.lst ha hl
      exact .inl ⟨_, rfl, ⟨xs, h1⟩, p1.here rs1 _ (walkd_list ha)⟩
    · exact p1.elim
  | _ => exact p1.elim
theorem si_str {tg e : Expr} {fe : EM} (he : SE X E e fe) : SI X E tg e (Mi.iStr fe) := by
  refine PI.mono (pi_str he) fun σ H R ⟨fr, S, m, rf, rs, p⟩ => ?_
  refine rd_bind rf rs p fun x S1 m1 H1 e1 rf1 rs1 p1 v hv => ?_
  cases hv with
  | str z => exact ⟨_, rfl, p1.here rs1 _ walkd_str⟩
  | _ => exact p1.elim
theorem si_rng1 {tg a : Expr} {fa : AM} {p pos : Pos} (hg : Gl X "range") (hm : X.mg "range" = none) (ha : SA X E [a] fa) (hs : starEach [a] X.env = [(false, eval a X.env)] := by rfl) : SI X E tg (.Call (.Name "range" p) [a] [] pos) (Mi.iRng1 fa) := by
  refine PI.mono (pi_range1 hg hm ha hs) fun σ H R ⟨fr, S, m, rf, rs, p⟩ => ?_
  refine rdA_bind rf rs p fun ds S1 m1 H1 e1 rf1 rs1 p1 vs hv => ?_
  split at p1
  · rename_i j
    obtain ⟨v, rfl, h⟩ := rel1 hv
    cases h
    split at p1
    · rename_i hj
      exact ⟨j, rfl, hj.1, hj.2, p1.here rs1 _ walkd_rng⟩
    · exact p1.elim
  · exact p1.elim
theorem si_rng2 {tg a b : Expr} {fa : AM} {p pos : Pos} (hg : Gl X "range") (hm : X.mg "range" = none) (ha : SA X E [a, b] fa) (hs : starEach [a, b] X.env = [(false, eval a X.env), (false, eval b X.env)] := by rfl) (hs2 : starEach [b] X.env = [(false, eval b X.env)] := by rfl) : SI X E tg (.Call (.Name "range" p) [a, b] [] pos) (Mi.iRng2 fa) := by
  refine PI.mono (pi_range2 hg hm ha hs hs2) fun σ H R ⟨fr, S, m, rf, rs, p⟩ => ?_
  refine rdA_bind rf rs p fun ds S1 m1 H1 e1 rf1 rs1 p1 vs hv => ?_
  split at p1
  · rename_i i j
    obtain ⟨v, w, rfl, h, h'⟩ := rel2 hv
    cases h
    cases h'
    split at p1
    · rename_i hj
      exact ⟨i, j, rfl, ⟨hj.1.1, hj.1.2, hj.2.1, hj.2.2⟩, p1.here rs1 _ walkd_rng⟩
    · exact p1.elim
  · exact p1.elim
theorem rel3 {K : PySem.W.Frag} {H : Hp} {m : List Addr} {d e f : D} {vs : List V} (h : RelL K H m [d, e, f] vs) : ∃ v w u, vs = [v, w, u] ∧ RelD K H m d v ∧ RelD K H m e w ∧ RelD K H m f u := by
  cases h with
  | cons h t =>
    obtain ⟨w, u, rfl, h2, h3⟩ := rel2 t
    exact ⟨_, w, u, rfl, h, h2, h3⟩
theorem si_rngD {tg a b d : Expr} {fa : AM} {p pos : Pos} (hg : Gl X "range") (hm : X.mg "range" = none) (ha : SA X E [a, b, d] fa) (hs : starEach [a, b, d] X.env = (false, eval a X.env) :: starEach [b, d] X.env := by rfl) (hpl : (backTo pos (starEach [b, d] X.env)).any (·.1) = false := by rfl) : SI X E tg (.Call (.Name "range" p) [a, b, d] [] pos) (Mi.iRngD fa) := by
  refine PI.mono (pi_range3 hg hm ha hs hpl) fun σ H R ⟨fr, S, m, rf, rs, p⟩ => ?_
  refine rdA_bind rf rs p fun ds S1 m1 H1 e1 rf1 rs1 p1 vs hv => ?_
  split at p1
  · rename_i i j k
    obtain ⟨v, w, u, rfl, h, h', h''⟩ := rel3 hv
    cases h
    cases h'
    cases h''
    split at p1
    · rename_i hj
      obtain ⟨h1, h2, rfl⟩ := hj
      exact ⟨i, j, -1, _, rfl, RgC.neg h1.1 h1.2 h2.1 h2.2, p1.here rs1 _ walkd_rngD⟩
    · exact p1.elim
  · exact p1.elim
theorem si_enum {e : Expr} {fe : AM} {p pos tpos : Pos} {elts : List Expr} {kk : Nat} (hg : Gl X "enumerate") (hm : X.mg "enumerate" = none) (ha : SA X E [e] fe) (hs : starEach [e] X.env = [(false, eval e X.env)] := by rfl) : SI X E (.Tuple elts kk tpos) (.Call (.Name "enumerate" p) [e] [] pos) (Mi.iEnum fe) := by
  refine PI.mono (pi_enum hg hm ha hs) fun σ H R ⟨fr, S, m, rf, rs, p⟩ => ?_
  refine rdA_bind rf rs p fun ds S1 m1 H1 e1 rf1 rs1 p1 vs hv => ?_
  split at p1
  · obtain ⟨v, rfl, h⟩ := rel1 hv
    cases h with
    | ref ha =>
      split at p1
      · rename_i l hl
        obtain ⟨xs, h1, _⟩ := rs1.lst ha hl
        exact ⟨_, xs, rfl, h1, p1.here rs1 _ (walkd_enum ha)⟩
      · exact p1.elim
  · exact p1.elim
theorem si_zip {e e2 : Expr} {fe : AM} {p pos tpos : Pos} {elts : List Expr} {kk : Nat} (hg : Gl X "zip") (hm : X.mg "zip" = none) (ha : SA X E [e, e2] fe) (hs : starEach [e, e2] X.env = (false, eval e X.env) :: starEach [e2] X.env := by rfl) (hpl : (backTo pos (starEach [e2] X.env)).any (·.1) = false := by rfl) : SI X E (.Tuple elts kk tpos) (.Call (.Name "zip" p) [e, e2] [] pos) (Mi.iZip fe) := by
  refine PI.mono (pi_zip hg hm ha hs hpl) fun σ H R ⟨fr, S, m, rf, rs, p⟩ => ?_
  refine rdA_bind rf rs p fun ds S1 m1 H1 e1 rf1 rs1 p1 vs hv => ?_
  split at p1
  · obtain ⟨v, w, rfl, h, h'⟩ := rel2 hv
    cases h with
    | ref ha =>
      cases h' with
      | ref ha' =>
        split at p1
        · rename_i l r hl hr
          obtain ⟨xs, h1, _⟩ := rs1.lst ha hl
          obtain ⟨ys, h2, _⟩ := rs1.lst ha' hr
          exact ⟨_, _, xs, ys, rfl, h1, h2, p1.here rs1 _ (walkd_zip ha ha')⟩
        · exact p1.elim
  · exact p1.elim
theorem si_rev {tg e : Expr} {fe : AM} {p pos : Pos} (hg : Gl X "reversed") (hm : X.mg "reversed" = none) (ha : SA X E [e] fe) (hs : starEach [e] X.env = [(false, eval e X.env)] := by rfl) : SI X E tg (.Call (.Name "reversed" p) [e] [] pos) (Mi.iRev fe) := by
  refine PI.mono (pi_reversed hg hm ha hs) fun σ H R ⟨fr, S, m, rf, rs, p⟩ => ?_
  refine rdA_bind rf rs p fun ds S1 m1 H1 e1 rf1 rs1 p1 vs hv => ?_
  split at p1
  · obtain ⟨v, rfl, h⟩ := rel1 hv
    cases h with
    | ref ha =>
      split at p1
      · rename_i l hl
        obtain ⟨xs, h1, h2⟩ := rs1.lst ha hl
        exact ⟨_, xs, rfl, h1, p1.here rs1 _ (by rw [← h2.len]; exact walkd_rev ha)⟩
      · exact p1.elim
  · exact p1.elim

/-! ### loops -/
theorem ss_for {tg iter : Expr} {body : List Stmt} {fi : IM} {g : GM} {b : SM} (hp : PassesOwn (model X.prog X.w) X.A X.env X.xe) (hc : X.calm = true) (hi : SI X E tg iter fi) (hg : SG X E tg g) (hb : SSs X E body b)
    (hs : ∀ x, foldedSetIterable iter X.env x = pure x := by intro _; rfl) : SS X E (.For tg iter body [] pos) (sFor fi g b) := by
  refine PS.mono (ps_for hp hc hi hg hb hs) fun D σ H ⟨fr, S, m, rf, rs, p⟩ => ?_
  refine ⟨fr, S, m, rf, rs, (post_bind p).imp fun I S1 m1 H1 e1 rs1 p1 J w => ?_⟩
  refine ⟨fun i k σ' H' => i ≤ I.items.length ∧ k = I.items.length - i ∧ ∃ fr' S' m', Ext m1 H1 m' H' ∧ RF X.K H' m' fr' σ' ∧ RS (cx X) m' S' H' ∧ Post (cx X) E m' H' (loopM I.hs (fun d fr S => (g d fr S).bind fun fr' S' => b fr' S') (I.items.drop i) fr' S') (kS (cx X) D),
    ⟨I.items.length, Nat.zero_le _, rfl, fr, S1, m1, Ext.refl _ _, rf.mono e1, rs1, p1⟩, fun i k σ' H' hw => ?_⟩
  obtain ⟨hi', hk, fr', S', m', e2, rf2, rs2, p2⟩ := hw
  by_cases hlt : i < I.items.length
  · have hd : I.items.drop i = I.items[i] :: I.items.drop (i + 1) := List.drop_eq_getElem_cons hlt
    rw [hd] at p2
    unfold loopM at p2
    split at p2
    · rename_i st
      have st := of_dec st
      refine .inr ⟨w.go i m' S' H' hlt e2 rs2 st, fun σ2 H2 => ∃ fr2 S2 m2, Ext m1 H1 m2 H2 ∧ RF X.K H2 m2 fr2 σ2 ∧ RS (cx X) m2 S2 H2 ∧ Post (cx X) E m2 H2 (loopM I.hs (fun d fr S => (g d fr S).bind fun fr' S' => b fr' S') (I.items.drop (i + 1)) fr2 S2) (kS (cx X) D),
        fun σ2 H2 q => ⟨I.items.length - (i + 1), by omega, by omega, rfl, q⟩, fun x H'' y => ?_⟩
      obtain ⟨e3, rs3, r3⟩ := w.yld i m' S' H' x H'' _ (List.getElem?_eq_getElem hlt) e2 rs2 st y
      refine ⟨_, fr', S', m', r3, rf2.mono e3, rs3, (post_bind (post_bind p2)).ext e3 |>.imp fun fr2 S2 m2 H2 e4 rs4 p4 σ2 rf4 => ?_⟩
      refine ⟨fr2, S2, m2, rf4, rs4, p4.imp fun o S3 m3 H3 e5 rs5 p5 => ?_⟩
      have ee : Ext m1 H1 m3 H3 := ((e2.trans e3).trans e4).trans e5
      cases o with
      | nx fr3 => exact fun σ3 rf5 => ⟨fr3, S3, m3, ee, rf5, rs5, p5⟩
      | ct fr3 => exact fun σ3 rf5 => ⟨fr3, S3, m3, ee, rf5, rs5, p5⟩
      | bk fr3 => exact p5.here rs5
      | rt d => exact p5.here rs5
    · exact p2.elim
  · have e : i = I.items.length := by omega
    subst e
    rw [List.drop_length] at p2
    unfold loopM at p2
    split at p2
    · rename_i st
      exact .inl ⟨w.stop m' S' H' e2 rs2 (of_dec st), p2.here rs2 σ' rf2⟩
    · exact p2.elim
theorem ss_while {t : Expr} {body : List Stmt} {ft : TM} {b : SM} (hp : PassesOwn (model X.prog X.w) X.A X.env X.xe) (ht : STt X E t ft) (hb : SSs X E body b) : SS X E (.While t body [] pos) (sWhile ft b) := by
  refine PS.mono (ps_while hp ht hb) fun D σ H ⟨fr, S, m, rf, rs, p⟩ => ?_
  unfold sWhile at p
  split at p
  · rename_i hex
    refine ⟨fun k σ' H' => ∃ fr' S' m', RF X.K H' m' fr' σ' ∧ RS (cx X) m' S' H' ∧ Post (cx X) E m' H' (whileN ft b k fr' S') (kS (cx X) D), ⟨_, fr, S, m, rf, rs, p⟩, fun k σ' H' hw => ?_⟩
    obtain ⟨fr', S', m', rf2, rs2, p2⟩ := hw
    cases k with
    | zero => exact p2.elim
    | succ k =>
      unfold whileN at p2
      refine rdT_bind rf2 rs2 p2 fun c S1 m1 H1 e1 rf1 rs1 p1 => ?_
      cases c with
      | true =>
        refine ⟨fun σ2 H2 => ∃ fr2 S2 m2, RF X.K H2 m2 fr2 σ2 ∧ RS (cx X) m2 S2 H2 ∧ Post (cx X) E m2 H2 (whileN ft b k fr2 S2) (kS (cx X) D), fun σ2 H2 q => ⟨k, Nat.lt_succ_self k, q⟩, fr', S1, m1, rf1, rs1, (post_bind p1).imp fun o S3 m3 H3 e5 rs5 p5 => ?_⟩
        cases o with
        | nx fr3 => exact fun σ3 rf5 => ⟨fr3, S3, m3, rf5, rs5, p5⟩
        | ct fr3 => exact fun σ3 rf5 => ⟨fr3, S3, m3, rf5, rs5, p5⟩
        | bk fr3 => exact p5.here rs5
        | rt d => exact p5.here rs5
      | false => exact p1.here rs1 σ' rf1
  · exact p.elim

/-! ### comprehensions -/
theorem wipe_get {σ : L2.St} : ∀ {vs : List Nat} (j : Nat), (wipe σ vs)[j]? = if j ∈ vs ∧ j < σ.length then some none else σ[j]?
  | [], j => by simp [wipe]
  | v :: vs, j => by
    unfold wipe
    by_cases e : v = j
    · subst e
      by_cases h : v < σ.length
      · rw [List.getElem?_set_self (by rw [wipe_length]; exact h), if_pos ⟨List.mem_cons_self, h⟩]
      · rw [if_neg fun z => h z.2, List.getElem?_eq_none (by rw [List.length_set, wipe_length]; omega), List.getElem?_eq_none (by omega)]
    · rw [List.getElem?_set_ne e, wipe_get j]
      by_cases h : j ∈ vs ∧ j < σ.length
      · rw [if_pos h, if_pos ⟨List.mem_cons_of_mem _ h.1, h.2⟩]
      · rw [if_neg h, if_neg fun z => h ⟨(List.mem_cons.mp z.1).resolve_left (Ne.symm e), z.2⟩]
theorem wipe_of {σ τ : L2.St} {vs : List Nat} (hl : τ.length = σ.length) (h : ∀ j, j ∉ vs → τ[j]? = (wipe σ vs)[j]?) : wipe τ vs = wipe σ vs := by
  refine List.ext_getElem? fun j => ?_
  rw [wipe_get]
  by_cases hj : j ∈ vs ∧ j < τ.length
  · rw [if_pos hj, wipe_get, if_pos ⟨hj.1, by rw [← hl]; exact hj.2⟩]
  · rw [if_neg hj]
    by_cases hv : j ∈ vs
    · have : ¬ j < τ.length := fun z => hj ⟨hv, z⟩
      rw [List.getElem?_eq_none (by omega), List.getElem?_eq_none (by rw [wipe_length]; omega)]
    · exact h j hv
/-- a target that stores nothing but at the slots vs -/
def GOnly (c : Ct) (vs : List Nat) (g : TG) (gm : GM) : Prop := ∀ (x : V) (d : D) (fr : Fr) (S : Store) (m : List Addr) (σ : L2.St) (H : Hp) (E : XK) (k : Fr → Store → List Addr → Hp → Prop) (Q : L2.St → Hp → Prop),
  RelD c.K H m d x → RF c.K H m fr (wipe σ vs) → RS c m S H → Post c E m H (gm d fr S) k → (∀ fr' σ2, RF c.K H m fr' σ2 → wipe σ2 vs = wipe σ vs → k fr' S m H → Q σ2 H) → g x (wipe σ vs) H Q
theorem gonly_name {c : Ct} {i : Nat} {vs : List Nat} (hi : i ∈ vs) : GOnly c vs (L2.gName i) (Mi.gName i) := by
  intro x d fr S m σ H E k Q r rf rs p h
  refine h _ _ (rf.set r i) (wipe_of (by rw [List.length_set, wipe_length]) fun j hj => ?_) (p.here rs)
  rw [List.getElem?_set_ne (fun e => hj (by rw [← e]; exact hi))]
theorem gonly_two {c : Ct} {i j : Nat} {vs : List Nat} (hi : i ∈ vs) (hj : j ∈ vs) : GOnly c vs (fun v σ H Q => L2.gTup c.K 2 (L2.gCons (L2.gName i) (L2.gCons (L2.gName j) L2.gNil)) v σ H Q ∨ gUnl c.K 2 (L2.gCons (L2.gName i) (L2.gCons (L2.gName j) L2.gNil)) v σ H Q) (Mi.gTup 2 (Mi.gCons (Mi.gName i) (Mi.gCons (Mi.gName j) Mi.gNil))) := by
  intro x d fr S m σ H E k Q r rf rs p h
  unfold Mi.gTup at p
  split at p
  · rename_i l hl
    split at p
    · rename_i hlen
      match l, hlen with
      | [a, b], _ =>
        obtain ⟨ad, xs, rfl, h1, h2⟩ := seq_rel rs r hl
        obtain ⟨v, w, rfl, h3, h4⟩ := rel2 h2
        have fin := h _ _ ((rf.set h3 i).set h4 j) (wipe_of (by rw [List.length_set, List.length_set, wipe_length]) fun j' hj' => by
          rw [List.getElem?_set_ne (fun e => hj' (by rw [← e]; exact hj)), List.getElem?_set_ne (fun e => hj' (by rw [← e]; exact hi))]) (p.here rs)
        rcases h1 with h1 | h1
        · exact .inr ⟨ad, _, rfl, h1, rfl, v, [w], rfl, w, [], rfl, rfl, fin⟩
        · exact .inl ⟨ad, _, rfl, h1, rfl, v, [w], rfl, w, [], rfl, rfl, fin⟩
    · exact p.elim
  · exact p.elim
theorem lc_rd {c : Ct} {vs : List Nat} {fi : IM} {g : TG} {gm : GM} {ft : TM} {fe : EM} (ho : GOnly c vs g gm) {σ : L2.St} {H : Hp} {Q : VK} (h : rdE c E (mLc vs fi gm ft fe) σ H Q) : tLc (rdI c E fi) g (rdT c EF ft) (rdE c EF fe) vs σ H Q := by
  obtain ⟨fr, S, m, rf, rs, p⟩ := h
  refine ⟨fr, S, m, rf, rs, (post_bind p).imp fun I S1 m1 H1 e1 rs1 p1 J w Dl hDl => ?_⟩
  obtain ⟨rs2, e2⟩ := rs1.push (o := .lst []) (u := .lst []) hDl ⟨[], upd_same, .nil⟩
  have hn : ∀ {m'' : List Addr} {H'' : Hp}, Ext (m1 ++ [Dl]) (upd H1 Dl (.lst [])) m'' H'' → m''[S1.length]? = some Dl := fun e => e.mx _ _ (by rw [← rs1.len, List.getElem?_append_right (Nat.le_refl _), Nat.sub_self]; rfl)
  refine ⟨fun i k H' => i ≤ I.items.length ∧ k = I.items.length - i ∧ ∃ S' m', Ext (m1 ++ [Dl]) (upd H1 Dl (.lst [])) m' H' ∧ RS c m' S' H' ∧ Post c E m' H' (lcLoop I.hs S1.length gm (fun fr S => quiet (ft fr S)) (fun fr S => quiet (fe fr S)) (unset vs fr) (I.items.drop i) S') (kE c Q),
    ⟨I.items.length, Nat.zero_le _, rfl, S1 ++ [.lst []], _, Ext.refl _ _, rs2, (show _ from by rw [List.drop_zero]; exact Post.ext p1 e2)⟩, fun i k H' hw => ?_⟩
  obtain ⟨hi', hk, S', m', e3, rs3, p3⟩ := hw
  have e13 : Ext m1 H1 m' H' := e2.trans e3
  have rfw : RF c.K H' m' (unset vs fr) (wipe σ vs) := ((rf.mono (e1.trans e13)).unset vs)
  by_cases hlt : i < I.items.length
  · have hd : I.items.drop i = I.items[i] :: I.items.drop (i + 1) := List.drop_eq_getElem_cons hlt
    rw [hd] at p3
    unfold lcLoop at p3
    split at p3
    · rename_i st
      have st := of_dec st
      refine .inr ⟨w.go i m' S' H' hlt e13 rs3 st, fun H2 => ∃ S2 m2, Ext (m1 ++ [Dl]) (upd H1 Dl (.lst [])) m2 H2 ∧ RS c m2 S2 H2 ∧ Post c E m2 H2 (lcLoop I.hs S1.length gm (fun fr S => quiet (ft fr S)) (fun fr S => quiet (fe fr S)) (unset vs fr) (I.items.drop (i + 1)) S2) (kE c Q),
        fun H2 q => ⟨I.items.length - (i + 1), by omega, by omega, rfl, q⟩, fun x H'' y => ?_⟩
      obtain ⟨e4, rs4, r4⟩ := w.yld i m' S' H' x H'' _ (List.getElem?_eq_getElem hlt) e13 rs3 st y
      refine ho x _ (unset vs fr) S' m' σ H'' E _ _ r4 (rfw.mono e4) rs4 ((post_bind p3).ext e4) fun fr2 σ2 rf2 hw2 p5 => ⟨hw2, ?_⟩
      refine ⟨fr2, S', m', rf2, rs4, (post_quiet (post_bind p5)).imp fun b S6 m6 H6 e6 rs6 p6 => ?_⟩
      have e36 : Ext (m1 ++ [Dl]) (upd H1 Dl (.lst [])) m6 H6 := (e3.trans e4).trans e6
      cases b with
      | true =>
        refine ⟨fr2, S6, m6, rf2.mono e6, rs6, (post_quiet (post_bind p6)).imp fun z S7 m7 H7 e7 rs7 p7 zv hz => ?_⟩
        have e37 := e36.trans e7
        split at p7
        · rename_i acc hacc
          obtain ⟨ys, h1, h2⟩ := rs7.mlst (hn e37) hacc
          split at p7
          · rename_i hl
            obtain ⟨rs8, e8⟩ := rs7.set (o' := .lst (acc ++ [z])) (u := .lst (ys ++ [zv])) (hn e37) hacc trivial trivial fun e => ⟨_, upd_same, (h2.mono e).app (.one (hz.mono e))⟩
            exact ⟨ys, h1, by rw [← h2.len, line_eq]; exact hl, _, m7, e37.trans e8, rs8, p7.ext e8⟩
          · exact p7.elim
        · exact p7.elim
      | false => exact ⟨S6, m6, e36, rs6, p6⟩
    · exact p3.elim
  · have e : i = I.items.length := by omega
    subst e
    rw [List.drop_length] at p3
    unfold lcLoop at p3
    split at p3
    · rename_i st
      exact .inl ⟨w.stop m' S' H' e13 rs3 (of_dec st), p3.here rs3 _ (.ref (hn e3))⟩
    · exact p3.elim
/-- a context of a comprehension's block -/
abbrev Blk (X : Cx) (scope : Scope) (P : Cx → Prop) : Prop := ∀ (s : Shared) (H : Hp) (C : Addr) (cl : List (Str × Addr)) (fp : List Addr), P (X.blk s H scope (compEnvC scope cl C X.env) fp)
theorem sts_nil {X : Cx} : PTs X [] (rdT (cx X) EF Mi.tYes) := ⟨fun pins s σ H Q I ⟨fr, S, m, rf, rs, p⟩ => pts_nil.run pins s σ H Q I (p.here rs)⟩
theorem sts_one {X : Cx} {t : Expr} {ft : TM} (h : STt X EF t ft) : PTs X [t] (rdT (cx X) EF ft) := pts_one h
theorem se_lc {elt tg iter : Expr} {ifs : List Expr} {scope : Scope} {own : List (Str × Nat)} {fi : IM} {g : TG} {gm : GM} {ft : TM} {fe : EM} (hc : X.calm = true) (hN : X.N.Nodup) (hi : SI X E tg iter fi) (ok : BlkOk X.N X.env.scope scope own) (ho : GOnly (cx X) (own.map (·.2)) g gm)
    (hg : Blk X scope fun Y => PG Y tg g) (ht : Blk X scope fun Y => PTs Y ifs (rdT (cx X) EF ft)) (he : Blk X scope fun Y => PE Y elt (rdE (cx X) EF fe)) (hs : ∀ x, foldedSetIterable iter X.env x = pure x := by intro _; rfl) : SE X E (.ListComp elt [⟨tg, iter, ifs, 0⟩] scope pos) (mLc (own.map (·.2)) fi gm ft fe) :=
  PE.mono (pe_lc hc hN hi ok hg ht he hs) fun σ H Q h => lc_rd ho h
theorem ss_setLc {i : Nat} {y : Str} {py spos : Pos} {elt tg iter : Expr} {ifs : List Expr} {scope : Scope} {own : List (Str × Nat)} {fi : IM} {g : TG} {gm : GM} {ft : TM} {fe : EM} (hc : X.calm = true) (hN : X.N.Nodup) (hy : X.N[i]? = some y) (hyl : X.env.scope.names.lookup y = some .local)
    (hsw : swapsWith (.ListComp elt [⟨tg, iter, ifs, 0⟩] scope pos) (some (.Name y py)) spos.line X.env = pure true) (hi : SI X E tg iter fi) (ok : BlkOk X.N X.env.scope scope own) (ho : GOnly (cx X) (own.map (·.2)) g gm)
    (hg : Blk X scope fun Y => PG Y tg g) (ht : Blk X scope fun Y => PTs Y ifs (rdT (cx X) EF ft)) (he : Blk X scope fun Y => PE Y elt (rdE (cx X) EF fe)) (hs : ∀ x, foldedSetIterable iter X.env x = pure x := by intro _; rfl) : SS X E (.Assign [.Name y py] (.ListComp elt [⟨tg, iter, ifs, 0⟩] scope pos) spos) (sAsg (mLc (own.map (·.2)) fi gm ft fe) (Mi.gName i)) := by
  refine PS.mono (ps_setLc hc hN hy hyl hsw hi ok hg ht he hs) fun D σ H ⟨fr, S, m, rf, rs, p⟩ => ?_
  refine lc_rd ho (rd_bind rf rs p fun x S1 m1 H1 e1 rf1 rs1 p1 v hv => ?_)
  exact (post_bind p1).here rs1 |>.here rs1 _ (rf1.set hv i)
end

/-! ### a def -/
theorem start_rel {c : Ct} {H : Hp} {m : List Addr} {N : List Str} {ds : List D} {vs : List V} (r : RelL c.K H m ds vs) : RF c.K H m (startF N.length ds) (L2.start N vs) := by
  unfold startF L2.start
  have hl := r.len
  refine ⟨by rw [List.length_append, List.length_append, List.length_map, List.length_map, List.length_replicate, List.length_replicate, hl], fun i d e => ?_⟩
  by_cases h : i < ds.length
  · rw [List.getElem?_append_left (by rw [List.length_map]; exact h), List.getElem?_map] at e
    obtain ⟨d', h1, h2⟩ := Option.map_eq_some_iff.mp e
    cases h2
    obtain ⟨v, h3, h4⟩ := r.ix h1
    exact ⟨v, by rw [List.getElem?_append_left (by rw [List.length_map, ← hl]; exact h), List.getElem?_map, h3]; rfl, h4⟩
  · rw [List.getElem?_append_right (by rw [List.length_map]; omega)] at e
    obtain ⟨h1, h2⟩ := List.getElem?_eq_some_iff.mp e
    rw [List.getElem_replicate] at h2
    cases h2
section
variable {P : Program} {w : World} {K : PySem.W.Frag} {mg : Str → Option Value} {base : Heap}
theorem fn_ok {x qual : Str} {st : Stmt} {f : Addr} {fd : FuncData} {N ps : List Str} {k : Nat} {b : SM} (F : Fun K x qual st f fd) (S : FnScope N ps (defScope st))
    (hb : ∀ (cdv : Value) (A : Around) (outer : List Env) (s : Shared) (H : Hp) (E : XK), Room k (A.deeper (envOfC qual (defScope st) s.heap.objs.size f cdv)) → SSs (cxOf CX0 P w K mg base N qual (defScope st) f cdv A outer s H E).nox EF (defBody st) b) :
    FnOk P w K mg base CX0 (k + 1) f fd ps (spM ⟨K, mg⟩ (mDef ps.length N.length b)) := by
  refine F.ok S (fun vs H Q E h => ?_) (fun cdv A outer s H vs Q E hr h => ?_)
  · obtain ⟨ds, S', m, r, rs, p⟩ := h
    have p := post_quiet (E' := E) p
    unfold mDefX at p
    split at p
    · rename_i hl
      rw [← r.len]; exact hl
    · exact p.elim
  · obtain ⟨ds, S', m, r, rs, p⟩ := h
    have p := post_quiet (E' := EF) p
    unfold mDefX at p
    split at p
    · refine ⟨_, hb cdv A outer s H E hr, startF N.length ds, S', m, start_rel (c := ⟨K, mg⟩) r, rs, (post_bind p).imp fun o S1 m1 H1 e1 rs1 p1 => ?_⟩
      cases o with
      | nx fr => exact fun σ rf => p1.here rs1 _ .non
      | rt d => exact fun v hv => p1.here rs1 v hv
      | bk fr => exact p1.elim
      | ct fr => exact p1.elim
    · exact p.elim
end
end Sm

set_option Elab.async false
set_option linter.all false
set_option maxRecDepth 100000
set_option maxHeartbeats 2000000
/-! readings by the small language: texts, a few words more -/
namespace Sm
open PySem PySem.Spec PyProof.Rows L2 Mi
theorem hu65 {A : Around} {k : Nat} (hr : Room k A) : A.units + 65 < cLine := by
  have := hr.un
  omega
section
variable {X : Cx} {E : XK}
theorem txs_rel {K : PySem.W.Frag} {H : Hp} {m : List Addr} : ∀ {l : List D} {xs : List V} {ns : List Tx}, RelL K H m l xs → txsOf l = some ns → xs = (ns.map sOf).map V.str
  | _, _, _, .nil, e => by simp only [txsOf, Option.some.injEq] at e; subst e; rfl
  | _, _, ns, .cons (d := d) h t, e => by
    cases h <;> simp only [txsOf, reduceCtorEq] at e
    obtain ⟨r, e1, e2⟩ := Option.map_eq_some_iff.mp e
    subst e2
    rw [List.map_cons, List.map_cons, ← txs_rel t e1]
theorem tl_sOf (a : Tx) : TL.tl (sOf a) = a := by
  show a.toArray.toList = a
  simp
theorem joinL_T (a : Tx) : ∀ ys : List Tx, TL.joinL a ys = joinT a ys
  | [] => rfl
  | [_] => rfl
  | x :: y :: r => by
    show x ++ (a ++ TL.joinL a (y :: r)) = x ++ a ++ joinT a (y :: r)
    rw [joinL_T a (y :: r), List.append_assoc]
theorem join_sOf (a : Tx) (ys : List Tx) : Txt.join (sOf a) (ys.map sOf) = sOf (joinT a ys) := by
  have h : TL.tl (Txt.join (sOf a) (ys.map sOf)) = joinT a ys := by
    rw [TL.join_eq, TL.tl_join, tl_sOf, List.map_map, show TL.tl ∘ sOf = id from funext tl_sOf, List.map_id, joinL_T]
  have e : Txt.join (sOf a) (ys.map sOf) = sOf (TL.tl (Txt.join (sOf a) (ys.map sOf))) := by
    show _ = Str.mk _
    simp [TL.tl]
  rw [e, h]
theorem mm_join : MtMm X E "str.join" sJoin := by
  refine ⟨_, mt_join, fun x ds v vs S m H Q rs hv hvs p => ?_⟩
  unfold sJoin at p
  cases hv with
  | str a =>
    dsimp only at p
    split at p
    · rename_i d
      obtain ⟨w, rfl, hw⟩ := rel1 hvs
      split at p
      · rename_i ys hys
        split at p
        · rename_i hl
          obtain ⟨l, h1, h2⟩ := Option.bind_eq_some_iff.mp hys
          obtain ⟨ad, xs, rfl, h3, h4⟩ := seq_rel rs hw h1
          have e := txs_rel h4 h2
          subst e
          refine ⟨sOf a, ad, ys.map sOf, rfl, rfl, h3, ?_, ?_⟩
          · have e1 : ((ys.map sOf).map (·.length)) = ys.map List.length := by
              rw [List.map_map]
              exact List.map_congr_left fun y _ => sOf_len y
            rw [e1, List.length_map, sOf_len]
            exact hl
          · rw [join_sOf]
            exact p.here rs _ (.str _)
        · exact p.elim
      · exact p.elim
    · exact p.elim
  | _ => exact p.elim
theorem mm_sindex : MtMm X E "str.index" sIndex := by
  refine ⟨_, mt_sindex, fun x ds v vs S m H Q rs hv hvs p => ?_⟩
  unfold sIndex at p
  cases hv with
  | str a =>
    dsimp only at p
    split at p
    · rename_i b
      obtain ⟨w, rfl, hw⟩ := rel1 hvs
      cases hw
      split at p
      · rename_i i r hr
        exact ⟨sOf a, sOf b, i, r, rfl, rfl, hr, post_int rs p⟩
      · exact p.elim
    · exact p.elim
  | _ => exact p.elim
/-- reversed(range(n)) -/
theorem si_revrng {tg a : Expr} {fa : EM} {p p2 pos pos2 : Pos} (hg : Gl X "reversed") (hm : X.mg "reversed" = none) (hg2 : Gl X "range") (hm2 : X.mg "range" = none) (ha : SE X E a fa)
    (na : starEach [a] X.env = (false, eval a X.env) :: starEach [] X.env := by rfl) (hs : starEach [.Call (.Name "range" p2) [a] [] pos2] X.env = (false, eval (.Call (.Name "range" p2) [a] [] pos2) X.env) :: starEach [] X.env := by rfl) :
    SI X E tg (.Call (.Name "reversed" p) [.Call (.Name "range" p2) [a] [] pos2] [] pos) (iRevR fa) := by
  refine PI.mono (pi_revR hg hm (prg_1 hg2 hm2 ha na) hs) fun σ H R ⟨fr, S, m, rf, rs, p⟩ => ?_
  refine rd_bind rf rs p fun x S1 m1 H1 e1 rf1 rs1 p1 v hv => ?_
  cases hv with
  | int j =>
    dsimp only at p1
    split at p1
    · rename_i hj
      refine ⟨j, rfl, by decide, by decide, hj.1, hj.2, ?_⟩
      have q := p1.here rs1 (Itc (0 + (((j - 0).toNat : Nat) : Int) - 1) (-1) (j - 0).toNat)
      refine q ?_
      rw [Int.sub_zero, Int.zero_add]
      exact walkd_rngD
    · exact p1.elim
  | _ => exact p1.elim
end
end Sm
namespace Sm
open PySem PySem.Spec PyProof.Rows L2 Mi
/-- the law's own promise: on the script it answers True -/
def spLaw (K : PySem.W.Frag) : Sp := fun vs H Q _ => ∃ (a : Addr) (ns : List Int), vs = [.ref a] ∧ SqL K H a (ns.map V.int) ∧ Only H ∧ ns.length ≤ 63 ∧ ∀ H', Q (.bl true) H'
theorem rel_ints {K : PySem.W.Frag} {H : Hp} {m : List Addr} : ∀ ns : List Int, RelL K H m (ns.map D.int) (ns.map V.int)
  | [] => .nil
  | n :: ns => .cons (.int n) (rel_ints ns)
theorem law_sp {K : PySem.W.Frag} {mg : Str → Option Value} {g : Fn} (pure : ∀ ns : List Int, ns.length ≤ 63 → ∃ S, g [.ref 0] [.fls (ns.map D.int)] = .ok (.bl true) S) :
    ∀ (vs : List V) (H : Hp) (Q : VK) (E : XK), spLaw K vs H Q E → spM ⟨K, mg⟩ g vs H Q E := by
  intro vs H Q E h
  obtain ⟨a, ns, rfl, hS, hO, hl, q⟩ := h
  obtain ⟨S, e⟩ := pure ns hl
  refine ⟨[.ref 0], [.fls (ns.map D.int)], [a], .cons (.ref rfl) .nil, ⟨rfl, fun n b o h1 h2 => ?_, fun n n' b o o' h1 h2 h3 h4 l1 l2 => ?_⟩, ?_⟩
  · cases n with
    | succ n => cases h1
    | zero =>
      cases h1
      cases h2
      refine ⟨ns.map V.int, ?_, rel_ints ns⟩
      rcases hS with (h | ⟨ob, h⟩) | h
      · rcases hO a with z | ⟨ob, xs, z⟩
        · rw [z] at h; cases h
        · rw [z] at h; cases h
      · exact .inl ⟨ob, h⟩
      · exact .inr (.inr h)
  · cases n with
    | succ n => cases h1
    | zero => cases h3; exact l1.elim
  · rw [e]
    intro m' H' _ _ v hv
    cases hv
    exact q H'
end Sm

set_option Elab.async false
set_option linter.all false
set_option maxRecDepth 100000
set_option maxHeartbeats 2000000
/-! more steps against the layer -/
namespace Sm
open PySem PySem.Spec PyProof.Rows L2 Mi
section
variable {X : Cx} {E : XK} {pos : Pos}
/-! ### a dict written with its pairs -/
def trP (c : Ct) (E : XK) (ps : List (EM × EM)) : List (TE × TE) := ps.map fun p => (rdE c E p.1, rdE c E p.2)
structure RelP (K : PySem.W.Frag) (H : Hp) (m : List Addr) (p : D × D) (q : V × V) : Prop where
  fst : RelD K H m p.1 q.1
  snd : RelD K H m p.2 q.2
theorem rdPs_bind {c : Ct} {α : Type} : ∀ (ps : List (EM × EM)) {fr : Fr} {S : Store} {m : List Addr} {σ : L2.St} {H : Hp} {Q : List (V × V) → Hp → Prop} {h : List (D × D) → Store → Res α} {kk : α → Store → List Addr → Hp → Prop},
    RF c.K H m fr σ → RS c m S H → Post c E m H ((mPairs ps fr S).bind h) kk →
    (∀ d S1 m1 H1, Ext m H m1 H1 → RF c.K H1 m1 fr σ → RS c m1 S1 H1 → Post c E m1 H1 (h d S1) kk → ∀ v, Paired (RelP c.K H1 m1) d v → Q v H1) → tPairs (trP c E ps) σ H Q
  | [], fr, S, m, σ, H, Q, h, kk, rf, rs, p, n => n [] S m H (Ext.refl m H) rf rs p [] .nil
  | (a, b) :: r, fr, S, m, σ, H, Q, h, kk, rf, rs, p, n => by
    have p' : Post c E m H ((a fr S).bind fun x S1 => (b fr S1).bind fun y S2 => (mPairs r fr S2).bind fun ps S3 => h ((x, y) :: ps) S3) kk := by
      have e : (mPairs ((a, b) :: r) fr S).bind h = (a fr S).bind fun x S1 => (b fr S1).bind fun y S2 => (mPairs r fr S2).bind fun ps S3 => h ((x, y) :: ps) S3 := by
        show ((a fr S).bind fun x S1 => (b fr S1).bind fun y S2 => (mPairs r fr S2).bind fun ps S3 => .ok ((x, y) :: ps) S3).bind h = _
        rw [Res.bind_assoc]
        congr 1; funext x S1
        rw [Res.bind_assoc]
        congr 1; funext y S2
        rw [Res.bind_assoc]
        rfl
      rw [← e]; exact p
    refine rd_bind rf rs p' fun x S1 m1 H1 e1 rf1 rs1 p1 v hv => ?_
    refine rd_bind rf1 rs1 p1 fun y S2 m2 H2 e2 rf2 rs2 p2 w hw => ?_
    refine rdPs_bind r rf2 rs2 p2 fun d S3 m3 H3 e3 rf3 rs3 p3 vs hvs => ?_
    exact n _ S3 m3 H3 (e1.trans (e2.trans e3)) rf3 rs3 p3 _ (.cons ⟨hv.mono (e2.trans e3), hw.mono e3⟩ hvs)
theorem kvs_of {K : PySem.W.Frag} {H : Hp} {m : List Addr} : ∀ {ps : List (D × D)} {vs : List (V × V)} {kvs : List (Ky × D)}, Paired (RelP K H m) ps vs → kvsM ps = some kvs → ∃ kws : List (Key × V), vs = kws.map (fun kv => (kV kv.1, kv.2)) ∧ Paired (fun a b => b.1 = kyK a.1 ∧ RelD K H m a.2 b.2) kvs kws
  | [], _, kvs, .nil, e => by
    obtain rfl := Option.some.inj e
    exact ⟨[], rfl, .nil⟩
  | (k, v) :: r, _, kvs, .cons hp ht, e => by
    unfold kvsM at e
    cases hk : kyOf k with
    | none => rw [hk] at e; cases e
    | some q =>
      rw [hk, Option.bind_some] at e
      obtain ⟨l, e1, rfl⟩ := Option.map_eq_some_iff.mp e
      obtain ⟨kws, rfl, rk⟩ := kvs_of ht e1
      have hk2 := ky_of hp.fst hk
      rename_i qv
      refine ⟨(kyK q, qv.2) :: kws, ?_, .cons ⟨rfl, hp.snd⟩ rk⟩
      rw [List.map_cons]
      congr 1
      show qv = (kV (kyK q), qv.2)
      rw [← hk2]
theorem merge_rel {K : PySem.W.Frag} {H : Hp} {m : List Addr} : ∀ {kvs : List (Ky × D)} {kws : List (Key × V)} {acc : List (Ky × D)} {acw : List (Key × V)}, Paired (fun a b => b.1 = kyK a.1 ∧ RelD K H m a.2 b.2) kvs kws → RelK K H m kyK acc acw → RelK K H m kyK (kvs.foldl (fun acc kv => dPut acc kv.1 kv.2) acc) (mergeK acw kws)
  | [], _, _, _, .nil, r => r
  | kv :: l, _, acc, acw, .cons (b := b) h t, r => by
    have q := RelK.put (fun _ _ => kyK_inj) r kv.1 h.2
    rw [← h.1] at q
    have z := merge_rel (kvs := l) t q
    exact z
theorem se_dis {keys : List (Option Expr)} {values : List Expr} {ps : List (EM × EM)} (h : PPs X pos keys values (trP (cx X) E ps)) (hall : keys.all (·.isSome) = true) (hl : keys.length = values.length) (h0 : keys ≠ []) (h15 : keys.length ≤ 15) : SE X E (.Dict keys values pos) (mDis ps) := by
  refine PE.mono (pe_disp h hall hl h0 h15) fun σ H Q ⟨fr, S, m, rf, rs, p⟩ a ha => ?_
  obtain ⟨rs0, e0⟩ := rs.push (o := .dK []) (u := .dK []) ha ⟨[], upd_same, .nil⟩
  refine rdPs_bind ps (rf.mono e0) rs0 (p.ext e0) fun d S1 m1 H1 e1 rf1 rs1 p1 vs hvs => ?_
  have hm : m1[S.length]? = some a := e1.mx _ _ (by rw [← rs.len, List.getElem?_append_right (Nat.le_refl _), Nat.sub_self]; rfl)
  unfold disK at p1
  split at p1
  · rename_i _ _ kvs hk hs
    split at p1
    · rename_i h15'
      obtain ⟨kw, h1, h2⟩ := rs1.ob _ a _ hm hs
      cases h2
      obtain ⟨kws, rfl, rk⟩ := kvs_of hvs hk
      obtain ⟨rs2, e2⟩ := rs1.set (o' := .dK (putM kvs)) (u := .dK (mergeK [] kws)) hm hs trivial trivial fun e => ⟨_, upd_same, RelK.mono e (merge_rel rk .nil)⟩
      refine ⟨h1, kws, rfl, by rw [← Paired.length rk]; exact h15', ?_⟩
      exact p1 _ _ e2 rs2 _ (.ref hm)
    · exact p1.elim
  · exact p1.elim
theorem sps_nil : PPs X pos [] [] (trP (cx X) E []) := pps_nil
theorem sps_cons {k v : Expr} {ks : List (Option Expr)} {vs : List Expr} {a b : EM} {r : List (EM × EM)} (hk : SE X E k a) (hv : SE X E v b) (hr : PPs X pos ks vs (trP (cx X) E r)) : PPs X pos (some k :: ks) (v :: vs) (trP (cx X) E ((a, b) :: r)) := pps_cons hk hv hr
end
end Sm

set_option Elab.async false
set_option linter.all false
set_option maxRecDepth 100000
set_option maxHeartbeats 2000000
/-! texts against the layer -/
namespace Sm
open PySem PySem.Spec PyProof.Rows L2 Mi
section
variable {X : Cx} {E : XK} {pos : Pos}
theorem spl_C (c : Nat) : ∀ (l acc : Tx), TL.spl [c] 0 acc l = spC c acc l
  | [], acc => TL.spl_nil _ _ _
  | d :: r, acc => by
    by_cases h : d = c
    · subst h
      rw [TL.spl_hit (by simp [TL.pre]), spC, if_pos rfl]
      exact congrArg _ (spl_C d r [])
    · rw [TL.spl_miss (by simp [TL.pre, h]), spC, if_neg h]
      exact spl_C c r _
theorem par_C (c : Nat) : ∀ (l acc : Tx), TL.par [c] acc l = paC c acc l
  | [], acc => rfl
  | d :: r, acc => by
    by_cases h : d = c
    · subst h
      rw [TL.par_hit (by simp [TL.pre]), paC, if_pos rfl]
      rfl
    · rw [TL.par_miss (by simp [TL.pre, h]), paC, if_neg h]
      exact par_C c r _
theorem tl_s (a : Tx) : TL.tl (sOf a) = a := by simp [TL.tl, sOf]
theorem split_C (a : Tx) (c : Nat) (hc : c < 256) : Txt.split (sOf a) (sOf [c]) = (spC c [] a).map sOf := by
  refine TL.map_tl_inj ?_
  rw [TL.split_spl _ _ (by rw [tl_s]; simp) (TL.kind_ok (by simp [sOf, hc])), tl_s, tl_s, spl_C, List.map_map, show TL.tl ∘ sOf = id from funext tl_s, List.map_id]
theorem strs_rel {K : PySem.W.Frag} {H : Hp} {m : List Addr} : ∀ ys : List Tx, RelL K H m (ys.map D.str) ((ys.map sOf).map V.str)
  | [] => .nil
  | y :: ys => .cons (.str y) (strs_rel ys)
theorem mm_split : MtMm X E "str.split" sSplit := by
  refine ⟨_, mt_split, fun x ds v vs S m H Q rs hv hvs p => ?_⟩
  unfold sSplit at p
  cases hv with
  | str a =>
    dsimp only at p
    split at p
    · rename_i c
      obtain ⟨w, rfl, hw⟩ := rel1 hvs
      cases hw
      split at p
      · rename_i hc
        refine ⟨sOf a, sOf [c], rfl, rfl, rfl, by rw [sOf_len, line_eq]; exact hc.2, ?_⟩
        intro ad hp
        rw [split_C a c hc.1]
        exact post_new rs p hp fun e => ⟨_, upd_same, strs_rel _⟩
      · exact p.elim
    · exact p.elim
  | _ => exact p.elim
theorem mm_partition : MtMm X E "str.partition" sPartition := by
  refine ⟨_, mt_partition, fun x ds v vs S m H Q rs hv hvs p => ?_⟩
  unfold sPartition at p
  cases hv with
  | str a =>
    dsimp only at p
    split at p
    · rename_i c
      obtain ⟨w, rfl, hw⟩ := rel1 hvs
      cases hw
      split at p
      · rename_i hl
        refine ⟨sOf a, sOf [c], rfl, rfl, rfl, by rw [sOf_len, line_eq]; exact hl, ?_⟩
        intro ad hp
        have e := TL.partition_par (sOf a) (sOf [c]) (by rw [tl_s]; simp)
        rw [tl_s, tl_s, par_C] at e
        rw [e]
        split at p
        · rename_i x y hx
          rw [hx]
          exact post_tup rs p hp (.cons (.str _) (.cons (.str _) (.cons (.str _) .nil)))
        · rename_i hx
          rw [hx]
          exact post_tup rs p hp (.cons (.str _) (.cons (.str _) (.cons (.str _) .nil)))
      · exact p.elim
    · exact p.elim
  | _ => exact p.elim
theorem num_s {i : Int} (h : 0 ≤ i) : (Str.ofString (toString i)) = sOf (numT i.toNat) := by
  refine TL.ext_tl ?_
  rw [tl_s]
  have := TL.tl_num i.toNat
  rw [Int.toNat_of_nonneg h] at this
  exact this
theorem post_str {c : Ct} {m : List Addr} {H : Hp} {S : Store} {Q : VK} {i : Tx} (rs : RS c m S H) (p : Post c E m H (.ok (.str i) S) (kE c Q)) : Q (.str (sOf i)) H := p.here rs _ (.str i)
theorem cm_str : CallM X E (.type "str") bStr := by
  refine ⟨_, callr_or call_str_int SkE.call_str_str, fun ds vs S m H Q rs hv p => ?_⟩
  unfold bStr at p
  split at p
  · rename_i i
    obtain ⟨v, rfl, h⟩ := rel1 hv
    cases h
    split at p
    · rename_i hi
      refine .inl ⟨i, rfl, hi.2, ?_⟩
      rw [num_s hi.1]
      exact post_str rs p
    · exact p.elim
  · rename_i s
    obtain ⟨v, rfl, h⟩ := rel1 hv
    cases h
    exact .inr ⟨sOf s, rfl, post_str rs p⟩
  · exact p.elim
theorem cm_intS : CallM X E (.type "int") bIntS := by
  refine ⟨_, call_int_str, fun ds vs S m H Q rs hv p => ?_⟩
  unfold bIntS at p
  split at p
  · rename_i s
    obtain ⟨v, rfl, h⟩ := rel1 hv
    cases h
    split at p
    · rename_i hs
      refine ⟨sOf s, (digV s : Nat), rfl, ?_, by rw [sOf_len]; exact hs.2.2, post_int rs p⟩
      have e : (sOf s).cps.toList = s := by simp [sOf]
      have q := intText_digits (x := sOf s) (by
        rw [e]
        intro c hc
        have := List.all_eq_true.mp hs.1 c hc
        simpa [isDig] using this) (by rw [e]; exact hs.2.1) (by rw [sOf_len]; have := hs.2.2; omega)
      rw [e] at q
      exact q
    · exact p.elim
  · exact p.elim
/-! ### a text so often -/
theorem mul_S (a : Tx) (n : Nat) : Txt.mul (sOf a) (n : Int) = sOf (List.replicate n a).flatten := by
  refine TL.ext_tl ?_
  rw [tl_s]
  unfold Txt.mul
  have fold : ∀ (k : Nat) (acc : Array Nat), ((List.replicate k (sOf a).cps).foldl (· ++ ·) acc).toList = acc.toList ++ (List.replicate k a).flatten := by
    intro k
    induction k with
    | zero => intro acc; simp
    | succ k ih =>
      intro acc
      rw [List.replicate_succ, List.foldl_cons, ih, List.replicate_succ, List.flatten_cons, Array.toList_append]
      simp [sOf]
  by_cases h0 : n = 0
  · subst h0
    rw [if_pos (by decide)]
    rfl
  · rw [if_neg (by omega)]
    split
    · rename_i h
      simp only [Bool.or_eq_true, beq_iff_eq] at h
      rcases h with h | h
      · have : n = 1 := by omega
        subst this
        rw [tl_s]; simp
      · have : a = [] := by rw [sOf_len] at h; exact List.length_eq_zero_iff.mp h
        subst this
        rw [tl_s]
        simp
    · show ((List.replicate (n : Int).toNat (sOf a).cps).foldl (· ++ ·) #[]).toList = _
      rw [Int.toNat_natCast, fold]
      simp
def rMulS : R2 := fun x y H Q => ∃ (a : Str) (k : Int), x = .str a ∧ y = .int k ∧ a.length ≤ 16 ∧ 0 ≤ k ∧ k ≤ ((1048576 : Nat) : Int) ∧ Q (.str (Txt.mul a k)) H
theorem op_mulS : OpR X (binaryOp .Mult) rMulS := by
  intro pins s σ H x y v u Q I rx ry q
  obtain ⟨a, k, rfl, rfl, h1, h2, h3, q⟩ := q
  obtain ⟨t, rfl⟩ := rx
  obtain ⟨t', rfl⟩ := ry
  exact PySem.W.KXi.mul rfl h1 (by omega) h3 fun t' k' _ _ => ⟨.str (Txt.mul a k), H, I.tok _, ⟨_, rfl⟩, q⟩
theorem om_mulS : OpM X E (binaryOp .Mult) oMulS := by
  refine ⟨_, op_mulS, fun x y v u S m H Q rs hv hw p => ?_⟩
  cases hv with
  | str a => cases hw with
    | int k =>
      unfold oMulS at p
      dsimp only at p
      split at p
      · rename_i h
        refine ⟨sOf a, k, rfl, rfl, by rw [sOf_len]; exact h.1, h.2.1, h.2.2, ?_⟩
        have e := mul_S a k.toNat
        rw [Int.toNat_of_nonneg h.2.1] at e
        rw [e]
        exact post_str rs p
      · exact p.elim
    | _ => exact p.elim
  | _ => exact p.elim
/-! ### f-strings -/
theorem se_fmt {e : Expr} {f : EM} (h : SE X E e f) : SE X E (.FormattedValue e (-1) none pos) (mUn fmtD f) := by
  refine PE.mono (pe_fmt h) fun σ H Q ⟨fr, S, m, rf, rs, p⟩ => ?_
  refine rd_bind rf rs p fun x S1 m1 H1 e1 rf1 rs1 p1 v hv => ?_
  unfold fmtD at p1
  cases hv with
  | str s =>
    dsimp only at p1
    split at p1
    · rename_i hl
      exact .inl ⟨sOf s, rfl, by rw [sOf_len, line_eq]; exact hl, post_str rs1 p1⟩
    · exact p1.elim
  | int i =>
    dsimp only at p1
    split at p1
    · rename_i hi
      refine .inr ⟨i, rfl, hi.2, ?_⟩
      rw [num_s hi.1]
      exact post_str rs1 p1
    · exact p1.elim
  | _ => exact p1.elim
def trJ (c : Ct) (E : XK) (l : List EM) : List TE := l.map fun f => rdE c E f
theorem app_sOf (a b : Tx) : sOf a ++ sOf b = sOf (a ++ b) := by
  refine TL.ext_tl ?_
  rw [TL.tl_append, tl_s, tl_s, tl_s]
theorem rdJ {c : Ct} : ∀ (l : List EM) (acc : Tx) {fr : Fr} {S : Store} {m : List Addr} {σ : L2.St} {H : Hp} {Q : VK},
    RF c.K H m fr σ → RS c m S H → Post c E m H (mJs l acc fr S) (kE c Q) → tJs (trJ c E l) (sOf acc) σ H fun out H1 => Q (.str out) H1
  | [], acc, fr, S, m, σ, H, Q, rf, rs, p => post_str rs p
  | f :: r, acc, fr, S, m, σ, H, Q, rf, rs, p => by
    refine rd_bind rf rs p fun x S1 m1 H1 e1 rf1 rs1 p1 v hv => ?_
    cases hv with
    | str s =>
      dsimp only at p1
      split at p1
      · rename_i hl
        refine ⟨sOf s, rfl, by rw [app_sOf, sOf_len, line_eq]; exact hl, ?_⟩
        rw [app_sOf]
        exact rdJ r (acc ++ s) rf1 rs1 p1
      · exact p1.elim
    | _ => exact p1.elim
theorem se_fst {v1 v2 : Expr} {rest : List Expr} {l : List EM} (h : PJ X (v1 :: v2 :: rest) (trJ (cx X) E l)) : SE X E (.JoinedStr (v1 :: v2 :: rest) pos) (mFst l) := by
  refine PE.mono (pe_joined h) fun σ H Q ⟨fr, S, m, rf, rs, p⟩ => ?_
  exact rdJ (c := cx X) l [] rf rs p
theorem sj_nil : PJ X [] (trJ (cx X) E []) := .nil
theorem sj_cons {e : Expr} {f : EM} {es : List Expr} {l : List EM} (h : SE X E e f) (r : PJ X es (trJ (cx X) E l)) : PJ X (e :: es) (trJ (cx X) E (f :: l)) := .cons h r
end
end Sm

set_option Elab.async false
set_option linter.all false
set_option maxRecDepth 100000
set_option maxHeartbeats 2000000
/-! == of a dict and a text; upper -/
namespace Sm
open PySem PySem.Spec PyProof.Rows L2 Mi
theorem dict_eq_declines_text (l : Addr) (o : Obj) (es : _) (ep : _) (hd : o.data = .dict es ep) (hc : o.cls = .type "dict") (b : Str) (u : Tok) :
    Meets (Builtin.«dict.__eq__» ⟨[.ref l, .str b u], []⟩) (fun _ R s => s.heap.get? l = some o ∧ R (.ok (.ret .notImplemented)) s) :=
  .of_wp fun prog w A R s h => by
    obtain ⟨hp, g, d, tk, os⟩ := s
    obtain ⟨hl, h⟩ := h
    have f1 := F.sub_str_dict
    obtain ⟨cls, dd, data, sl⟩ := o
    simp only at hd hc
    subst hd hc
    wp_walk using wpAny_loadPart' hl
    exact ⟨_, rfl, h⟩
theorem text_eq_declines_dict (b : Str) (u : Tok) (l : Addr) (o : Obj) (es : _) (ep : _) (hd : o.data = .dict es ep) :
    Meets (Builtin.«str.__eq__» ⟨[.str b u, .ref l], []⟩) (fun _ R s => s.heap.get? l = some o ∧ R (.ok (.ret .notImplemented)) s) :=
  .of_wp fun prog w A R s h => by
    obtain ⟨hp, g, d, tk, os⟩ := s
    obtain ⟨hl, h⟩ := h
    obtain ⟨cls, dd, data, sl⟩ := o
    simp only at hd
    subst hd
    wp_walk using wpAny_loadPart' hl, wpAny_load hl
    exact ⟨_, rfl, h⟩
theorem rc_dict_text {A : Around} {s : Shared} {l : Addr} {o : Obj} {es : _} {ep : _} (b : Str) (u : Tok) (ho : s.heap.get? l = some o) (hd : o.data = .dict es ep) (hc : o.cls = .type "dict") (hu : A.units < cLine) : SeqAt.RcAt A s (.ref l) (.str b u) false := fun prog w E Q h => by
  have ty : s.TypeIs (.ref l) "dict" := ⟨o, ho, hc⟩
  exact SeqAt.rc_eq_decline_or (k := false) ty (typeIs_str s b u) (by decide) F.sub_str_dict F.slot_dict_eq F.slot_str_eq_refl
    (fun _ hq => call_meets F.slot_dict_eq ty F.entry_dict_eq (F.args_dict_eq_2 _ _) (dict_eq_declines_text l o es ep hd hc b u) ⟨ho, hq⟩)
    (fun _ hq => call_meets F.slot_str_eq_refl (typeIs_str s b u) F.entry_str_eq (F.args_str_eq_2 _ _) (text_eq_declines_dict b u l o es ep hd) ⟨ho, hq⟩)
    (fun _ hq => wpAny_of_eq (rfl : isSame (.ref l) (.str b u) = pure false) hq) (.inr hu) h
section
variable {X : Cx} {E : XK} {pos : Pos}
def rDT : R2 := fun x y H Q => ∃ (a : Addr) (b : Str) (kvs : List (Key × V)), x = .ref a ∧ y = .str b ∧ H a = some (.dK kvs) ∧ Q (.bl false) H
theorem op_eqDT (hu : X.A.units < cLine) : OpR X (compareOp .Eq) rDT := by
  intro pins s σ H x y v u Q I rx ry q
  obtain ⟨a, b, kvs, rfl, rfl, e, q⟩ := q
  obtain rfl : v = Value.ref a := rx
  obtain ⟨t, rfl⟩ := ry
  obtain ⟨_, _, vs, _, o, es, ep, ho, ed, hd, _⟩ := dk_of I.hok e
  exact rc_dict_text b t ho hd ed.1 hu _ _ _ _ ⟨.bl false, H, I, rfl, q⟩
theorem om_eqX (hu : X.A.units + 65 < cLine) : OpM X E (compareOp .Eq) oEqX := by
  obtain ⟨r, h1, h2⟩ := om_eq (X := X) (E := E) hu
  refine ⟨_, opr_or h1 (op_eqDT (by omega)), fun x y v u S m H Q rs hv hw p => ?_⟩
  unfold oEqX at p
  split at p
  · rename_i n s
    split at p
    · rename_i kvs hs
      cases hv with
      | ref ha =>
        cases hw with
        | str s =>
          obtain ⟨kw, h3, h4⟩ := rs.ob _ _ _ ha hs
          exact .inr ⟨_, _, kw, rfl, rfl, h3, post_bl rs p⟩
    · exact .inl (h2 _ _ _ _ S m H Q rs hv hw p)
  · exact .inl (h2 _ _ _ _ S m H Q rs hv hw p)
theorem up_six : ∀ s ∈ sixW, Txt.upper (sOf s) = sOf (s.map fun c => c - 32) := by
  intro s hs
  simp only [sixW, List.mem_cons, List.not_mem_nil, or_false] at hs
  rcases hs with rfl | rfl | rfl | rfl | rfl | rfl <;> decide +kernel
theorem mm_upper : MtMm X E "str.upper" sUpper := by
  refine ⟨_, mt_upper, fun x ds v vs S m H Q rs hv hvs p => ?_⟩
  unfold sUpper at p
  cases hv with
  | str a =>
    dsimp only at p
    split at p
    · cases hvs
      split at p
      · rename_i h
        refine ⟨sOf a, rfl, rfl, ?_, ?_⟩
        · rw [sOf_len]
          have : ∀ s ∈ sixW, s.length ≤ 5592405 := by decide
          exact this a h
        · rw [up_six a h]; exact post_str rs p
      · exact p.elim
    · exact p.elim
  | _ => exact p.elim
/-! ### tuples of any size -/
theorem om_addA : OpM X E (binaryOp .Add) oAddA := by
  obtain ⟨r, h1, h2⟩ := om_add (X := X) (E := E)
  refine ⟨_, opr_or h1 op_catA, fun x y v u S m H Q rs hv hw p => ?_⟩
  unfold oAddA at p
  split at p
  · rename_i a b
    split at p
    · rename_i hl
      cases hv with
      | @tup _ ad xs ha r1 =>
        cases hw with
        | @tup _ bd ys hb r2 =>
          refine .inr ⟨ad, bd, xs, ys, rfl, rfl, .inl (.inl ha), .inl (.inl hb), by rw [← r1.len, ← r2.len, line_eq]; exact hl, fun z => ?_, fun _ z => ?_, fun _ _ q hq => post_tup rs p hq (r1.app r2)⟩
          · have e : a = [] := List.length_eq_zero_iff.mp (by rw [r1.len, z]; rfl)
            subst e
            exact p.here rs _ (.tup hb r2)
          · have e : b = [] := List.length_eq_zero_iff.mp (by rw [r2.len, z]; rfl)
            subst e
            rw [List.append_nil] at p
            exact p.here rs _ (.tup ha r1)
    · exact p.elim
  · exact .inl (h2 _ _ _ _ S m H Q rs hv hw p)
theorem slmA : SlM X E oSlA := by
  obtain ⟨r, h1, h2⟩ := slm (X := X) (E := E)
  refine ⟨_, slr_or h1 sl_tupA, fun x lo hi v S m H Q rs hv p => ?_⟩
  unfold oSlA at p
  split at p
  · rename_i l
    cases hv with
    | @tup _ ad xs ha r1 =>
      refine .inr ⟨ad, xs, rfl, .inl (.inl ha), fun z => ?_, fun _ q hq => post_tup rs p hq (cut_rel r1 lo hi)⟩
      have e : cut l lo hi = l := by
        unfold cut
        have z1 : sIx l.length 0 lo = 0 := by rw [r1.len]; exact z.1
        have z2 : sIx l.length l.length hi = l.length := by rw [r1.len]; exact z.2
        rw [z1, z2, List.drop_zero, Nat.sub_zero, List.take_length]
      rw [e] at p
      exact p.here rs _ (.tup ha r1)
  · exact .inl (h2 _ _ _ _ S m H Q rs hv p)
theorem se_slA {a : Expr} {fa : EM} {lo hi : Option Expr} {fl fh : PM} {p2 : Pos} (o : SlM X E oSlA) (ha : SE X E a fa) (hl : SO X E lo fl) (hh : SO X E hi fh) : SE X E (.Subscript a (.Slice lo hi none p2) pos) (mSlA fa fl fh) := by
  obtain ⟨r, ho, hr⟩ := o
  refine PE.mono (pe_slice ho ha hl hh) fun σ H Q ⟨fr, S, m, rf, rs, p⟩ => ?_
  refine rd_bind rf rs p fun x S1 m1 H1 e1 rf1 rs1 p1 v hv => ?_
  refine rdP_bind rf1 rs1 p1 fun l S2 m2 H2 e2 rf2 rs2 p2 => ?_
  refine rdP_bind rf2 rs2 p2 fun h S3 m3 H3 e3 rf3 rs3 p3 => ?_
  exact hr x l h v S3 m3 H3 Q rs3 ((hv.mono e2).mono e3) p3
end
end Sm

set_option Elab.async false
set_option linter.all false
set_option maxRecDepth 100000
/-! x[::s] with s = -1 -/
namespace Sm
open PySem PySem.Spec PyProof.Rows L2 Mi
theorem range_pick {α : Type} (l : List α) : (List.range l.length).filterMap (fun k => l[k]?) = l := by
  induction l with
  | nil => rfl
  | cons x r ih =>
    rw [List.length_cons, List.range_succ_eq_map, List.filterMap_cons]
    simp only [List.getElem?_cons_zero, List.filterMap_map]
    exact congrArg (x :: ·) ih
theorem fm_congr {α β : Type} {l : List α} {f g : α → Option β} (h : ∀ k, k ∈ l → f k = g k) : l.filterMap f = l.filterMap g := by
  induction l with
  | nil => rfl
  | cons x r ih => rw [List.filterMap_cons, List.filterMap_cons, h x (by simp), ih fun k hk => h k (List.mem_cons_of_mem _ hk)]
theorem pick_rev (its : List Value) : slicePick its.toArray none none (some (-1)) = its.reverse.toArray := by
  have e : (sliceRange ((its.length : Int) - 1) (-1) (-1)).filterMap (fun k => its[k]?) = its.reverse := by
    unfold sliceRange
    have hc : (if ((its.length : Int) - 1) > -1 then (((its.length : Int) - 1) - (-1) - (-1) - 1) / (-(-1)) else 0 : Int) = its.length := by
      split
      · show ((its.length : Int) - 1 - -1 - -1 - 1) / 1 = _
        rw [Int.ediv_one]; omega
      · omega
    rw [if_neg (by decide), hc]
    show ((List.range ((its.length : Int)).toNat).map fun (k : Nat) => ((its.length : Int) - 1 + -1 * (k : Int)).toNat).filterMap (fun k => its[k]?) = _
    rw [Int.toNat_natCast, List.filterMap_map]
    conv => rhs; rw [← range_pick its.reverse, List.length_reverse]
    refine fm_congr fun k hk => ?_
    have hk' : k < its.length := List.mem_range.mp hk
    show its[(((its.length : Int) - 1) + -1 * (k : Int)).toNat]? = _
    rw [List.getElem?_reverse hk']
    congr 1
    omega
  show ((sliceRange ((its.toArray.size : Int) - 1) (-1) (-1)).filterMap (its.toArray[·]?)).toArray = _
  simp only [List.size_toArray, List.getElem?_toArray]
  rw [e]
theorem vals_rev {xs : List V} {vs : List Value} (r : Vals xs vs) : Vals xs.reverse vs.reverse := by
  induction r with
  | nil => exact .nil
  | cons h _ ih => rw [List.reverse_cons, List.reverse_cons]; exact ih.append (.cons h .nil)
theorem sl_rev {X : Cx} : ∀ (pins : List (Addr × Obj)) (s : Shared) (σ : L2.St) (H : Hp) (x : V) (v vs : Value) (sl : Addr) (Q : VK), Inv X pins σ H s → RelV x v → s.heap.IsSliceOf sl .none .none vs → IsPart vs (some (-1)) →
    (∃ a xs, x = .ref a ∧ SqL X.K H a xs ∧ ∀ p, H p = none → Q (.ref p) (upd H p (.lst xs.reverse))) →
    ∃ T id, typeLookup (.type T) "__getitem__" = pure (some (.builtin id)) ∧ s.TypeIs v T ∧ wpAny (model X.prog X.w) X.A (getItem v (.ref sl)) (EP X pins σ Q) X.xe s := by
  intro pins s σ H x v vs sl Q I rx hs ps h
  obtain ⟨a, xs, rfl, hx, q⟩ := h
  cases rx
  obtain ⟨its, r, ht, hz⟩ := I.list hx
  have hlen := r.length
  refine ⟨"list", _, slot_list_getitem.lookup, ht.isList.typeIs, ?_⟩
  refine wpAny_getItem_list_slice ht.isList hs .none .none ps (by simp) ?_ (by rw [List.size_toArray] <;> omega)
  rw [pick_rev]
  refine ⟨.ref s.heap.objs.size, _, I.laid (t' := s.toks) (o := .lst xs.reverse) (fun b ob q => Heap.get?_push_of_some _ q) (Nat.le_refl _) ?_, rfl, q _ (I.hok.fresh (Nat.le_refl _))⟩
  exact ⟨by rw [List.length_reverse]; exact hz, _, 0, vals_rev r, Heap.get?_push_size _ rfl⟩
section
variable {X : Cx} {e st : Expr} {te : TE} {ts : TO} {pos p2 : Pos}
theorem pe_rev (he : PE X e te) (hs : PO X (some st) ts) : PE X (.Subscript e (.Slice none none (some st) p2) pos) (fun σ H Q => te σ H fun x H1 => ts σ H1 fun o H2 => o = some (-1) ∧ ∃ a xs, x = .ref a ∧ SqL X.K H2 a xs ∧ ∀ p, H2 p = none → Q (.ref p) (upd H2 p (.lst xs.reverse))) := by
  refine ⟨fun pins s σ H Q I h => ?_⟩
  refine Subscript_ (thn (he.run pins s σ H _ I h) fun v s1 ⟨x, H1, I1, r1, q1⟩ => ?_)
  refine wpAny_Slice ?_
  rw [evalPart_none]
  refine wpAny_pure ?_
  refine wpAny_pure ?_
  refine thn (hs.run pins s1 σ H1 _ I1 q1) fun vs s2 ⟨o, H2, I2, ps, e1, q2⟩ => ?_
  subst e1
  have I4 : Inv X pins σ H2 { s2 with heap := s2.heap.push { cls := .type "slice", data := .fields #[.none, .none, vs] } } := I2.kept (t' := s2.toks) fun b ob q => Heap.get?_push_of_some _ q
  obtain ⟨T, id, hT, ht, hg⟩ := sl_rev pins { s2 with heap := s2.heap.push { cls := .type "slice", data := .fields #[.none, .none, vs] } } σ H2 x v vs s2.heap.objs.size Q I4 r1 (Heap.IsSliceOf.new ..) ps q2
  show wpAny (model X.prog X.w) X.A (subscriptTail e (.Slice none none (some st) p2) v (.ref s2.heap.objs.size)) (EP X pins σ Q) X.xe { s2 with heap := s2.heap.push { cls := .type "slice", data := .fields #[.none, .none, vs] } }
  exact tail_any (ops := [v, .ref s2.heap.objs.size]) ht hT hg (by with_unfolding_all rfl)
end
section
variable {X : Cx} {E : XK} {a st : Expr} {fa : EM} {fs : PM} {pos p2 : Pos}
theorem se_rev (ha : SE X E a fa) (hs : SO X E (some st) fs) : SE X E (.Subscript a (.Slice none none (some st) p2) pos) (mRev fa fs) := by
  refine PE.mono (pe_rev ha hs) fun σ H Q ⟨fr, S, m, rf, rs, p⟩ => ?_
  refine rd_bind rf rs p fun x S1 m1 H1 e1 rf1 rs1 p1 v hv => ?_
  refine rdP_bind rf1 rs1 p1 fun l S2 m2 H2 e2 rf2 rs2 p2 => ?_
  have hv2 := hv.mono e2
  split at p2
  · rename_i hl
    refine ⟨hl, ?_⟩
    unfold oRev at p2
    cases hv2 with
    | @ref n b ha =>
      dsimp only at p2
      split at p2
      · rename_i l hl
        obtain ⟨xs, h0, r⟩ := rs2.lst ha hl
        exact ⟨b, xs, rfl, h0, fun c hc => post_new rs2 p2 hc fun e => ⟨_, upd_same, r.rev.mono e⟩⟩
      · exact p2.elim
    | _ => exact p2.elim
  · exact p2.elim
end
end Sm

set_option Elab.async false
set_option linter.all false
set_option maxRecDepth 100000
set_option maxHeartbeats 2000000
/-! dicts whose keys are tuples: values, ==, clear -/
namespace Sm
open PySem PySem.Spec PyProof.Rows L2 Mi
section
variable {X : Cx} {pins : List (Addr × Obj)} {σ : L2.St} {H : Hp} {s : Shared} {d : Addr} {o : Obj}
theorem frzT2 {kvs : List (List L2.Key × V)} (I : Inv X pins σ H s) (h : H d = some (.frz o (.dT kvs))) :
    (d == sysModules) = false ∧ s.heap.get? d = some o ∧ o.ExactDict ∧ ∃ (es : Array DictEntry) (ep : Nat), o.data = .dict es ep ∧ es.size = kvs.length ∧
      ∀ (i : Nat) (k : List L2.Key) (v : V), kvs[i]? = some (k, v) → ∃ (en : DictEntry), es[i]? = some en ∧ RelV v en.val := by
  obtain ⟨hd, z, hs, xs, pr, o', es, ep, ho, hx, hdt, he, _⟩ := I.hok d _ h
  rw [hd] at ho
  cases ho
  refine ⟨hs, hd, hx, es, ep, hdt, ?_, fun i k v e => ?_⟩
  · have l1 : es.size = xs.length := size_of_entries he
    have l2 : kvs.length = xs.length := Paired.length pr
    omega
  · obtain ⟨b, hb, e1, e2, e3⟩ := paired_get pr e
    have q := entry_at he i
    rw [hb] at q
    exact ⟨_, q, e3⟩
def ItdT (d : Addr) (o : Obj) (kvs : List (List L2.Key × V)) : It :=
  ⟨fun i H => H d = some (.frz o (.dT kvs)) ∧ i < kvs.length, fun i H x H' => H' = H ∧ ∃ k, kvs[i]? = some (k, x), fun i H => H d = some (.frz o (.dT kvs)) ∧ kvs.length ≤ i⟩
theorem turn_valsT {P : Program} {w : World} {K : PySem.W.Frag} {tg : Expr} {es : Array DictEntry} {ep : Nat} {kvs : List (List L2.Key × V)} (it : Addr) (hod : o.data = .dict es ep) : Turn P w K tg (ItdT d o kvs) [it] it (fun i h => h.IsValIter it d i kvs.length ep) where
  mem := by simp
  obj := fun i h st b hb => by
    have e : b = it := by simpa using hb
    subst e
    obtain ⟨oi, e, c, dd⟩ := st
    exact ⟨oi, e, fun v z => by rw [dd] at z; cases z⟩
  keep := fun i h h' st k => st.at fun oi e => k it (by simp) oi e
  item := by
    intro X hP hw hK hc i pins s σ H E I hf st hg
    subst hP hw hK
    obtain ⟨hd, hi⟩ := hg
    obtain ⟨f0, f1, f2, f3, f4, f5⟩ := hf it (by simp)
    obtain ⟨hs, hgd, hx, es', ep', hdt, hsz, ent⟩ := frzT2 I hd
    obtain ⟨rfl, rfl⟩ := dict_ep hod hdt
    obtain ⟨⟨k, v⟩, hkv⟩ : ∃ p, kvs[i]? = some p := ⟨kvs[i], List.getElem?_eq_getElem hi⟩
    obtain ⟨en, hen, rv⟩ := ent i k v hkv
    have hm : s.heap.DictRaw d es' ep' := ⟨o, hgd, hx, hdt⟩
    have hi' : i < es'.size := by omega
    rw [← hsz] at st
    refine wpAny_pyNext_values_item_raw st hm hi' fun h' st' sb => ?_
    have I1 : Inv X pins σ H { s with heap := h' } := I.turned (t' := s.toks) (fun b ob hb e => (sb.2 b hb).trans e) f0 f1 f3 f4 f5
    obtain ⟨oi, e, c, dd⟩ := id st'
    have ev : es'[i] = en := by
      rw [Array.getElem?_eq_getElem hi'] at hen
      exact Option.some.inj hen
    refine ⟨_, rfl, go_of (s := { s with heap := h' }) e c dd (by decide) ⟨v, H, I1, by rw [ev]; exact rv, ⟨rfl, k, hkv⟩, ?_, fun b hb => (hf b hb).1⟩⟩
    show h'.IsValIter it d (i + 1) kvs.length _
    rw [← hsz]
    exact st'
  done := by
    intro X hP hw hK hc i pins s σ H E I hf st hg
    subst hP hw hK
    obtain ⟨hd, hi⟩ := hg
    obtain ⟨f0, f1, f2, f3, f4, f5⟩ := hf it (by simp)
    obtain ⟨hs, hgd, hx, es', ep', hdt, hsz, ent⟩ := frzT2 I hd
    obtain ⟨rfl, rfl⟩ := dict_ep hod hdt
    have hm : s.heap.DictRaw d es' ep' := ⟨o, hgd, hx, hdt⟩
    rw [← hsz] at st
    exact wpAny_pyNext_values_end_raw (I.ok.hd hc) st hm (by omega) fun h' eb => ⟨rfl, I.turned (t' := s.toks) (fun b ob hb e => eb b ob hb e) f0 f1 f3 f4 f5⟩
  self := fun A i s Q E st h => wpAny_pyIter_valiter st h
def iValsT (td : TE) : TI := fun σ H R => td σ H fun x H1 => ∃ d o kvs, x = .ref d ∧ H1 d = some (.frz o (.dT kvs)) ∧ R (ItdT d o kvs) H1
end
section
variable {X : Cx} {tg e : Expr} {td : TE} {apos cpos : Pos}
theorem pi_valuesT (he : PE X e td) (hbase : attributeBase e "values" X.env (eval e X.env) = eval e X.env := by rfl) (hline : (apos.endLine == cpos.line) = true := by rfl) : PI X tg (.Call (.Attribute e "values" apos) [] [] cpos) (iValsT td) := by
  refine ⟨fun pins s σ H R I h => ?_⟩
  refine wpAny_Call_method (T := "dict") (id := "dict.values") hbase rfl hline F.plainAttrs_dict F.slot_dict_values F.type_dict_values (thn (he.run pins s σ H _ I h) fun u s1 ⟨x, H1, I1, rx, d, o, kvs, ex, hd, q⟩ => ?_)
  subst ex
  obtain rfl : u = Value.ref d := rx
  obtain ⟨hs, hgd, hx, es, ep, hdt, hsz, ent⟩ := frzT2 I1 hd
  have hm : s1.heap.DictRaw d es ep := ⟨o, hgd, hx, hdt⟩
  refine ⟨hm.typeIs, fun b e => ?_, ?_⟩
  · cases e
    exact ⟨o, hgd, hx.2.1⟩
  have I2 : Inv X pins σ H1 { s1 with heap := s1.heap.push { cls := .type "dict_values", data := .fields #[.ref d] } } := I1.kept (t' := s1.toks) fun b ob q => Heap.get?_push_of_some _ q
  have fin : wpAny (model X.prog X.w) X.A (pyIter (.ref s1.heap.objs.size)) (PIE X pins σ tg R) X.xe { s1 with heap := s1.heap.push { cls := .type "dict_values", data := .fields #[.ref d] } } := by
    refine wpAny_pyIter_values_raw (d := d) ⟨_, Heap.get?_push_size _ rfl, rfl, rfl⟩ (hm.at fun o q => Heap.get?_push_of_some _ q) (pi_one (tk := s1.toks) I2 _ (turn_valsT _ hdt) ⟨_, Heap.get?_push_size _ rfl, rfl, ?_⟩ q)
    rw [hsz] <;> rfl
  show wpAny _ _ (callWith cpos (.builtin "dict.values") [.ref d] [] []) _ X.xe s1
  exact method_meetsIn F.slot_dict_values F.entry_dict_values rfl (PySem.evalArgs_none ⟨rfl, hm.typeIs, F.args_dict_values_1 _, _, meets_dict_values_raw d hs, ⟨es, ep, hm⟩, fin⟩)
end
def rDClearT : V → List V → Hp → VK → Prop := fun x vs H Q => ∃ (a : Addr) (kvs : List (List L2.Key × V)), x = .ref a ∧ vs = [] ∧ H a = some (.dT kvs) ∧ Q .non (upd H a (.dT []))
theorem mtd_clearT {X : Cx} : MtR X "dict.clear" rDClearT := by
  intro pins s σ H x v vs us Q I rx rv h
  obtain ⟨a, kvs, ex, ev, e, q⟩ := h
  subst ex
  subst ev
  obtain rfl := rx
  have hus := rv.zero
  subst hus
  obtain ⟨z, hd, xs, rel, o, es, ep, ho, hx, hdt, he, _⟩ := dt_of I.hok e
  have hm : s.heap.DictRaw a es ep := ⟨o, ho, hx, hdt⟩
  have hsz : es.size ≤ sizeLine := by
    have l1 : es.size = xs.length := size_of_entries he
    have l2 : kvs.length = xs.length := Paired.length rel
    omega
  refine call_meetsIn PySem.F.slot_dict_clear hm.typeIs PySem.F.entry_dict_clear (PySem.F.args_dict_clear_1 _) (meets_dict_clear_raw a) ⟨es, ep, hm, hsz, fun h' dd' hs => ?_⟩
  obtain ⟨o', ho', hx', hdt'⟩ := dd'
  have new : ObjOk X.prog X.w (upd H a (.dT [])) h' a (.dT []) := ⟨Nat.zero_le _, hd, [], .nil, o', #[], ep + 1, ho', hx', hdt', rfl, List.nodup_nil⟩
  exact ⟨.non, _, d_write I (by rw [e]; exact True.intro) hs ⟨_, ho'⟩ new, rfl, q⟩
/-! ### == -/
section
variable {prog : Program} {w : World} {K : Type} [DecidableEq K] {knd : HeapKind prog w K} {A : Around} {E : Value → Shared → Prop} {s : Shared}
theorem samePairsH {nm : String} {a b : Addr} {xa xb : List (K × Addr × Value)} {Q : Bool → Shared → Prop} (ha : (a == sysModules) = false) (hb : (b == sysModules) = false) (hu : knd.room A)
    (da : s.heap.DictOfH knd a xa) (db : s.heap.DictOfH knd b xb) (hl : xa.length = xb.length) (hits : ∀ x ∈ xa, ∃ p, atKey xb x.1 = some p ∧ SeqAt.EqAt A s x.2.2 p.2 true) (h : Q true s) :
    wpAny (model prog w) A (Builtin.Dict.samePairs nm a b) Q E s := by
  obtain ⟨oa, es, ep, hoa, _, hda, hea, hka, hna⟩ := da
  obtain ⟨ob, es', ep', hob, _, hdb, heb, hkb, hnb⟩ := db
  have hla : xa.length = es.size := (size_of_entries hea).symm
  have hlb : xb.length = es'.size := (size_of_entries heb).symm
  have hsz : es.size = es'.size := by omega
  unfold Builtin.Dict.samePairs Builtin.Dict.showsAll
  rw [if_neg (show ¬ (a == sysModules) = true by rw [ha]; exact Bool.false_ne_true), if_neg (show ¬ (b == sysModules) = true by rw [hb]; exact Bool.false_ne_true)]
  refine wpAny_bind (wpAny_pure (wpAny_bind (wpAny_pure ?_)))
  refine wpAny_bind (wpAny_dictEntries hoa hda ?_)
  dsimp only
  refine wpAny_bind (wpAny_dictEntries hob hdb ?_)
  rw [if_neg (by rw [hsz]; simp)]
  refine wpAny_bind (wpAny_dictEpoch hoa hda ?_)
  refine wpAny_bind ?_
  rw [Std.Legacy.Range.forIn_eq_forIn_range']
  simp only [Std.Legacy.Range.size, Nat.sub_zero, Nat.add_sub_cancel, Nat.div_one]
  refine wpAny_forIn_list _
    (fun rest q s' => s' = s ∧ q = (none, ()) ∧ ∃ i, rest = List.range' i (es.size - i) ∧ i ≤ es.size)
    _ ?_ ?_ _ _ ⟨rfl, rfl, 0, by simp, Nat.zero_le _⟩
  · rintro x rest q s' ⟨rfl, rfl, i, hr, hi⟩
    have hlt : i < es.size := by
      rcases Nat.lt_or_ge i es.size with h | h
      · exact h
      · rw [Nat.sub_eq_zero_of_le h] at hr; simp at hr
    obtain ⟨rfl, hrest⟩ : x = i ∧ rest = List.range' (i + 1) (es.size - (i + 1)) := by
      have e : es.size - i = (es.size - (i + 1)) + 1 := by omega
      rw [e, List.range'_succ] at hr
      injection hr with h1 h2
      exact ⟨h1, h2⟩
    refine wpAny_bind (wpAny_dictEntries hoa hda ?_)
    have hlt' : x < xa.length := by rw [hla]; exact hlt
    have hxx : xa[x]? = some xa[x] := List.getElem?_eq_getElem hlt'
    obtain ⟨⟨k, ad, v⟩, hkv⟩ : ∃ p, xa[x] = p := ⟨_, rfl⟩
    have een : es[x]? = some (entryOfKey knd (k, ad, v)) := by rw [entry_at hea x, hxx, hkv]; rfl
    have hmem : (k, ad, v) ∈ xa := by rw [← hkv]; exact List.getElem_mem hlt'
    obtain ⟨p, hp, heq⟩ := hits _ hmem
    rw [een]
    refine wpAny_bind (wpAny_holding (wpAny_bind (wpAny_dictFind_heap hu (hka _ hmem) hob hdb heb hkb hnb (fun hno => ?_) fun j p' hj => ?_)))
    · rw [atKey_none_of_get hno] at hp; cases hp
    · rw [atKey_of_get hnb hj] at hp
      obtain rfl := Option.some.inj hp
      refine wpAny_bind (wpAny_dictEntries hob hdb ?_)
      rw [entry_at heb j, hj]
      refine wpAny_holding (heq prog w _ _ ?_)
      show wpAny _ _ (if (!true) = true then _ else _) _ _ _
      rw [if_neg (by decide)]
      refine wpAny_bind (wpAny_dictEpoch hoa hda ?_)
      rw [if_neg (by simp)]
      exact wpAny_pure ⟨rfl, rfl, x + 1, hrest, hlt⟩
  · rintro q s' ⟨rfl, rfl, i, hr, hi⟩
    exact wpAny_pure h
theorem keqH_eq {a b : Addr} {xa xb : List (K × Addr × Value)} {Q : Value → Shared → Prop} (ha : (a == sysModules) = false) (hb : (b == sysModules) = false) (hr : knd.room A.in1)
    (da : s.heap.DictOfH knd a xa) (db : s.heap.DictOfH knd b xb) (hu : A.units < cLine) (hl : xa.length = xb.length) (hits : ∀ x ∈ xa, ∃ p, atKey xb x.1 = some p ∧ SeqAt.EqAt A.in1 s x.2.2 p.2 true) (h : Q (.bool true) s) :
    wpAny (model prog w) A (compareOp .Eq (.ref a) (.ref b)) Q E s := by
  refine wpAny_richCompare_same_room (op := .Eq) da.typeIs db.typeIs PySem.F.slot_dict_eq (wpAny_call_entry PySem.F.slot_dict_eq da.typeIs PySem.F.entry_dict_eq ?_ (PySem.F.args_dict_eq_2 _ _)) hu
  show wpAny _ _ (Builtin.Dict.dictSlotArgs "__eq__" ⟨[.ref a, .ref b], []⟩ >>= _) _ _ s
  refine wpAny_bind ?_
  unfold Builtin.Dict.dictSlotArgs
  refine wpAny_bind (wpAny_notOrdered_dict da.typeIs ?_)
  show wpAny _ _ (pure (Value.ref a, Value.ref b)) _ _ s
  refine wpAny_pure ?_
  refine wpAny_bind (wpAny_isInstance (T := "dict") db.typeIs PySem.F.sub_dict_dict ?_)
  simp only [Bool.not_true, Bool.false_eq_true, if_false]
  refine wpAny_bind (wpAny_pure (wpAny_bind (wpAny_pure ?_)))
  refine wpAny_bind (samePairsH ha hb hr da db hl hits ?_)
  refine wpAny_pure ⟨_, rfl, ?_, ?_⟩
  · exact fun x => nomatch x
  · simpa using h
theorem keqH_ne {a b : Addr} {xa xb : List (K × Addr × Value)} {Q : Value → Shared → Prop} (ha : (a == sysModules) = false) (hb : (b == sysModules) = false) (hr : knd.room A.in1)
    (da : s.heap.DictOfH knd a xa) (db : s.heap.DictOfH knd b xb) (hu : A.units < cLine) (hl : xa.length = xb.length) (hits : ∀ x ∈ xa, ∃ p, atKey xb x.1 = some p ∧ SeqAt.EqAt A.in1 s x.2.2 p.2 true) (h : Q (.bool false) s) :
    wpAny (model prog w) A (compareOp .NotEq (.ref a) (.ref b)) Q E s := by
  refine wpAny_richCompare_same_room (op := .NotEq) da.typeIs db.typeIs PySem.F.slot_dict_ne (wpAny_call_entry PySem.F.slot_dict_ne da.typeIs PySem.F.entry_dict_ne ?_ (PySem.F.args_dict_ne_2 _ _)) hu
  show wpAny _ _ (Builtin.Dict.dictSlotArgs "__ne__" ⟨[.ref a, .ref b], []⟩ >>= _) _ _ s
  refine wpAny_bind ?_
  unfold Builtin.Dict.dictSlotArgs
  refine wpAny_bind (wpAny_notOrdered_dict da.typeIs ?_)
  show wpAny _ _ (pure (Value.ref a, Value.ref b)) _ _ s
  refine wpAny_pure ?_
  refine wpAny_bind (wpAny_isInstance (T := "dict") db.typeIs PySem.F.sub_dict_dict ?_)
  simp only [Bool.not_true, Bool.false_eq_true, if_false]
  refine wpAny_bind (wpAny_pure (wpAny_bind (wpAny_pure ?_)))
  refine wpAny_bind (samePairsH ha hb hr da db hl hits ?_)
  refine wpAny_pure ⟨_, rfl, ?_, ?_⟩
  · exact fun x => nomatch x
  · simpa using h
end
section
variable {X : Cx}
theorem hitsT {A : Around} {s : Shared} {H : Hp} {ls : List (List L2.Key × V)} {xb : List (List L2.Key × Addr × Value)} (rb : KT H ls xb) {ks : List (List L2.Key × V)} {xa : List (List L2.Key × Addr × Value)} (ra : KT H ks xa) :
    (∀ p ∈ ks, valV ls p.1 = some p.2 ∧ flatB p.2 = true) → ∀ x ∈ xa, ∃ p, atKey xb x.1 = some p ∧ SeqAt.EqAt A s x.2.2 p.2 true := by
  induction ra with
  | nil => intro _ x hx; cases hx
  | @cons p q ps qs h t ih =>
    intro hp x hx
    rcases List.mem_cons.mp hx with e | hx
    · subst e
      obtain ⟨h1, h2, h3⟩ := h
      obtain ⟨e, f⟩ := hp p List.mem_cons_self
      have rr : L2.RelO (some p.2) ((atKey xb p.1).map (·.2)) := by rw [← e]; exact rb.val p.1
      obtain ⟨y, hy, ry⟩ := rr.some_of
      obtain ⟨z, hz, rfl⟩ := Option.map_eq_some_iff.mp hy
      rw [h1] at hz
      exact ⟨z, hz, eqAt_same h3 ry f⟩
    · exact ih (fun p hm => hp p (List.mem_cons_of_mem _ hm)) x hx
def rEqDT : R2 := fun x y H Q => ∃ a b ks ls, x = .ref a ∧ y = .ref b ∧ H a = some (.dT ks) ∧ H b = some (.dT ls) ∧ ks.length = ls.length ∧ (∀ p ∈ ks, valV ls p.1 = some p.2 ∧ flatB p.2 = true) ∧ Q (.bl true) H
def rNeDT : R2 := fun x y H Q => ∃ a b ks ls, x = .ref a ∧ y = .ref b ∧ H a = some (.dT ks) ∧ H b = some (.dT ls) ∧ ks.length = ls.length ∧ (∀ p ∈ ks, valV ls p.1 = some p.2 ∧ flatB p.2 = true) ∧ Q (.bl false) H
theorem op_eq_dictT (hu : X.A.units + 1 < cLine) : OpR X (compareOp .Eq) rEqDT := by
  intro pins s σ H x y v u Q I rx ry h
  obtain ⟨a, b, ks, ls, rfl, rfl, ea, eb, hlen, hp, q⟩ := h
  obtain rfl : v = Value.ref a := rx
  obtain rfl : u = Value.ref b := ry
  obtain ⟨_, ya, xa, ra, da⟩ := dt_of I.hok ea
  obtain ⟨_, yb, xb, rb, db⟩ := dt_of I.hok eb
  have hl : xa.length = xb.length := by rw [← Paired.length ra, ← Paired.length rb]; exact hlen
  exact keqH_eq ya yb (tupleKind_room_in1 hu) da db (by omega) hl (hitsT rb ra hp) (fin_bl I q rfl)
theorem op_ne_dictT (hu : X.A.units + 1 < cLine) : OpR X (compareOp .NotEq) rNeDT := by
  intro pins s σ H x y v u Q I rx ry h
  obtain ⟨a, b, ks, ls, rfl, rfl, ea, eb, hlen, hp, q⟩ := h
  obtain rfl : v = Value.ref a := rx
  obtain rfl : u = Value.ref b := ry
  obtain ⟨_, ya, xa, ra, da⟩ := dt_of I.hok ea
  obtain ⟨_, yb, xb, rb, db⟩ := dt_of I.hok eb
  have hl : xa.length = xb.length := by rw [← Paired.length ra, ← Paired.length rb]; exact hlen
  exact keqH_ne ya yb (tupleKind_room_in1 hu) da db (by omega) hl (hitsT rb ra hp) (fin_bl I q rfl)
end
end Sm

set_option Elab.async false
set_option linter.all false
set_option maxRecDepth 100000
set_option maxHeartbeats 2000000
/-! walks over dicts, == of dicts, clear, against the layer -/
namespace Sm
open PySem PySem.Spec PyProof.Rows L2 Mi
section
variable {α β : Type} {c : Ct} {E : XK} {m m' : List Addr} {H H' : Hp} {r : Res α}
theorem post_bind0 {f : α → Store → Res β} {k : β → Store → List Addr → Hp → Prop} (p : Post c E m H (r.bind f) k) : Post c E m H r fun a S _ _ => Post c E m H (f a S) k := by
  cases r with
  | ok a S => exact fun m2 H2 e2 _ => p
  | exc x S => exact p
  | bad => exact p
theorem RF.mono0 {fr : Fr} {σ : L2.St} (e : Ex0 m H m' H') (h : RF c.K H m fr σ) : RF c.K H' m' fr σ := ⟨h.len, fun i d q => let ⟨v, h1, h2⟩ := h.get i d q; ⟨v, h1, h2.mono0 e⟩⟩
structure WalkZ (c : Ct) (J : It) (n : Nat) (z : O) (l : List D) (m0 : List Addr) (H0 : Hp) : Prop where
  go : ∀ i m S H, i < l.length → Ext m0 H0 m H → RS c m S H → S[n]? = some z → J.go i H
  stop : ∀ m S H, Ext m0 H0 m H → RS c m S H → S[n]? = some z → J.stop l.length H
  yld : ∀ i m S H x H' d, l[i]? = some d → Ext m0 H0 m H → RS c m S H → S[n]? = some z → J.yld i H x H' → Ext m H m H' ∧ RS c m S H' ∧ RelD c.K H' m d x
def forR (g : TG) (tb : TS) (D : Ends) (σ : L2.St) (J : It) (H1 : Hp) : Prop := ∃ W : Nat → Nat → L2.St → Hp → Prop, (∃ m, W 0 m σ H1) ∧ ∀ i m σ H, W i m σ H →
  (J.stop i H ∧ D.nx σ H) ∨ (J.go i H ∧ ∃ N : L2.St → Hp → Prop, (∀ σ' H', N σ' H' → ∃ m', m' < m ∧ W (i + 1) m' σ' H') ∧ ∀ x H', J.yld i H x H' → g x σ H' fun σ2 H2 => tb { D with nx := N, ct := N, bk := D.nx } σ2 H2)
theorem loopZ_for {J : It} {z : O} {n : Nat} {l : List D} {m1 : List Addr} {H1 : Hp} {S1 : Store} {fr : Fr} {σ : L2.St} {g : GM} {b : SM} {De : Ends} (w : WalkZ c J n z l m1 H1) (rf : RF c.K H1 m1 fr σ) (rs : RS c m1 S1 H1)
    (p : Post c E m1 H1 (loopZ n z (fun d fr S => (g d fr S).bind fun fr' S' => b fr' S') l fr S1) (kS c De)) : forR (rdG c E g) (rdS c E b) De σ J H1 := by
  refine ⟨fun i k σ' H' => i ≤ l.length ∧ k = l.length - i ∧ ∃ fr' S' m', Ext m1 H1 m' H' ∧ RF c.K H' m' fr' σ' ∧ RS c m' S' H' ∧ Post c E m' H' (loopZ n z (fun d fr S => (g d fr S).bind fun fr' S' => b fr' S') (l.drop i) fr' S') (kS c De),
    ⟨l.length, Nat.zero_le _, rfl, fr, S1, m1, Ext.refl _ _, rf, rs, p⟩, fun i k σ' H' hw => ?_⟩
  obtain ⟨hi', hk, fr', S', m', e2, rf2, rs2, p2⟩ := hw
  by_cases hlt : i < l.length
  · have hd : l.drop i = l[i] :: l.drop (i + 1) := List.drop_eq_getElem_cons hlt
    rw [hd] at p2
    unfold loopZ at p2
    split at p2
    · rename_i st
      have st := of_dec st
      refine .inr ⟨w.go i m' S' H' hlt e2 rs2 st, fun σ2 H2 => ∃ fr2 S2 m2, Ext m1 H1 m2 H2 ∧ RF c.K H2 m2 fr2 σ2 ∧ RS c m2 S2 H2 ∧ Post c E m2 H2 (loopZ n z (fun d fr S => (g d fr S).bind fun fr' S' => b fr' S') (l.drop (i + 1)) fr2 S2) (kS c De),
        fun σ2 H2 q => ⟨l.length - (i + 1), by omega, by omega, rfl, q⟩, fun x H'' y => ?_⟩
      obtain ⟨e3, rs3, r3⟩ := w.yld i m' S' H' x H'' _ (List.getElem?_eq_getElem hlt) e2 rs2 st y
      refine ⟨_, fr', S', m', r3, rf2.mono e3, rs3, (post_bind (post_bind p2)).ext e3 |>.imp fun fr2 S2 m2 H2 e4 rs4 p4 σ2 rf4 => ?_⟩
      refine ⟨fr2, S2, m2, rf4, rs4, p4.imp fun o S3 m3 H3 e5 rs5 p5 => ?_⟩
      have ee : Ext m1 H1 m3 H3 := ((e2.trans e3).trans e4).trans e5
      cases o with
      | nx fr3 => exact fun σ3 rf5 => ⟨fr3, S3, m3, ee, rf5, rs5, p5⟩
      | ct fr3 => exact fun σ3 rf5 => ⟨fr3, S3, m3, ee, rf5, rs5, p5⟩
      | bk fr3 => exact p5.here rs5
      | rt d => exact p5.here rs5
    · exact p2.elim
  · have e : i = l.length := by omega
    subst e
    rw [List.drop_length] at p2
    unfold loopZ at p2
    split at p2
    · rename_i st
      exact .inl ⟨w.stop m' S' H' e2 rs2 (of_dec st), p2.here rs2 σ' rf2⟩
    · exact p2.elim
/-- the ends of a locked statement -/
abbrev lockD (a : Addr) (od : Obj) (u : HO) (D : Ends) : Ends := ⟨fun σ' H' => H' a = some (.frz od u) ∧ D.nx σ' (upd H' a u), fun v H' => H' a = some (.frz od u) ∧ D.rt v (upd H' a u), fun σ' H' => H' a = some (.frz od u) ∧ D.bk σ' (upd H' a u), fun σ' H' => H' a = some (.frz od u) ∧ D.ct σ' (upd H' a u)⟩
theorem forZ_core {fe : EM} {g : GM} {b : SM} {S : Store} {fr : Fr} {σ : L2.St} {De : Ends} {n : Nat} {o z : O} {l : List D} {a : Addr} {u : HO} (rf : RF c.K H m fr σ) (rs : RS c m S H) (ha : m[n]? = some a) (hs : S[n]? = some o) (lo : liv o) (zo : own z) (nol : ∀ xs, u ≠ .lst xs) (nof : ∀ od u', u ≠ .frz od u') (notu : ∀ xs, u ≠ .tup xs) (hu : H a = some u)
    (p : Post c E m H (runZ fe g b fr S n o z l) (kS c De)) (od : Obj)
    (rz : ∀ m' H', Ext m H m' H' → H' a = some (.frz od u) → RelO c H' m' a z)
    (ro : ∀ m' H', Ex0 m H m' H' → H' a = some u → RelO c H' m' a o)
    (J : It) (wz : ∀ m1 H1, Ext m H m1 H1 → H1 a = some (.frz od u) → WalkZ c J n z l m1 H1) :
    rdE c E fe σ (upd H a (.frz od u)) fun v H1 => v = .ref a ∧ H1 a = some (.frz od u) ∧ forR (rdG c E g) (rdS c E b) (lockD a od u De) σ J H1 := by
  obtain ⟨rsL, eL⟩ := rs.lockz ha hs lo (z := z) (u := .frz od u) fun e => rz _ _ e upd_same
  unfold runZ at p
  have p1 := (post_bind0 p).ext eL
  refine ⟨fr, S.set n z, m, rf.mono eL, rsL, p1.imp fun x S1 m1 H1 e1 rs1 q v hv => ?_⟩
  split at q
  · rename_i n'
    split at q
    · rename_i hn
      subst hn
      cases hv with
      | @ref _ a' h =>
        have h2 := e1.mx _ _ ha
        rw [h] at h2
        obtain rfl := Option.some.inj h2
        have hz1 := e1.fz _ _ _ (upd_same (H := H) (a := a') (o := .frz od u))
        refine ⟨rfl, hz1, ?_⟩
        have eH1 := eL.trans e1
        have q1 := (post_bind0 q).ext eH1
        refine loopZ_for (wz _ _ eH1 hz1) (rf.mono eH1) rs1 (q1.imp fun out S2 m2 H2 e2 rs2 r => ?_)
        split at r
        · rename_i hst
          have hst := of_dec hst
          have hz2 := e2.fz _ _ _ hz1
          have ha2 := e2.mx _ _ h
          have eH2 := eH1.trans e2
          have ex : Ex0 m2 H2 m2 (upd H2 a' u) := ⟨fun _ _ z => z, fun b u t q => by
            have ne : b ≠ a' := fun w => by
              subst w; rw [hz2] at q
              rcases t with ⟨xs, rfl⟩ | ⟨o, xs, rfl⟩ | ⟨fs, rfl⟩
              · cases q
              · injection q with q; injection q with _ q; exact notu xs q
              · cases q
            rw [upd_ne ne]; exact q⟩
          have ex2 : Ex0 m H m2 (upd H2 a' u) := ⟨eH2.mx, fun b u t q => ex.ts b u t (eH2.ts b u t q)⟩
          have rsU := rs2.unlockz ha2 hst zo lo.own hz2 nol notu fun _ => ro _ _ ex2 upd_same
          have eF : Ext m H m2 (upd H2 a' u) := ⟨ex2, fun b ob u' q => by
            have ne : b ≠ a' := fun w => by subst w; rw [hu] at q; exact nof ob u' (Option.some.inj q)
            rw [upd_ne ne]; exact eH2.fz _ _ _ q⟩
          have fin := r m2 (upd H2 a' u) eF rsU
          cases out with
          | nx fr' => exact fun σ' rf' => ⟨hz2, fin σ' (rf'.mono0 ex)⟩
          | ct fr' => exact fun σ' rf' => ⟨hz2, fin σ' (rf'.mono0 ex)⟩
          | bk fr' => exact fun σ' rf' => ⟨hz2, fin σ' (rf'.mono0 ex)⟩
          | rt d => exact fun v rv => ⟨hz2, fin v (rv.mono0 ex)⟩
        · exact r.elim
    · exact q.elim
  · exact q.elim
theorem relk_at {κ κ' : Type} {f : κ → κ'} {K : PySem.W.Frag} {k : List (κ × D)} {kv : List (κ' × V)} (h : RelK K H m f k kv) : ∀ {i : Nat} {p : κ × D}, k[i]? = some p → ∃ q, kv[i]? = some q ∧ f p.1 = q.1 ∧ RelD K H m p.2 q.2 := by
  induction h with
  | nil => intro i p e; simp at e
  | cons r t ih =>
    intro i p e
    cases i with
    | zero => simp only [List.getElem?_cons_zero, Option.some.injEq] at e; subst e; exact ⟨_, rfl, r⟩
    | succ j => simp only [List.getElem?_cons_succ] at e ⊢; exact ih e
theorem kyD_rel {K : PySem.W.Frag} (k : Ky) : RelD K H m (kyD k) (kV (kyK k)) := by
  cases k with
  | inl i => exact .int i
  | inr s => exact .str s
theorem kyDs_rel {K : PySem.W.Frag} : ∀ k : List Ky, RelL K H m (k.map kyD) ((k.map kyK).map kV)
  | [] => .nil
  | x :: r => .cons (kyD_rel x) (kyDs_rel r)
theorem wz_keyK {n : Nat} {z : O} {a : Addr} {od : Obj} {k : List (Ky × D)} {kv : List (L2.Key × V)} (h : H a = some (.frz od (.dK kv))) (r : RelK c.K H m kyK k kv) : WalkZ c (Itk a od kv) n z (k.map fun p => kyD p.1) m H where
  go := fun i m' S H' hi e rs st => ⟨e.fz _ _ _ h, by rw [List.length_map] at hi; rw [← Paired.length r]; exact hi⟩
  stop := fun m' S H' e rs st => ⟨e.fz _ _ _ h, by rw [List.length_map, ← Paired.length r]; exact Nat.le_refl _⟩
  yld := fun i m' S H' x H'' d hd e rs st y => by
    obtain ⟨rfl, kk, v, hv, rfl⟩ := y
    rw [List.getElem?_map] at hd
    obtain ⟨p, hp, rfl⟩ := Option.map_eq_some_iff.mp hd
    obtain ⟨q, hq, e1, _⟩ := relk_at r hp
    rw [hv] at hq
    obtain rfl := Option.some.inj hq
    refine ⟨Ext.refl _ _, rs, ?_⟩
    have e1 : kyK p.1 = kk := e1
    rw [← e1]
    exact kyD_rel _
theorem wz_keyT {n : Nat} {z : O} {a : Addr} {od : Obj} {k : List (List Ky × D)} {kv : List (List L2.Key × V)} (h : H a = some (.frz od (.dT kv))) (r : RelK c.K H m (fun x => x.map kyK) k kv) : WalkZ c (Itkt a od kv) n z (k.map fun p => .tup (p.1.map kyD)) m H where
  go := fun i m' S H' hi e rs st => ⟨e.fz _ _ _ h, by rw [List.length_map] at hi; rw [← Paired.length r]; exact hi⟩
  stop := fun m' S H' e rs st => ⟨e.fz _ _ _ h, by rw [List.length_map, ← Paired.length r]; exact Nat.le_refl _⟩
  yld := fun i m' S H' x H'' d hd e rs st y => by
    obtain ⟨rfl, kk, v, q, hv, rfl, hq2⟩ := y
    rw [List.getElem?_map] at hd
    obtain ⟨p, hp, rfl⟩ := Option.map_eq_some_iff.mp hd
    obtain ⟨q', hq, e1, _⟩ := relk_at r hp
    rw [hv] at hq
    obtain rfl := Option.some.inj hq
    refine ⟨Ext.refl _ _, rs, .tup hq2 ?_⟩
    have e1 : p.1.map kyK = kk := e1
    rw [← e1]
    exact kyDs_rel _
theorem wz_valK {n : Nat} {z : O} {a : Addr} {od : Obj} {k : List (Ky × D)} {kv : List (L2.Key × V)} (h : H a = some (.frz od (.dK kv))) (r : RelK c.K H m kyK k kv) : WalkZ c (Itd a od kv) n z (k.map fun p => p.2) m H where
  go := fun i m' S H' hi e rs st => ⟨e.fz _ _ _ h, by rw [List.length_map] at hi; rw [← Paired.length r]; exact hi⟩
  stop := fun m' S H' e rs st => ⟨e.fz _ _ _ h, by rw [List.length_map, ← Paired.length r]; exact Nat.le_refl _⟩
  yld := fun i m' S H' x H'' d hd e rs st y => by
    obtain ⟨rfl, kk, hv⟩ := y
    rw [List.getElem?_map] at hd
    obtain ⟨p, hp, rfl⟩ := Option.map_eq_some_iff.mp hd
    obtain ⟨q, hq, _, e2⟩ := relk_at r hp
    rw [hv] at hq
    obtain rfl := Option.some.inj hq
    exact ⟨Ext.refl _ _, rs, e2.mono e⟩
theorem wz_valT {n : Nat} {z : O} {a : Addr} {od : Obj} {k : List (List Ky × D)} {kv : List (List L2.Key × V)} (h : H a = some (.frz od (.dT kv))) (r : RelK c.K H m (fun x => x.map kyK) k kv) : WalkZ c (ItdT a od kv) n z (k.map fun p => p.2) m H where
  go := fun i m' S H' hi e rs st => ⟨e.fz _ _ _ h, by rw [List.length_map] at hi; rw [← Paired.length r]; exact hi⟩
  stop := fun m' S H' e rs st => ⟨e.fz _ _ _ h, by rw [List.length_map, ← Paired.length r]; exact Nat.le_refl _⟩
  yld := fun i m' S H' x H'' d hd e rs st y => by
    obtain ⟨rfl, kk, hv⟩ := y
    rw [List.getElem?_map] at hd
    obtain ⟨p, hp, rfl⟩ := Option.map_eq_some_iff.mp hd
    obtain ⟨q, hq, _, e2⟩ := relk_at r hp
    rw [hv] at hq
    obtain rfl := Option.some.inj hq
    exact ⟨Ext.refl _ _, rs, e2.mono e⟩
theorem wz_itmK {n : Nat} {z : O} {a : Addr} {od : Obj} {k : List (Ky × D)} {kv : List (L2.Key × V)} (h : H a = some (.frz od (.dK kv))) (r : RelK c.K H m kyK k kv) : WalkZ c (Iti a od kv) n z (k.map fun p => .tup [kyD p.1, p.2]) m H where
  go := fun i m' S H' hi e rs st => ⟨e.fz _ _ _ h, by rw [List.length_map] at hi; rw [← Paired.length r]; exact hi⟩
  stop := fun m' S H' e rs st => ⟨e.fz _ _ _ h, by rw [List.length_map, ← Paired.length r]; exact Nat.le_refl _⟩
  yld := fun i m' S H' x H'' d hd e rs st y => by
    obtain ⟨T, kk, v, hv, rfl, hT, rfl⟩ := y
    rw [List.getElem?_map] at hd
    obtain ⟨p, hp, rfl⟩ := Option.map_eq_some_iff.mp hd
    obtain ⟨q, hq, e1, e2⟩ := relk_at r hp
    rw [hv] at hq
    obtain rfl := Option.some.inj hq
    have e1 : kyK p.1 = kk := e1
    rw [← e1]
    exact rel_pair rs hT (kyD_rel _) (e2.mono e)
end
def ZI (w : Wk) (td : TE) : TI := match w with
  | .key => iKeys td
  | .val => fun σ H R => iVals td σ H R ∨ iValsT td σ H R
  | .itm => iItems td
theorem rdE_imp {c : Ct} {E : XK} {f : EM} {σ : L2.St} {H : Hp} {Q Q' : VK} (h : rdE c E f σ H Q) (k : ∀ v H1, Q v H1 → Q' v H1) : rdE c E f σ H Q' :=
  let ⟨fr, S, m, rf, rs, p⟩ := h
  ⟨fr, S, m, rf, rs, p.imp fun _ _ _ H' _ _ q v hv => k v H' (q v hv)⟩
section
variable {X : Cx} {E : XK} {pos : Pos}
theorem ss_forD {w : Wk} {tg iter : Expr} {body : List Stmt} {fe : EM} {g : GM} {b : SM} (hp : PassesOwn (model X.prog X.w) X.A X.env X.xe) (hc : X.calm = true) (hi : PI X tg iter (ZI w (rdE (cx X) E fe))) (hg : SG X E tg g) (hb : SSs X E body b)
    (hs : ∀ x, foldedSetIterable iter X.env x = pure x := by intro _; rfl) : SS X E (.For tg iter body [] pos) (sForD w fe g b) := by
  refine PS.mono (ps_lock (ps_for hp hc hi hg hb hs)) fun D σ H ⟨fr, S, m, rf, rs, p⟩ => ?_
  unfold sForD at p
  split at p
  · rename_i n S0 he
    split at p
    · rename_i o ho
      split at p
      · rename_i z hz
        split at p
        · rename_i l hl
          obtain ⟨a, ha⟩ := rs.adr ho
          cases o with
          | dK k =>
            obtain rfl := Option.some.inj hz
            obtain ⟨kv, h1, h2⟩ := rs.ob _ _ _ ha ho
            refine ⟨a, .dK kv, h1, trivial, fun od => ?_⟩
            have core := fun (J : It) (wz : ∀ m1 H1, Ext m H m1 H1 → H1 a = some (.frz od (.dK kv)) → WalkZ (cx X) J n (.zK k) l m1 H1) => forZ_core (J := J) (z := .zK k) (u := .dK kv) rf rs ha ho trivial trivial (fun _ => nofun) (fun _ _ => nofun) (fun _ => nofun) h1 p od (fun m' H' e hh => ⟨od, kv, hh, h2.mono e⟩) (fun m' H' e hh => ⟨kv, hh, RelK.mono0 e h2⟩) wz
            cases w with
            | key =>
              obtain rfl := Option.some.inj hl
              exact rdE_imp (core _ fun m1 H1 e hh => wz_keyK hh (h2.mono e)) fun v H1 ⟨e, hh, q⟩ => ⟨a, od, e, .inl ⟨kv, hh, q⟩⟩
            | val =>
              obtain rfl := Option.some.inj hl
              exact .inl (rdE_imp (core _ fun m1 H1 e hh => wz_valK hh (h2.mono e)) fun v H1 ⟨e, hh, q⟩ => ⟨a, od, kv, e, hh, q⟩)
            | itm =>
              obtain rfl := Option.some.inj hl
              exact rdE_imp (core _ fun m1 H1 e hh => wz_itmK hh (h2.mono e)) fun v H1 ⟨e, hh, q⟩ => ⟨a, od, kv, e, hh, q⟩
          | dT k =>
            obtain rfl := Option.some.inj hz
            obtain ⟨kv, h1, h2⟩ := rs.ob _ _ _ ha ho
            refine ⟨a, .dT kv, h1, trivial, fun od => ?_⟩
            have core := fun (J : It) (wz : ∀ m1 H1, Ext m H m1 H1 → H1 a = some (.frz od (.dT kv)) → WalkZ (cx X) J n (.zT k) l m1 H1) => forZ_core (J := J) (z := .zT k) (u := .dT kv) rf rs ha ho trivial trivial (fun _ => nofun) (fun _ _ => nofun) (fun _ => nofun) h1 p od (fun m' H' e hh => ⟨od, kv, hh, h2.mono e⟩) (fun m' H' e hh => ⟨kv, hh, RelK.mono0 e h2⟩) wz
            cases w with
            | key =>
              obtain rfl := Option.some.inj hl
              exact rdE_imp (core _ fun m1 H1 e hh => wz_keyT hh (h2.mono e)) fun v H1 ⟨e, hh, q⟩ => ⟨a, od, e, .inr ⟨kv, hh, q⟩⟩
            | val =>
              obtain rfl := Option.some.inj hl
              exact .inr (rdE_imp (core _ fun m1 H1 e hh => wz_valT hh (h2.mono e)) fun v H1 ⟨e, hh, q⟩ => ⟨a, od, kv, e, hh, q⟩)
            | itm => cases hl
          | _ => cases hz
        · exact p.elim
      · exact p.elim
    · exact p.elim
  · exact p.elim
theorem pi_or {tg e : Expr} {t t' : TI} (h : PI X tg e t) (h' : PI X tg e t') : PI X tg e fun σ H R => t σ H R ∨ t' σ H R :=
  ⟨fun pins s σ H R I q => q.elim (fun q => h.run pins s σ H R I q) fun q => h'.run pins s σ H R I q⟩
theorem zi_key {tg e : Expr} {fe : EM} (he : SE X E e fe) : PI X tg e (ZI .key (rdE (cx X) E fe)) := pi_keys he
theorem zi_val {tg e : Expr} {apos cpos : Pos} {fe : EM} (he : SE X E e fe) (hbase : attributeBase e "values" X.env (eval e X.env) = eval e X.env := by rfl) (hline : (apos.endLine == cpos.line) = true := by rfl) : PI X tg (.Call (.Attribute e "values" apos) [] [] cpos) (ZI .val (rdE (cx X) E fe)) := pi_or (pi_values he hbase hline) (pi_valuesT he hbase hline)
theorem zi_itm {elts : List Expr} {kk : Nat} {tpos : Pos} {e : Expr} {apos cpos : Pos} {fe : EM} (he : SE X E e fe) (hbase : attributeBase e "items" X.env (eval e X.env) = eval e X.env := by rfl) (hline : (apos.endLine == cpos.line) = true := by rfl) : PI X (.Tuple elts kk tpos) (.Call (.Attribute e "items" apos) [] [] cpos) (ZI .itm (rdE (cx X) E fe)) := pi_items he hbase hline
/-! ### == of dicts -/
theorem flat_same {c : Ct} {H H' : Hp} {m : List Addr} {d e : D} {x y : V} (hx : RelD c.K H m d x) (hy : RelD c.K H m e y) (h : scq d e = some true) (f : flatD d = true) (f' : flatD e = true) : x = y ∧ flatB x = true := by
  cases hx <;> cases hy <;> simp [scq, flatD] at h f f' <;> first | exact ⟨rfl, rfl⟩ | (subst h; exact ⟨rfl, rfl⟩)
theorem same_hits {c : Ct} {κ κ' : Type} [DecidableEq κ] [DecidableEq κ'] {f : κ → κ'} (inj : ∀ a b, f a = f b → a = b) {H : Hp} {m : List Addr} {k l : List (κ × D)} {kv lv : List (κ' × V)} (h : dSame k l = true) (r1 : RelK c.K H m f k kv) (r2 : RelK c.K H m f l lv) :
    kv.length = lv.length ∧ ∀ p ∈ kv, valV lv p.1 = some p.2 ∧ flatB p.2 = true := by
  unfold dSame at h
  rw [Bool.and_eq_true, List.all_eq_true] at h
  refine ⟨by rw [← Paired.length r1, ← Paired.length r2]; exact of_decide_eq_true h.1, ?_⟩
  have h2 := h.2
  clear h
  induction r1 with
  | nil => intro p hp; cases hp
  | @cons p q ps qs h t ih =>
    intro p' hp'
    rcases List.mem_cons.mp hp' with e | e
    · subst e
      have := h2 p List.mem_cons_self
      have g := RelK.get inj r2 p.1
      cases hd : dGet l p.1 with
      | none => rw [hd] at this; cases this
      | some v =>
        rw [hd] at this g
        dsimp only at this
        simp only [Bool.and_eq_true, decide_eq_true_eq] at this
        obtain ⟨v', e1, e2⟩ := g
        obtain ⟨e3, e4⟩ := flat_same (H' := H) h.2 e2 this.2 this.1.1 this.1.2
        exact ⟨by rw [← h.1, e1, e3], e4⟩
    · exact ih (fun p hp => h2 p (List.mem_cons_of_mem _ hp)) p' e
theorem same_cases {c : Ct} {H : Hp} {m : List Addr} {S : Store} {x y : D} {v w : V} (rs : RS c m S H) (hv : RelD c.K H m x v) (hw : RelD c.K H m y w) (h : oSame x y S = true) :
    (∃ a b ks ls, v = .ref a ∧ w = .ref b ∧ H a = some (.dK ks) ∧ H b = some (.dK ls) ∧ ks.length = ls.length ∧ (∀ p ∈ ks, valV ls p.1 = some p.2 ∧ flatB p.2 = true)) ∨
    (∃ a b ks ls, v = .ref a ∧ w = .ref b ∧ H a = some (.dT ks) ∧ H b = some (.dT ls) ∧ ks.length = ls.length ∧ (∀ p ∈ ks, valV ls p.1 = some p.2 ∧ flatB p.2 = true)) := by
  unfold oSame at h
  split at h
  · rename_i n n'
    cases hv with
    | ref h1 => cases hw with
      | ref h2 =>
        split at h
        · rename_i k l e1 e2
          obtain ⟨kv, a1, a2⟩ := rs.ob _ _ _ h1 e1
          obtain ⟨lv, b1, b2⟩ := rs.ob _ _ _ h2 e2
          obtain ⟨q1, q2⟩ := same_hits (fun _ _ => kyK_inj) h a2 b2
          exact .inl ⟨_, _, kv, lv, rfl, rfl, a1, b1, q1, q2⟩
        · rename_i k l e1 e2
          obtain ⟨kv, a1, a2⟩ := rs.ob _ _ _ h1 e1
          obtain ⟨lv, b1, b2⟩ := rs.ob _ _ _ h2 e2
          obtain ⟨q1, q2⟩ := same_hits (fun _ _ => kysK_inj) h a2 b2
          exact .inr ⟨_, _, kv, lv, rfl, rfl, a1, b1, q1, q2⟩
        · cases h
  · cases h
theorem om_eqD (hu : X.A.units + 65 < cLine) : OpM X E (compareOp .Eq) oEqD := by
  obtain ⟨r, h1, h2⟩ := om_eq (X := X) (E := E) hu
  refine ⟨_, opr_or h1 (opr_or (op_eq_dictA (by omega)) (op_eq_dictT (by omega))), fun x y v u S m H Q rs hv hw p => ?_⟩
  unfold oEqD at p
  split at p
  · rename_i h
    rcases same_cases rs hv hw h with ⟨a, b, ks, ls, e1, e2, e3, e4, e5, e6⟩ | ⟨a, b, ks, ls, e1, e2, e3, e4, e5, e6⟩
    · exact .inr (.inl ⟨a, b, ks, ls, e1, e2, e3, e4, e5, e6, post_bl rs p⟩)
    · exact .inr (.inr ⟨a, b, ks, ls, e1, e2, e3, e4, e5, e6, post_bl rs p⟩)
  · exact .inl (h2 _ _ _ _ S m H Q rs hv hw p)
theorem om_neD (hu : X.A.units + 65 < cLine) : OpM X E (compareOp .NotEq) oNeD := by
  obtain ⟨r, h1, h2⟩ := om_ne (X := X) (E := E) hu
  refine ⟨_, opr_or h1 (opr_or (op_ne_dictA (by omega)) (op_ne_dictT (by omega))), fun x y v u S m H Q rs hv hw p => ?_⟩
  unfold oNeD at p
  split at p
  · rename_i h
    rcases same_cases rs hv hw h with ⟨a, b, ks, ls, e1, e2, e3, e4, e5, e6⟩ | ⟨a, b, ks, ls, e1, e2, e3, e4, e5, e6⟩
    · exact .inr (.inl ⟨a, b, ks, ls, e1, e2, e3, e4, e5, e6, post_bl rs p⟩)
    · exact .inr (.inr ⟨a, b, ks, ls, e1, e2, e3, e4, e5, e6, post_bl rs p⟩)
  · exact .inl (h2 _ _ _ _ S m H Q rs hv hw p)
/-! ### clear -/
theorem mtr_or {id : String} {r r' : V → List V → Hp → VK → Prop} (h : MtR X id r) (h' : MtR X id r') : MtR X id fun x vs H Q => r x vs H Q ∨ r' x vs H Q := by
  intro pins s σ H x v vs us Q I rx rv q
  rcases q with q | q
  · exact h pins s σ H x v vs us Q I rx rv q
  · exact h' pins s σ H x v vs us Q I rx rv q
theorem mm_dclear : MtMm X E "dict.clear" dClear := by
  refine ⟨_, mtr_or mtd_clear mtd_clearT, fun x ds v vs S m H Q rs hv hvs p => ?_⟩
  unfold dClear at p
  split at p
  · split at p
    · cases hvs
      cases hv with
      | ref ha =>
        split at p
        · rename_i k hs
          obtain ⟨kv, h1, h2⟩ := rs.ob _ _ _ ha hs
          refine .inl ⟨_, kv, rfl, rfl, h1, ?_⟩
          obtain ⟨rs2, e2⟩ := rs.set (o' := .dK []) (u := .dK []) ha hs trivial trivial fun e => ⟨_, upd_same, .nil⟩
          exact p _ _ e2 rs2 _ .non
        · rename_i k hs
          obtain ⟨kv, h1, h2⟩ := rs.ob _ _ _ ha hs
          refine .inr ⟨_, kv, rfl, rfl, h1, ?_⟩
          obtain ⟨rs2, e2⟩ := rs.set (o' := .dT []) (u := .dT []) ha hs trivial trivial fun e => ⟨_, upd_same, .nil⟩
          exact p _ _ e2 rs2 _ .non
        · exact p.elim
    · exact p.elim
  · exact p.elim
end
end Sm

set_option Elab.async false
set_option linter.all false
set_option maxRecDepth 100000
set_option maxHeartbeats 2000000
/-! defs with defaults, against the layer -/
namespace Sm
open PySem PySem.Spec PyProof.Rows L2 Mi
section
variable {X : Cx} {E : XK} {pos : Pos} {e : Expr}
theorem rd_callD {f : AM} {g : Fn} {xds : List D} {dvs : List V} {fr : Fr} {S : Store} {m : List Addr} {σ : L2.St} {H : Hp} {Q : VK} {c : Ct} {E : XK}
    (hv : ∀ H m, RelL c.K H m xds dvs) (rf : RF c.K H m fr σ) (rs : RS c m S H) (p : Post c E m H ((f fr S).bind (mDfl g xds)) (kE c Q)) : rdA c E f σ H fun vs H1 => spM c g (vs ++ dvs) H1 Q E :=
  rdA_bind rf rs p fun ds S1 m1 H1 e1 rf1 rs1 p1 vs h => ⟨ds ++ xds, S1, m1, h.app (hv _ _), rs1, p1⟩
theorem se_callD {CX : CXT} {k : Nat} {f : Addr} {fd : FuncData} {ps : List Str} {g : Fn} {x : Str} {p : Pos} {es : List Expr} {fs : AM} {xds : List D} {dvs : List V} (F : FnOk X.prog X.w X.K X.mg X.base CX k f fd ps (spM (cx X) g)) (hr : Room k X.A) (hg : Gl X x) (hm : X.mg x = some (.ref f)) (hk : PySem.W.keepIn X.K (.ref f) = true) (hb : ∃ ds, Vals dvs ds ∧ Binds X.K fd ps ds) (hv : ∀ H m, RelL X.K H m xds dvs) (hx : Passes CX X E)
    (ha : SA X E (e :: es) fs) (hdb : (x == ("__debug__" : Str)) = false := by decide) (he : starEach (e :: es) X.env = (false, eval e X.env) :: starEach es X.env := by rfl) (hpl : (backTo pos (starEach es X.env)).any (·.1) = false := by rfl) :
    SE X E (.Call (.Name x p) (e :: es) [] pos) (mCall (mDfl g xds) fs) := by
  obtain ⟨ds, hd, hb⟩ := hb
  refine PE.mono (pe_call F hr hg hm hk hb hd hx ha hdb he hpl) fun σ H Q ⟨fr, S, m, rf, rs, p⟩ => ?_
  exact rd_callD hv rf rs p
end
section
variable {P : Program} {w : World} {K : PySem.W.Frag} {mg : Str → Option Value} {base : Heap}
theorem fnD_mk {x qual : Str} {st : Stmt} {f T : Addr} {oc : Value} {od an tdd : Option Addr} {osl tsl : Array (Option Value)} {kV doc pm cdv ct : Value} {its : List Value} {tn : Nat} {dvs : List V} (l : K.lookup f = some ⟨oc, od, .func (PySem.W.fnOf x qual (defArgs st) (defBody st) (defScope st) (.ref T) kV doc pm an cdv ct), osl⟩)
    (c : PySem.W.codeIn K cdv qual = true) (k : PySem.W.keepIn K (.ref f) = true) (lt : K.lookup T = some ⟨.type "tuple", tdd, .seq its.toArray tn, tsl⟩) (hv : Vals dvs its) (hn : dvs ≠ []) : FunD K x qual (defArgs st) (defBody st) (defScope st) dvs [] f (PySem.W.fnOf x qual (defArgs st) (defBody st) (defScope st) (.ref T) kV doc pm an cdv ct) :=
  ⟨⟨oc, od, .ref T, kV, doc, pm, an, cdv, ct, osl, rfl, l, c, .inr ⟨hn, T, _, its, tn, rfl, lt, rfl, hv⟩, .inl rfl⟩, k⟩
theorem fn_okD {x qual : Str} {st : Stmt} {f : Addr} {fd : FuncData} {N ps : List Str} {k : Nat} {b : SM} {dvs : List V} (F : FunD K x qual (defArgs st) (defBody st) (defScope st) dvs [] f fd) (S : FnScope N ps (defScope st))
    (hb : ∀ (cdv : Value) (A : Around) (outer : List Env) (s : Shared) (H : Hp) (E : XK), Room k (A.deeper (envOfC qual (defScope st) s.heap.objs.size f cdv)) → SSs (cxOf CX0 P w K mg base N qual (defScope st) f cdv A outer s H E).nox EF (defBody st) b) :
    FnOk P w K mg base CX0 (k + 1) f fd ps (spM ⟨K, mg⟩ (mDef ps.length N.length b)) := by
  refine F.ok S (fun vs H Q E h => ?_) (fun cdv A outer s H vs Q E hr h => ?_)
  · obtain ⟨ds, S', m, r, rs, p⟩ := h
    have p := post_quiet (E' := E) p
    unfold mDefX at p
    split at p
    · rename_i hl
      rw [← r.len]; exact hl
    · exact p.elim
  · obtain ⟨ds, S', m, r, rs, p⟩ := h
    have p := post_quiet (E' := EF) p
    unfold mDefX at p
    split at p
    · obtain ⟨t, h1, h2⟩ : ∃ t, PSs (cxOf CX0 P w K mg base N qual (defScope st) f cdv A outer s H E).nox (defBody st) t ∧ t { nx := fun _ H' => Q .non H', rt := Q } (L2.start N vs) H := by
        refine ⟨_, hb cdv A outer s H E hr, startF N.length ds, S', m, start_rel (c := ⟨K, mg⟩) r, rs, (post_bind p).imp fun o S1 m1 H1 e1 rs1 p1 => ?_⟩
        cases o with
        | nx fr => exact fun σ rf => p1.here rs1 _ .non
        | rt d => exact fun v hv => p1.here rs1 v hv
        | bk fr => exact p1.elim
        | ct fr => exact p1.elim
      exact ⟨t, h1.nox, h2⟩
    · exact p.elim
end
end Sm
namespace Sm
open PySem PySem.Spec PyProof.Rows L2 Mi
section
variable {K : PySem.W.Frag} {x qual : Str} {params : Arguments} {body : List Stmt} {scope : Scope} {dvs : List V} {f : Addr} {fd : FuncData} {ps : List Str}
theorem fnD_all {x qual : Str} {params : Arguments} {body : List Stmt} {scope : Scope} {d : V} {dvs : List V} {f : Addr} {fd : FuncData} {ps : List Str} (F : FunD K x qual params body scope (d :: dvs) [] f fd) (n : Nat)
    (h : ∀ (T : Addr) (kV doc pm : Value) (an : Option Addr) (cdv ct : Value) (us its : List Value), us.length = n → its.length = (d :: dvs).length →
      ∃ k, bindArgs (PySem.W.fnOf x qual params body scope (.ref T) kV doc pm an cdv ct) ⟨us, []⟩ = seqItems? (.ref T) >>= k ∧ k (some its.toArray) = pure (ps.zip us)) (hn : n = ps.length := by rfl) : Binds K fd ps [] := by
  obtain ⟨ds, hv, hb⟩ := F.binds1 (ps := ps) n (d :: dvs).length (List.cons_ne_nil _ _) (by rw [Nat.sub_self, Nat.add_zero]; exact hn) fun T kV doc pm an cdv ct us its h1 h2 => by
    obtain ⟨k, e1, e2⟩ := h T kV doc pm an cdv ct us its h1 h2
    refine ⟨k, e1, ?_⟩
    rw [e2, ← h2, List.drop_length, List.append_nil]
  rw [List.drop_length] at hv
  cases hv
  exact hb
theorem fnD_dfl {x qual : Str} {params : Arguments} {body : List Stmt} {scope : Scope} {d : V} {dvs : List V} {f : Addr} {fd : FuncData} {ps : List Str} (F : FunD K x qual params body scope (d :: dvs) [] f fd) (n : Nat)
    (h : ∀ (T : Addr) (kV doc pm : Value) (an : Option Addr) (cdv ct : Value) (us its : List Value), us.length = n → its.length = (d :: dvs).length →
      ∃ k, bindArgs (PySem.W.fnOf x qual params body scope (.ref T) kV doc pm an cdv ct) ⟨us, []⟩ = seqItems? (.ref T) >>= k ∧ k (some its.toArray) = pure (ps.zip (us ++ its))) (hn : n + (d :: dvs).length = ps.length := by rfl) : ∃ ds, Vals (d :: dvs) ds ∧ Binds K fd ps ds := by
  obtain ⟨ds, hv, hb⟩ := F.binds1 (ps := ps) n 0 (List.cons_ne_nil _ _) (by rw [Nat.sub_zero]; exact hn) fun T kV doc pm an cdv ct us its h1 h2 => h T kV doc pm an cdv ct us its h1 h2
  exact ⟨ds, hv, hb⟩
end
end Sm

set_option Elab.async false
set_option linter.all false
set_option maxRecDepth 100000
set_option maxHeartbeats 2000000
/-! tuples known as they stand, dict(..), against the layer -/
namespace Sm
open PySem PySem.Spec PyProof.Rows L2 Mi
section
variable {X : Cx} {E : XK} {H : Hp}
theorem call_tuple_ofX : CallR X (.type "tuple") (fun xs H Q => ∃ p ys, xs = [.ref p] ∧ ((SqL X.K H p ys ∧ ∀ l (o : Obj), o.dict = none → H l = none → Q (.ref l) (upd H l (.frz o (.tup ys)))) ∨ (SqT X.K H p ys ∧ Q (.ref p) H))) := by
  intro pins s σ H xs us Q I r h
  obtain ⟨p, ys, rfl, h⟩ := h
  obtain ⟨u, rfl, rx⟩ := vals1 r
  cases rx
  rcases h with ⟨hq, q⟩ | ⟨hq, q⟩
  · obtain ⟨its, r', pl, hz⟩ := I.list hq
    have hlen := r'.length
    refine call_tuple_list pl.isList (fun h' kp => ?_) (by simp only [List.size_toArray] <;> omega)
    have I1 : Inv X pins σ H { s with heap := h' } := I.kept (t' := s.toks) kp
    have I2 : Inv X pins σ (upd H h'.objs.size (.frz { cls := .type "tuple", data := .seq its.toArray } (.tup ys))) { s with heap := h'.push { cls := .type "tuple", data := .seq its.toArray } } :=
      I1.laid (t' := s.toks) (fun b o e => Heap.get?_push_of_some _ e) (Nat.le_refl _) (show ObjOk X.prog X.w _ _ _ (.frz { cls := .type "tuple", data := .seq its.toArray } (.tup ys)) from ⟨Heap.get?_push_size _ rfl, hz, its, r', IsTup.new _ _⟩)
    exact ⟨.ref h'.objs.size, _, I2, rfl, q _ _ rfl (I1.hok.fresh (Nat.le_refl _))⟩
  · obtain ⟨its, r', pl, hz⟩ := I.tuple hq
    exact call_tuple_same pl ⟨.ref p, H, I, rfl, q⟩
theorem post_wtp {c : Ct} {E : XK} {m : List Addr} {S : Store} {H : Hp} {l : List D} {Q : VK} {p : Addr} {xs : List V} {o : Obj} (rs : RS c m S H) (q : Post c E m H (.ok (.wtp l) S) (kE c Q)) (hp : H p = none) (ho : o.dict = none) (r : RelL c.K H m l xs) : Q (.ref p) (upd H p (.frz o (.tup xs))) := by
  have e : Ext m H m (upd H p (.frz o (.tup xs))) := ⟨⟨fun _ _ z => z, tstay_new hp⟩, fstay_new hp⟩
  exact q _ _ e (rs.fresh hp) _ (.wtp (.inl ⟨o, upd_same, ho⟩) (r.mono e))
theorem cm_tupX : CallM X E (.type "tuple") bTupX := by
  refine ⟨_, call_tuple_ofX, fun ds vs S m H Q rs hv p => ?_⟩
  unfold bTupX at p
  split at p
  · rename_i l
    obtain ⟨v, rfl, h⟩ := rel1 hv
    cases h with
    | tup ha r => exact ⟨_, _, rfl, .inr ⟨.inl (.inl ha), p.here rs _ (.tup ha r)⟩⟩
  · rename_i l
    obtain ⟨v, rfl, h⟩ := rel1 hv
    cases h with
    | wtp ha r => exact ⟨_, _, rfl, .inr ⟨ha.sq, p.here rs _ (.wtp ha r)⟩⟩
  · rename_i n
    obtain ⟨v, rfl, h⟩ := rel1 hv
    cases h with
    | ref ha =>
      split at p
      · rename_i l hl
        obtain ⟨xs, h1, h2⟩ := rs.lst ha hl
        exact ⟨_, xs, rfl, .inl ⟨h1, fun b o ho hb => post_wtp rs p hb ho h2⟩⟩
      · exact p.elim
  · exact p.elim
/-! ### dict(..) -/
theorem pairs_of2 {pins : List (Addr × Obj)} {σ : L2.St} {s : Shared} (I : Inv X pins σ H s) : ∀ {ps : List Addr} {kvs : List (L2.Key × V)}, Paired (fun p kv => SqT X.K H p [kV kv.1, kv.2]) ps kvs →
    ∃ (prs : List (L2.Key × Value)) (us : List (Value × Value)), KV kvs prs ∧ prs.length = ps.length ∧ us.length = ps.length ∧ ∀ (j : Nat) (k v : Value), us[j]? = some (k, v) → ∃ (b : Addr) (q : L2.Key), ps[j]? = some b ∧ prs[j]? = some (q, v) ∧ IsTup s.heap b #[k, v] ∧ keyIs q k = true
  | _, _, .nil => ⟨[], [], .nil, rfl, rfl, fun j k v e => by simp at e⟩
  | _, _, .cons (a := p) (b := kv) h t => by
    obtain ⟨prs, us, r, hl, hl2, hp⟩ := pairs_of2 I t
    obtain ⟨its, rv, ht, _⟩ := I.tuple h
    obtain ⟨u, y, ei, ru, ry⟩ := vals2 rv
    subst ei
    refine ⟨(kv.1, y) :: prs, (u, y) :: us, .cons ⟨rfl, ry⟩ r, by rw [List.length_cons, List.length_cons, hl], by rw [List.length_cons, List.length_cons, hl2], fun j k v e => ?_⟩
    cases j with
    | zero =>
      have e' : (u, y) = (k, v) := Option.some.inj e
      cases e'
      exact ⟨p, kv.1, rfl, rfl, ht, kV_is (P := X.prog) (w := X.w) ru⟩
    | succ j =>
      obtain ⟨b, q, e1, e2, e3, e4⟩ := hp j k v (by simpa using e)
      exact ⟨b, q, by simpa using e1, by simpa using e2, e3, e4⟩
theorem wt_plain {pins : List (Addr × Obj)} {σ : L2.St} {s : Shared} {a : Addr} {xs : List V} (I : Inv X pins σ H s) (h : Wt X.K H a xs) : ∃ its : List Value, Vals xs its ∧ PlainSeq "tuple" s.heap a its.toArray ∧ xs.length ≤ sizeLine := by
  rcases h with ⟨o, h, hd⟩ | ⟨h, o, hk, hd⟩
  · obtain ⟨ho, hz, its, r, o', ho', hc, n, hdat⟩ := I.hok a _ h
    rw [ho] at ho'
    cases ho'
    exact ⟨its, r, ⟨o, n, ho, hc, hd, hdat⟩, hz⟩
  · have h' : SqT X.K H a xs := (Wt.sq (.inr ⟨h, o, hk, hd⟩))
    obtain ⟨its, r, ⟨o', ho', hc, n, hdat⟩, hz⟩ := I.tuple h'
    have := I.kIn a o hk
    rw [this] at ho'
    cases ho'
    exact ⟨its, r, ⟨o, n, this, hc, hd, hdat⟩, hz⟩
theorem call_dictPT (hcalm : X.calm = true) : CallR X (.type "dict") (fun xs H Q => ∃ (a : Addr) (ps : List Addr) (kvs : List (L2.Key × V)), xs = [.ref a] ∧ Wt X.K H a (ps.map V.ref) ∧ Paired (fun p kv => SqT X.K H p [kV kv.1, kv.2]) ps kvs ∧
    ∀ p, H p = none → Q (.ref p) (upd H p (.dK (mergeK [] kvs)))) := by
  intro pins s σ H xs us Q I r q
  obtain ⟨a, ps, kvs, ex, hq, hp, q⟩ := q
  subst ex
  obtain ⟨u, eu, rx⟩ := vals1 r
  subst eu
  cases rx
  obtain ⟨its, rv, pl, hz⟩ := wt_plain I hq
  have ei := refs_at rv
  subst ei
  rw [List.length_map] at hz
  obtain ⟨prs, us, rel, hl, hl2, hpr⟩ := pairs_of2 I hp
  have ok : PlainSeq "tuple" s.heap a (ps.map Value.ref).toArray ∧ PairItems s.heap (ps.map Value.ref).toArray (fun j => ps.getD j 0) us := by
    refine ⟨pl, by simp [hl2], fun j k v e => ?_⟩
    obtain ⟨b, q', e1, e2, e3, e4⟩ := hpr j k v e
    refine ⟨by simp [e1, List.getD], .inl ?_⟩
    have : ps.getD j 0 = b := by simp [List.getD, e1]
    show s.heap.IsTuple (ps.getD j 0) #[k, v]
    rw [this]
    exact e3
  refine PySem.call_dict_pairs (knd := mixKind X.prog X.w) (kvs := prs) (PairArg.tuple a _ _ us) (I.ok.hd hcalm) ok ⟨by rw [hl, hl2], fun i key v h => ?_⟩ (by rw [hl2]; exact hz) fun h' tk hd' k => ?_
  · obtain ⟨b, q', e1, e2, e3, e4⟩ := hpr i key v h
    exact ⟨q', e2, e4⟩
  · have hm : (s.heap.objs.size == sysModules) = false := beq_eq_false_iff_ne.mpr (Nat.ne_of_gt I.big)
    have hlen : (mergeK [] kvs).length ≤ sizeLine := by
      refine Nat.le_trans (length_mergeK kvs []) ?_
      rw [List.length_nil, Nat.zero_add, rel.length, hl]
      exact hz
    exact ⟨.ref s.heap.objs.size, upd H s.heap.objs.size (.dK (mergeK [] kvs)), I.laid (t' := tk) (fun b o e => k b o (by simp) e) (Nat.le_refl _) (show ObjOk X.prog X.w _ _ _ (.dK (mergeK [] kvs)) from ⟨hlen, hm, merged [] prs, KV.merge rel .nil, hd'⟩), rfl, q _ (I.hok.fresh (Nat.le_refl _))⟩
theorem prs_rel {K : PySem.W.Frag} {m : List Addr} : ∀ {l : List D} {xs : List V} {ps : List (Ky × D)}, RelL K H m l xs → prsOf l = some ps → ∃ (as : List Addr) (kvs : List (L2.Key × V)), xs = as.map V.ref ∧ Paired (fun p kv => SqT K H p [kV kv.1, kv.2]) as kvs ∧ RelK K H m kyK ps kvs
  | _, _, _, .nil, e => by
    simp only [prsOf, Option.some.injEq] at e
    subst e
    exact ⟨[], [], rfl, .nil, .nil⟩
  | _, _, ps, .cons (d := d) (l := l) (v := v) (r := r) h t, e => by
    unfold prsOf at e
    split at e
    · rename_i e0; cases e0
    · rename_i k x r' e0
      cases e0
      obtain ⟨q, hq, e⟩ := Option.bind_eq_some_iff.mp e
      obtain ⟨ps', e', rfl⟩ := Option.map_eq_some_iff.mp e
      obtain ⟨as, kvs, rfl, p1, p2⟩ := prs_rel t e'
      cases h with
      | @tup _ a xs ha rr =>
        cases rr with
        | cons h1 t1 =>
          cases t1 with
          | cons h2 t2 =>
            cases t2
            have := ky_of h1 hq
            subst this
            exact ⟨a :: as, (kyK q, _) :: kvs, rfl, .cons (.inl (.inl ha)) p1, .cons ⟨rfl, h2⟩ p2⟩
    · cases e
theorem foldK {K : PySem.W.Frag} {m : List Addr} {ps : List (Ky × D)} {kvs : List (L2.Key × V)} (h : RelK K H m kyK ps kvs) : ∀ {acc : List (Ky × D)} {ac : List (L2.Key × V)}, RelK K H m kyK acc ac → RelK K H m kyK (ps.foldl (fun acc p => dPut acc p.1 p.2) acc) (mergeK ac kvs) := by
  induction h with
  | nil => intro acc ac r; exact r
  | @cons p q ps qs h t ih =>
    intro acc ac r
    obtain ⟨h1, h2⟩ := h
    have := RelK.put (fun _ _ => kyK_inj) r p.1 h2
    rw [h1] at this
    exact ih this
theorem cm_dict (hc : X.calm = true) : CallM X E (.type "dict") bDict := by
  refine ⟨_, callr_or (call_dictPT hc) call_dictD, fun ds vs S m H Q rs hv p => ?_⟩
  unfold bDict at p
  split at p
  · rename_i l
    obtain ⟨v, rfl, h⟩ := rel1 hv
    cases h with
    | wtp ha r =>
      split at p
      · rename_i ps hps
        obtain ⟨as, kvs, rfl, p1, p2⟩ := prs_rel r hps
        exact .inl ⟨_, as, kvs, rfl, ha, p1, fun b hb => post_new rs p hb fun e => ⟨_, upd_same, RelK.mono e (foldK p2 .nil)⟩⟩
      · exact p.elim
  · rename_i n
    obtain ⟨v, rfl, h⟩ := rel1 hv
    cases h with
    | @ref n a ha =>
      split at p
      · rename_i k hs
        obtain ⟨kv, h1, h2⟩ := rs.ob _ _ _ ha hs
        exact .inr ⟨a, kv, rfl, .inl h1, fun b hb => post_new rs p hb fun e => ⟨_, upd_same, RelK.mono e h2⟩⟩
      · exact p.elim
  · exact p.elim
end
end Sm

set_option Elab.async false
set_option linter.all false
set_option maxRecDepth 100000
/-! x[lo::st], against the layer -/
namespace Sm
open PySem PySem.Spec PyProof.Rows L2 Mi
theorem fm_none {α β : Type} {l : List α} {f : α → Option β} (h : ∀ k ∈ l, f k = none) : l.filterMap f = [] := by
  induction l with
  | nil => rfl
  | cons x r ih => rw [List.filterMap_cons, h x (by simp)]; exact ih fun k hk => h k (List.mem_cons_of_mem _ hk)
theorem pick_stp (its : List Value) (lo st : Nat) (h : 1 ≤ st) : slicePick its.toArray (some (lo : Int)) none (some (st : Int)) = (stpL its lo st).toArray := by
  have hst : (st : Int) > 0 := by omega
  have hlo : ¬ (lo : Int) < 0 := by omega
  have b : sliceBounds (some (lo : Int)) none (some (st : Int)) its.length = (max 0 (min (lo : Int) its.length), (its.length : Int), (st : Int)) := by
    unfold sliceBounds
    simp only [Option.getD_some, hst, if_true, hlo, if_false]
  have key : (sliceRange (max 0 (min (lo : Int) its.length)) its.length st).filterMap (fun k => its[k]?) = stpL its lo st := by
    unfold sliceRange stpL
    rw [if_pos hst]
    by_cases hl : lo < its.length
    · have e1 : max 0 (min (lo : Int) its.length) = (lo : Int) := by omega
      rw [e1, if_pos (by omega)]
      obtain ⟨c, hc⟩ : ∃ c : Nat, ((its.length : Int) - lo + st - 1) / st = (c : Int) := ⟨(((its.length : Int) - lo + st - 1) / st).toNat, by
        have : 0 ≤ ((its.length : Int) - lo + st - 1) / st := Int.ediv_nonneg (by omega) (by omega)
        omega⟩
      rw [hc]
      show ((List.range ((c : Int)).toNat).map fun (k : Nat) => ((lo : Int) + st * (k : Int)).toNat).filterMap (fun k => its[k]?) = _
      rw [Int.toNat_natCast, List.filterMap_map]
      have c1 : (its.length : Int) - lo ≤ st * c := by
        have h1 := Int.mul_ediv_add_emod ((its.length : Int) - lo + st - 1) st
        have h2 := Int.emod_lt_of_pos ((its.length : Int) - lo + st - 1) hst
        rw [hc] at h1
        omega
      have c2 : c ≤ its.length := by
        have h1 : ((its.length : Int) - lo + st - 1) / st ≤ (its.length : Int) - lo := ceilDiv_le _ _ (by omega) (by omega)
        rw [hc] at h1
        omega
      have hsplit : List.range its.length = List.range c ++ (List.range (its.length - c)).map (c + ·) := by
        rw [← List.range_add]; congr 1; omega
      rw [hsplit, List.filterMap_append]
      have tail : ((List.range (its.length - c)).map (c + ·)).filterMap (fun k => its[lo + st * k]?) = [] := fm_none fun k hk => by
        obtain ⟨j, _, rfl⟩ := List.mem_map.mp hk
        refine List.getElem?_eq_none ?_
        have : (st : Int) * c ≤ st * ((c + j : Nat) : Int) := Int.mul_le_mul_of_nonneg_left (by omega) (by omega)
        have c3 : (its.length : Int) ≤ ((lo + st * (c + j) : Nat) : Int) := by
          rw [Int.natCast_add, Int.natCast_mul]
          omega
        omega
      rw [tail, List.append_nil]
      refine fm_congr fun k hk => ?_
      show its[((lo : Int) + st * (k : Int)).toNat]? = its[lo + st * k]?
      congr 1

    · have e1 : max 0 (min (lo : Int) its.length) = (its.length : Int) := by omega
      rw [e1, if_neg (by omega)]
      refine (fm_none fun k hk => ?_).symm
      refine List.getElem?_eq_none ?_
      have : 0 ≤ st * k := Nat.zero_le _
      omega
  unfold slicePick
  simp only [List.size_toArray, b, List.getElem?_toArray]
  rw [key]
theorem stp_len {α : Type} (l : List α) (lo st : Nat) : (stpL l lo st).length ≤ l.length := by
  unfold stpL
  refine Nat.le_trans (List.length_filterMap_le _ _) ?_
  rw [List.length_range]; exact Nat.le_refl _
theorem vals_get {xs : List V} {vs : List Value} (r : Vals xs vs) : ∀ i : Nat, (xs[i]? = none ∧ vs[i]? = none) ∨ ∃ x v, xs[i]? = some x ∧ vs[i]? = some v ∧ RelV x v := by
  induction r with
  | nil => intro i; exact .inl ⟨by simp, by simp⟩
  | cons h _ ih =>
    intro i
    cases i with
    | zero => exact .inr ⟨_, _, rfl, rfl, h⟩
    | succ i => simpa using ih i
theorem vals_fm {xs : List V} {vs : List Value} (r : Vals xs vs) (f : Nat → Nat) : ∀ L : List Nat, Vals (L.filterMap fun k => xs[f k]?) (L.filterMap fun k => vs[f k]?)
  | [] => .nil
  | k :: L => by
    rw [List.filterMap_cons, List.filterMap_cons]
    rcases vals_get r (f k) with ⟨h1, h2⟩ | ⟨x, v, h1, h2, h3⟩
    · rw [h1, h2]; exact vals_fm r f L
    · rw [h1, h2]; exact .cons h3 (vals_fm r f L)
theorem vals_stp {xs : List V} {vs : List Value} (r : Vals xs vs) (lo st : Nat) : Vals (stpL xs lo st) (stpL vs lo st) := by
  unfold stpL
  rw [r.length]
  exact vals_fm r (fun k => lo + st * k) _
theorem rel_get {K : PySem.W.Frag} {H : Hp} {m : List Addr} {l : List D} {xs : List V} (r : RelL K H m l xs) : ∀ i : Nat, (l[i]? = none ∧ xs[i]? = none) ∨ ∃ d x, l[i]? = some d ∧ xs[i]? = some x ∧ RelD K H m d x := by
  intro i
  by_cases h : i < l.length
  · obtain ⟨v, h3, h4⟩ := r.ix (List.getElem?_eq_getElem h)
    exact .inr ⟨_, v, List.getElem?_eq_getElem h, h3, h4⟩
  · exact .inl ⟨List.getElem?_eq_none (by omega), List.getElem?_eq_none (by rw [← r.len]; omega)⟩
theorem rel_fm {K : PySem.W.Frag} {H : Hp} {m : List Addr} {l : List D} {xs : List V} (r : RelL K H m l xs) (f : Nat → Nat) : ∀ L : List Nat, RelL K H m (L.filterMap fun k => l[f k]?) (L.filterMap fun k => xs[f k]?)
  | [] => .nil
  | k :: L => by
    rw [List.filterMap_cons, List.filterMap_cons]
    rcases rel_get r (f k) with ⟨h1, h2⟩ | ⟨x, v, h1, h2, h3⟩
    · rw [h1, h2]; exact rel_fm r f L
    · rw [h1, h2]; exact .cons h3 (rel_fm r f L)
theorem rel_stp {K : PySem.W.Frag} {H : Hp} {m : List Addr} {l : List D} {xs : List V} (r : RelL K H m l xs) (lo st : Nat) : RelL K H m (stpL l lo st) (stpL xs lo st) := by
  unfold stpL
  rw [r.len]
  exact rel_fm r (fun k => lo + st * k) _
theorem sl_stp {X : Cx} : ∀ (pins : List (Addr × Obj)) (s : Shared) (σ : L2.St) (H : Hp) (x : V) (v vl vs : Value) (lo st : Nat) (sl : Addr) (Q : VK), Inv X pins σ H s → RelV x v → 1 ≤ st → s.heap.IsSliceOf sl vl .none vs → IsPart vl (some (lo : Int)) → IsPart vs (some (st : Int)) →
    (∃ a xs, x = .ref a ∧ SqL X.K H a xs ∧ ∀ p, H p = none → Q (.ref p) (upd H p (.lst (stpL xs lo st)))) →
    ∃ T id, typeLookup (.type T) "__getitem__" = pure (some (.builtin id)) ∧ s.TypeIs v T ∧ wpAny (model X.prog X.w) X.A (getItem v (.ref sl)) (EP X pins σ Q) X.xe s := by
  intro pins s σ H x v vl vs lo st sl Q I rx h1 hs pl ps h
  obtain ⟨a, xs, rfl, hx, q⟩ := h
  cases rx
  obtain ⟨its, r, ht, hz⟩ := I.list hx
  have hlen := r.length
  refine ⟨"list", _, slot_list_getitem.lookup, ht.isList.typeIs, ?_⟩
  refine wpAny_getItem_list_slice ht.isList hs pl .none ps (by intro e; injection e with e; omega) ?_ (by rw [List.size_toArray] <;> omega)
  rw [pick_stp its lo st h1]
  refine ⟨.ref s.heap.objs.size, _, I.laid (t' := s.toks) (o := .lst (stpL xs lo st)) (fun b ob q => Heap.get?_push_of_some _ q) (Nat.le_refl _) ?_, rfl, q _ (I.hok.fresh (Nat.le_refl _))⟩
  exact ⟨Nat.le_trans (stp_len _ _ _) hz, _, 0, vals_stp r lo st, Heap.get?_push_size _ rfl⟩
section
variable {X : Cx} {e lo st : Expr} {te : TE} {tl ts : TO} {pos p2 : Pos}
theorem pe_stp (he : PE X e te) (hl : PO X (some lo) tl) (hs : PO X (some st) ts) : PE X (.Subscript e (.Slice (some lo) none (some st) p2) pos) (fun σ H Q => te σ H fun x H1 => tl σ H1 fun l H2 => ts σ H2 fun o H3 => ∃ (i j : Nat), l = some (i : Int) ∧ o = some (j : Int) ∧ 1 ≤ j ∧ ∃ a xs, x = .ref a ∧ SqL X.K H3 a xs ∧ ∀ p, H3 p = none → Q (.ref p) (upd H3 p (.lst (stpL xs i j)))) := by
  refine ⟨fun pins s σ H Q I h => ?_⟩
  refine Subscript_ (thn (he.run pins s σ H _ I h) fun v s1 ⟨x, H1, I1, r1, q1⟩ => ?_)
  refine wpAny_Slice ?_
  refine thn (hl.run pins s1 σ H1 _ I1 q1) fun vl s2 ⟨l, H2, I2, pl, q2⟩ => ?_
  rw [evalPart_none]
  refine wpAny_pure ?_
  refine thn (hs.run pins s2 σ H2 _ I2 q2) fun vs s3 ⟨o, H3, I3, ps, i, j, e1, e2, hj, q3⟩ => ?_
  subst e1 e2
  have I4 : Inv X pins σ H3 { s3 with heap := s3.heap.push { cls := .type "slice", data := .fields #[vl, .none, vs] } } := I3.kept (t' := s3.toks) fun b ob q => Heap.get?_push_of_some _ q
  obtain ⟨T, id, hT, ht, hg⟩ := sl_stp pins { s3 with heap := s3.heap.push { cls := .type "slice", data := .fields #[vl, .none, vs] } } σ H3 x v vl vs i j s3.heap.objs.size Q I4 r1 hj (Heap.IsSliceOf.new ..) pl ps q3
  show wpAny (model X.prog X.w) X.A (subscriptTail e (.Slice (some lo) none (some st) p2) v (.ref s3.heap.objs.size)) (EP X pins σ Q) X.xe { s3 with heap := s3.heap.push { cls := .type "slice", data := .fields #[vl, .none, vs] } }
  exact tail_any (ops := [v, .ref s3.heap.objs.size]) ht hT hg (by with_unfolding_all rfl)
end
section
variable {X : Cx} {E : XK} {a lo st : Expr} {fa : EM} {fl fs : PM} {pos p2 : Pos}
theorem se_stp (ha : SE X E a fa) (hl : SO X E (some lo) fl) (hs : SO X E (some st) fs) : SE X E (.Subscript a (.Slice (some lo) none (some st) p2) pos) (mStp fa fl fs) := by
  refine PE.mono (pe_stp ha hl hs) fun σ H Q ⟨fr, S, m, rf, rs, p⟩ => ?_
  refine rd_bind rf rs p fun x S1 m1 H1 e1 rf1 rs1 p1 v hv => ?_
  refine rdP_bind rf1 rs1 p1 fun l S2 m2 H2 e2 rf2 rs2 p2 => ?_
  refine rdP_bind rf2 rs2 p2 fun o S3 m3 H3 e3 rf3 rs3 p3 => ?_
  have hv3 := (hv.mono e2).mono e3
  unfold stpI at p3
  split at p3
  · rename_i i j
    split at p3
    · rename_i hc
      refine ⟨i.toNat, j.toNat, by congr 1; omega, by congr 1; omega, by omega, ?_⟩
      unfold oStp at p3
      cases hv3 with
      | @ref n b ha =>
        dsimp only at p3
        split at p3
        · rename_i l hl
          obtain ⟨xs, h0, r⟩ := rs3.lst ha hl
          exact ⟨b, xs, rfl, h0, fun c hc => post_new rs3 p3 hc fun e => ⟨_, upd_same, (rel_stp r _ _).mono e⟩⟩
        · exact p3.elim
      | _ => exact p3.elim
    · exact p3.elim
  · exact p3.elim
end
end Sm

set_option Elab.async false
set_option linter.all false
set_option maxRecDepth 100000
/-! list + list, either side a fixed list -/
namespace Sm
open PySem PySem.Spec PyProof.Rows L2 Mi
theorem add_lists (l : Addr) (items : Array Value) (n : Nat) (b : Addr) (items2 : Array Value) (n2 : Nat) (sl sl2 : Array (Option Value)) (hc0 : items.size + items2.size ≤ sizeLine) :
    Meets (Builtin.«list.__add__» ⟨[.ref l, .ref b], []⟩) (fun _ R s => s.heap.get? l = some { cls := .type "list", dict := none, data := .seq items n, slots := sl } ∧ s.heap.get? b = some { cls := .type "list", dict := none, data := .seq items2 n2, slots := sl2 } ∧ R (.ok (.ret (Value.ref s.heap.objs.size))) { s with heap := s.heap.push { cls := Value.type "list", data := Data.seq (items ++ items2) }, toks := s.toks }) :=
  .of_wp fun prog w A R s h => by obtain ⟨hp, g, d, tk, os⟩ := s; obtain ⟨hl, hb, h⟩ := h; have f1 := AutoSeq1.idx_int; have f2 := AutoSeq1.sub_tuple_tuple; have f3 := AutoSeq1.sub_list_list; have f4 := AutoSeq1.sub_tuple_list; have f5 := AutoSeq1.sub_list_tuple; wp_walk using AutoSeq1.wpAny_loadPart' hl, AutoSeq1.wpAny_loadPart' hb; exact ⟨_, rfl, h⟩
section
variable {X : Cx} {E : XK}
def rCatL (K : PySem.W.Frag) : R2 := fun x y H Q => ∃ l b xs zs, x = .ref l ∧ y = .ref b ∧ SqL K H l xs ∧ SqL K H b zs ∧ xs.length + zs.length ≤ sizeLine ∧ ∀ p, H p = none → Q (.ref p) (upd H p (.lst (xs ++ zs)))
theorem op_catL : OpR X (binaryOp .Add) (rCatL X.K) := by
  intro pins s σ H x y v u Q I rx ry h
  obtain ⟨l, b, xs, zs, rfl, rfl, hH, hB, hz, q⟩ := h
  cases rx
  cases ry
  obtain ⟨its, r, p1, _⟩ := I.list hH
  obtain ⟨its2, r2, p2, _⟩ := I.list hB
  obtain ⟨⟨cl, di, da, sl⟩, n, e, c, d0, d⟩ := p1
  obtain ⟨⟨cl2, di2, da2, sl2⟩, n2, e2, c2, d02, d2⟩ := p2
  dsimp only at c d0 d c2 d02 d2
  subst c d0 d c2 d02 d2
  have hl := r.length
  have hl2 := r2.length
  have hz2 : its.toArray.size + its2.toArray.size ≤ sizeLine := by rw [List.size_toArray, List.size_toArray]; omega
  refine concat_meets ⟨_, e, rfl⟩ ⟨_, e2, rfl⟩ noFill_list_add seq_list_add F.slot_list_add F.entry_list_add (F.args_list_add_2 _ _) (add_lists l its.toArray n b its2.toArray n2 sl sl2 hz2) ⟨e, e2, ?_⟩
  have ea : its.toArray ++ its2.toArray = (its ++ its2).toArray := by simp
  rw [ea]
  exact ⟨.ref _, _, I.lnew (t' := s.toks) (r.append r2) (by rw [List.length_append]; omega), rfl, q _ I.fresh⟩
theorem om_addL : OpM X E (binaryOp .Add) oAddL := by
  refine ⟨_, op_catL, fun x y v u S m H Q rs hv hw p => ?_⟩
  unfold oAddL at p
  cases hv with
  | @ref n a ha => cases hw with
    | @ref n' a' ha' =>
      dsimp only at p
      split at p
      · rename_i l l' e1 e2
        split at p
        · rename_i h
          obtain ⟨xs, h1, r1⟩ := rs.lst ha e1
          obtain ⟨ys, h2, r2⟩ := rs.lst ha' e2
          exact ⟨a, a', xs, ys, rfl, rfl, h1, h2, by rw [← r1.len, ← r2.len, line_eq]; exact h, fun b hb => post_new rs p hb fun e0 => ⟨_, upd_same, (r1.app r2).mono e0⟩⟩
        · exact p.elim
      · exact p.elim
    | _ => exact p.elim
  | _ => cases hw <;> exact p.elim
end
end Sm

set_option Elab.async false
set_option linter.all false
set_option maxRecDepth 100000
/-! l.remove(x) of data, against the layer -/
namespace Sm
open PySem PySem.Spec PyProof.Rows L2 Mi
section
variable {X : Cx} {E : XK}
def rRemD (K : PySem.W.Frag) : V → List V → Hp → VK → Prop := fun x xs H Q => ∃ (a : Addr) (y : V) (zs : List V) (d : PyData) (ds : List PyData) (j : Nat), x = .ref a ∧ xs = [y] ∧ H a = some (.lst zs) ∧ DpAll K H zs ds ∧ Dp K H y d ∧
  SeqAt.shaped (.list ds) = true ∧ SeqAt.shaped d = true ∧ placeD ds d = some j ∧ Q .non (upd H a (.lst (zs.eraseIdx j)))
theorem mt_removeD (hu : X.A.units + 65 < cLine) : MtR X "list.remove" (rRemD X.K) := by
  intro pins s σ H x xs v us Q I rx rxs h
  obtain ⟨a, y, zs, d, ds, j, rfl, rfl, hH, ha, hy, sl, sd, hp, q⟩ := h
  cases rx
  obtain ⟨uy, rfl, ry⟩ := rxs.one
  obtain ⟨bs, r1⟩ := Dp.reads I d y uy hy ry
  have hxs : PyData.canLayAll0 ds = true := SeqAt.canLay_of_shaped sl
  have hroom : X.A.units + 1 + min (PyData.depthAll ds) d.depth < cLine := room_in_shaped sd hu
  obtain ⟨z, its, n, rv, hl, e⟩ := I.lstM hH
  obtain ⟨as, h4⟩ := Dp.readsAll I ds zs its ha rv
  have hn : its.length = ds.length := SeqAt.ReadsAll.length ds its as h4
  have hmap : its.map (SeqAt.readOf s.heap) = ds := SeqAt.readsAll_map ds its as hxs h4
  unfold placeD at hp
  obtain ⟨h1, h2, h3⟩ := List.findIdx?_eq_some_iff_getElem.mp hp
  have hj : j < its.toArray.size := by rw [List.size_toArray]; omega
  have at_ : ∀ (m : Nat) (hm : m < its.toArray.size) (hm2 : m < ds.length), SeqAt.readOf s.heap its.toArray[m] = ds[m] := by
    intro m hm hm2
    have hml : m < its.length := by simpa using hm
    have e1 : (its.map (SeqAt.readOf s.heap))[m]? = ds[m]? := by rw [hmap]
    rw [List.getElem?_map, List.getElem?_eq_getElem hml, List.getElem?_eq_getElem hm2] at e1
    simpa using e1
  refine call_meets PySem.F.slot_list_remove ⟨_, e, rfl⟩ PySem.F.entry_list_remove (PySem.F.args_list_remove_2 _ _)
    (SeqAt.list_removeAt a its.toArray n none #[] uy (fun u => PyData.eqv (SeqAt.readOf s.heap u) d) j hj ?_ ?_ (by rw [List.size_toArray]; omega)) ⟨e, SeqAt.items_eqAt (vs := its.toArray) (show ReadsAll s.heap its.toArray.toList ds as from h4) r1 hxs (SeqAt.canLay_of_shaped sd) hroom, ?_⟩
  · show PyData.eqv (SeqAt.readOf s.heap its.toArray[j]) d = true
    rw [at_ j hj h1]
    exact h2
  · intro m hm hmj
    show PyData.eqv (SeqAt.readOf s.heap its.toArray[m]) d = false
    rw [at_ m hm (by omega)]
    have := h3 m hmj
    simpa using this
  · have rr := rv.eraseIdx j
    refine ⟨.non, _, I.lset (its' := its.eraseIdx j) (t' := s.toks) hH e ?_ rr ?_, rfl, q⟩
    · show its.toArray.eraseIdxIfInBounds j = (its.eraseIdx j).toArray
      rw [List.eraseIdxIfInBounds_toArray]
    · have z2 := List.length_eraseIdx_le zs j
      omega
theorem mm_remove (hu : X.A.units + 65 < cLine) : MtMm X E "list.remove" lRemove := by
  refine ⟨_, mt_removeD hu, fun x ds v vs S m H Q rs hv hvs p => ?_⟩
  unfold lRemove at p
  split at p
  · rename_i w
    obtain ⟨u, rfl, hw⟩ := rel1 hvs
    obtain ⟨n, a, l, xs, rfl, rfl, ha, hs, h1, h2, p⟩ := mut_list rs hv p
    split at p
    · rename_i d ps e1 e2
      split at p
      · rename_i hc
        split at p
        · rename_i j hj
          exact ⟨a, u, xs, d, ps, j, rfl, rfl, h1, dps_of (look_dp rs 8) l xs ps h2 e2, pd_dp rs hw e1, hc.2, hc.1, hj, put_list rs ha hs (h2.erase j) .non p⟩
        · exact p.elim
      · exact p.elim
    · exact p.elim
  · exact p.elim
end
end Sm

set_option Elab.async false
set_option linter.all false
set_option maxRecDepth 100000
set_option maxHeartbeats 2000000
/-! own exceptions: made, raised, caught -/
namespace Sm
open PySem PySem.Spec PyProof.Rows L2 Mi
theorem RelX.mono {c : Ct} {H H' : Hp} {m m' : List Addr} {x : Exn} {cls : Value} {da : Option Addr} (e : Ext m H m' H') (h : RelX c H m x cls da) : RelX c H' m' x cls da := by
  obtain ⟨C, h1, h2, d, fs, h3, h4, h5⟩ := h
  exact ⟨C, h1, h2, d, fs, h3, e.ts _ _ (.inr (.inr ⟨fs, rfl⟩)) h4, RelK.mono e h5⟩
section
variable {X : Cx} {E : XK}
/-! ### a class's __init__ that first asks another own class for its __init__ -/
/-- what the written part says of the class that is asked -/
structure BaseC (K : PySem.W.Frag) (C0 : Addr) : Prop where
  sp : PySem.W.specialIn K (.ref C0) "__getattribute__" = some (some (.builtin "type.__getattribute__"))
  rd : PySem.W.readsIn K C0 (.type "type") = true
  fd : PySem.W.findCls K (.ref C0) (.type "type") "__init__" = some (.val (.builtin "ValueError.__init__"))
theorem pe_hinit {x : Str} {C0 : Addr} {e : Expr} {es : List Expr} {ta : TA} {p1 p2 pos : Pos} {pl : Sem Bool} (B : BaseC X.K C0) (hg : Gl X x) (hm : X.mg x = some (.ref C0)) (ha : PA X (e :: es) ta)
    (hc : eval (.Call (.Attribute (.Name x p1) "__init__" p2) (e :: es) [] pos) X.env = (do
      let ov ← eval (.Name x p1) X.env
      standAt p2.atName
      let (f, first) ← holding [ov] (getMethod ov "__init__" pl)
      callWith pos f first (backTo pos (starEach (e :: es) X.env)) (backToKw pos (keywordEach [] X.env))) := by rfl)
    (hd : (x == ("__debug__" : Str)) = false := by decide)
    (he : starEach (e :: es) X.env = (false, eval e X.env) :: starEach es X.env := by rfl) (hpl : (backTo pos (starEach es X.env)).any (·.1) = false := by rfl) :
    PE X (.Call (.Attribute (.Name x p1) "__init__" p2) (e :: es) [] pos) (tVeI X.K ta) := by
  refine ⟨fun pins s σ H Q I h => ?_⟩
  refine PySem.W.methodCall_KW (ld_glob I hg hm ?_ hd) hc
  refine PySem.W.method_cls I.kIn B.sp (PySem.W.cls_value I.kIn B.rd B.fd (by decide +kernel) ?_)
  show wpAny _ _ (callWith pos (Value.builtin "ValueError.__init__") [] (backTo pos (starEach (e :: es) X.env)) []) _ _ _
  refine PyProof.Rows.callWith_method1 (thn (ha.run pos pins _ σ H _ (I.tok _) h) fun us s1 ⟨vs, H1, I1, r1, a, C, ws, ev, hl, T, ea, q⟩ => ?_) he hpl
  subst ev
  cases r1 with
  | @cons _ u0 _ ur ra rw' =>
    obtain rfl : u0 = Value.ref a := ra
    have hlen : ur.length ≤ sizeLine := by
      rw [← Paired.length rw', sizeLine_eq]
      omega
    exact oinit_ok T I1 ea hlen fun s' J => ⟨.non, H1, J, rfl, q⟩
/-- what __init__ leaves of the instance at a: fields as handed in -/
def spInit (C : Addr) (fs : List Tx) : Sp := fun vs H Q _ => ∃ (a : Addr) (ys : List V), vs = .ref a :: ys ∧ ys.length = fs.length ∧ H a = some (exo a C none) ∧
  ∀ (d : Addr) (H' : Hp), H' a = some (exo a C (some d)) → H' d = some (exd d (((fs.map sOf).zip ys).reverse)) → H d = none → d ≠ a → (∀ b, b ≠ a → b ≠ d → H' b = H b) → Q .non H'
/-- .. of an own exception class with that many fields -/
structure ExcOk (P : Program) (w : World) (K : PySem.W.Frag) (mg : Str → Option Value) (base : Heap) (x : Str) (C fI : Addr) (k : Nat) (fd : FuncData) (ps : List Str) (fs : List Tx) : Prop where
  g : mg x = some (.ref C)
  T : OexC K C
  iC : PySem.W.findIn K (.ref C) "__init__" = some (some (.ref fI))
  tI : PySem.W.typeIn K (.ref fI) = some (.type "function")
  F : FnOk P w K mg base CX0 k fI fd ps (spInit C fs)
  b : Binds K fd ps []
theorem zip_rel {c : Ct} {H : Hp} {m : List Addr} : ∀ {fs : List Tx} {ds : List D} {vs : List V}, RelL c.K H m ds vs → RelK c.K H m sOf (fs.zip ds) ((fs.map sOf).zip vs)
  | [], _, _, _ => .nil
  | _ :: _, _, _, .nil => by
    show RelK c.K H m sOf [] _
    rw [List.zip_nil_right]
    exact .nil
  | f :: fs, _, _, .cons h t => .cons ⟨rfl, h⟩ (zip_rel t)
theorem paired_app {α β : Type} {P : α → β → Prop} : ∀ {a b : List α} {c d : List β}, Paired P a c → Paired P b d → Paired P (a ++ b) (c ++ d)
  | _, _, _, _, .nil, h => h
  | _, _, _, _, .cons h t, h2 => .cons h (paired_app t h2)
theorem paired_rev {α β : Type} {P : α → β → Prop} : ∀ {a : List α} {b : List β}, Paired P a b → Paired P a.reverse b.reverse
  | _, _, .nil => .nil
  | _, _, .cons h t => by
    rw [List.reverse_cons, List.reverse_cons]
    exact paired_app (paired_rev t) (.cons h .nil)
theorem ss_raise {x : Str} {cn : String} {C fI : Addr} {k : Nat} {fd : FuncData} {ps : List Str} {fs : List Tx} {fa : AM} {e : Expr} {es : List Expr} {p pos pos2 : Pos} (hcn : (cn : Str) = x) (hc : X.calm = true) (tk : Takes X fun cls d _ H => E cls d H) (T : ExcOk X.prog X.w X.K X.mg X.base x C fI k fd ps fs) (hr : Room (k + 1) X.A) (hg : Gl X x)
    (hl : fs.length ≤ 1000) (ha : SA X E (e :: es) fa) (hdb : (x == ("__debug__" : Str)) = false := by decide) (he : starEach (e :: es) X.env = (false, eval e X.env) :: starEach es X.env := by rfl) (hpl : (backTo pos (starEach es X.env)).any (·.1) = false := by rfl) :
    SS X E (.Raise (some (.Call (.Name x p) (e :: es) [] pos)) none pos2) (sRaise cn fs fa) := by
  refine PS.mono (ps_raise hc tk (pmk_oex T.T T.iC T.tI T.F hr T.b .nil pass0 hg T.g ha hdb he hpl)) fun D σ H ⟨fr, S, m, rf, rs, p⟩ => ?_
  refine rdA_bind rf rs p fun ds S1 m1 H1 e1 rf1 rs1 p1 vs hv => ?_
  split at p1
  · rename_i hlen
    refine ⟨by rw [← hv.len, hlen]; exact hl, fun a na => ⟨a, vs, by rw [List.append_nil], by rw [← hv.len, hlen], upd_same, fun d H' ha' hd' hn' hda ho => ⟨rfl, d, _, ha', hd', ?_, ?_⟩⟩⟩
    · rw [upd_ne hda] at hn'; exact hn'
    · rw [upd_ne hda] at hn'
      have eH : upd (del H' a) d (.xd (((fs.map sOf).zip vs).reverse)) = upd H1 d (.xd (((fs.map sOf).zip vs).reverse)) := by
        funext b
        by_cases hb : b = d
        · rw [hb, upd_same, upd_same]
        · rw [upd_ne hb, upd_ne hb]
          by_cases hba : b = a
          · rw [hba, del_same, na]
          · rw [del_ne hba, ho b hba hb, upd_ne hba]
      rw [eH]
      have e2 : Ext m1 H1 m1 (upd H1 d (.xd (((fs.map sOf).zip vs).reverse))) := ⟨⟨fun _ _ z => z, tstay_new hn'⟩, fstay_new hn'⟩
      exact p1 m1 _ e2 (rs1.fresh hn') _ _ ⟨C, by rw [hcn]; exact T.g, rfl, d, _, rfl, upd_same, paired_rev (zip_rel (hv.mono e2))⟩
  · exact p1.elim
/-! ### try -/
/-- of the classes by name: whether they are caught -/
def Sub (c : Ct) (cc : Value) (sub : String → Option Bool) : Prop := ∀ n b, sub n = some b → ∀ C : Addr, c.mg (n : Str) = some (.ref C) → PySem.W.exmOne c.K (.ref C) cc = some b
/-- what a call lets out, at the slots -/
theorem se_callW {W : WX} {CX : CXT} {k : Nat} {f : Addr} {fd : FuncData} {ps : List Str} {g : Fn} {x : Str} {p pos : Pos} {e : Expr} {es : List Expr} {fs : AM} (F : FnOk X.prog X.w X.K X.mg X.base CX k f fd ps (spM (cx X) g)) (hr : Room k X.A) (hg : Gl X x) (hm : X.mg x = some (.ref f)) (hk : PySem.W.keepIn X.K (.ref f) = true) (hb : Binds X.K fd ps [])
    (hx : ∀ σ, PassesAt CX X σ (WE W σ)) (ha : ∀ E, SA X E (e :: es) fs) (hdb : (x == ("__debug__" : Str)) = false := by decide) (he : starEach (e :: es) X.env = (false, eval e X.env) :: starEach es X.env := by rfl) (hpl : (backTo pos (starEach es X.env)).any (·.1) = false := by rfl) :
    PE X (.Call (.Name x p) (e :: es) [] pos) (fun σ H Q => rdE (cx X) (WE W σ) (mCall g fs) σ H Q) := by
  have ha' : PA X (e :: es) (fun σ H Q => rdA (cx X) (WE W σ) fs σ H Q) := ⟨fun pos pins s σ H Q I h => (ha (WE W σ)).run pos pins s σ H Q I h⟩
  exact PE.mono (pe_callS F hr hg hm hk hb hx ha' hdb he hpl) fun σ H Q ⟨fr, S, m, rf, rs, p⟩ => rd_call rf rs p
/-- a try's body: its way out by the slots at its beginning -/
def SB (X : Cx) (W : WX) (st : List Stmt) (g : SM) : Prop := PSs X st fun D σ H => rdS (cx X) (WE W σ) g D σ H
theorem sb_expr {W : WX} {e : Expr} {fe : EM} {pos : Pos} (he : PE X e (fun σ H Q => rdE (cx X) (WE W σ) fe σ H Q)) (hs : swapsWith e none pos.line X.env = pure false := by rfl) : SB X W [.Expr e pos] (sExp fe) := by
  refine PSs.mono (pss_one (ps_expr he hs)) fun D σ H ⟨fr, S, m, rf, rs, p⟩ => ?_
  exact rd_bind rf rs p fun x S1 m1 H1 e1 rf1 rs1 p1 v hv => p1.here rs1 σ rf1
theorem sb_set {W : WX} {i : Nat} {x : Str} {e : Expr} {fe : EM} {pos pos' : Pos} (hN : X.N.Nodup) (hi : X.N[i]? = some x) (hx : Loc X.env.scope x) (he : PE X e (fun σ H Q => rdE (cx X) (WE W σ) fe σ H Q)) (hs : swapsWith e (some (.Name x pos')) pos.line X.env = pure false := by rfl) (hf : X.fn x = true ∨ X.env.scope.names.lookup x = some .local := by first | exact .inl rfl | exact .inr rfl | assumption) :
    SB X W [.Assign [.Name x pos'] e pos] (sAsg fe (Mi.gName i)) := by
  refine PSs.mono (pss_one (ps_set hN hi hx he hs hf)) fun D σ H ⟨fr, S, m, rf, rs, p⟩ => ?_
  refine rd_bind rf rs p fun x S1 m1 H1 e1 rf1 rs1 p1 v hv => ?_
  exact (post_bind p1).here rs1 |>.here rs1 _ (rf1.set hv i)
/-- the reading of a suite, the exception at a -/
def rdX (c : Ct) (a : Addr) (i : Nat) (cls : Value) (d : Option Addr) (x : Exn) (g : SM) : TS := fun D σ H => ∃ fr S m, RF c.K H m fr σ ∧ RS c m S H ∧ RelX c H m x cls d ∧ σ[i]? = some (some (.ref a)) ∧ Post c EF m H (g fr S) (kS c D)
theorem ss_try {x : Str} {cc : Value} {sub : String → Option Bool} {body suite : List Stmt} {b₀ : Stmt} {np pos pos' : Pos} {b : SM} {h : Exn → SM} (hs : X.stack = X.env :: X.outer) (hf : X.env.frame = some X.env.locals) (hc : Names X x cc) (tk : Takes X fun cls d _ H => E cls d H) (hsub : Sub (cx X) cc sub)
    (hb : ∀ (W : WX) (pn : List (Addr × Obj)) (xe : Value → Shared → Prop), Takes (X.tr pn xe) W → PassesOwn (model X.prog X.w) X.A X.env xe → SB (X.tr pn xe) W body b)
    (hsu : ∀ (a : Addr) (pn : List (Addr × Obj)) (x : Exn), SSs (X.suite a pn) EF (b₀ :: suite) (h x)) :
    SS X E (.Try body [.ExceptHandler (some (.Name x np)) none (b₀ :: suite) pos'] [] [] pos) (sTry sub b h) := by
  refine PS.mono (ps_try_only (tb := fun W D σ H => rdS (cx X) (WE W σ) b D σ H) (ts := fun a cls d D σ H => ∃ x, rdS (cx X) EF (h x) D σ H) (Wout := fun cls d _ H => E cls d H) hs hf hc tk (fun W pn xe t1 t2 => hb W pn xe t1 t2)
    (fun a oe cls d pn hz hd => ⟨fun pins s σ H D I ⟨x, q⟩ => (hsu a ((a, oe) :: pn) x).run pins s σ H D I q⟩)) fun D σ H ⟨fr, S, m, rf, rs, p⟩ => ?_
  refine ⟨fr, S, m, rf, rs, ?_⟩
  unfold sTry at p
  generalize b fr S = r at p
  cases r with
  | ok o S' => exact p
  | bad => exact p.elim
  | exc x S' =>
    intro m' H' e' rs' cls da rx
    unfold tryK at p
    dsimp only at p
    obtain ⟨C, hC, hcls, _⟩ := id rx
    subst hcls
    split at p
    · rename_i hb'
      refine ⟨true, hsub _ _ hb' C hC, fun _ a ha => ⟨x, fr, S', m', rf.mono e', rs', ?_⟩, fun z => nomatch z⟩
      exact (post_quiet p).ext e'
    · rename_i hb'
      exact ⟨false, hsub _ _ hb' C hC, fun z => (nomatch z), fun _ => p m' H' e' rs' _ _ rx⟩
    · exact p.elim
theorem ss_tryA {x n : Str} {i : Nat} {cc : Value} {sub : String → Option Bool} {body suite : List Stmt} {b₀ : Stmt} {np pos pos' : Pos} {b : SM} {h : Exn → SM} (hs : X.stack = X.env :: X.outer) (hf : X.env.frame = some X.env.locals) (hN : X.N.Nodup) (hi : X.N[i]? = some n) (hln : X.env.kindOf n = some .local) (hc : Names X x cc) (tk : Takes X fun cls d _ H => E cls d H) (hsub : Sub (cx X) cc sub)
    (hb : ∀ (W : WX) (pn : List (Addr × Obj)) (xe : Value → Shared → Prop), Takes (X.tr pn xe) W → PassesOwn (model X.prog X.w) X.A X.env xe → SB (X.tr pn xe) W body b)
    (hsu : ∀ (a : Addr) (oe : Obj) (cls : Value) (d : Option Addr) (pn : List (Addr × Obj)) (x : Exn), Zc cls d oe → (∃ vs, oe.data = .fields vs) → PSs (X.suite a ((a, oe) :: pn)) (b₀ :: suite) (rdX (cx X) a i cls d x (h x))) :
    SS X E (.Try body [.ExceptHandler (some (.Name x np)) (some n) (b₀ :: suite) pos'] [] [] pos) (sTryA sub i b h) := by
  refine PS.mono (ps_try_as (i := i) (tb := fun W D σ H => rdS (cx X) (WE W σ) b D σ H) (ts := fun a cls d D σ H => ∃ x, rdX (cx X) a i cls d x (h x) D σ H) (Wout := fun cls d _ H => E cls d H) hs hf hN hi hln hc tk (fun W pn xe t1 t2 => hb W pn xe t1 t2)
    (fun a oe cls d pn hz hd => ⟨fun pins s σ H D I ⟨x, q⟩ => (hsu a oe cls d pn x hz hd).run pins s σ H D I q⟩)) fun D σ H ⟨fr, S, m, rf, rs, p⟩ => ?_
  refine ⟨fr, S, m, rf, rs, ?_⟩
  unfold sTryA at p
  generalize b fr S = r at p
  cases r with
  | ok o S' => exact p
  | bad => exact p.elim
  | exc x S' =>
    intro m' H' e' rs' cls da rx
    unfold tryK at p
    dsimp only at p
    obtain ⟨C, hC, hcls, _⟩ := id rx
    subst hcls
    split at p
    · rename_i hb'
      have p := (post_quiet (E' := EF) p).ext e'
      split at p
      · rename_i hlt
        refine ⟨true, hsub _ _ hb' C hC, fun _ a ha => ⟨x, fr.set i none, S', m', ?_, rs', rx, ?_, ?_⟩, fun z => nomatch z⟩
        · have rf' := rf.mono e'
          refine ⟨by rw [List.length_set, List.length_set]; exact rf'.len, fun j d' q => ?_⟩
          by_cases e : i = j
          · subst e
            rw [List.getElem?_set_self hlt] at q
            cases q
          · rw [List.getElem?_set_ne e] at q
            rw [List.getElem?_set_ne e]
            exact rf'.get j d' q
        · rw [List.getElem?_set_self (by rw [← rf.len]; exact hlt)]
        · refine (post_bind p).imp fun o S2 m2 H2 e2 rs2 p2 => ?_
          have p2 := p2.here rs2
          cases o with
          | nx fr2 => exact fun σ2 rf2 => p2 _ (rf2.none i)
          | rt d2 => exact p2
          | bk fr2 => exact fun σ2 rf2 => p2 _ (rf2.none i)
          | ct fr2 => exact fun σ2 rf2 => p2 _ (rf2.none i)
      · exact p.elim
    · rename_i hb'
      exact ⟨false, hsub _ _ hb' C hC, fun z => (nomatch z), fun _ => p m' H' e' rs' _ _ rx⟩
    · exact p.elim
end
/-! ### a suite that reads the fields -/
section
variable {X : Cx} {a : Addr} {oe : Obj} {cls : Value} {d : Option Addr} {pn : List (Addr × Obj)} {x : Exn} {i : Nat}
def rdXE (c : Ct) (a : Addr) (i : Nat) (cls : Value) (d : Option Addr) (x : Exn) (f : EM) : TE := fun σ H Q => ∃ fr S m, RF c.K H m fr σ ∧ RS c m S H ∧ RelX c H m x cls d ∧ σ[i]? = some (some (.ref a)) ∧ Post c EF m H (f fr S) (kE c Q)
def rdXA (c : Ct) (a : Addr) (i : Nat) (cls : Value) (d : Option Addr) (x : Exn) (f : AM) : TA := fun σ H Q => ∃ fr S m, RF c.K H m fr σ ∧ RS c m S H ∧ RelX c H m x cls d ∧ σ[i]? = some (some (.ref a)) ∧ Post c EF m H (f fr S) fun ds _ m H => ∀ vs, RelL c.K H m ds vs → Q vs H
theorem xe_of {Y : Cx} {e : Expr} {f : EM} (h : SE Y EF e f) : PE Y e (rdXE (cx Y) a i cls d x f) := PE.mono h fun σ H Q ⟨fr, S, m, rf, rs, _, _, p⟩ => ⟨fr, S, m, rf, rs, p⟩
theorem lkF_rel {c : Ct} {H : Hp} {m : List Addr} (f : Tx) : ∀ {l : List (Tx × D)} {fs : List (Str × V)}, RelK c.K H m sOf l fs → ∀ dv, lkF l f = some dv → ∃ v, fs.lookup (sOf f) = some v ∧ RelD c.K H m dv v
  | _, _, .nil, dv, h => by cases h
  | (g, dg) :: l, (gs, vg) :: fs, .cons h t, dv, e => by
    obtain ⟨h1, h2⟩ := h
    have h1 : sOf g = gs := h1
    have h2 : RelD c.K H m dg vg := h2
    subst h1
    rw [lookup_put]
    by_cases hg : g = f
    · subst hg
      rw [if_pos rfl]
      have e' : some dg = some dv := by rw [← e]; simp [lkF]
      cases e'
      exact ⟨vg, rfl, h2⟩
    · rw [if_neg fun z => hg (sOf_inj z).symm]
      refine lkF_rel f t dv ?_
      rw [← e]
      simp [lkF, hg]
theorem xe_fld {C : Addr} {cn : String} {nm y : Str} {f : Tx} {p pos : Pos} (T : XfC X.K C) (hno : PySem.W.findIn X.K (.ref C) nm = some none) (hn : nm = sOf f) (hm : X.mg (cn : Str) = some (.ref C)) (hz : Zc cls d oe) (hf : ∃ vs, oe.data = .fields vs)
    (hN : (X.suite a ((a, oe) :: pn)).N[i]? = some y := by rfl) (hv : Vis X.env.scope y := by first | exact Or.inl rfl | exact Or.inr (Or.inl rfl) | exact Or.inr (Or.inr rfl)) (hd : (y == ("__debug__" : Str)) = false := by decide)
    (hcd : (y == ("__classdict__" : Str)) = false := by decide) (hb : attributeBase (.Name y p) nm X.env (eval (.Name y p) X.env) = eval (.Name y p) X.env := by rfl) :
    PE (X.suite a ((a, oe) :: pn)) (.Attribute (.Name y p) nm pos) (rdXE (cx X) a i cls d x (mXf cn x f)) := by
  refine PE.mono (pe_xf T hno hz hf (pe_var (i := i) hN hv hd hcd) hb) fun σ H Q ⟨fr, S, m, rf, rs, rx, hσ, p⟩ => ?_
  refine ⟨_, hσ, rfl, ?_⟩
  unfold mXf at p
  split at p
  · rename_i hcls
    obtain ⟨C', h1, h2, dd, fs, h3, h4, h5⟩ := rx
    rw [hcls] at h1
    have e : C' = C := by
      have := h1.symm.trans hm
      cases this
      rfl
    subst e
    split at p
    · rename_i dv hdv
      obtain ⟨v, hv1, hv2⟩ := lkF_rel f h5 dv hdv
      rw [← hn] at hv1
      exact ⟨h2, dd, fs, v, h3, h4, hv1, p.here rs v hv2⟩
    · exact p.elim
  · exact p.elim
theorem xa_nil {Y : Cx} : PA Y [] (rdXA (cx Y) a i cls d x aNil) := PA.mono pa_nil fun σ H Q ⟨fr, S, m, rf, rs, _, _, p⟩ => p.here rs [] .nil
theorem xa_cons {Y : Cx} {e : Expr} {es : List Expr} {fa : EM} {fs : AM} (ha : PE Y e (rdXE (cx Y) a i cls d x fa)) (hr : PA Y es (rdXA (cx Y) a i cls d x fs)) (hs : starEach (e :: es) Y.env = (false, eval e Y.env) :: starEach es Y.env := by rfl) : PA Y (e :: es) (rdXA (cx Y) a i cls d x (aCons fa fs)) := by
  refine PA.mono (pa_cons ha hr hs) fun σ H Q ⟨fr, S, m, rf, rs, rx, hσ, p⟩ => ?_
  refine ⟨fr, S, m, rf, rs, rx, hσ, (post_bind p).imp fun z S1 m1 H1 e1 rs1 p1 v hv => ?_⟩
  refine ⟨fr, S1, m1, rf.mono e1, rs1, rx.mono e1, hσ, (post_bind p1).imp fun xs S2 m2 H2 e2 rs2 p2 vs hvs => ?_⟩
  exact p2.here rs2 _ (.cons (hv.mono e2) hvs)
theorem xe_tup {Y : Cx} {es : List Expr} {fs : AM} {x1 pos} (h : PA Y es (rdXA (cx Y) a i cls d x fs)) : PE Y (.Tuple es x1 pos) (rdXE (cx Y) a i cls d x (mTup fs)) := by
  refine PE.mono (pe_tup h) fun σ H Q ⟨fr, S, m, rf, rs, rx, hσ, p⟩ => ?_
  refine ⟨fr, S, m, rf, rs, rx, hσ, (post_bind p).imp fun xs S1 m1 H1 e1 rs1 p1 vs hv => ?_⟩
  split at p1
  · rename_i hl
    exact ⟨by rw [← hv.len, line_eq]; exact hl, fun b hb => post_tup rs1 p1 hb hv⟩
  · exact p1.elim
theorem xe_lst {Y : Cx} {es : List Expr} {fs : AM} {pos} (h : PA Y es (rdXA (cx Y) a i cls d x fs)) : PE Y (.List es pos) (rdXE (cx Y) a i cls d x (mLst fs)) := by
  refine PE.mono (pe_lst h) fun σ H Q ⟨fr, S, m, rf, rs, rx, hσ, p⟩ => ?_
  refine ⟨fr, S, m, rf, rs, rx, hσ, (post_bind p).imp fun xs S1 m1 H1 e1 rs1 p1 vs hv => ?_⟩
  split at p1
  · rename_i hl
    exact ⟨by rw [← hv.len, line_eq]; exact hl, fun b hb => post_new rs1 p1 hb fun e0 => ⟨vs, upd_same, hv.mono e0⟩⟩
  · exact p1.elim
theorem xs_set {Y : Cx} {j : Nat} {y : Str} {e : Expr} {fe : EM} {pos pos' : Pos} (hij : j ≠ i) (hN : Y.N.Nodup) (hi : Y.N[j]? = some y) (hx : Loc Y.env.scope y) (he : PE Y e (rdXE (cx Y) a i cls d x fe)) (hs : swapsWith e (some (.Name y pos')) pos.line Y.env = pure false := by rfl) (hf : Y.fn y = true ∨ Y.env.scope.names.lookup y = some .local := by first | exact .inl rfl | exact .inr rfl | assumption) :
    PSs Y [.Assign [.Name y pos'] e pos] (rdX (cx Y) a i cls d x (sAsg fe (Mi.gName j))) := by
  refine PSs.mono (pss_one (ps_set hN hi hx he hs hf)) fun D σ H ⟨fr, S, m, rf, rs, rx, hσ, p⟩ => ?_
  refine ⟨fr, S, m, rf, rs, rx, hσ, (post_bind p).imp fun z S1 m1 H1 e1 rs1 p1 v hv => ?_⟩
  exact (post_bind p1).here rs1 |>.here rs1 _ ((rf.mono e1).set hv j)
theorem xs_cons {Y : Cx} {j : Nat} {y : Str} {e : Expr} {fe : EM} {pos pos' : Pos} {rest : List Stmt} {g : SM} (hij : j ≠ i) (hN : Y.N.Nodup) (hi : Y.N[j]? = some y) (hx : Loc Y.env.scope y) (he : PE Y e (rdXE (cx Y) a i cls d x fe)) (hr : PSs Y rest (rdX (cx Y) a i cls d x g)) (hs : swapsWith e (some (.Name y pos')) pos.line Y.env = pure false := by rfl) (hf : Y.fn y = true ∨ Y.env.scope.names.lookup y = some .local := by first | exact .inl rfl | exact .inr rfl | assumption) :
    PSs Y (.Assign [.Name y pos'] e pos :: rest) (rdX (cx Y) a i cls d x (sSeq (sAsg fe (Mi.gName j)) g)) := by
  refine PSs.mono (pss_cons (ps_set hN hi hx he hs hf) hr) fun D σ H ⟨fr, S, m, rf, rs, rx, hσ, p⟩ => ?_
  have p := post_bind p
  refine ⟨fr, S, m, rf, rs, rx, hσ, (post_bind p).imp fun z S1 m1 H1 e1 rs1 p1 v hv => ?_⟩
  have q := (post_bind p1).here rs1 |>.here rs1
  exact ⟨_, S1, m1, (rf.mono e1).set hv j, rs1, rx.mono e1, by rw [List.getElem?_set_ne hij]; exact hσ, q⟩
end
/-! ### a def that may raise -/
section
variable {P : Program} {w : World} {K : PySem.W.Frag} {mg : Str → Option Value} {base : Heap}
theorem fn_okX {x qual : Str} {st : Stmt} {f : Addr} {fd : FuncData} {N ps : List Str} {k : Nat} {b : SM} (F : Fun K x qual st f fd) (S : FnScope N ps (defScope st))
    (hb : ∀ (cdv : Value) (A : Around) (outer : List Env) (s : Shared) (H : Hp) (E : XK), Room k (A.deeper (envOfC qual (defScope st) s.heap.objs.size f cdv)) → SSs (cxOf (L2.CX P w) P w K mg base N qual (defScope st) f cdv A outer s H E) E (defBody st) b) :
    FnOk P w K mg base (L2.CX P w) (k + 1) f fd ps (spM ⟨K, mg⟩ (mDefX ps.length N.length b)) := by
  refine F.okX S (fun vs H Q E h => ?_) (fun cdv A outer s H vs Q E hr h => ?_)
  · obtain ⟨ds, S', m, r, rs, p⟩ := h
    unfold mDefX at p
    split at p
    · rename_i hl
      rw [← r.len]; exact hl
    · exact p.elim
  · obtain ⟨ds, S', m, r, rs, p⟩ := h
    unfold mDefX at p
    split at p
    · refine ⟨_, hb cdv A outer s H E hr, startF N.length ds, S', m, start_rel (c := ⟨K, mg⟩) r, rs, (post_bind p).imp fun o S1 m1 H1 e1 rs1 p1 => ?_⟩
      cases o with
      | nx fr => exact fun σ rf => p1.here rs1 _ .non
      | rt d => exact fun v hv => p1.here rs1 v hv
      | bk fr => exact p1.elim
      | ct fr => exact p1.elim
    · exact p.elim
end
end Sm

set_option Elab.async false
set_option linter.all false
set_option maxRecDepth 100000
set_option maxHeartbeats 2000000
/-! an exception class's own __init__ -/
namespace Sm
open PySem PySem.Spec PyProof.Rows L2 Mi
/-- an error of a class is caught by the clause that names the class -/
theorem exm_self {K : PySem.W.Frag} {S : Addr} (h1 : PySem.W.subIn K (.ref S) (.type "BaseException") = some true) (h2 : PySem.W.isClsIn K S = true) (h3 : PySem.W.typeIn K (.ref S) = some (.type "type")) (h4 : PySem.W.subIn K (.ref S) (.ref S) = some true) :
    PySem.W.exmOne K (.ref S) (.ref S) = some true := by
  have e1 : (PySem.W.subIn K (.ref S) (.type "BaseException") == some true) = true := by rw [h1] <;> rfl
  have e2 : ((PySem.W.clsIn K S).isSome && PySem.W.typeIn K (.ref S) == some (.type "type")) = true := by
    have h2' : (PySem.W.clsIn K S).isSome = true := h2
    rw [h2', h3] <;> rfl
  show (if (PySem.W.subIn K (.ref S) (.type "BaseException") == some true) = true then (if ((PySem.W.clsIn K S).isSome && PySem.W.typeIn K (.ref S) == some (.type "type")) = true then PySem.W.subIn K (.ref S) (.ref S) else none) else none) = some true
  rw [if_pos e1, if_pos e2]
  exact h4
theorem sub_one {c : Ct} {cn : String} {C : Addr} (hm : c.mg (cn : Str) = some (.ref C)) (em : PySem.W.exmOne c.K (.ref C) (.ref C) = some true) : Sub c (.ref C) (fun n => if n = cn then some true else none) := by
  intro n b h C' hC'
  dsimp only at h
  split at h
  · rename_i e
    subst e
    cases h
    rw [hm] at hC'
    cases hC'
    exact em
  · cases h
theorem init_pure3 {K : PySem.W.Frag} {C : Addr} {n1 n2 n3 : Str} {f1 f2 f3 : Tx} {v : V} {N : List Str} {vs : List V} {H : Hp} {Q : VK} {E : XK} (T : OexC K C) (e1 : n1 = sOf f1) (e2 : n2 = sOf f2) (e3 : n3 = sOf f3) (h1 : PySem.W.findIn K (.ref C) n1 = some none) (h2 : PySem.W.findIn K (.ref C) n2 = some none) (h3 : PySem.W.findIn K (.ref C) n3 = some none)
    (hN : N.length = 4) (h : spInit C [f1, f2, f3] vs H Q E) :
    tSeq (tDrop (tVeI K (tCons (tVar 0) (tCons (tC v) tNil)))) (tSeq (tOst K n1 (tVar 0) (tVar 1)) (tSeq (tOst K n2 (tVar 0) (tVar 2)) (tOst K n3 (tVar 0) (tVar 3)))) { nx := fun _ H' => Q .non H', rt := Q } (start N vs) H := by
  subst e1 e2 e3
  obtain ⟨a, ys, rfl, hl, ha, q⟩ := h
  match ys, hl with
  | [y1, y2, y3], _ =>
    have hs : start N [.ref a, y1, y2, y3] = [some (.ref a), some y1, some y2, some y3] := by
      unfold L2.start
      rw [hN]
      rfl
    rw [hs]
    refine ⟨_, rfl, a, C, [v], rfl, (show 1 ≤ 1000 by decide), T, ha, ?_⟩
    refine ⟨_, rfl, _, rfl, a, C, rfl, T, h1, .inl ⟨ha, fun d hd hda => ?_⟩⟩
    have A1 : upd (upd H d (exd d [(sOf f1, y1)])) a (exo a C (some d)) a = some (exo a C (some d)) := upd_same
    have D1 : upd (upd H d (exd d [(sOf f1, y1)])) a (exo a C (some d)) d = some (exd d [(sOf f1, y1)]) := by rw [upd_ne hda, upd_same]
    generalize hG : upd (upd H d (exd d [(sOf f1, y1)])) a (exo a C (some d)) = G at A1 D1
    refine ⟨_, rfl, _, rfl, a, C, rfl, T, h2, .inr ⟨d, _, A1, D1, by simp, ?_⟩⟩
    have A2 : upd G d (exd d ((sOf f2, y2) :: [(sOf f1, y1)])) a = some (exo a C (some d)) := by rw [upd_ne (Ne.symm hda)]; exact A1
    have D2 : upd G d (exd d ((sOf f2, y2) :: [(sOf f1, y1)])) d = some (exd d [(sOf f2, y2), (sOf f1, y1)]) := upd_same
    refine ⟨_, rfl, _, rfl, a, C, rfl, T, h3, .inr ⟨d, _, A2, D2, by simp, ?_⟩⟩
    refine q d _ (by rw [upd_ne (Ne.symm hda)]; exact A2) upd_same hd hda fun b hb hbd => ?_
    rw [upd_ne hbd, upd_ne hbd, ← hG, upd_ne hb, upd_ne hbd]
theorem init_pure2 {K : PySem.W.Frag} {C : Addr} {n1 n2 : Str} {f1 f2 : Tx} {v : V} {N : List Str} {vs : List V} {H : Hp} {Q : VK} {E : XK} (T : OexC K C) (e1 : n1 = sOf f1) (e2 : n2 = sOf f2) (h1 : PySem.W.findIn K (.ref C) n1 = some none) (h2 : PySem.W.findIn K (.ref C) n2 = some none)
    (hN : N.length = 3) (h : spInit C [f1, f2] vs H Q E) :
    tSeq (tDrop (tVeI K (tCons (tVar 0) (tCons (tC v) tNil)))) (tSeq (tOst K n1 (tVar 0) (tVar 1)) (tOst K n2 (tVar 0) (tVar 2))) { nx := fun _ H' => Q .non H', rt := Q } (start N vs) H := by
  subst e1 e2
  obtain ⟨a, ys, rfl, hl, ha, q⟩ := h
  match ys, hl with
  | [y1, y2], _ =>
    have hs : start N [.ref a, y1, y2] = [some (.ref a), some y1, some y2] := by
      unfold L2.start
      rw [hN]
      rfl
    rw [hs]
    refine ⟨_, rfl, a, C, [v], rfl, (show 1 ≤ 1000 by decide), T, ha, ?_⟩
    refine ⟨_, rfl, _, rfl, a, C, rfl, T, h1, .inl ⟨ha, fun d hd hda => ?_⟩⟩
    have A1 : upd (upd H d (exd d [(sOf f1, y1)])) a (exo a C (some d)) a = some (exo a C (some d)) := upd_same
    have D1 : upd (upd H d (exd d [(sOf f1, y1)])) a (exo a C (some d)) d = some (exd d [(sOf f1, y1)]) := by rw [upd_ne hda, upd_same]
    generalize hG : upd (upd H d (exd d [(sOf f1, y1)])) a (exo a C (some d)) = G at A1 D1
    refine ⟨_, rfl, _, rfl, a, C, rfl, T, h2, .inr ⟨d, _, A1, D1, by simp, ?_⟩⟩
    refine q d _ (by rw [upd_ne (Ne.symm hda)]; exact A1) upd_same hd hda fun b hb hbd => ?_
    rw [upd_ne hbd, ← hG, upd_ne hb, upd_ne hbd]
theorem init_pure1 {K : PySem.W.Frag} {C : Addr} {n1 : Str} {f1 : Tx} {v : V} {N : List Str} {vs : List V} {H : Hp} {Q : VK} {E : XK} (T : OexC K C) (e1 : n1 = sOf f1) (h1 : PySem.W.findIn K (.ref C) n1 = some none)
    (hN : N.length = 2) (h : spInit C [f1] vs H Q E) :
    tSeq (tDrop (tVeI K (tCons (tVar 0) (tCons (tC v) tNil)))) (tOst K n1 (tVar 0) (tVar 1)) { nx := fun _ H' => Q .non H', rt := Q } (start N vs) H := by
  subst e1
  obtain ⟨a, ys, rfl, hl, ha, q⟩ := h
  match ys, hl with
  | [y1], _ =>
    have hs : start N [.ref a, y1] = [some (.ref a), some y1] := by
      unfold L2.start
      rw [hN]
      rfl
    rw [hs]
    refine ⟨_, rfl, a, C, [v], rfl, (show 1 ≤ 1000 by decide), T, ha, ?_⟩
    refine ⟨_, rfl, _, rfl, a, C, rfl, T, h1, .inl ⟨ha, fun d hd hda => ?_⟩⟩
    refine q d _ upd_same (by rw [upd_ne hda, upd_same]; rfl) hd hda fun b hb hbd => ?_
    rw [upd_ne hb, upd_ne hbd]
theorem spInit_len {C : Addr} {fs : List Tx} {vs : List V} {H : Hp} {Q : VK} {E : XK} (h : spInit C fs vs H Q E) : vs.length = fs.length + 1 := by
  obtain ⟨a, ys, rfl, hl, _⟩ := h
  rw [List.length_cons, hl]
/-- the defs in a class's text -/
def clsBody : Stmt → List Stmt
  | .ClassDef (body := b) .. => b
  | _ => []
end Sm

set_option Elab.async false
set_option linter.all false
set_option maxRecDepth 100000
set_option maxHeartbeats 2000000
/-! l.index(x) of data, o[i] += e, against the layer -/
namespace Sm
open PySem PySem.Spec PyProof.Rows L2 Mi
section
variable {X : Cx} {E : XK}
theorem mm_indexD (hu : X.A.units + 65 < cLine) : MtMm X E "list.index" lIndexD := by
  refine ⟨_, mt_indexD hu, fun x ds v vs S m H Q rs hv hvs p => ?_⟩
  unfold lIndexD at p
  split at p
  · rename_i w
    obtain ⟨u, rfl, hw⟩ := rel1 hvs
    split at p
    · rename_i ps d e1 e2
      split at p
      · rename_i hc
        split at p
        · rename_i j hj
          have dl := pd_dp rs hv e1
          cases hv with
          | @ref n a ha =>
            unfold placeD at hj
            obtain ⟨h1, h2, h3⟩ := List.findIdx?_eq_some_iff_getElem.mp hj
            exact ⟨a, u, d, ps, j, ps[j], rfl, rfl, dl, pd_dp rs hw e2, hc.2, hc.1, List.getElem?_eq_getElem h1, h2, fun k z hk hz => by
              obtain ⟨hk2, rfl⟩ := List.getElem?_eq_some_iff.mp hz
              have := h3 k hk
              simpa using this, p.here rs _ (.int _)⟩
          | tup h r =>
            exfalso
            unfold pd toP at e1
            obtain ⟨q, _, hq⟩ := Option.map_eq_some_iff.mp e1
            cases hq
          | wtp h r =>
            exfalso
            unfold pd toP at e1
            obtain ⟨q, _, hq⟩ := Option.map_eq_some_iff.mp e1
            cases hq
          | non => exfalso; unfold pd toP at e1; cases e1
          | bl => exfalso; unfold pd toP at e1; cases e1
          | int => exfalso; unfold pd toP at e1; cases e1
          | str => exfalso; unfold pd toP at e1; cases e1
        · exact p.elim
      · exact p.elim
    · exact p.elim
  · exact p.elim
/-- o[i] of a list, i from 0 on -/
def rGetL (K : PySem.W.Frag) : V → V → Hp → VK → Prop := fun o i H Q => ∃ (a : Addr) (k : Int) (xs : List V) (z : V), o = .ref a ∧ i = .int k ∧ 0 ≤ k ∧ k < 2 ^ 63 ∧ SqL K H a xs ∧ xs[k.toNat]? = some z ∧ Q z H
theorem pget_list : PGet X (rGetL X.K) := by
  intro pins s σ H o i ov iv Q I ro ri h
  obtain ⟨a, k, xs, z, rfl, rfl, h0, h1, hq, hz, q⟩ := h
  cases ro
  obtain ⟨t, rfl⟩ := ri
  obtain ⟨its, r, pl, _⟩ := I.list hq
  obtain ⟨w, ew, rw'⟩ := r.get hz
  exact wpAny_getItem_list pl.isList h0 h1 (by simpa using ew) ⟨z, H, I, rw', q⟩
theorem ss_augS {o i e : Expr} {fo fi fe : EM} {pos tpos : Pos} (hu : X.A.units + 65 < cLine) (ho : SE X E o fo) (hi : SE X E i fi) (he : SE X E e fe)
    (ha : ∀ ov iv new, augStore i ov iv new = (do holding [new, ov, iv] (setItem ov iv new); release [new, ov, iv] []; pure .next) := by intros; rfl) : SS X E (.AugAssign (.Subscript o i tpos) .Add e pos) (sAugS fo fi fe) := by
  refine PS.mono (ps_augS ho hi pget_list he ip_add (pset_or set_list (set_dict (by omega))) ha) fun D σ H ⟨fr, S, m, rf, rs, p⟩ => ?_
  refine rd_bind rf rs p fun x S1 m1 H1 e1 rf1 rs1 p1 xv hx => ?_
  refine rd_bind rf1 rs1 p1 fun y S2 m2 H2 e2 rf2 rs2 p2 yv hy => ?_
  have hx2 := hx.mono e2
  unfold getL at p2
  split at p2
  · rename_i n k
    split at p2
    · rename_i hk
      split at p2
      · rename_i l hl
        split at p2
        · rename_i v hv
          cases hx2 with
          | @ref _ a ha =>
            cases hy
            obtain ⟨xs, q1, q2⟩ := rs2.lst ha hl
            obtain ⟨z, hz, rz⟩ := q2.ix hv
            refine ⟨a, k, xs, z, rfl, rfl, hk.1, hk.2, q1, hz, ?_⟩
            refine rd_bind rf2 rs2 p2 fun w S4 m4 H4 e4 rf4 rs4 p4 wv hw => ?_
            have rz4 := rz.mono e4
            unfold oAddI at p4
            split at p4
            · rename_i i1 i2
              cases rz4
              cases hw
              refine ⟨i1, i2, rfl, rfl, ?_⟩
              have hx4 : RelD X.K H4 m4 (.ref n) (.ref a) := (RelD.ref (K := X.K) (H := H2) ha).mono e4
              rcases look_put rs4 hx4 (.int k) (.int (i1 + i2)) (post_bind p4) with h | ⟨b, H', e0, g, S', m', e3, rs3, q⟩
              · left
                obtain ⟨p0, xs', k', j, h1, h2, h3, h4, S', m', e3, rs3, q⟩ := h
                exact ⟨p0, xs', k', j, h1, h2, h3, h4, q.here rs3 σ (rf4.mono e3)⟩
              · exact .inr ⟨b, H', e0, g, q.here rs3 σ (rf4.mono e3)⟩
            · exact p4.elim
        · exact p2.elim
      · exact p2.elim
    · exact p2.elim
  · exact p2.elim
end
end Sm

set_option Elab.async false
set_option linter.all false
set_option maxRecDepth 100000
set_option maxHeartbeats 2000000
/-! calls with keywords, against the layer -/
namespace Sm
open PySem PySem.Spec PyProof.Rows L2 Mi
section
variable {X : Cx} {E : XK} {kpos : Pos} {e : Expr} {fa : EM} {nm : Option Str}
theorem PK.mono {kws : List Keyword} {t t' : TA} (h : PK X kws t) (f : ∀ σ H Q, t' σ H Q → t σ H Q) : PK X kws t' := ⟨fun pos pins s σ H Q I q => h.run pos pins s σ H Q I (f σ H Q q)⟩
theorem sk_nil : PK X [] (rdA (cx X) E aNil) := PK.mono pk_nil fun σ H Q ⟨fr, S, m, rf, rs, p⟩ => p.here rs [] .nil
theorem sk_cons {kws : List Keyword} {fs : AM} (ha : SE X E e fa) (hr : PK X kws (rdA (cx X) E fs)) : PK X (⟨nm, e, kpos⟩ :: kws) (rdA (cx X) E (aCons fa fs)) := by
  refine PK.mono (pk_cons ha hr) fun σ H Q ⟨fr, S, m, rf, rs, p⟩ => ?_
  refine rd_bind rf rs p fun x S1 m1 H1 e1 rf1 rs1 p1 v hv => ?_
  refine rdA_bind rf1 rs1 p1 fun xs S2 m2 H2 e2 rf2 rs2 p2 vs hvs => ?_
  exact p2.here rs2 _ (.cons (hv.mono e2) hvs)
end
section
variable {X : Cx} {E : XK} {pos : Pos} {e : Expr}
theorem se_callK {CX : CXT} {k n kn : Nat} {f : Addr} {fd : FuncData} {ps ks : List Str} {g : Fn} {x : Str} {p : Pos} {es : List Expr} {kws : List Keyword} {fs f2 : AM} (F : FnOk X.prog X.w X.K X.mg X.base CX k f fd ps (spM (cx X) g)) (hr : Room k X.A) (hg : Gl X x) (hm : X.mg x = some (.ref f)) (hk : PySem.W.keepIn X.K (.ref f) = true)
    (hb : KBn X.K fd ps n ks (fun us ws => us ++ ws) (fun vs zs => vs ++ zs)) (hx : Passes CX X E) (ha : SA X E (e :: es) fs) (h2 : PK X kws (rdA (cx X) E f2))
    (hkn : ks.length = kn := by rfl) (hall : (backToKw pos (keywordEach kws X.env)).all (·.1.isSome) = true := by rfl) (hks : (backToKw pos (keywordEach kws X.env)).filterMap (·.1) = ks := by rfl)
    (hdb : (x == ("__debug__" : Str)) = false := by decide) (he : starEach (e :: es) X.env = (false, eval e X.env) :: starEach es X.env := by rfl)
    (hpl : ((backTo pos (starEach (e :: es) X.env)).any (·.1) || (backToKw pos (keywordEach kws X.env)).any (·.1.isNone)) = false := by rfl) :
    SE X E (.Call (.Name x p) (e :: es) kws pos) (mCall g (aKw n kn fs f2)) := by
  subst hkn
  refine PE.mono (pe_callN F hr hg hm hk hb hx ha h2 hall hks hdb he hpl) fun σ H Q ⟨fr, S, m, rf, rs, q⟩ => ?_
  have q : Post (cx X) E m H ((aKw n ks.length fs f2 fr S).bind g) (kE (cx X) Q) := q
  rw [aKw_bind] at q
  refine rdA_bind rf rs q fun ds S1 m1 H1 e1 rf1 rs1 p1 vs hv => ?_
  refine rdA_bind rf1 rs1 p1 fun es S2 m2 H2 e2 rf2 rs2 p2 zs hz => ?_
  split at p2
  · rename_i hl
    exact ⟨hv.len.symm.trans hl.1, hz.len.symm.trans hl.2, _, S2, m2, (hv.mono e2).app hz, rs2, p2⟩
  · exact p2.elim
end
section
variable {K : PySem.W.Frag} {x qual : Str} {params : Arguments} {body : List Stmt} {scope : Scope} {d : V} {dvs : List V} {f : Addr} {fd : FuncData} {ps : List Str}
theorem fnD_kw (F : FunD K x qual params body scope (d :: dvs) [] f fd) (n : Nat) (ks : List Str)
    (h : ∀ (T : Addr) (kV doc pm : Value) (an : Option Addr) (cdv ct : Value) (us its ws : List Value), us.length = n → its.length = (d :: dvs).length → ws.length = ks.length →
      ∃ k, bindArgs (PySem.W.fnOf x qual params body scope (.ref T) kV doc pm an cdv ct) ⟨us, ks.zip ws⟩ = seqItems? (.ref T) >>= k ∧ k (some its.toArray) = pure (ps.zip (us ++ ws))) : KBn K fd ps n ks (fun us ws => us ++ ws) (fun vs zs => vs ++ zs) := by
  obtain ⟨oc, od, dV, kV, doc, pm, an, cdv, ct, osl, rfl, lk, hcd, hD, hK⟩ := F.ex
  rcases hD with ⟨e, _⟩ | ⟨_, T, o, its, m, rfl, lT, oT, rT⟩
  · cases e
  · refine ⟨fun s us ws X l1 l2 => ?_, fun r1 r2 => r1.append r2⟩
    obtain ⟨k, e1, e2⟩ := h T kV doc pm an cdv ct us its ws l1 rT.length.symm l2
    refine BindsTo.of_looks fun M => ?_
    rw [e1]
    exact looks_items X lT oT (.of_pure e2)
end
section
variable {X : Cx} {E : XK}
theorem om_and1 : OpM X E (binaryOp .BitAnd) oAnd1 := by
  refine ⟨_, op_andM, fun x y v u S m H Q rs hv hw p => ?_⟩
  cases hv <;> cases hw <;> first
    | exact p.elim
    | (rename_i i j
       unfold oAnd1 at p
       dsimp only at p
       split at p
       · rename_i h
         subst h
         exact ⟨i, 1, rfl, rfl, post_int rs p⟩
       · exact p.elim)
end
end Sm

set_option Elab.async false
set_option linter.all false
set_option maxRecDepth 100000
set_option maxHeartbeats 2000000
/-! displays, slices and sums of tuples known as they stand, against the layer -/
namespace Sm
open PySem PySem.Spec PyProof.Rows L2 Mi
section
variable {X : Cx} {E : XK} {pos : Pos}
/-- (e, ..), known as it stands -/
def tTupX (t : TA) : TE := fun σ H Q => t σ H fun xs H1 => xs.length ≤ sizeLine ∧ ∀ (a : Addr) (o : Obj), o.dict = none → H1 a = none → Q (.ref a) (upd H1 a (.frz o (.tup xs)))
theorem pe_tupX {es : List Expr} {t : TA} {x1} (h : PA X es t) : PE X (.Tuple es x1 pos) (tTupX t) := by
  refine ⟨fun pins s σ H Q I hq => ?_⟩
  refine wpAny_Tuple_spliced (thn (h.run pos pins s σ H _ I hq) fun us s1 ⟨xs, H1, I1, r, z, q⟩ => ⟨by rw [← r.length]; exact z, ?_⟩)
  have hf : H1 s1.heap.objs.size = none := I1.hok.fresh (Nat.le_refl _)
  refine ⟨.ref s1.heap.objs.size, upd H1 s1.heap.objs.size (.frz { cls := .type "tuple", data := .seq us.toArray } (.tup xs)), I1.laid (t' := s1.toks) (fun b u e => Heap.get?_push_of_some _ e) (Nat.le_refl _) ?_, rfl, q _ _ rfl hf⟩
  exact ⟨Heap.get?_push_size _ rfl, z, us, r, ⟨_, Heap.get?_push_size _ rfl, rfl, _, rfl⟩⟩
theorem se_tupX {es : List Expr} {fs : AM} {x1} (h : SA X E es fs) : SE X E (.Tuple es x1 pos) (mTupX fs) := by
  refine PE.mono (pe_tupX h) fun σ H Q ⟨fr, S, m, rf, rs, p⟩ => ?_
  refine rdA_bind rf rs p fun xs S1 m1 H1 e1 rf1 rs1 p1 vs hv => ?_
  split at p1
  · rename_i hl
    exact ⟨by rw [← hv.len, line_eq]; exact hl, fun a o ho ha => post_wtp rs1 p1 ha ho hv⟩
  · exact p1.elim
/-- t + u, known as it stands -/
def rCatW (K : PySem.W.Frag) : R2 := fun x y H Q => ∃ a b xs ys, x = .ref a ∧ y = .ref b ∧ SqT K H a xs ∧ SqT K H b ys ∧ xs.length + ys.length ≤ sizeLine ∧
  (xs = [] → Q (.ref b) H) ∧ (xs ≠ [] → ys = [] → Q (.ref a) H) ∧ (xs ≠ [] → ys ≠ [] → ∀ (p : Addr) (o : Obj), o.dict = none → H p = none → Q (.ref p) (upd H p (.frz o (.tup (xs ++ ys)))))
theorem op_catW : OpR X (binaryOp .Add) (rCatW X.K) := by
  intro pins s σ H x y v u Q I rx ry h
  obtain ⟨a, b, xs, ys, rfl, rfl, ha, hb, hz, q0, q1, q2⟩ := h
  cases rx
  cases ry
  obtain ⟨its, r1, p1, _⟩ := I.tuple ha
  obtain ⟨its2, r2, p2, _⟩ := I.tuple hb
  by_cases hx : xs = []
  · subst hx
    cases r1
    exact cat_tup0 p1 p2 ⟨.ref b, H, I, rfl, q0 rfl⟩
  · refine HT.cat_tup p1 p2 (fun z => hx (r1.nil_iff.mp z)) (fun z => ⟨.ref a, H, I, rfl, q1 hx (r2.nil_iff.mp z)⟩) (fun z => ?_) (by rw [← r1.length, ← r2.length]; exact hz)
    refine ⟨.ref s.heap.objs.size, upd H s.heap.objs.size (.frz { cls := .type "tuple", data := .seq (its ++ its2).toArray } (.tup (xs ++ ys))), I.laid (t' := s.toks) (fun b ob q => Heap.get?_push_of_some _ q) (Nat.le_refl _) ?_, rfl, q2 hx (fun w => z (r2.nil_iff.mpr w)) _ _ rfl (I.hok.fresh (Nat.le_refl _))⟩
    exact ⟨Heap.get?_push_size _ rfl, by rw [List.length_append]; exact hz, _, r1.append r2, IsTup.new _ _⟩
theorem om_addW : OpM X E (binaryOp .Add) oAddW := by
  refine ⟨_, op_catW, fun x y v u S m H Q rs hv hw p => ?_⟩
  unfold oAddW at p
  split at p
  · rename_i a b
    split at p
    · rename_i hl
      cases hv with
      | @wtp _ ad xs ha r1 =>
        cases hw with
        | @wtp _ bd ys hb r2 =>
          refine ⟨ad, bd, xs, ys, rfl, rfl, ha.sq, hb.sq, by rw [← r1.len, ← r2.len, line_eq]; exact hl, fun z => ?_, fun _ z => ?_, fun _ _ q o ho hq => post_wtp rs p hq ho (r1.app r2)⟩
          · have e : a = [] := List.length_eq_zero_iff.mp (by rw [r1.len, z]; rfl)
            subst e
            exact p.here rs _ (.wtp hb r2)
          · have e : b = [] := List.length_eq_zero_iff.mp (by rw [r2.len, z]; rfl)
            subst e
            rw [List.append_nil] at p
            exact p.here rs _ (.wtp ha r1)
    · exact p.elim
  · exact p.elim
/-- t[lo:hi], known as it stands -/
def rSlW (K : PySem.W.Frag) : V → Option Int → Option Int → Hp → VK → Prop := fun x lo hi H Q => ∃ a xs, x = .ref a ∧ SqT K H a xs ∧
  (HT.sIx xs.length 0 lo = 0 ∧ HT.sIx xs.length xs.length hi = xs.length → Q (.ref a) H) ∧ (¬ (HT.sIx xs.length 0 lo = 0 ∧ HT.sIx xs.length xs.length hi = xs.length) → ∀ (p : Addr) (o : Obj), o.dict = none → H p = none → Q (.ref p) (upd H p (.frz o (.tup (cutV xs lo hi)))))
theorem sl_tupW : SlR X (rSlW X.K) := by
  intro pins s σ H x v vl vu lo hi sl Q I rx hs pl pu h
  obtain ⟨a, xs, rfl, hx, q1, q2⟩ := h
  cases rx
  obtain ⟨its, r, ht, hz⟩ := I.tuple hx
  have hlen : its.toArray.size = xs.length := by rw [List.size_toArray]; exact r.length.symm
  refine ⟨"tuple", _, PyProof.Rows.slot_tuple_getitem.lookup, ht.typeIs, ?_⟩
  by_cases hw : HT.sIx xs.length 0 lo = 0 ∧ HT.sIx xs.length xs.length hi = xs.length
  · exact getItem_tuple_whole ht hs pl pu (by rw [hlen]; exact hw) ⟨.ref a, H, I, rfl, q1 hw⟩
  · refine HT.getItem_tuple_cut ht hs pl pu (by rw [hlen]; exact hw) ?_ (by rw [hlen]; exact hz)
    rw [hlen]
    refine ⟨.ref s.heap.objs.size, upd H s.heap.objs.size (.frz _ (.tup (cutV xs lo hi))), I.laid (t' := s.toks) (fun b ob q => Heap.get?_push_of_some _ q) (Nat.le_refl _) (show ObjOk X.prog X.w _ _ _ (.frz _ (.tup (cutV xs lo hi))) from ⟨Heap.get?_push_size _ rfl, Nat.le_trans (cutV_length xs lo hi) hz, _, (r.drop (HT.sIx xs.length 0 lo)).take (HT.sIx xs.length xs.length hi - HT.sIx xs.length 0 lo), IsTup.new _ _⟩), rfl, q2 hw _ _ rfl (I.hok.fresh (Nat.le_refl _))⟩
theorem slmW : SlM X E oSlW := by
  refine ⟨_, sl_tupW, fun x lo hi v S m H Q rs hv p => ?_⟩
  unfold oSlW at p
  split at p
  · rename_i l
    cases hv with
    | @wtp _ ad xs ha r1 =>
      refine ⟨ad, xs, rfl, ha.sq, fun z => ?_, fun _ q o ho hq => post_wtp rs p hq ho (cut_rel r1 lo hi)⟩
      have e : cut l lo hi = l := by
        unfold cut
        have z1 : sIx l.length 0 lo = 0 := by rw [r1.len]; exact z.1
        have z2 : sIx l.length l.length hi = l.length := by rw [r1.len]; exact z.2
        rw [z1, z2, List.drop_zero, Nat.sub_zero, List.take_length]
      rw [e] at p
      exact p.here rs _ (.wtp ha r1)
  · exact p.elim
theorem se_slW {a : Expr} {fa : EM} {lo hi : Option Expr} {fl fh : PM} {p2 : Pos} (ha : SE X E a fa) (hl : SO X E lo fl) (hh : SO X E hi fh) : SE X E (.Subscript a (.Slice lo hi none p2) pos) (mSlW fa fl fh) := by
  obtain ⟨r, ho, hr⟩ := slmW (X := X) (E := E)
  refine PE.mono (pe_slice ho ha hl hh) fun σ H Q ⟨fr, S, m, rf, rs, p⟩ => ?_
  refine rd_bind rf rs p fun x S1 m1 H1 e1 rf1 rs1 p1 v hv => ?_
  refine rdP_bind rf1 rs1 p1 fun l S2 m2 H2 e2 rf2 rs2 p2 => ?_
  refine rdP_bind rf2 rs2 p2 fun h S3 m3 H3 e3 rf3 rs3 p3 => ?_
  exact hr x l h v S3 m3 H3 Q rs3 ((hv.mono e2).mono e3) p3
end
end Sm

set_option Elab.async false
set_option linter.all false
set_option maxRecDepth 100000
set_option maxHeartbeats 2000000
/-! instances of own classes, against the layer -/
namespace Sm
open PySem PySem.Spec PyProof.Rows L2 Mi
section
variable {c : Ct} {m : List Addr} {S : Store} {H : Hp} {E : XK}
theorem lkF_non {K : PySem.W.Frag} (f : Tx) : ∀ {l : List (Tx × D)} {fs : List (Str × V)}, RelK K H m sOf l fs → lkF l f = none → fs.lookup (sOf f) = none
  | _, _, .nil, h => rfl
  | (g, dg) :: l, (gs, vg) :: fs, .cons h t, e => by
    obtain ⟨h1, h2⟩ := h
    have h1 : sOf g = gs := h1
    subst h1
    rw [lookup_put]
    by_cases hg : g = f
    · subst hg
      exfalso
      simp [lkF] at e
    · rw [if_neg fun z => hg (sOf_inj z).symm]
      refine lkF_non f t ?_
      rw [← e]
      simp [lkF, hg]
theorem fPut_rel {K : PySem.W.Frag} (f : Tx) {d : D} {v : V} (hv : RelD K H m d v) : ∀ {l : List (Tx × D)} {fs : List (Str × V)}, RelK K H m sOf l fs → RelK K H m sOf (fPut f d l) (putF (sOf f) v fs)
  | _, _, .nil => .cons ⟨rfl, hv⟩ .nil
  | (g, dg) :: l, (gs, vg) :: fs, .cons h t => by
    obtain ⟨h1, h2⟩ := h
    have h1 : sOf g = gs := h1
    subst h1
    unfold fPut putF
    by_cases hg : g = f
    · rw [if_pos hg, if_pos (by rw [hg])]
      exact .cons ⟨rfl, hv⟩ t
    · rw [if_neg hg, if_neg fun z => hg (sOf_inj z)]
      exact .cons ⟨rfl, h2⟩ (fPut_rel f hv t)
theorem RelK.len {K : PySem.W.Frag} {κ κ' : Type} {g : κ → κ'} : ∀ {l : List (κ × D)} {fs : List (κ' × V)}, RelK K H m g l fs → l.length = fs.length
  | _, _, .nil => rfl
  | _ :: _, _ :: _, .cons _ t => congrArg Nat.succ (RelK.len t)
/-- an instance known -/
theorem ins_of (rs : RS c m S H) {cn : String} {x : D} {v : V} {n : Nat} {fs : List (Tx × D)} (hv : RelD c.K H m x v) (h : insOf cn S x = some (n, fs)) : ∃ (a Ca dx : Addr) (gs : List (Str × V)), x = .ref n ∧ v = .ref a ∧ m[n]? = some a ∧ S[n]? = some (.ins cn fs) ∧ c.mg (cn : Str) = some (.ref Ca) ∧ H a = some (.ins Ca dx gs) ∧ RelK c.K H m sOf fs gs := by
  unfold insOf at h
  split at h
  · rename_i k
    split at h
    · rename_i C gs hs
      split at h
      · rename_i hc
        cases h
        subst hc
        cases hv with
        | @ref _ a ha =>
          obtain ⟨Ca, dx, ws, h1, h2, h3⟩ := rs.ob _ _ _ ha hs
          exact ⟨a, Ca, dx, ws, rfl, rfl, ha, hs, h1, h2, h3⟩
      · cases h
    · cases h
  · cases h
end
section
variable {X : Cx} {E : XK} {pos : Pos} {e : Expr} {fa : EM}
theorem se_fld {cn : String} {f : Tx} {nm : Str} {C : Addr} (hm : X.mg (cn : Str) = some (.ref C)) (c : Cls X.K C) (n : NoAttr X.K C nm) (hn : nm = sOf f) (he : SE X E e fa) (hb : attributeBase e nm X.env (eval e X.env) = eval e X.env := by rfl) : SE X E (.Attribute e nm pos) (mFld cn f fa) := by
  refine PE.mono (pe_fld he hb) fun σ H Q ⟨fr, S, m, rf, rs, p⟩ => ?_
  refine rd_bind rf rs p fun x S1 m1 H1 e1 rf1 rs1 p1 v hv => ?_
  split at p1
  · rename_i k fs hi
    obtain ⟨a, Ca, dx, gs, rfl, rfl, ha, hs, h1, h2, h3⟩ := ins_of rs1 hv hi
    have e : Ca = C := by
      have := h1.symm.trans hm
      cases this
      rfl
    subst e
    split at p1
    · rename_i dv hdv
      obtain ⟨v, hv1, hv2⟩ := lkF_rel f h3 dv hdv
      rw [← hn] at hv1
      exact ⟨a, Ca, dx, gs, v, rfl, h2, c, n, hv1, p1.here rs1 v hv2⟩
    · exact p1.elim
  · exact p1.elim
theorem ss_fld {cn : String} {f : Tx} {nm : Str} {C : Addr} {o value : Expr} {pos' : Pos} {fo fv : EM} (hm : X.mg (cn : Str) = some (.ref C)) (c : Cls X.K C) (n : NoAttr X.K C nm) (hn : nm = sOf f) (hv : SE X E value fv) (ho : SE X E o fo) (hsw : swapsWith value (some (.Attribute o nm pos')) pos.line X.env = pure false := by rfl) : SS X E (.Assign [.Attribute o nm pos'] value pos) (sFldM cn f fv fo) := by
  refine PS.mono (ps_fld ho hv hsw) fun D σ H ⟨fr, S, m, rf, rs, p⟩ => ?_
  refine rd_bind rf rs p fun y S1 m1 H1 e1 rf1 rs1 p1 v hv => ?_
  refine rd_bind rf1 rs1 p1 fun x S2 m2 H2 e2 rf2 rs2 p2 w hw => ?_
  split at p2
  · rename_i k fs hi
    split at p2
    · rename_i hl
      obtain ⟨a, Ca, dx, gs, rfl, rfl, ha, hs, h1, h2, h3⟩ := ins_of rs2 hw hi
      have e : Ca = C := by
        have := h1.symm.trans hm
        cases this
        rfl
      subst e
      subst hn
      refine ⟨a, Ca, dx, gs, rfl, h2, c, n, by rw [← RelK.len h3]; exact hl, ?_⟩
      obtain ⟨rs', e'⟩ := rs2.set (o' := .ins cn (fPut f y fs)) (u := .ins Ca dx (putF (sOf f) v gs)) ha hs trivial trivial fun e' => ⟨Ca, dx, _, h1, upd_same, RelK.mono e' (fPut_rel f (hv.mono e2) h3)⟩
      exact p2 _ _ e' rs' σ (rf2.mono e')
    · exact p2.elim
  · exact p2.elim
theorem se_meth {CX : CXT} {k : Nat} {f C : Addr} {fd : FuncData} {ps : List Str} {g : Fn} {cn : String} {mn : Tx} {nm : Str} {apos : Pos} {o : Expr} {es : List Expr} {fo : EM} {fs : AM} (hm : X.mg (cn : Str) = some (.ref C)) (c : Cls X.K C) (M : Meth X.K C nm f) (hn : nm = sOf mn) (F : FnOk X.prog X.w X.K X.mg X.base CX k f fd ps (spM (cx X) g)) (hr : Room k X.A) (hb : Binds X.K fd ps []) (hx : Passes CX X E)
    (ho : SE X E o fo) (ha : SA X E (e :: es) fs)
    (hst : starEach (e :: es) X.env = (false, eval e X.env) :: starEach es X.env := by rfl) (hpl : (backTo pos (starEach es X.env)).any (·.1) = false := by rfl)
    {pl : Sem Bool} (ht : eval (.Call (.Attribute o nm apos) (e :: es) [] pos) X.env = (do
      let ov ← eval o X.env
      standAt apos.atName
      let (f, first) ← holding [ov] (getMethod ov nm pl)
      callWith pos f first (backTo pos (starEach (e :: es) X.env)) (backToKw pos (keywordEach [] X.env))) := by rfl) :
    SE X E (.Call (.Attribute o nm apos) (e :: es) [] pos) (mMeth cn mn g fo fs) := by
  refine PE.mono (pe_meth ho c M F hr hb .nil hx ha hst hpl ht) fun σ H Q ⟨fr, S, m, rf, rs, p⟩ => ?_
  refine rd_bind rf rs p fun x S1 m1 H1 e1 rf1 rs1 p1 v hv => ?_
  split at p1
  · rename_i k fs hi
    obtain ⟨a, Ca, dx, gs, rfl, rfl, ha, hs, h1, h2, h3⟩ := ins_of rs1 hv hi
    have e : Ca = C := by
      have := h1.symm.trans hm
      cases this
      rfl
    subst e
    split at p1
    · rename_i hl
      refine ⟨a, dx, gs, rfl, h2, by rw [hn]; exact lkF_non mn h3 hl, ?_⟩
      refine rdA_bind rf1 rs1 p1 fun ds S2 m2 H2 e2 rf2 rs2 p2 vs hvs => ?_
      refine ⟨_, S2, m2, ?_, rs2, p2⟩
      rw [List.append_nil]
      exact .cons (hv.mono e2) hvs
    · exact p1.elim
  · exact p1.elim
theorem se_meth0 {CX : CXT} {k : Nat} {f C : Addr} {fd : FuncData} {ps : List Str} {g : Fn} {cn : String} {mn : Tx} {nm : Str} {apos : Pos} {o : Expr} {fo : EM} (hm : X.mg (cn : Str) = some (.ref C)) (c : Cls X.K C) (M : Meth X.K C nm f) (hn : nm = sOf mn) (F : FnOk X.prog X.w X.K X.mg X.base CX k f fd ps (spM (cx X) g)) (hr : Room k X.A) (hb : Binds X.K fd ps []) (hx : Passes CX X E)
    (ho : SE X E o fo)
    {pl : Sem Bool} (ht : eval (.Call (.Attribute o nm apos) [] [] pos) X.env = (do
      let ov ← eval o X.env
      standAt apos.atName
      let (f, first) ← holding [ov] (getMethod ov nm pl)
      callWith pos f first (backTo pos (starEach [] X.env)) (backToKw pos (keywordEach [] X.env))) := by rfl) :
    SE X E (.Call (.Attribute o nm apos) [] [] pos) (mMeth cn mn g fo aNil) := by
  refine PE.mono (pe_meth0 ho c M F hr hb .nil hx ht) fun σ H Q ⟨fr, S, m, rf, rs, p⟩ => ?_
  refine rd_bind rf rs p fun x S1 m1 H1 e1 rf1 rs1 p1 v hv => ?_
  split at p1
  · rename_i k fs hi
    obtain ⟨a, Ca, dx, gs, rfl, rfl, ha, hs, h1, h2, h3⟩ := ins_of rs1 hv hi
    have e : Ca = C := by
      have := h1.symm.trans hm
      cases this
      rfl
    subst e
    split at p1
    · rename_i hl
      refine ⟨a, dx, gs, rfl, h2, by rw [hn]; exact lkF_non mn h3 hl, ?_⟩
      exact ⟨_, S1, m1, .cons hv .nil, rs1, p1⟩
    · exact p1.elim
  · exact p1.elim
theorem se_make {CX : CXT} {k : Nat} {f C : Addr} {fd : FuncData} {ps : List Str} {g : Fn} {cn : String} {x : Str} {p : Pos} {es : List Expr} {fs : AM} (M : Mk X.K C f) (F : FnOk X.prog X.w X.K X.mg X.base CX k f fd ps (spM (cx X) g)) (hr : Room (k + 1) X.A) (hg : Gl X x) (hxc : x = (cn : Str)) (hm : X.mg x = some (.ref C)) (hb : Binds X.K fd ps []) (hx : Passes CX X E)
    (ha : SA X E (e :: es) fs) (hdb : (x == ("__debug__" : Str)) = false := by decide) (he : starEach (e :: es) X.env = (false, eval e X.env) :: starEach es X.env := by rfl) (hpl : (backTo pos (starEach es X.env)).any (·.1) = false := by rfl) :
    SE X E (.Call (.Name x p) (e :: es) [] pos) (mMake cn g fs) := by
  refine PE.mono (pe_make M F hr hg hm hb .nil hx ha hdb he hpl) fun σ H Q ⟨fr, S, m, rf, rs, q⟩ => ?_
  refine rdA_bind rf rs q fun ds S1 m1 H1 e1 rf1 rs1 p1 vs hvs => ?_
  intro a dx ha1 hd1 hne
  have rs2 := rs1.fresh (u := .own a) hd1
  have e2 : Ext m1 H1 m1 (upd H1 dx (.own a)) := ⟨⟨fun _ _ z => z, tstay_new hd1⟩, fstay_new hd1⟩
  have ha2 : upd H1 dx (.own a) a = none := by rw [upd_ne hne.symm]; exact ha1
  obtain ⟨rs3, e3⟩ := rs2.push (o := .ins cn []) (u := .ins C dx []) ha2 ⟨C, dx, [], by rw [← hxc]; exact hm, upd_same, .nil⟩
  have e13 := e2.trans e3
  have hmN : (m1 ++ [a])[S1.length]? = some a := by
    rw [← rs1.len, List.getElem?_append_right (Nat.le_refl _), Nat.sub_self]
    rfl
  refine ⟨_, _, _, .cons (.ref hmN) (by rw [List.append_nil]; exact hvs.mono e13), rs3, ?_⟩
  have p2 := Post.ext p1 e13
  refine (post_bind p2).imp fun d S4 m4 H4 e4 rs4 p4 v hv => ?_
  split at p4
  · rename_i hd
    refine ⟨?_, p4.here rs4 _ ((RelD.ref hmN : RelD (cx X).K _ (m1 ++ [a]) (.ref S1.length) (.ref a)).mono e4)⟩
    cases d <;> first | (cases hv; rfl) | (exact absurd hd (by decide)) | (simp [isN] at hd)
  · exact p4.elim
end
end Sm

set_option Elab.async false
set_option linter.all false
set_option maxRecDepth 100000
set_option maxHeartbeats 2000000
/-! C() without arguments, s.isalpha(), against the layer -/
namespace Sm
open PySem PySem.Spec PyProof.Rows L2 Mi
section
variable {X : Cx} {E : XK} {pos : Pos}
theorem alp_ok : ∀ c, c < 128 → Txt.isalpha (sOf [c]) = alpC c := by decide +kernel
theorem mm_isalpha : MtMm X E "str.isalpha" sAlpha := by
  refine ⟨_, mt_isalpha, fun x ds v vs S m H Q rs hv hvs p => ?_⟩
  unfold sAlpha at p
  split at p
  · rename_i c
    cases hv
    split at p
    · cases hvs
      split at p
      · rename_i h
        refine ⟨sOf [c], rfl, rfl, trivial, ?_⟩
        rw [alp_ok c h]
        exact post_bl rs p
      · exact p.elim
    · exact p.elim
  · exact p.elim
theorem se_make0 {CX : CXT} {k : Nat} {f C : Addr} {fd : FuncData} {ps : List Str} {g : Fn} {cn : String} {x : Str} {p : Pos} (M : Mk X.K C f) (F : FnOk X.prog X.w X.K X.mg X.base CX k f fd ps (spM (cx X) g)) (hr : Room (k + 1) X.A) (hg : Gl X x) (hxc : x = (cn : Str)) (hm : X.mg x = some (.ref C)) (hb : Binds X.K fd ps []) (hx : Passes CX X E)
    (hdb : (x == ("__debug__" : Str)) = false := by decide) :
    SE X E (.Call (.Name x p) [] [] pos) (mMake cn g aNil) := by
  refine PE.mono (pe_make0 M F hr hg hm hb .nil hx hdb) fun σ H Q ⟨fr, S1, m1, rf, rs1, p1⟩ => ?_
  show ∀ a dx, H a = none → H dx = none → dx ≠ a → _
  intro a dx ha1 hd1 hne
  have rs2 := rs1.fresh (u := .own a) hd1
  have e2 : Ext m1 H m1 (upd H dx (.own a)) := ⟨⟨fun _ _ z => z, tstay_new hd1⟩, fstay_new hd1⟩
  have ha2 : upd H dx (.own a) a = none := by rw [upd_ne hne.symm]; exact ha1
  obtain ⟨rs3, e3⟩ := rs2.push (o := .ins cn []) (u := .ins C dx []) ha2 ⟨C, dx, [], by rw [← hxc]; exact hm, upd_same, .nil⟩
  have e13 := e2.trans e3
  have hmN : (m1 ++ [a])[S1.length]? = some a := by
    rw [← rs1.len, List.getElem?_append_right (Nat.le_refl _), Nat.sub_self]
    rfl
  refine ⟨_, _, _, .cons (.ref hmN) .nil, rs3, ?_⟩
  have p1 : Post (cx X) E m1 H ((g [.ref S1.length] (S1 ++ [.ins cn []])).bind fun d S2 => if isN d then .ok (.ref S1.length) S2 else .bad) (kE (cx X) Q) := p1
  have p2 := Post.ext p1 e13
  refine (post_bind p2).imp fun d S4 m4 H4 e4 rs4 p4 v hv => ?_
  split at p4
  · rename_i hd
    refine ⟨?_, p4.here rs4 _ ((RelD.ref hmN : RelD (cx X).K _ (m1 ++ [a]) (.ref S1.length) (.ref a)).mono e4)⟩
    cases d <;> first | (cases hv; rfl) | (exact absurd hd (by decide)) | (simp [isN] at hd)
  · exact p4.elim
end
end Sm

set_option Elab.async false
set_option linter.all false
set_option maxRecDepth 100000
set_option maxHeartbeats 2000000
/-! list(d.values()), against the layer -/
namespace Sm
open PySem PySem.Spec PyProof.Rows L2 Mi
section
variable {X : Cx} {e : Expr} {te : TE} {p apos cpos pos : Pos}
theorem vals_at {κ : Type} : ∀ {kvs : List (κ × V)} {vs : List (κ × Value)} {us : List Value}, KV kvs vs → us.length = vs.length → (∀ (j : Nat) (v : Value), us[j]? = some v → ∃ k : κ, vs[j]? = some (k, v)) → Vals (kvs.map fun p => p.2) us
  | _, _, [], .nil, _, _ => .nil
  | _, _, u :: us, .cons h t, hl, hh => by
    obtain ⟨k, e1⟩ := hh 0 u rfl
    have e1' := Option.some.inj e1
    subst e1'
    exact .cons h.2 (vals_at t (by simpa using hl) fun j v e => by
      obtain ⟨k, a⟩ := hh (j + 1) v (by simpa using e)
      exact ⟨k, by simpa using a⟩)
def tValsL (te : TE) : TE := fun σ H Q => te σ H fun x H1 => ∃ (d : Addr) (kvs : List (L2.Key × V)), x = .ref d ∧ H1 d = some (.dK kvs) ∧ ∀ a, H1 a = none → Q (.ref a) (upd H1 a (.lst (kvs.map fun p => p.2)))
theorem pe_valsL (hc : X.calm = true) (he : PE X e te) (hg : Gl X "list") (hm : X.mg "list" = none) (hbase : attributeBase e "values" X.env (eval e X.env) = eval e X.env := by rfl) (hline : (apos.endLine == cpos.line) = true := by rfl)
    (hv : bootBuiltins "list" = some (.type "list") := by rfl) (hs : starEach [.Call (.Attribute e "values" apos) [] [] cpos] X.env = (false, eval (.Call (.Attribute e "values" apos) [] [] cpos) X.env) :: starEach [] X.env := by rfl) :
    PE X (.Call (.Name "list" p) [.Call (.Attribute e "values" apos) [] [] cpos] [] pos) (tValsL te) := by
  refine ⟨fun pins s σ H Q I hq => ?_⟩
  refine wpAny_Call_Name_kw (ld_blt I hg hm hv ?_)
  refine PyProof.Rows.callWith_type1 ?_ hs rfl
  rw [hs]
  show wpAny _ _ (spliced ((false, eval (.Call (.Attribute e "values" apos) [] [] cpos) X.env) :: backTo pos (starEach [] X.env))) _ _ s
  refine Calls.spliced_cons ?_
  refine wpAny_Call_method (T := "dict") (id := "dict.values") hbase rfl hline F.plainAttrs_dict F.slot_dict_values F.type_dict_values (thn (he.run pins s σ H _ I hq) fun u s1 ⟨x, H1, I1, rx, d, kvs, ex, hd, q⟩ => ?_)
  subst ex
  obtain rfl : u = Value.ref d := rx
  obtain ⟨hz, hs0, vs, kv, hdo⟩ := I1.hok d _ hd
  obtain ⟨ep, hat⟩ := hdo.dictAt
  have lk : kvs.length = vs.length := Paired.length kv
  have I2 : Inv X pins σ H1 { s1 with heap := s1.heap.push { cls := .type "dict_values", data := .fields #[.ref d] } } := I1.kept (t' := s1.toks) fun b ob q => Heap.get?_push_of_some _ q
  refine ⟨hdo.typeIs, hdo.mapOf.noDict, ?_⟩
  show wpAny _ _ (callWith cpos (.builtin "dict.values") [.ref d] [] []) _ X.xe s1
  refine method_meetsIn F.slot_dict_values F.entry_dict_values rfl (PySem.evalArgs_none ⟨rfl, hdo.typeIs, F.args_dict_values_1 _, _, meets_dict_values (mixKind X.prog X.w) d hs0, ⟨vs, hdo⟩, ?_⟩)
  refine Calls.spliced_nil ?_
  refine PySem.W.kdl_call (PySem.W.kdl_values (knd := mixKind X.prog X.w) (r := s1.heap.objs.size) (d := d) (kvs := vs) (ep := ep)) (I1.ok.hd hc) ⟨⟨_, Heap.get?_push_size _ rfl, rfl, rfl⟩, hat.push _⟩ (by omega) fun h' tk acc c hk hD hacc => ?_
  have hvv : Vals (kvs.map fun p => p.2) acc.toList := vals_at kv (by rw [Array.length_toList]; exact hacc.1) fun j v e => hacc.2 j v (by rw [← Array.getElem?_toList]; exact e)
  refine ⟨.ref _, _, I2.laid (t' := tk) (o := .lst (kvs.map fun p => p.2)) hk (Nat.le_refl _) ?_, rfl, q _ ?_⟩
  · exact ⟨by rw [List.length_map]; exact hz, acc.toList, c, hvv, by rw [Array.toArray_toList]; exact hD⟩
  · exact I2.hok.fresh (Nat.le_refl _)
end
section
variable {X : Cx} {E : XK} {pos : Pos}
theorem RelK.vals {c : Ct} {H : Hp} {m : List Addr} {κ κ' : Type} {f : κ → κ'} {k : List (κ × D)} {kv : List (κ' × V)} (h : RelK c.K H m f k kv) : RelL c.K H m (k.map fun p => p.2) (kv.map fun p => p.2) := by
  induction h with
  | nil => exact .nil
  | @cons p q ps qs h t ih =>
    rw [List.map_cons, List.map_cons]
    exact .cons h.2 ih
theorem se_valsL {e : Expr} {fe : EM} {p apos cpos : Pos} (hc : X.calm = true) (he : SE X E e fe) (hg : Gl X "list") (hm : X.mg "list" = none) (hbase : attributeBase e "values" X.env (eval e X.env) = eval e X.env := by rfl) (hline : (apos.endLine == cpos.line) = true := by rfl)
    (hs : starEach [.Call (.Attribute e "values" apos) [] [] cpos] X.env = (false, eval (.Call (.Attribute e "values" apos) [] [] cpos) X.env) :: starEach [] X.env := by rfl) :
    SE X E (.Call (.Name "list" p) [.Call (.Attribute e "values" apos) [] [] cpos] [] pos) (mValL fe) := by
  refine PE.mono (pe_valsL hc he hg hm hbase hline rfl hs) fun σ H Q ⟨fr, S, m, rf, rs, q⟩ => ?_
  refine rd_bind rf rs q fun x S1 m1 H1 e1 rf1 rs1 p1 v hv => ?_
  unfold uVals at p1
  split at p1
  · rename_i n
    cases hv with
    | ref ha =>
      split at p1
      · rename_i k hk
        obtain ⟨kv, h1, h2⟩ := rs1.ob _ _ _ ha hk
        exact ⟨_, kv, rfl, h1, fun b hb => post_new rs1 p1 hb fun e => ⟨_, upd_same, (RelK.vals h2).mono e⟩⟩
      · exact p1.elim
  · exact p1.elim
end
end Sm

set_option Elab.async false
set_option linter.all false
set_option maxRecDepth 100000
set_option maxHeartbeats 2000000
/-! == of tuples whose items are equal: texts, numbers, lists, dicts -/
namespace Sm
open PySem PySem.Spec PyProof.Rows L2 Mi
open PySem.AutoSeq1 (wpAny_loadPart')
open PySem.SeqAt
section
variable {prog : Program} {w : World}
theorem tupEq_in (l b : Addr) (xs ys : Array Value) (n n2 : Nat) (dd dd2 : Option Addr) (sl sl2 : Array (Option Value)) (hsz : xs.size = ys.size) :
    MeetsIn prog w (Builtin.«tuple.__eq__» ⟨[.ref l, .ref b], []⟩)
      (fun A R s => s.heap.get? l = some { cls := .type "tuple", dict := dd, data := .seq xs n, slots := sl } ∧ s.heap.get? b = some { cls := .type "tuple", dict := dd2, data := .seq ys n2, slots := sl2 } ∧
        (∀ j (h1 : j < xs.size) (h2 : j < ys.size), EqP prog w A.in1 s xs[j] ys[j] true) ∧ R (.ok (.ret (.bool true))) s) := by
  intro A R s h
  obtain ⟨hp, g, d, tk, os⟩ := s
  obtain ⟨hl, hb, he, h⟩ := h
  have f := AutoSeq1.sub_tuple_tuple
  have len : (xs.toList.zip ys.toList).length = xs.size := by simp [hsz]
  wp_walk using wpAny_loadPart' hl, wpAny_loadPart' hb, wpAny_forIn_list _ (fun rest b s' => b.1 = none ∧ s' = ⟨hp, g, d, tk, os⟩ ∧ ∃ i, rest = (xs.toList.zip ys.toList).drop i) _
  case turn =>
    rintro ⟨y, x⟩ rest b s' ⟨hb', rfl, i, hz⟩
    have hi : i < (xs.toList.zip ys.toList).length := by
      apply Decidable.byContradiction
      intro hn
      rw [List.drop_of_length_le (Nat.le_of_not_lt hn)] at hz
      cases hz
    have h1 : i < xs.size := by omega
    have h2 : i < ys.size := by omega
    rw [List.drop_eq_getElem_cons hi, List.cons.injEq] at hz
    obtain ⟨hyx, hrest⟩ := hz
    have e := Prod.mk.inj (hyx.trans (by simp : _ = (xs[i], ys[i])))
    obtain ⟨rfl, rfl⟩ := e
    refine wpAny_bind (he i h1 h2 _ _ ?_)
    wp_walk
    exact ⟨rfl, rfl, i + 1, hrest⟩
  case fin =>
    rintro ⟨b1, b2⟩ s' ⟨hb', rfl, i, hz⟩
    simp only at hb'
    subst hb'
    wp_walk
    simpa [Builtin.Tuple.tupleCompareSizes, hsz] using h
  case h =>
    exact ⟨rfl, rfl, 0, rfl⟩
theorem rcP_tups {A : Around} {s : Shared} {l b : Addr} {xs ys : Array Value} (hl : s.heap.IsTuple l xs) (hb : s.heap.IsTuple b ys) (hsz : xs.size = ys.size) (hu : A.units < cLine)
    (he : ∀ j (h1 : j < xs.size) (h2 : j < ys.size), EqP prog w A.in1 s xs[j] ys[j] true) (E Q : Value → Shared → Prop) (h : Q (.bool true) s) : wpAny (model prog w) A (richCompare .Eq (.ref l) (.ref b)) Q E s := by
  obtain ⟨⟨cls, dd, data, sl⟩, ho, hc, n, hd⟩ := id hl
  obtain ⟨⟨cls2, dd2, data2, sl2⟩, ho2, hc2, n2, hd2⟩ := id hb
  simp only at hc hd hc2 hd2
  subst hc hd hc2 hd2
  have ta : s.TypeIs (.ref l) "tuple" := ⟨_, ho, rfl⟩
  have tb : s.TypeIs (.ref b) "tuple" := ⟨_, ho2, rfl⟩
  exact wpAny_richCompare_same_room (op := .Eq) ta tb F.slot_tuple_eq (call_meetsIn F.slot_tuple_eq ta F.entry_tuple_eq (F.args_tuple_eq_2 _ _) (tupEq_in l b xs ys n n2 dd dd2 sl sl2 hsz)
    ⟨ho, ho2, he, show Value.bool true ≠ Value.notImplemented ∧ Q (.bool true) s from ⟨(fun x => nomatch x), h⟩⟩) hu
theorem tupNe_in (l b : Addr) (xs ys : Array Value) (n n2 : Nat) (dd dd2 : Option Addr) (sl sl2 : Array (Option Value)) (hsz : xs.size = ys.size) :
    MeetsIn prog w (Builtin.«tuple.__ne__» ⟨[.ref l, .ref b], []⟩)
      (fun A R s => s.heap.get? l = some { cls := .type "tuple", dict := dd, data := .seq xs n, slots := sl } ∧ s.heap.get? b = some { cls := .type "tuple", dict := dd2, data := .seq ys n2, slots := sl2 } ∧
        (∀ j (h1 : j < xs.size) (h2 : j < ys.size), EqP prog w A.in1 s xs[j] ys[j] true) ∧ R (.ok (.ret (.bool false))) s) := by
  intro A R s h
  obtain ⟨hp, g, d, tk, os⟩ := s
  obtain ⟨hl, hb, he, h⟩ := h
  have f := AutoSeq1.sub_tuple_tuple
  have len : (xs.toList.zip ys.toList).length = xs.size := by simp [hsz]
  wp_walk using wpAny_loadPart' hl, wpAny_loadPart' hb, wpAny_forIn_list _ (fun rest b s' => b.1 = none ∧ s' = ⟨hp, g, d, tk, os⟩ ∧ ∃ i, rest = (xs.toList.zip ys.toList).drop i) _
  case turn =>
    rintro ⟨y, x⟩ rest b s' ⟨hb', rfl, i, hz⟩
    have hi : i < (xs.toList.zip ys.toList).length := by
      apply Decidable.byContradiction
      intro hn
      rw [List.drop_of_length_le (Nat.le_of_not_lt hn)] at hz
      cases hz
    have h1 : i < xs.size := by omega
    have h2 : i < ys.size := by omega
    rw [List.drop_eq_getElem_cons hi, List.cons.injEq] at hz
    obtain ⟨hyx, hrest⟩ := hz
    have e := Prod.mk.inj (hyx.trans (by simp : _ = (xs[i], ys[i])))
    obtain ⟨rfl, rfl⟩ := e
    refine wpAny_bind (he i h1 h2 _ _ ?_)
    wp_walk
    exact ⟨rfl, rfl, i + 1, hrest⟩
  case fin =>
    rintro ⟨b1, b2⟩ s' ⟨hb', rfl, i, hz⟩
    simp only at hb'
    subst hb'
    wp_walk
    simpa [Builtin.Tuple.tupleCompareSizes, hsz] using h
  case h =>
    exact ⟨rfl, rfl, 0, rfl⟩
theorem rcP_tupsNe {A : Around} {s : Shared} {l b : Addr} {xs ys : Array Value} (hl : s.heap.IsTuple l xs) (hb : s.heap.IsTuple b ys) (hsz : xs.size = ys.size) (hu : A.units < cLine)
    (he : ∀ j (h1 : j < xs.size) (h2 : j < ys.size), EqP prog w A.in1 s xs[j] ys[j] true) (E Q : Value → Shared → Prop) (h : Q (.bool false) s) : wpAny (model prog w) A (richCompare .NotEq (.ref l) (.ref b)) Q E s := by
  obtain ⟨⟨cls, dd, data, sl⟩, ho, hc, n, hd⟩ := id hl
  obtain ⟨⟨cls2, dd2, data2, sl2⟩, ho2, hc2, n2, hd2⟩ := id hb
  simp only at hc hd hc2 hd2
  subst hc hd hc2 hd2
  have ta : s.TypeIs (.ref l) "tuple" := ⟨_, ho, rfl⟩
  have tb : s.TypeIs (.ref b) "tuple" := ⟨_, ho2, rfl⟩
  exact wpAny_richCompare_same_room (op := .NotEq) ta tb F.slot_tuple_ne (call_meetsIn F.slot_tuple_ne ta F.entry_tuple_ne (F.args_tuple_ne_2 _ _) (tupNe_in l b xs ys n n2 dd dd2 sl sl2 hsz)
    ⟨ho, ho2, he, show Value.bool false ≠ Value.notImplemented ∧ Q (.bool false) s from ⟨(fun x => nomatch x), h⟩⟩) hu
end
section
variable {X : Cx} {E : XK} {pos : Pos}
theorem isTup_of {h : Heap} {t : Addr} {items : Array Value} (x : IsTup h t items) : h.IsTuple t items := let ⟨o, ho, hc, n, hd⟩ := x; ⟨o, ho, hc, n, hd⟩
def rEqT (K : PySem.W.Frag) (b : Bool) : R2 := fun x y H Q => ∃ a c xs ys, x = .ref a ∧ y = .ref c ∧ SqT K H a xs ∧ SqT K H c ys ∧ Paired (EqV K H 2) xs ys ∧ Q (.bl b) H
theorem op_eqT (hu : X.A.units + 64 < cLine) : OpR X (compareOp .Eq) (rEqT X.K true) := by
  intro pins s σ H x y v u Q I rx ry h
  obtain ⟨a, c, xs, ys, rfl, rfl, h1, h2, hp, q⟩ := h
  cases (show v = Value.ref a from rx)
  cases (show u = Value.ref c from ry)
  obtain ⟨us, r1, p1, _⟩ := I.tuple h1
  obtain ⟨ws, r2, p2, _⟩ := I.tuple h2
  have hsz : us.toArray.size = ws.toArray.size := by
    rw [List.size_toArray, List.size_toArray, ← r1.length, ← r2.length]
    exact Paired.length hp
  refine rcP_tups (A := X.A) (isTup_of p1) (isTup_of p2) hsz (by omega) (fun j h1 h2 => ?_) _ _ ⟨.bl true, H, I, rfl, q⟩
  have k := items_run (eqV_run I 2 X.A.in1 (by show X.A.units + 1 + 2 < cLine; omega)) hp r1 r2 j (by simpa using h1) (by simpa using h2)
  simpa using k
theorem op_neT (hu : X.A.units + 64 < cLine) : OpR X (compareOp .NotEq) (rEqT X.K false) := by
  intro pins s σ H x y v u Q I rx ry h
  obtain ⟨a, c, xs, ys, rfl, rfl, h1, h2, hp, q⟩ := h
  cases (show v = Value.ref a from rx)
  cases (show u = Value.ref c from ry)
  obtain ⟨us, r1, p1, _⟩ := I.tuple h1
  obtain ⟨ws, r2, p2, _⟩ := I.tuple h2
  have hsz : us.toArray.size = ws.toArray.size := by
    rw [List.size_toArray, List.size_toArray, ← r1.length, ← r2.length]
    exact Paired.length hp
  refine rcP_tupsNe (A := X.A) (isTup_of p1) (isTup_of p2) hsz (by omega) (fun j h1 h2 => ?_) _ _ ⟨.bl false, H, I, rfl, q⟩
  have k := items_run (eqV_run I 2 X.A.in1 (by show X.A.units + 1 + 2 < cLine; omega)) hp r1 r2 j (by simpa using h1) (by simpa using h2)
  simpa using k
theorem paired_same {K : PySem.W.Frag} {H : Hp} : ∀ ns : List Int, Paired (EqV K H 1) (ns.map V.int) (ns.map V.int)
  | [] => .nil
  | n :: r => .cons (.inl ⟨rfl, rfl⟩) (paired_same r)
theorem eqI_ok {c : Ct} {H : Hp} {m : List Addr} {S : Store} {x y : D} {v w : V} (rs : RS c m S H) (hv : RelD c.K H m x v) (hw : RelD c.K H m y w) (h : eqI x y S = true) : EqV c.K H 2 v w := by
  unfold eqI at h
  split at h
  · rename_i n n'
    rw [Bool.or_eq_true] at h
    rcases h with h | h
    · split at h
      · rename_i k l hk hl
        have hs : oSame (.ref n) (.ref n') S = true := by
          unfold oSame
          dsimp only
          rw [hk, hl]
          exact h
        rcases same_cases rs hv hw hs with ⟨a, b, ks, ls, e1, e2, e3, e4, e5, e6⟩ | ⟨a, b, ks, ls, e1, e2, e3, e4, e5, e6⟩
        · exact .inr (.inr (.inr ⟨a, b, ks, ls, e1, e2, e3, e4, e5, fun p hp => ⟨p.2, (e6 p hp).1, .inl ⟨rfl, (e6 p hp).2⟩⟩⟩))
        · cases hv with
          | ref h1 =>
            obtain ⟨kv, q, _⟩ := rs.ob _ _ _ h1 hk
            cases e1
            have e3' := e3
            rw [q] at e3'
            cases e3'
      · cases h
    · split at h
      · rename_i a b ha hb
        split at h
        · rename_i u v' hu hv'
          have e := of_decide_eq_true h
          subst e
          cases hv with
          | ref h1 => cases hw with
            | ref h2 =>
              obtain ⟨xs, q1, q2⟩ := rs.lst h1 ha
              obtain ⟨ys, q3, q4⟩ := rs.lst h2 hb
              have e1 := ints_rel q2 hu
              have e2 := ints_rel q4 hv'
              subst e1
              subst e2
              exact .inr (.inr (.inl ⟨_, _, _, _, rfl, rfl, q1, q3, paired_same u⟩))
        · cases h
      · cases h
  · simp only [Bool.and_eq_true, decide_eq_true_eq] at h
    obtain ⟨rfl, f⟩ := flat_same (H' := H) hv hw h.2 h.1.1 h.1.2
    exact .inl ⟨rfl, f⟩
theorem eqIs_ok {c : Ct} {H : Hp} {m : List Addr} {S : Store} (rs : RS c m S H) : ∀ {xs ys : List D} {vs ws : List V}, RelL c.K H m xs vs → RelL c.K H m ys ws → eqIs xs ys S = true → Paired (EqV c.K H 2) vs ws
  | _, _, _, _, .nil, .nil, _ => .nil
  | _, _, _, _, .cons h t, .cons h' t', e => by
    unfold eqIs at e
    rw [Bool.and_eq_true] at e
    exact .cons (eqI_ok rs h h' e.1) (eqIs_ok rs t t' e.2)
  | _, _, _, _, .nil, .cons _ _, e => by cases e
  | _, _, _, _, .cons _ _, .nil, e => by cases e
theorem oTup_ok {c : Ct} {H : Hp} {m : List Addr} {S : Store} {x y : D} {v w : V} (rs : RS c m S H) (hv : RelD c.K H m x v) (hw : RelD c.K H m y w) (h : oTup x y S = true) : ∃ a b xs ys, v = .ref a ∧ w = .ref b ∧ SqT c.K H a xs ∧ SqT c.K H b ys ∧ Paired (EqV c.K H 2) xs ys := by
  unfold oTup at h
  split at h
  · cases hv with
    | @tup _ a xs ha r1 =>
      cases hw with
      | @tup _ b ys hb r2 => exact ⟨a, b, xs, ys, rfl, rfl, .inl (.inl ha), .inl (.inl hb), eqIs_ok rs r1 r2 h⟩
  · cases h
theorem om_eqT (hu : X.A.units + 65 < cLine) : OpM X E (compareOp .Eq) oEqT := by
  obtain ⟨r, h1, h2⟩ := om_eq (X := X) (E := E) hu
  refine ⟨_, opr_or h1 (op_eqT (by omega)), fun x y v u S m H Q rs hv hw p => ?_⟩
  unfold oEqT at p
  split at p
  · rename_i h
    obtain ⟨a, b, xs, ys, e1, e2, e3, e4, e5⟩ := oTup_ok rs hv hw h
    exact .inr ⟨a, b, xs, ys, e1, e2, e3, e4, e5, post_bl rs p⟩
  · exact .inl (h2 _ _ _ _ S m H Q rs hv hw p)
theorem om_neT (hu : X.A.units + 65 < cLine) : OpM X E (compareOp .NotEq) oNeT := by
  obtain ⟨r, h1, h2⟩ := om_ne (X := X) (E := E) hu
  refine ⟨_, opr_or h1 (op_neT (by omega)), fun x y v u S m H Q rs hv hw p => ?_⟩
  unfold oNeT at p
  split at p
  · rename_i h
    obtain ⟨a, b, xs, ys, e1, e2, e3, e4, e5⟩ := oTup_ok rs hv hw h
    exact .inr ⟨a, b, xs, ys, e1, e2, e3, e4, e5, post_bl rs p⟩
  · exact .inl (h2 _ _ _ _ S m H Q rs hv hw p)
theorem cm_sort2 : CallM X E (.builtin "sorted") bSort2 := by
  refine ⟨_, cr_sorted, fun ds vs S m H Q rs hv p => ?_⟩
  unfold bSort2 at p
  split at p
  · rename_i n
    obtain ⟨v, rfl, h⟩ := rel1 hv
    split at p
    · rename_i i j hl
      cases h with
      | ref ha =>
        obtain ⟨xs, h1, h2⟩ := rs.lst ha hl
        have e := ints_rel (ns := [i, j]) h2 rfl
        subst e
        refine ⟨_, [i, j], rfl, h1, by simp, fun ns' b hperm hpw hb => ?_⟩
        have e : ns' = if i ≤ j then [i, j] else [j, i] := by
          have hlen := hperm.length_eq
          match ns', hlen, hperm, hpw with
          | [a, b], _, hperm, hpw =>
            have ab : a ≤ b := by simpa using hpw
            have ma : a ∈ [i, j] := hperm.subset (by simp)
            have mb : b ∈ [i, j] := hperm.subset (by simp)
            have mi : i ∈ [a, b] := hperm.symm.subset (by simp)
            have mj : j ∈ [a, b] := hperm.symm.subset (by simp)
            simp at ma mb mi mj
            split
            · rename_i hij
              have e1 : a = i := by omega
              have e2 : b = j := by omega
              rw [e1, e2]
            · rename_i hij
              have e1 : a = j := by omega
              have e2 : b = i := by omega
              rw [e1, e2]
        subst e
        refine post_new rs p hb fun e => ⟨_, upd_same, ?_⟩
        split
        · exact .cons (.int _) (.cons (.int _) .nil)
        · exact .cons (.int _) (.cons (.int _) .nil)
      | _ => exact p.elim
    · exact p.elim
  · exact p.elim
end
end Sm

set_option Elab.async false
set_option linter.all false
/-! laws of the small language -/
namespace Mi
/-! ### stores -/
theorem get_app {α : Type} (S L : List α) (n : Nat) : (S ++ L)[n]? = S[n]?.or (L[n - S.length]?) := by
  rw [List.getElem?_append]
  split
  · rename_i h
    rw [List.getElem?_eq_getElem h]; rfl
  · rename_i h
    rw [List.getElem?_eq_none (l := S) (by omega)]; rfl
theorem get_len {α : Type} (S : List α) : S[S.length]? = none := List.getElem?_eq_none (Nat.le_refl _)
theorem get_len_add {α : Type} (S : List α) (k : Nat) : S[S.length + k]? = none := List.getElem?_eq_none (Nat.le_add_right _ _)
/-- the old part stands -/
def Pre (S S' : Store) : Prop := ∃ G, S' = S ++ G
theorem Pre.refl (S : Store) : Pre S S := ⟨[], by simp⟩
theorem Pre.trans {S S1 S2 : Store} (a : Pre S S1) (b : Pre S1 S2) : Pre S S2 := by
  obtain ⟨G, rfl⟩ := a
  obtain ⟨G', rfl⟩ := b
  exact ⟨G ++ G', by rw [List.append_assoc]⟩
theorem Pre.app (S G : Store) : Pre S (S ++ G) := ⟨G, rfl⟩
theorem Pre.get {S S' : Store} {n : Nat} {o : O} (p : Pre S S') (h : S[n]? = some o) : S'[n]? = some o := by
  obtain ⟨G, rfl⟩ := p
  rw [List.getElem?_append_left (List.getElem?_eq_some_iff.mp h).1]; exact h
theorem Pre.len {S S' : Store} (p : Pre S S') : S.length ≤ S'.length := by
  obtain ⟨G, rfl⟩ := p
  rw [List.length_append]; omega
/-- it ends well, the old part standing -/
def Gives {α : Type} (r : Res α) (S : Store) (P : α → Store → Prop) : Prop := ∃ a S', r = .ok a S' ∧ Pre S S' ∧ P a S'
theorem Gives.ok {α : Type} {a : α} {S : Store} {P : α → Store → Prop} (h : P a S) : Gives (.ok a S) S P := ⟨a, S, rfl, Pre.refl S, h⟩
theorem Gives.bind {α β : Type} {r : Res α} {S : Store} {P : α → Store → Prop} {f : α → Store → Res β} {Q : β → Store → Prop} (h : Gives r S P) (k : ∀ a S', Pre S S' → P a S' → Gives (f a S') S' Q) : Gives (r.bind f) S Q := by
  obtain ⟨a, S', rfl, p, q⟩ := h
  obtain ⟨b, S2, e, p2, q2⟩ := k a S' p q
  exact ⟨b, S2, e, p.trans p2, q2⟩
theorem Gives.mono {α : Type} {r : Res α} {S : Store} {P Q : α → Store → Prop} (h : Gives r S P) (k : ∀ a S', Pre S S' → P a S' → Q a S') : Gives r S Q := by
  obtain ⟨a, S', e, p, q⟩ := h
  exact ⟨a, S', e, p, k a S' p q⟩
/-! ### what stands -/
@[simp] theorem dec_nil (S : Store) : dec (stands [] S) = true := dec_true fun _ h => by cases h
theorem dec_one {S : Store} {n : Nat} {l : List D} (h : lstOf S n = some l) : dec (stands [(n, l)] S) = true := dec_true fun p hp => by
  have e : p = (n, l) := by simpa using hp
  subst e; exact h
/-! ### while -/
theorem whileN_mono {t : TM} {b : SM} : ∀ (n : Nat) (fr : Fr) (S : Store), whileN t b n fr S ≠ .bad → whileN t b (n + 1) fr S = whileN t b n fr S
  | 0, fr, S, h => absurd rfl h
  | n + 1, fr, S, h => by
    rw [whileN]
    conv => rhs; rw [whileN]
    unfold whileN at h
    cases ht : t fr S with
    | ok c S1 =>
      rw [ht] at h
      simp only [bind_ok] at h ⊢
      cases c with
      | false => rfl
      | true =>
        simp only [if_true] at h ⊢
        cases hb : b fr S1 with
        | ok o S2 =>
          rw [hb] at h
          simp only [bind_ok] at h ⊢
          cases o with
          | nx fr' => exact whileN_mono n fr' S2 h
          | ct fr' => exact whileN_mono n fr' S2 h
          | bk fr' => rfl
          | rt d => rfl
        | exc x S2 => rfl
        | bad => rfl
    | exc x S1 => rfl
    | bad => rfl
theorem whileN_le {t : TM} {b : SM} {n k : Nat} {fr : Fr} {S : Store} (h : whileN t b n fr S ≠ .bad) : whileN t b (n + k) fr S = whileN t b n fr S := by
  induction k with
  | zero => rfl
  | succ k ih => rw [← Nat.add_assoc, whileN_mono _ _ _ (by rw [ih]; exact h), ih]
theorem sWhile_of {t : TM} {b : SM} {n : Nat} {fr : Fr} {S : Store} (h : whileN t b n fr S ≠ .bad) : sWhile t b fr S = whileN t b n fr S := by
  have hex : ∃ n, whileN t b n fr S ≠ .bad := ⟨n, h⟩
  unfold sWhile
  rw [dif_pos hex]
  have h2 := Classical.choose_spec hex
  have e1 := whileN_le (k := n) h2
  have e2 := whileN_le (k := Classical.choose hex) h
  rw [← e1, Nat.add_comm, e2]
/-- one turn of a while -/
theorem sWhile_eq (t : TM) (b : SM) (fr : Fr) (S : Store) : sWhile t b fr S = (t fr S).bind fun c S1 => if c then (b fr S1).bind (goOn (sWhile t b)) else .ok (.nx fr) S1 := by
  have nbad : (∀ n, whileN t b (n + 1) fr S = .bad) → sWhile t b fr S = .bad := fun h => by
    unfold sWhile
    rw [dif_neg]
    rintro ⟨n, hn⟩
    cases n with
    | zero => exact hn rfl
    | succ n => exact hn (h n)
  cases ht : t fr S with
  | ok c S1 =>
    simp only [bind_ok]
    cases c with
    | false =>
      have one : whileN t b 1 fr S = .ok (.nx fr) S1 := by unfold whileN; rw [ht]; rfl
      rw [sWhile_of (n := 1) (by rw [one]; simp), one]; rfl
    | true =>
      simp only [if_true]
      cases hb : b fr S1 with
      | ok o S2 =>
        have one : ∀ n, whileN t b (n + 1) fr S = goOn (whileN t b n) o S2 := fun n => by
          rw [whileN, ht]
          simp only [bind_ok, if_true]
          rw [hb, bind_ok]
        have go : ∀ fr', (∀ n, whileN t b (n + 1) fr S = whileN t b n fr' S2) → sWhile t b fr S = sWhile t b fr' S2 := fun fr' one => by
          by_cases hex : ∃ n, whileN t b n fr' S2 ≠ .bad
          · obtain ⟨n, hn⟩ := hex
            rw [sWhile_of hn, sWhile_of (n := n + 1) (by rw [one]; exact hn), one]
          · have h1 : sWhile t b fr' S2 = .bad := by unfold sWhile; rw [dif_neg hex]
            rw [h1]
            exact nbad fun n => by rw [one]; exact Classical.byContradiction fun z => hex ⟨n, z⟩
        rw [bind_ok]
        cases o with
        | nx fr' => exact go fr' one
        | ct fr' => exact go fr' one
        | bk fr' => rw [sWhile_of (n := 1) (by rw [one]; simp [goOn]), one]; rfl
        | rt d => rw [sWhile_of (n := 1) (by rw [one]; simp [goOn]), one]; rfl
      | exc x S2 =>
        have one : whileN t b 1 fr S = .exc x S2 := by
          rw [whileN, ht]
          simp only [bind_ok, if_true]
          rw [hb]; rfl
        rw [sWhile_of (n := 1) (by rw [one]; simp), one]; rfl
      | bad =>
        rw [nbad fun n => by
          rw [whileN, ht]
          simp only [bind_ok, if_true]
          rw [hb]; rfl]
        rfl
  | exc x S1 =>
    have one : whileN t b 1 fr S = .exc x S1 := by rw [whileN, ht]; rfl
    rw [sWhile_of (n := 1) (by rw [one]; simp), one]; rfl
  | bad =>
    rw [nbad fun n => by rw [whileN, ht]; rfl]
    rfl
/-! ### for -/
/-- an invariant over the turn's number; no way out -/
theorem loop_inv {hs : List (Nat × List D)} {turn : D → SM} (I : Nat → Fr → Store → Prop) : ∀ (items : List D) (k : Nat) (fr : Fr) (S : Store), I k fr S →
    (∀ i fr S, I i fr S → stands hs S) →
    (∀ i d fr S, items[i]? = some d → I (k + i) fr S → ∃ fr' S', (turn d fr S = .ok (.nx fr') S' ∨ turn d fr S = .ok (.ct fr') S') ∧ I (k + i + 1) fr' S') →
    ∃ fr' S', loopM hs turn items fr S = .ok (.nx fr') S' ∧ I (k + items.length) fr' S'
  | [], k, fr, S, h, st, _ => ⟨fr, S, by rw [loopM, dec_true (st k fr S h)]; rfl, h⟩
  | d :: ds, k, fr, S, h, st, step => by
    obtain ⟨fr', S', e, h'⟩ := step 0 d fr S rfl h
    obtain ⟨fr2, S2, e2, h2⟩ := loop_inv I ds (k + 1) fr' S' h' st fun i d fr S hd hi => by
      have q := step (i + 1) d fr S hd (by rw [show k + (i + 1) = k + 1 + i by omega]; exact hi)
      rw [show k + (i + 1) = k + 1 + i by omega] at q
      exact q
    refine ⟨fr2, S2, ?_, by rw [List.length_cons, show k + (ds.length + 1) = k + 1 + ds.length by omega]; exact h2⟩
    rw [loopM, dec_true (st k fr S h)]
    rcases e with e | e <;> rw [e] <;> exact e2
/-- an invariant; a way out by return that is as is wanted -/
theorem loop_ret {hs : List (Nat × List D)} {turn : D → SM} (I : Nat → Fr → Store → Prop) (R : D → Store → Prop) : ∀ (items : List D) (k : Nat) (fr : Fr) (S : Store), I k fr S →
    (∀ i fr S, I i fr S → stands hs S) →
    (∀ i d fr S, items[i]? = some d → I (k + i) fr S → (∃ fr' S', (turn d fr S = .ok (.nx fr') S' ∨ turn d fr S = .ok (.ct fr') S') ∧ I (k + i + 1) fr' S') ∨ ∃ x S', turn d fr S = .ok (.rt x) S' ∧ R x S') →
    (∃ fr' S', loopM hs turn items fr S = .ok (.nx fr') S' ∧ I (k + items.length) fr' S') ∨ ∃ x S', loopM hs turn items fr S = .ok (.rt x) S' ∧ R x S'
  | [], k, fr, S, h, st, _ => .inl ⟨fr, S, by rw [loopM, dec_true (st k fr S h)]; rfl, h⟩
  | d :: ds, k, fr, S, h, st, step => by
    have un : loopM hs turn (d :: ds) fr S = (turn d fr S).bind (goOn (loopM hs turn ds)) := by rw [loopM, dec_true (st k fr S h)]; rfl
    rcases step 0 d fr S rfl h with ⟨fr', S', e, h'⟩ | ⟨x, S', e, h'⟩
    · have un2 : loopM hs turn (d :: ds) fr S = loopM hs turn ds fr' S' := by rw [un]; rcases e with e | e <;> rw [e] <;> rfl
      rw [un2]
      have := loop_ret I R ds (k + 1) fr' S' h' st fun i d fr S hd hi => by
        have q := step (i + 1) d fr S hd (by rw [show k + (i + 1) = k + 1 + i by omega]; exact hi)
        rw [show k + (i + 1) = k + 1 + i by omega] at q
        exact q
      rw [List.length_cons, show k + (ds.length + 1) = k + 1 + ds.length by omega]
      exact this
    · exact .inr ⟨x, S', by rw [un, e]; rfl, h'⟩
/-! ### comprehensions -/
/-- elements that change nothing that stood -/
theorem lc_map {hs : List (Nat × List D)} {g : GM} {t : TM} {e : EM} {fr : Fr} {S1 : Store} (f : D → Option D) :
    ∀ (items : List D) (acc : List D) (G : Store), (∀ p, p ∈ hs → lstOf S1 p.1 = some p.2) → acc.length + items.length ≤ LINE →
    (∀ d, d ∈ items → ∀ acc G, ∃ fr' G', g d fr (S1 ++ .lst acc :: G) = .ok fr' (S1 ++ .lst acc :: G) ∧
      ((f d = none ∧ t fr' (S1 ++ .lst acc :: G) = .ok false (S1 ++ .lst acc :: (G ++ G'))) ∨ ∃ x G'', f d = some x ∧ t fr' (S1 ++ .lst acc :: G) = .ok true (S1 ++ .lst acc :: (G ++ G'')) ∧ e fr' (S1 ++ .lst acc :: (G ++ G'')) = .ok x (S1 ++ .lst acc :: (G ++ G')))) →
    ∃ G', lcLoop hs S1.length g t e fr items (S1 ++ .lst acc :: G) = .ok (.ref S1.length) (S1 ++ .lst (acc ++ items.filterMap f) :: (G ++ G')) := by
  have stand : ∀ acc G, (∀ p, p ∈ hs → lstOf S1 p.1 = some p.2) → stands hs (S1 ++ .lst acc :: G) := fun acc G h p hp => by
    have q := h p hp
    unfold lstOf at q ⊢
    have hlt : p.1 < S1.length := by
      cases hh : S1[p.1]? with
      | none => rw [hh] at q; cases q
      | some o => exact (List.getElem?_eq_some_iff.mp hh).1
    rw [List.getElem?_append_left hlt]; exact q
  intro items
  induction items with
  | nil => exact fun acc G h _ _ => ⟨[], by rw [lcLoop, dec_true (stand acc G h)]; simp⟩
  | cons d ds ih =>
    intro acc G h hl step
    rw [List.length_cons] at hl
    obtain ⟨fr', G', e1, e2⟩ := step d List.mem_cons_self acc G
    have step' := fun d' hd' => step d' (List.mem_cons_of_mem _ hd')
    rcases e2 with ⟨ef, e2⟩ | ⟨x, G'', ef, e2, e3⟩
    · obtain ⟨G2, q⟩ := ih acc (G ++ G') h (by omega) step'
      refine ⟨G' ++ G2, ?_⟩
      rw [lcLoop, dec_true (stand acc G h)]
      simp only [if_true, e1, bind_ok, e2, if_neg Bool.false_ne_true]
      rw [q, List.filterMap_cons_none ef, List.append_assoc]
    · obtain ⟨G2, q⟩ := ih (acc ++ [x]) (G ++ G') h (by rw [List.length_append, List.length_singleton]; omega) step'
      refine ⟨G' ++ G2, ?_⟩
      rw [lcLoop, dec_true (stand acc G h)]
      have hget : (S1 ++ O.lst acc :: (G ++ G'))[S1.length]? = some (.lst acc) := by rw [List.getElem?_append_right (Nat.le_refl _), Nat.sub_self]; rfl
      have hset : (S1 ++ O.lst acc :: (G ++ G')).set S1.length (.lst (acc ++ [x])) = S1 ++ .lst (acc ++ [x]) :: (G ++ G') := by
        rw [List.set_append_right _ _ (Nat.le_refl _), Nat.sub_self, List.set_cons_zero]
      simp only [if_true, e1, bind_ok, e2, e3, hget]
      rw [if_pos (by omega), hset, q, List.filterMap_cons_some ef, List.append_assoc]
      simp
end Mi

set_option Elab.async false
set_option linter.all false
/-! the small language step by step: each step's continuation by a name, so that simp stops where a test is open -/
namespace Mi
variable {α β : Type}
/-! ### expressions -/
def varK (S : Store) : Option (Option D) → Res D
  | some (some d) => .ok d S
  | _ => .bad
@[simp] theorem varK_s (S : Store) (d : D) : varK S (some (some d)) = .ok d S := (rfl)
@[simp] theorem mVar_s (i : Nat) (fr : Fr) (S : Store) : mVar i fr S = varK S fr[i]? := (rfl)
@[simp] theorem mC_s (d : D) (fr : Fr) (S : Store) : mC d fr S = .ok d S := (rfl)
def opK2 (g : Op2) (x : D) (r : Res D) : Res D := r.bind fun y S2 => g x y S2
def opK1 (g : Op2) (b : EM) (fr : Fr) (r : Res D) : Res D := r.bind fun x S1 => opK2 g x (b fr S1)
@[simp] theorem opK2_s (g : Op2) (x y : D) (S : Store) : opK2 g x (.ok y S) = g x y S := (rfl)
@[simp] theorem opK1_s (g : Op2) (b : EM) (fr : Fr) (x : D) (S : Store) : opK1 g b fr (.ok x S) = opK2 g x (b fr S) := (rfl)
@[simp] theorem mOp_s (g : Op2) (a b : EM) (fr : Fr) (S : Store) : mOp g a b fr S = opK1 g b fr (a fr S) := (rfl)
def unK (g : D → Store → Res D) (r : Res D) : Res D := r.bind fun x S1 => g x S1
@[simp] theorem unK_s (g : D → Store → Res D) (x : D) (S : Store) : unK g (.ok x S) = g x S := (rfl)
@[simp] theorem mUn_s (g : D → Store → Res D) (a : EM) (fr : Fr) (S : Store) : mUn g a fr S = unK g (a fr S) := (rfl)
def notK (r : Res D) : Res D := r.bind fun x S1 => (toB x S1).bind fun b S2 => .ok (.bl (!b)) S2
@[simp] theorem notK_s (b : Bool) (S : Store) : notK (.ok (.bl b) S) = .ok (.bl (!b)) S := (rfl)
@[simp] theorem mNot_s (a : EM) (fr : Fr) (S : Store) : mNot a fr S = notK (a fr S) := (rfl)
def andK (b : EM) (fr : Fr) (r : Res D) : Res D := r.bind fun x S1 => (toB x S1).bind fun c S2 => if c then b fr S2 else .ok (.bl false) S2
@[simp] theorem andK_t (b : EM) (fr : Fr) (S : Store) : andK b fr (.ok (.bl true) S) = b fr S := (rfl)
@[simp] theorem andK_f (b : EM) (fr : Fr) (S : Store) : andK b fr (.ok (.bl false) S) = .ok (.bl false) S := (rfl)
@[simp] theorem mAnd_s (a b : EM) (fr : Fr) (S : Store) : mAnd a b fr S = andK b fr (a fr S) := (rfl)
def orK (b : EM) (fr : Fr) (r : Res D) : Res D := r.bind fun x S1 => (toB x S1).bind fun c S2 => if c then .ok (.bl true) S2 else b fr S2
@[simp] theorem orK_t (b : EM) (fr : Fr) (S : Store) : orK b fr (.ok (.bl true) S) = .ok (.bl true) S := (rfl)
@[simp] theorem orK_f (b : EM) (fr : Fr) (S : Store) : orK b fr (.ok (.bl false) S) = b fr S := (rfl)
@[simp] theorem mOr_s (a b : EM) (fr : Fr) (S : Store) : mOr a b fr S = orK b fr (a fr S) := (rfl)
def truB (S : Store) : Option Bool → Res Bool
  | some b => .ok b S
  | none => .bad
@[simp] theorem truB_s (S : Store) (b : Bool) : truB S (some b) = .ok b S := (rfl)
def truK (r : Res D) : Res Bool := r.bind fun x S1 => truB S1 (truth x S1)
@[simp] theorem truK_s (x : D) (S : Store) : truK (.ok x S) = truB S (truth x S) := (rfl)
@[simp] theorem tTru_s (a : EM) (fr : Fr) (S : Store) : tTru a fr S = truK (a fr S) := by
  unfold tTru truK
  congr 1
def blK (r : Res D) : Res Bool := r.bind fun x S1 => toB x S1
@[simp] theorem blK_s (b : Bool) (S : Store) : blK (.ok (.bl b) S) = .ok b S := (rfl)
@[simp] theorem tBl_s (a : EM) (fr : Fr) (S : Store) : tBl a fr S = blK (a fr S) := (rfl)
def tandK (b : TM) (fr : Fr) (r : Res Bool) : Res Bool := r.bind fun c S1 => if c then b fr S1 else .ok false S1
@[simp] theorem tandK_t (b : TM) (fr : Fr) (S : Store) : tandK b fr (.ok true S) = b fr S := (rfl)
@[simp] theorem tandK_f (b : TM) (fr : Fr) (S : Store) : tandK b fr (.ok false S) = .ok false S := (rfl)
@[simp] theorem tAnd_s (a b : TM) (fr : Fr) (S : Store) : tAnd a b fr S = tandK b fr (a fr S) := (rfl)
def torK (b : TM) (fr : Fr) (r : Res Bool) : Res Bool := r.bind fun c S1 => if c then .ok true S1 else b fr S1
@[simp] theorem torK_t (b : TM) (fr : Fr) (S : Store) : torK b fr (.ok true S) = .ok true S := (rfl)
@[simp] theorem torK_f (b : TM) (fr : Fr) (S : Store) : torK b fr (.ok false S) = b fr S := (rfl)
@[simp] theorem tOr_s (a b : TM) (fr : Fr) (S : Store) : tOr a b fr S = torK b fr (a fr S) := (rfl)
def tnotK (r : Res Bool) : Res Bool := r.bind fun c S1 => .ok (!c) S1
@[simp] theorem tnotK_s (b : Bool) (S : Store) : tnotK (.ok b S) = .ok (!b) S := (rfl)
@[simp] theorem tNot_s (a : TM) (fr : Fr) (S : Store) : tNot a fr S = tnotK (a fr S) := (rfl)
@[simp] theorem tYes_s (fr : Fr) (S : Store) : tYes fr S = .ok true S := (rfl)
def ifeK (a b : EM) (fr : Fr) (r : Res Bool) : Res D := r.bind fun c S1 => if c then a fr S1 else b fr S1
@[simp] theorem ifeK_t (a b : EM) (fr : Fr) (S : Store) : ifeK a b fr (.ok true S) = a fr S := (rfl)
@[simp] theorem ifeK_f (a b : EM) (fr : Fr) (S : Store) : ifeK a b fr (.ok false S) = b fr S := (rfl)
@[simp] theorem mIfE_s (t : TM) (a b : EM) (fr : Fr) (S : Store) : mIfE t a b fr S = ifeK a b fr (t fr S) := (rfl)
def chK3 (h : Op2) (y : D) (c : EM) (fr : Fr) (r : Res D) : Res D := r.bind fun z S3 => (toB z S3).bind fun k S4 => if k then opK2 h y (c fr S4) else .ok (.bl false) S4
def chK2 (g h : Op2) (x : D) (c : EM) (fr : Fr) (r : Res D) : Res D := r.bind fun y S2 => chK3 h y c fr (g x y S2)
def chK1 (g h : Op2) (b c : EM) (fr : Fr) (r : Res D) : Res D := r.bind fun x S1 => chK2 g h x c fr (b fr S1)
@[simp] theorem chK3_t (h : Op2) (y : D) (c : EM) (fr : Fr) (S : Store) : chK3 h y c fr (.ok (.bl true) S) = opK2 h y (c fr S) := (rfl)
@[simp] theorem chK3_f (h : Op2) (y : D) (c : EM) (fr : Fr) (S : Store) : chK3 h y c fr (.ok (.bl false) S) = .ok (.bl false) S := (rfl)
@[simp] theorem chK2_s (g h : Op2) (x y : D) (c : EM) (fr : Fr) (S : Store) : chK2 g h x c fr (.ok y S) = chK3 h y c fr (g x y S) := (rfl)
@[simp] theorem chK1_s (g h : Op2) (x : D) (b c : EM) (fr : Fr) (S : Store) : chK1 g h b c fr (.ok x S) = chK2 g h x c fr (b fr S) := (rfl)
@[simp] theorem mChain_s (g h : Op2) (a b c : EM) (fr : Fr) (S : Store) : mChain g h a b c fr S = chK1 g h b c fr (a fr S) := (rfl)
def acK2 (x : D) (r : Res (List D)) : Res (List D) := r.bind fun xs S2 => .ok (x :: xs) S2
def acK1 (q : AM) (fr : Fr) (r : Res D) : Res (List D) := r.bind fun x S1 => acK2 x (q fr S1)
@[simp] theorem acK2_s (x : D) (xs : List D) (S : Store) : acK2 x (.ok xs S) = .ok (x :: xs) S := (rfl)
@[simp] theorem acK1_s (q : AM) (fr : Fr) (x : D) (S : Store) : acK1 q fr (.ok x S) = acK2 x (q fr S) := (rfl)
@[simp] theorem aNil_s (fr : Fr) (S : Store) : aNil fr S = .ok [] S := (rfl)
@[simp] theorem aCons_s (a : EM) (q : AM) (fr : Fr) (S : Store) : aCons a q fr S = acK1 q fr (a fr S) := (rfl)
def tupK (r : Res (List D)) : Res D := r.bind fun xs S1 => if xs.length ≤ LINE then .ok (.tup xs) S1 else .bad
@[simp] theorem tupK_s (xs : List D) (S : Store) : tupK (.ok xs S) = if xs.length ≤ LINE then .ok (.tup xs) S else .bad := (rfl)
@[simp] theorem mTup_s (a : AM) (fr : Fr) (S : Store) : mTup a fr S = tupK (a fr S) := (rfl)
def lstK (r : Res (List D)) : Res D := r.bind fun xs S1 => if xs.length ≤ LINE then new (.lst xs) S1 else .bad
@[simp] theorem lstK_s (xs : List D) (S : Store) : lstK (.ok xs S) = if xs.length ≤ LINE then .ok (.ref S.length) (S ++ [.lst xs]) else .bad := (rfl)
@[simp] theorem mLst_s (a : AM) (fr : Fr) (S : Store) : mLst a fr S = lstK (a fr S) := (rfl)
def callK (f : Fn) (r : Res (List D)) : Res D := r.bind f
@[simp] theorem callK_s (f : Fn) (ds : List D) (S : Store) : callK f (.ok ds S) = f ds S := (rfl)
@[simp] theorem mCall_s (f : Fn) (a : AM) (fr : Fr) (S : Store) : mCall f a fr S = callK f (a fr S) := (rfl)
def mtB (f : D → Fn) (x : D) (a : AM) (fr : Fr) (S : Store) : Bool → Res D
  | true => callK (f x) (a fr S)
  | false => .bad
@[simp] theorem mtB_s (f : D → Fn) (x : D) (a : AM) (fr : Fr) (S : Store) : mtB f x a fr S true = callK (f x) (a fr S) := (rfl)
def mtK (T : D → Store → Bool) (f : D → Fn) (a : AM) (fr : Fr) (r : Res D) : Res D := r.bind fun x S1 => mtB f x a fr S1 (T x S1)
@[simp] theorem mtK_s (T : D → Store → Bool) (f : D → Fn) (a : AM) (fr : Fr) (x : D) (S : Store) : mtK T f a fr (.ok x S) = mtB f x a fr S (T x S) := (rfl)
@[simp] theorem mMt_s (T : D → Store → Bool) (f : D → Fn) (o : EM) (a : AM) (fr : Fr) (S : Store) : mMt T f o a fr S = mtK T f a fr (o fr S) := by
  unfold mMt mtK
  congr 1
  funext x S1
  cases T x S1 <;> rfl
@[simp] theorem mNewK_s (fr : Fr) (S : Store) : mNewK fr S = .ok (.ref S.length) (S ++ [.dK []]) := (rfl)
@[simp] theorem mNewT_s (fr : Fr) (S : Store) : mNewT fr S = .ok (.ref S.length) (S ++ [.dT []]) := (rfl)
def psK (r : Res D) : Res (Option Int) := r.bind fun x S1 => match x with
  | .int i => .ok (some i) S1
  | _ => .bad
@[simp] theorem psK_s (i : Int) (S : Store) : psK (.ok (.int i) S) = .ok (some i) S := (rfl)
@[simp] theorem pNo_s (fr : Fr) (S : Store) : pNo fr S = .ok none S := (rfl)
@[simp] theorem pSome_s (a : EM) (fr : Fr) (S : Store) : pSome a fr S = psK (a fr S) := (rfl)
def slK3 (x : D) (l : Option Int) (r : Res (Option Int)) : Res D := r.bind fun h S3 => oSl x l h S3
def slK2 (x : D) (hi : PM) (fr : Fr) (r : Res (Option Int)) : Res D := r.bind fun l S2 => slK3 x l (hi fr S2)
def slK1 (lo hi : PM) (fr : Fr) (r : Res D) : Res D := r.bind fun x S1 => slK2 x hi fr (lo fr S1)
@[simp] theorem slK3_s (x : D) (l h : Option Int) (S : Store) : slK3 x l (.ok h S) = oSl x l h S := (rfl)
@[simp] theorem slK2_s (x : D) (hi : PM) (fr : Fr) (l : Option Int) (S : Store) : slK2 x hi fr (.ok l S) = slK3 x l (hi fr S) := (rfl)
@[simp] theorem slK1_s (lo hi : PM) (fr : Fr) (x : D) (S : Store) : slK1 lo hi fr (.ok x S) = slK2 x hi fr (lo fr S) := (rfl)
@[simp] theorem mSl_s (a : EM) (lo hi : PM) (fr : Fr) (S : Store) : mSl a lo hi fr S = slK1 lo hi fr (a fr S) := (rfl)

/-! ### targets -/
@[simp] theorem gName_s (i : Nat) (d : D) (fr : Fr) (S : Store) : gName i d fr S = .ok (fr.set i (some d)) S := (rfl)
@[simp] theorem gNil_s (fr : Fr) (S : Store) : gNil [] fr S = .ok fr S := (rfl)
def gcK (gs : GMs) (q : List D) (r : Res Fr) : Res Fr := r.bind fun fr' S' => gs q fr' S'
@[simp] theorem gcK_s (gs : GMs) (q : List D) (fr : Fr) (S : Store) : gcK gs q (.ok fr S) = gs q fr S := (rfl)
@[simp] theorem gCons_s (g : GM) (gs : GMs) (d : D) (q : List D) (fr : Fr) (S : Store) : gCons g gs (d :: q) fr S = gcK gs q (g d fr S) := (rfl)
def gtK (n : Nat) (g : GMs) (fr : Fr) (S : Store) : Option (List D) → Res Fr
  | some l => if l.length = n then g l fr S else .bad
  | none => .bad
@[simp] theorem gtK_s (n : Nat) (g : GMs) (fr : Fr) (S : Store) (l : List D) : gtK n g fr S (some l) = if l.length = n then g l fr S else .bad := (rfl)
@[simp] theorem gTup_s (n : Nat) (g : GMs) (d : D) (fr : Fr) (S : Store) : gTup n g d fr S = gtK n g fr S (seqOf S d) := by
  unfold gTup gtK
  cases seqOf S d <;> rfl
def fuK (fr : Fr) (r : Res Unit) : Res Fr := r.bind fun _ S3 => .ok fr S3
def gsK2 (x v : D) (fr : Fr) (r : Res D) : Res Fr := r.bind fun y S2 => fuK fr (setIx x y v S2)
def gsK1 (i : EM) (v : D) (fr : Fr) (r : Res D) : Res Fr := r.bind fun x S1 => gsK2 x v fr (i fr S1)
@[simp] theorem fuK_s (fr : Fr) (u : Unit) (S : Store) : fuK fr (.ok u S) = .ok fr S := (rfl)
@[simp] theorem gsK2_s (x v y : D) (fr : Fr) (S : Store) : gsK2 x v fr (.ok y S) = fuK fr (setIx x y v S) := (rfl)
@[simp] theorem gsK1_s (i : EM) (v x : D) (fr : Fr) (S : Store) : gsK1 i v fr (.ok x S) = gsK2 x v fr (i fr S) := (rfl)
@[simp] theorem gSub_s (o i : EM) (v : D) (fr : Fr) (S : Store) : gSub o i v fr S = gsK1 i v fr (o fr S) := (rfl)

/-! ### statements -/
@[simp] theorem sNx_s (fr : Fr) (S : Store) : sNx fr S = .ok (.nx fr) S := (rfl)
def seqK (b : SM) (r : Res Out) : Res Out := r.bind fun o S1 => match o with
  | .nx fr' => b fr' S1
  | o => .ok o S1
@[simp] theorem seqK_n (b : SM) (fr : Fr) (S : Store) : seqK b (.ok (.nx fr) S) = b fr S := (rfl)
@[simp] theorem seqK_r (b : SM) (d : D) (S : Store) : seqK b (.ok (.rt d) S) = .ok (.rt d) S := (rfl)
@[simp] theorem seqK_b (b : SM) (fr : Fr) (S : Store) : seqK b (.ok (.bk fr) S) = .ok (.bk fr) S := (rfl)
@[simp] theorem seqK_c (b : SM) (fr : Fr) (S : Store) : seqK b (.ok (.ct fr) S) = .ok (.ct fr) S := (rfl)
@[simp] theorem sSeq_s (a b : SM) (fr : Fr) (S : Store) : sSeq a b fr S = seqK b (a fr S) := (rfl)
def nxK (r : Res Fr) : Res Out := r.bind fun fr' S2 => .ok (.nx fr') S2
def asK (g : GM) (fr : Fr) (r : Res D) : Res Out := r.bind fun x S1 => nxK (g x fr S1)
@[simp] theorem nxK_s (fr : Fr) (S : Store) : nxK (.ok fr S) = .ok (.nx fr) S := (rfl)
@[simp] theorem asK_s (g : GM) (fr : Fr) (x : D) (S : Store) : asK g fr (.ok x S) = nxK (g x fr S) := (rfl)
@[simp] theorem sAsg_s (e : EM) (g : GM) (fr : Fr) (S : Store) : sAsg e g fr S = asK g fr (e fr S) := (rfl)
def auK2 (i : Nat) (fr : Fr) (r : Res D) : Res Out := r.bind fun z S2 => .ok (.nx (fr.set i (some z))) S2
def auK1 (i : Nat) (g : Op2) (x : D) (fr : Fr) (r : Res D) : Res Out := r.bind fun y S1 => auK2 i fr (g x y S1)
def auK0 (i : Nat) (g : Op2) (e : EM) (fr : Fr) (S : Store) : Option (Option D) → Res Out
  | some (some x) => auK1 i g x fr (e fr S)
  | _ => .bad
@[simp] theorem auK2_s (i : Nat) (fr : Fr) (z : D) (S : Store) : auK2 i fr (.ok z S) = .ok (.nx (fr.set i (some z))) S := (rfl)
@[simp] theorem auK1_s (i : Nat) (g : Op2) (x y : D) (fr : Fr) (S : Store) : auK1 i g x fr (.ok y S) = auK2 i fr (g x y S) := (rfl)
@[simp] theorem auK0_s (i : Nat) (g : Op2) (e : EM) (fr : Fr) (S : Store) (x : D) : auK0 i g e fr S (some (some x)) = auK1 i g x fr (e fr S) := (rfl)
@[simp] theorem sAug_s (i : Nat) (g : Op2) (e : EM) (fr : Fr) (S : Store) : sAug i g e fr S = auK0 i g e fr S fr[i]? := by
  unfold sAug auK0
  cases fr[i]? with
  | none => rfl
  | some o => cases o <;> rfl
@[simp] theorem oAddI_s (a b : Int) (S : Store) : oAddI (.int a) (.int b) S = .ok (.int (a + b)) S := (rfl)
def exK (fr : Fr) (r : Res D) : Res Out := r.bind fun _ S1 => .ok (.nx fr) S1
@[simp] theorem exK_s (fr : Fr) (x : D) (S : Store) : exK fr (.ok x S) = .ok (.nx fr) S := (rfl)
@[simp] theorem sExp_s (e : EM) (fr : Fr) (S : Store) : sExp e fr S = exK fr (e fr S) := (rfl)
def reK (r : Res D) : Res Out := r.bind fun x S1 => .ok (.rt x) S1
@[simp] theorem reK_s (x : D) (S : Store) : reK (.ok x S) = .ok (.rt x) S := (rfl)
@[simp] theorem sRet_s (e : EM) (fr : Fr) (S : Store) : sRet e fr S = reK (e fr S) := (rfl)
@[simp] theorem sRetN_s (fr : Fr) (S : Store) : sRetN fr S = .ok (.rt .non) S := (rfl)
@[simp] theorem sBrk_s (fr : Fr) (S : Store) : sBrk fr S = .ok (.bk fr) S := (rfl)
@[simp] theorem sCnt_s (fr : Fr) (S : Store) : sCnt fr S = .ok (.ct fr) S := (rfl)
def ifK (a b : SM) (fr : Fr) (r : Res Bool) : Res Out := r.bind fun c S1 => if c then a fr S1 else b fr S1
@[simp] theorem ifK_t (a b : SM) (fr : Fr) (S : Store) : ifK a b fr (.ok true S) = a fr S := (rfl)
@[simp] theorem ifK_f (a b : SM) (fr : Fr) (S : Store) : ifK a b fr (.ok false S) = b fr S := (rfl)
@[simp] theorem sIf_s (t : TM) (a b : SM) (fr : Fr) (S : Store) : sIf t a b fr S = ifK a b fr (t fr S) := (rfl)
/-- a turn of a for -/
def tuK (b : SM) (r : Res Fr) : Res Out := r.bind fun fr' S' => b fr' S'
@[simp] theorem tuK_s (b : SM) (fr : Fr) (S : Store) : tuK b (.ok fr S) = b fr S := (rfl)
def turnM (g : GM) (b : SM) (d : D) (fr : Fr) (S : Store) : Res Out := tuK b (g d fr S)
theorem turnM_s (g : GM) (b : SM) (d : D) (fr : Fr) (S : Store) : turnM g b d fr S = tuK b (g d fr S) := (rfl)
noncomputable def forK (g : GM) (b : SM) (fr : Fr) (r : Res Its) : Res Out := r.bind fun I S1 => loopM I.hs (turnM g b) I.items fr S1
@[simp] theorem forK_s (g : GM) (b : SM) (fr : Fr) (l : List D) (hs : List (Nat × List D)) (S : Store) : forK g b fr (.ok ⟨l, hs⟩ S) = loopM hs (turnM g b) l fr S := (rfl)
@[simp] theorem sFor_s (i : IM) (g : GM) (b : SM) (fr : Fr) (S : Store) : sFor i g b fr S = forK g b fr (i fr S) := (rfl)
/-- the rest of a for -/
noncomputable def loK (hs : List (Nat × List D)) (turn : D → SM) (ds : List D) (r : Res Out) : Res Out := r.bind (goOn (loopM hs turn ds))
@[simp] theorem loK_n (hs : List (Nat × List D)) (turn : D → SM) (ds : List D) (fr : Fr) (S : Store) : loK hs turn ds (.ok (.nx fr) S) = loopM hs turn ds fr S := (rfl)
@[simp] theorem loK_c (hs : List (Nat × List D)) (turn : D → SM) (ds : List D) (fr : Fr) (S : Store) : loK hs turn ds (.ok (.ct fr) S) = loopM hs turn ds fr S := (rfl)
@[simp] theorem loK_b (hs : List (Nat × List D)) (turn : D → SM) (ds : List D) (fr : Fr) (S : Store) : loK hs turn ds (.ok (.bk fr) S) = .ok (.nx fr) S := (rfl)
@[simp] theorem loK_r (hs : List (Nat × List D)) (turn : D → SM) (ds : List D) (d : D) (S : Store) : loK hs turn ds (.ok (.rt d) S) = .ok (.rt d) S := (rfl)
theorem loop_nil {hs : List (Nat × List D)} {turn : D → SM} {fr : Fr} {S : Store} (h : stands hs S) : loopM hs turn [] fr S = .ok (.nx fr) S := by rw [loopM, dec_true h]; rfl
theorem loop_cons {hs : List (Nat × List D)} {turn : D → SM} {d : D} {ds : List D} {fr : Fr} {S : Store} (h : stands hs S) : loopM hs turn (d :: ds) fr S = loK hs turn ds (turn d fr S) := by rw [loopM, dec_true h]; rfl
theorem stands_nil (S : Store) : stands [] S := fun _ h => by cases h
theorem stands_one {S : Store} {n : Nat} {l : List D} (h : lstOf S n = some l) : stands [(n, l)] S := fun p hp => by
  have e : p = (n, l) := by simpa using hp
  subst e; exact h
/-- a while -/
noncomputable def whK (t : TM) (b : SM) (r : Res Out) : Res Out := r.bind (goOn (sWhile t b))
noncomputable def whT (t : TM) (b : SM) (fr : Fr) (r : Res Bool) : Res Out := r.bind fun c S1 => if c then whK t b (b fr S1) else .ok (.nx fr) S1
theorem while_s (t : TM) (b : SM) (fr : Fr) (S : Store) : sWhile t b fr S = whT t b fr (t fr S) := sWhile_eq t b fr S
@[simp] theorem whT_t (t : TM) (b : SM) (fr : Fr) (S : Store) : whT t b fr (.ok true S) = whK t b (b fr S) := (rfl)
@[simp] theorem whT_f (t : TM) (b : SM) (fr : Fr) (S : Store) : whT t b fr (.ok false S) = .ok (.nx fr) S := (rfl)
@[simp] theorem whK_n (t : TM) (b : SM) (fr : Fr) (S : Store) : whK t b (.ok (.nx fr) S) = sWhile t b fr S := (rfl)
@[simp] theorem whK_c (t : TM) (b : SM) (fr : Fr) (S : Store) : whK t b (.ok (.ct fr) S) = sWhile t b fr S := (rfl)
@[simp] theorem whK_b (t : TM) (b : SM) (fr : Fr) (S : Store) : whK t b (.ok (.bk fr) S) = .ok (.nx fr) S := (rfl)
@[simp] theorem whK_r (t : TM) (b : SM) (d : D) (S : Store) : whK t b (.ok (.rt d) S) = .ok (.rt d) S := (rfl)
/-- a def -/
@[simp] theorem quiet_s (a : α) (S : Store) : quiet (.ok a S) = .ok a S := (rfl)
def deK (r : Res Out) : Res D := r.bind fun o S1 => match o with
  | .rt x => .ok x S1
  | .nx _ => .ok .non S1
  | _ => .bad
@[simp] theorem deK_r (x : D) (S : Store) : deK (.ok (.rt x) S) = .ok x S := (rfl)
@[simp] theorem deK_n (fr : Fr) (S : Store) : deK (.ok (.nx fr) S) = .ok .non S := (rfl)
theorem mDef_s (np n : Nat) (b : SM) (ds : List D) (S : Store) (h : ds.length = np) : mDef np n b ds S = quiet (deK (b (startF n ds) S)) := by
  unfold mDef mDefX
  rw [if_pos h]; rfl
@[simp] theorem mDef_1 (n : Nat) (b : SM) (x0 : D) (S : Store) : mDef 1 n b [x0] S = quiet (deK (b ([some x0] ++ List.replicate (n - 1) none) S)) := (rfl)
@[simp] theorem mDef_2 (n : Nat) (b : SM) (x0 x1 : D) (S : Store) : mDef 2 n b [x0, x1] S = quiet (deK (b ([some x0, some x1] ++ List.replicate (n - 2) none) S)) := (rfl)
@[simp] theorem mDef_3 (n : Nat) (b : SM) (x0 x1 x2 : D) (S : Store) : mDef 3 n b [x0, x1, x2] S = quiet (deK (b ([some x0, some x1, some x2] ++ List.replicate (n - 3) none) S)) := (rfl)
@[simp] theorem mDef_4 (n : Nat) (b : SM) (x0 x1 x2 x3 : D) (S : Store) : mDef 4 n b [x0, x1, x2, x3] S = quiet (deK (b ([some x0, some x1, some x2, some x3] ++ List.replicate (n - 4) none) S)) := (rfl)
@[simp] theorem mDef_5 (n : Nat) (b : SM) (x0 x1 x2 x3 x4 : D) (S : Store) : mDef 5 n b [x0, x1, x2, x3, x4] S = quiet (deK (b ([some x0, some x1, some x2, some x3, some x4] ++ List.replicate (n - 5) none) S)) := (rfl)
@[simp] theorem mDef_6 (n : Nat) (b : SM) (x0 x1 x2 x3 x4 x5 : D) (S : Store) : mDef 6 n b [x0, x1, x2, x3, x4, x5] S = quiet (deK (b ([some x0, some x1, some x2, some x3, some x4, some x5] ++ List.replicate (n - 6) none) S)) := (rfl)
@[simp] theorem startF_s (n : Nat) (ds : List D) : startF n ds = ds.map some ++ List.replicate (n - ds.length) none := (rfl)

/-! ### what is walked -/
def isK (r : Res D) : Res Its := r.bind fun x S1 => match x with
  | .tup l => .ok ⟨l, []⟩ S1
  | .wtp l => .ok ⟨l, []⟩ S1
  | .ref n => match lstOf S1 n with
    | some l => .ok ⟨l, [(n, l)]⟩ S1
    | none => .bad
  | _ => .bad
def isR (n : Nat) (S : Store) : Option (List D) → Res Its
  | some l => .ok ⟨l, [(n, l)]⟩ S
  | none => .bad
@[simp] theorem isR_s (n : Nat) (S : Store) (l : List D) : isR n S (some l) = .ok ⟨l, [(n, l)]⟩ S := (rfl)
@[simp] theorem isK_t (l : List D) (S : Store) : isK (.ok (.tup l) S) = .ok ⟨l, []⟩ S := (rfl)
@[simp] theorem isK_w (l : List D) (S : Store) : isK (.ok (.wtp l) S) = .ok ⟨l, []⟩ S := (rfl)
@[simp] theorem isK_r (n : Nat) (S : Store) : isK (.ok (.ref n) S) = isR n S (lstOf S n) := by
  show (match lstOf S n with | some l => (.ok ⟨l, [(n, l)]⟩ S : Res Its) | none => .bad) = _
  cases lstOf S n <;> rfl
@[simp] theorem iSeq_s (e : EM) (fr : Fr) (S : Store) : iSeq e fr S = isK (e fr S) := (rfl)
def istK (r : Res D) : Res Its := r.bind fun x S1 => match x with
  | .str z => .ok ⟨z.map fun c => .str [c], []⟩ S1
  | _ => .bad
@[simp] theorem istK_s (z : Tx) (S : Store) : istK (.ok (.str z) S) = .ok ⟨z.map fun c => .str [c], []⟩ S := (rfl)
@[simp] theorem iStr_s (e : EM) (fr : Fr) (S : Store) : iStr e fr S = istK (e fr S) := (rfl)
def ir1K (r : Res (List D)) : Res Its := r.bind fun ds S1 => match ds with
  | [.int j] => if far j then .ok ⟨rng 0 j.toNat, []⟩ S1 else .bad
  | _ => .bad
@[simp] theorem ir1K_s (j : Int) (S : Store) : ir1K (.ok [.int j] S) = if far j then .ok ⟨rng 0 j.toNat, []⟩ S else .bad := (rfl)
@[simp] theorem iRng1_s (a : AM) (fr : Fr) (S : Store) : iRng1 a fr S = ir1K (a fr S) := (rfl)
def ir2K (r : Res (List D)) : Res Its := r.bind fun ds S1 => match ds with
  | [.int i, .int j] => if far i ∧ far j then .ok ⟨rng i (j - i).toNat, []⟩ S1 else .bad
  | _ => .bad
@[simp] theorem ir2K_s (i j : Int) (S : Store) : ir2K (.ok [.int i, .int j] S) = if far i ∧ far j then .ok ⟨rng i (j - i).toNat, []⟩ S else .bad := (rfl)
@[simp] theorem iRng2_s (a : AM) (fr : Fr) (S : Store) : iRng2 a fr S = ir2K (a fr S) := (rfl)
def irdK (r : Res (List D)) : Res Its := r.bind fun ds S1 => match ds with
  | [.int i, .int j, .int c] => if far i ∧ far j ∧ c = -1 then .ok ⟨(List.range (i - j).toNat).map fun k => .int (i - (k : Nat)), []⟩ S1 else .bad
  | _ => .bad
@[simp] theorem irdK_s (i j c : Int) (S : Store) : irdK (.ok [.int i, .int j, .int c] S) = if far i ∧ far j ∧ c = -1 then .ok ⟨(List.range (i - j).toNat).map fun k => .int (i - (k : Nat)), []⟩ S else .bad := (rfl)
@[simp] theorem iRngD_s (a : AM) (fr : Fr) (S : Store) : iRngD a fr S = irdK (a fr S) := (rfl)
def irrK (r : Res D) : Res Its := r.bind fun x S1 => match x with
  | .int j => if far j then .ok ⟨(List.range j.toNat).map fun k => .int ((j.toNat : Int) - 1 - (k : Nat)), []⟩ S1 else .bad
  | _ => .bad
@[simp] theorem irrK_s (j : Int) (S : Store) : irrK (.ok (.int j) S) = if far j then .ok ⟨(List.range j.toNat).map fun k => .int ((j.toNat : Int) - 1 - (k : Nat)), []⟩ S else .bad := (rfl)
@[simp] theorem iRevR_s (a : EM) (fr : Fr) (S : Store) : iRevR a fr S = irrK (a fr S) := (rfl)
def ienR (n : Nat) (S : Store) : Option (List D) → Res Its
  | some l => .ok ⟨prs 0 l, [(n, l)]⟩ S
  | none => .bad
def ienK (r : Res (List D)) : Res Its := r.bind fun ds S1 => match ds with
  | [.ref n] => ienR n S1 (lstOf S1 n)
  | _ => .bad
@[simp] theorem ienR_s (n : Nat) (S : Store) (l : List D) : ienR n S (some l) = .ok ⟨prs 0 l, [(n, l)]⟩ S := (rfl)
@[simp] theorem ienK_s (n : Nat) (S : Store) : ienK (.ok [.ref n] S) = ienR n S (lstOf S n) := (rfl)
@[simp] theorem iEnum_s (a : AM) (fr : Fr) (S : Store) : iEnum a fr S = ienK (a fr S) := by
  unfold iEnum ienK
  congr 1
def irvR (n : Nat) (S : Store) : Option (List D) → Res Its
  | some l => .ok ⟨l.reverse, [(n, l)]⟩ S
  | none => .bad
def irvK (r : Res (List D)) : Res Its := r.bind fun ds S1 => match ds with
  | [.ref n] => irvR n S1 (lstOf S1 n)
  | _ => .bad
@[simp] theorem irvR_s (n : Nat) (S : Store) (l : List D) : irvR n S (some l) = .ok ⟨l.reverse, [(n, l)]⟩ S := (rfl)
@[simp] theorem irvK_s (n : Nat) (S : Store) : irvK (.ok [.ref n] S) = irvR n S (lstOf S n) := (rfl)
@[simp] theorem iRev_s (a : AM) (fr : Fr) (S : Store) : iRev a fr S = irvK (a fr S) := by
  unfold iRev irvK
  congr 1
/-! ### comprehensions -/
noncomputable def lcK (vs : List Nat) (g : GM) (t : TM) (e : EM) (fr : Fr) (r : Res Its) : Res D := r.bind fun I S1 => lcLoop I.hs S1.length g (fun fr S => quiet (t fr S)) (fun fr S => quiet (e fr S)) (unset vs fr) I.items (S1 ++ [.lst []])
theorem lcK_s (vs : List Nat) (g : GM) (t : TM) (e : EM) (fr : Fr) (l : List D) (hs : List (Nat × List D)) (S : Store) : lcK vs g t e fr (.ok ⟨l, hs⟩ S) = lcLoop hs S.length g (fun fr S => quiet (t fr S)) (fun fr S => quiet (e fr S)) (unset vs fr) l (S ++ [.lst []]) := (rfl)
@[simp] theorem mLc_s (vs : List Nat) (i : IM) (g : GM) (t : TM) (e : EM) (fr : Fr) (S : Store) : mLc vs i g t e fr S = lcK vs g t e fr (i fr S) := (rfl)
/-- a comprehension whose elements change nothing that stood -/
theorem lc_is {vs : List Nat} {g : GM} {t : TM} {e : EM} {fr : Fr} {l : List D} {hs : List (Nat × List D)} {S : Store} (f : D → Option D) (h1 : ∀ p, p ∈ hs → lstOf S p.1 = some p.2) (h2 : l.length ≤ LINE)
    (h3 : ∀ d, d ∈ l → ∀ acc G, ∃ fr' G', g d (unset vs fr) (S ++ .lst acc :: G) = .ok fr' (S ++ .lst acc :: G) ∧
      ((f d = none ∧ t fr' (S ++ .lst acc :: G) = .ok false (S ++ .lst acc :: (G ++ G'))) ∨ ∃ x G'', f d = some x ∧ t fr' (S ++ .lst acc :: G) = .ok true (S ++ .lst acc :: (G ++ G'')) ∧ e fr' (S ++ .lst acc :: (G ++ G'')) = .ok x (S ++ .lst acc :: (G ++ G')))) :
    ∃ G', lcK vs g t e fr (.ok ⟨l, hs⟩ S) = .ok (.ref S.length) (S ++ .lst (l.filterMap f) :: G') := by
  have q := lc_map (g := g) (t := fun fr S => quiet (t fr S)) (e := fun fr S => quiet (e fr S)) (fr := unset vs fr) f l [] [] h1 (by simpa using h2) fun d hd acc G => by
    obtain ⟨fr', G', e1, e2⟩ := h3 d hd acc G
    refine ⟨fr', G', e1, ?_⟩
    rcases e2 with ⟨a, b⟩ | ⟨x, G'', a, b, c⟩
    · exact .inl ⟨a, by rw [b]; rfl⟩
    · exact .inr ⟨x, G'', a, by rw [b]; rfl, by rw [c]; rfl⟩
  exact q
/-! ### operators by their operands -/
section
variable (S : Store)
@[simp] theorem oAdd_i (i j : Int) : oAdd (.int i) (.int j) S = .ok (.int (i + j)) S := (rfl)
@[simp] theorem oAdd_s (a b : Tx) : oAdd (.str a) (.str b) S = if a.length + b.length ≤ LINE then .ok (.str (a ++ b)) S else .bad := (rfl)
@[simp] theorem oAdd_t (a b : List D) : oAdd (.tup a) (.tup b) S = if a ≠ [] ∧ a.length + b.length ≤ LINE then .ok (.tup (a ++ b)) S else .bad := (rfl)
def catK : Option O → Option O → Res D
  | some (.lst a), some (.lst b) => if a.length + b.length ≤ LINE then new (.lst (a ++ b)) S else .bad
  | _, _ => .bad
@[simp] theorem catK_s (a b : List D) : catK S (some (.lst a)) (some (.lst b)) = if a.length + b.length ≤ LINE then .ok (.ref S.length) (S ++ [.lst (a ++ b)]) else .bad := (rfl)
@[simp] theorem oAdd_r (m n : Nat) : oAdd (.ref m) (.ref n) S = catK S S[m]? S[n]? := by
  unfold oAdd catK
  rfl
@[simp] theorem oSub_i (i j : Int) : oSub (.int i) (.int j) S = .ok (.int (i - j)) S := (rfl)
@[simp] theorem oMul_i (i j : Int) : oMul (.int i) (.int j) S = if mulOk i j then .ok (.int (i * j)) S else .bad := (rfl)
def repK (k : Int) : Option O → Res D
  | some (.lst a) => if -(2 ^ 63) ≤ k ∧ k < 2 ^ 63 ∧ a.length * k.toNat ≤ LINE then new (.lst (List.replicate k.toNat a).flatten) S else .bad
  | _ => .bad
@[simp] theorem repK_s (k : Int) (a : List D) : repK S k (some (.lst a)) = if -(2 ^ 63) ≤ k ∧ k < 2 ^ 63 ∧ a.length * k.toNat ≤ LINE then .ok (.ref S.length) (S ++ [.lst (List.replicate k.toNat a).flatten]) else .bad := (rfl)
@[simp] theorem oMul_r (m : Nat) (k : Int) : oMul (.ref m) (.int k) S = repK S k S[m]? := by
  unfold oMul repK
  rfl
@[simp] theorem oDiv_i (i j : Int) : oDiv (.int i) (.int j) S = if divOk j then .ok (.int (i / j)) S else .bad := (rfl)
@[simp] theorem oMod_i (i j : Int) : oMod (.int i) (.int j) S = if 0 < j then .ok (.int (i % j)) S else .bad := (rfl)
@[simp] theorem oPow_i (i j : Int) : oPow (.int i) (.int j) S = if powOk i j then .ok (.int (i ^ j.toNat)) S else .bad := (rfl)
@[simp] theorem oShl_i (i j : Int) : oShl (.int i) (.int j) S = if powOk i j then .ok (.int (i * 2 ^ j.toNat)) S else .bad := (rfl)
@[simp] theorem oShr_i (i j : Int) : oShr (.int i) (.int j) S = if 0 ≤ j then .ok (.int (i / 2 ^ j.toNat)) S else .bad := (rfl)
@[simp] theorem oAnd_i (i j : Int) : oAnd (.int i) (.int j) S = if 0 ≤ i ∧ 0 ≤ j then .ok (.int (i.toNat &&& j.toNat : Nat)) S else .bad := (rfl)
@[simp] theorem oOr_i (i j : Int) : oOr (.int i) (.int j) S = if 0 ≤ i ∧ 0 ≤ j then .ok (.int (i.toNat ||| j.toNat : Nat)) S else .bad := (rfl)
@[simp] theorem oXor_i (i j : Int) : oXor (.int i) (.int j) S = if 0 ≤ i ∧ 0 ≤ j then .ok (.int (i.toNat ^^^ j.toNat : Nat)) S else .bad := (rfl)
@[simp] theorem oLt_i (i j : Int) : oLt (.int i) (.int j) S = .ok (.bl (decide (i < j))) S := (rfl)
@[simp] theorem oLe_i (i j : Int) : oLe (.int i) (.int j) S = .ok (.bl (decide (i ≤ j))) S := (rfl)
@[simp] theorem oGt_i (i j : Int) : oGt (.int i) (.int j) S = .ok (.bl (decide (j < i))) S := (rfl)
@[simp] theorem oGe_i (i j : Int) : oGe (.int i) (.int j) S = .ok (.bl (decide (j ≤ i))) S := (rfl)
@[simp] theorem uNeg_i (i : Int) : uNeg (.int i) S = .ok (.int (-i)) S := (rfl)
@[simp] theorem oIs_n (x : D) : oIs x .non S = .ok (.bl (isN x)) S := (rfl)
@[simp] theorem oIsNot_n (x : D) : oIsNot x .non S = .ok (.bl (!isN x)) S := (rfl)
@[simp] theorem isN_n : isN .non = true := (rfl)
@[simp] theorem isN_b (b : Bool) : isN (.bl b) = false := (rfl)
@[simp] theorem isN_i (b : Int) : isN (.int b) = false := (rfl)
@[simp] theorem isN_s (b : Tx) : isN (.str b) = false := (rfl)
@[simp] theorem isN_t (b : List D) : isN (.tup b) = false := (rfl)
@[simp] theorem isN_r (b : Nat) : isN (.ref b) = false := (rfl)
@[simp] theorem oEq_i (i j : Int) : oEq (.int i) (.int j) S = .ok (.bl (decide (i = j))) S := (rfl)
@[simp] theorem oEq_s (i j : Tx) : oEq (.str i) (.str j) S = .ok (.bl (decide (i = j))) S := (rfl)
@[simp] theorem oEq_b (i j : Bool) : oEq (.bl i) (.bl j) S = .ok (.bl (decide (i = j))) S := (rfl)
@[simp] theorem oEq_nn : oEq .non .non S = .ok (.bl true) S := (rfl)
@[simp] theorem oEq_sn (i : Tx) : oEq (.str i) .non S = .ok (.bl false) S := (rfl)
@[simp] theorem oEq_ns (i : Tx) : oEq .non (.str i) S = .ok (.bl false) S := (rfl)
@[simp] theorem oEq_is (i : Int) (j : Tx) : oEq (.int i) (.str j) S = .ok (.bl false) S := (rfl)
@[simp] theorem oEq_si (i : Int) (j : Tx) : oEq (.str j) (.int i) S = .ok (.bl false) S := (rfl)
@[simp] theorem oNe_i (i j : Int) : oNe (.int i) (.int j) S = .ok (.bl (!decide (i = j))) S := (rfl)
@[simp] theorem oNe_s (i j : Tx) : oNe (.str i) (.str j) S = .ok (.bl (!decide (i = j))) S := (rfl)
@[simp] theorem oNe_b (i j : Bool) : oNe (.bl i) (.bl j) S = .ok (.bl (!decide (i = j))) S := (rfl)
@[simp] theorem oNe_nn : oNe .non .non S = .ok (.bl false) S := (rfl)
@[simp] theorem oNe_sn (i : Tx) : oNe (.str i) .non S = .ok (.bl true) S := (rfl)
@[simp] theorem oNe_ns (i : Tx) : oNe .non (.str i) S = .ok (.bl true) S := (rfl)
def eqK (f : Bool → Bool) : Option Bool → Res D
  | some b => .ok (.bl (f b)) S
  | none => .bad
@[simp] theorem eqK_s (f : Bool → Bool) (b : Bool) : eqK S f (some b) = .ok (.bl (f b)) S := (rfl)
/-- not simp: where data of some depth are compared -/
theorem oEq_g (x y : D) : oEq x y S = eqK S (fun b => b) (pyEq x y S) := by
  unfold oEq eqK
  cases pyEq x y S <;> rfl
theorem oNe_g (x y : D) : oNe x y S = eqK S (fun b => !b) (pyEq x y S) := by
  unfold oNe eqK
  cases pyEq x y S <;> rfl
@[simp] theorem oIn_g (x y : D) : oIn x y S = eqK S (fun b => b) (isIn x y S) := by
  unfold oIn eqK
  cases isIn x y S <;> rfl
@[simp] theorem oNotIn_g (x y : D) : oNotIn x y S = eqK S (fun b => !b) (isIn x y S) := by
  unfold oNotIn eqK
  cases isIn x y S <;> rfl
@[simp] theorem isIn_t (x : D) (l : List D) : isIn x (.tup l) S = inSeq x l S := (rfl)
@[simp] theorem isIn_w (x : D) (l : List D) : isIn x (.wtp l) S = inSeq x l S := (rfl)
@[simp] theorem isIn_s (c : Nat) (z : Tx) : isIn (.str [c]) (.str z) S = some (decide (c ∈ z)) := (rfl)
def inR (x : D) : Option O → Option Bool
  | some (.lst l) => inSeq x l S
  | some (.fls l) => inSeq x l S
  | some (.dK kvs) => (kyOf x).map fun k => (dGet kvs k).isSome
  | some (.dT kvs) => (ktOf x).map fun k => (dGet kvs k).isSome
  | _ => none
@[simp] theorem inR_l (x : D) (l : List D) : inR S x (some (.lst l)) = inSeq x l S := (rfl)
@[simp] theorem inR_f (x : D) (l : List D) : inR S x (some (.fls l)) = inSeq x l S := (rfl)
@[simp] theorem inR_k (x : D) (l : List (Ky × D)) : inR S x (some (.dK l)) = (kyOf x).map fun k => (dGet l k).isSome := (rfl)
@[simp] theorem inR_t (x : D) (l : List (List Ky × D)) : inR S x (some (.dT l)) = (ktOf x).map fun k => (dGet l k).isSome := (rfl)
@[simp] theorem isIn_r (x : D) (n : Nat) : isIn x (.ref n) S = inR S x S[n]? := by
  show (match S[n]? with
    | some (.lst l) => inSeq x l S
    | some (.fls l) => inSeq x l S
    | some (.dK kvs) => (kyOf x).map fun k => (dGet kvs k).isSome
    | some (.dT kvs) => (ktOf x).map fun k => (dGet kvs k).isSome
    | _ => none) = _
  cases S[n]? with
  | none => rfl
  | some o => cases o <;> rfl
@[simp] theorem flat_n : flatD .non = true := (rfl)
@[simp] theorem flat_b (b : Bool) : flatD (.bl b) = true := (rfl)
@[simp] theorem flat_i (b : Int) : flatD (.int b) = true := (rfl)
@[simp] theorem flat_s (b : Tx) : flatD (.str b) = true := (rfl)
@[simp] theorem eqF_nn : eqF .non .non = true := (rfl)
@[simp] theorem eqF_ii (a b : Int) : eqF (.int a) (.int b) = (a == b) := (rfl)
@[simp] theorem eqF_ss (a b : Tx) : eqF (.str a) (.str b) = (a == b) := (rfl)
@[simp] theorem eqF_bb (a b : Bool) : eqF (.bl a) (.bl b) = (a == b) := (rfl)
@[simp] theorem eqF_is (a : Int) (b : Tx) : eqF (.int a) (.str b) = false := (rfl)
@[simp] theorem eqF_si (a : Int) (b : Tx) : eqF (.str b) (.int a) = false := (rfl)
@[simp] theorem eqF_ns (b : Tx) : eqF .non (.str b) = false := (rfl)
@[simp] theorem eqF_sn (b : Tx) : eqF (.str b) .non = false := (rfl)
@[simp] theorem eqF_ni (b : Int) : eqF .non (.int b) = false := (rfl)
@[simp] theorem eqF_in (b : Int) : eqF (.int b) .non = false := (rfl)
theorem inSeq_f {x : D} {l : List D} (h1 : flatD x = true) (h2 : l.all flatD = true) : inSeq x l S = some (l.any fun y => eqF y x) := by
  unfold inSeq
  rw [if_pos ⟨h1, h2⟩]
@[simp] theorem inSeq_nil {x : D} (h1 : flatD x = true) : inSeq x [] S = some false := inSeq_f S h1 rfl
@[simp] theorem inSeq_cons {x y : D} {l : List D} (h1 : flatD x = true) (h2 : flatD y = true) (h3 : l.all flatD = true) : inSeq x (y :: l) S = some (eqF y x || l.any fun y => eqF y x) := by
  rw [inSeq_f S h1 (by rw [List.all_cons, h2, h3]; rfl), List.any_cons]
def ixA (S : Store) : Option D → Res D
  | some v => .ok v S
  | none => .bad
@[simp] theorem ixA_s (v : D) : ixA S (some v) = .ok v S := (rfl)
def ixC (S : Store) : Option Nat → Res D
  | some c => .ok (.str [c]) S
  | none => .bad
@[simp] theorem ixC_s (v : Nat) : ixC S (some v) = .ok (.str [v]) S := (rfl)
@[simp] theorem oIx_t (l : List D) (i : Int) : oIx (.tup l) (.int i) S = ixA S (atI l i) := by
  show (match atI l i with | some v => Res.ok v S | none => .bad) = _
  cases atI l i <;> rfl
@[simp] theorem oIx_w (l : List D) (i : Int) : oIx (.wtp l) (.int i) S = ixA S (atI l i) := by
  show (match atI l i with | some v => Res.ok v S | none => .bad) = _
  cases atI l i <;> rfl
@[simp] theorem oIx_s (l : Tx) (i : Int) : oIx (.str l) (.int i) S = if l.length ≤ LINE then ixC S (atI l i) else .bad := by
  show (if l.length ≤ LINE then (match atI l i with | some c => (.ok (.str [c]) S : Res D) | none => .bad) else .bad) = _
  split
  · cases atI l i <;> rfl
  · rfl
def ixR (n : Nat) (k : D) : Option O → Res D
  | some (.lst l) => (match k with
    | .int i => ixA S (atI l i)
    | _ => .bad)
  | some (.fls l) => (match k with
    | .int i => ixA S (atI l i)
    | _ => .bad)
  | some (.dK kvs) => ixA S ((kyOf k).bind (dGet kvs))
  | some (.dT kvs) => ixA S ((ktOf k).bind (dGet kvs))
  | some (.zK kvs) => ixA S ((kyOf k).bind (dGet kvs))
  | some (.zT kvs) => ixA S ((ktOf k).bind (dGet kvs))
  | _ => .bad
@[simp] theorem ixR_zk (n : Nat) (k : D) (l : List (Ky × D)) : ixR S n k (some (.zK l)) = ixA S ((kyOf k).bind (dGet l)) := (rfl)
@[simp] theorem ixR_zt (n : Nat) (k : D) (l : List (List Ky × D)) : ixR S n k (some (.zT l)) = ixA S ((ktOf k).bind (dGet l)) := (rfl)
@[simp] theorem ixR_l (n : Nat) (i : Int) (l : List D) : ixR S n (.int i) (some (.lst l)) = ixA S (atI l i) := (rfl)
@[simp] theorem ixR_f (n : Nat) (i : Int) (l : List D) : ixR S n (.int i) (some (.fls l)) = ixA S (atI l i) := (rfl)
@[simp] theorem ixR_k (n : Nat) (k : D) (l : List (Ky × D)) : ixR S n k (some (.dK l)) = ixA S ((kyOf k).bind (dGet l)) := (rfl)
@[simp] theorem ixR_t (n : Nat) (k : D) (l : List (List Ky × D)) : ixR S n k (some (.dT l)) = ixA S ((ktOf k).bind (dGet l)) := (rfl)
@[simp] theorem oIx_r (n : Nat) (k : D) : oIx (.ref n) k S = ixR S n k S[n]? := by
  have e : oIx (.ref n) k S = (match S[n]? with
    | some (.lst l) => (match k with
      | .int i => (match atI l i with
        | some v => .ok v S
        | none => .bad)
      | _ => .bad)
    | some (.fls l) => (match k with
      | .int i => (match atI l i with
        | some v => .ok v S
        | none => .bad)
      | _ => .bad)
    | _ => match dLook S n k with
      | some (some v) => .ok v S
      | _ => .bad) := by
    unfold oIx
    cases k <;> rfl
  rw [e]
  unfold dLook
  cases h : S[n]? with
  | none => rfl
  | some o =>
    cases o with
    | lst l =>
      cases k with
      | int i => show (match atI l i with | some v => Res.ok v S | none => .bad) = ixA S (atI l i); cases atI l i <;> rfl
      | _ => rfl
    | fls l =>
      cases k with
      | int i => show (match atI l i with | some v => Res.ok v S | none => .bad) = ixA S (atI l i); cases atI l i <;> rfl
      | _ => rfl
    | dK l =>
      show (match (kyOf k).map (dGet l) with | some (some v) => Res.ok v S | _ => .bad) = ixA S ((kyOf k).bind (dGet l))
      cases kyOf k with
      | none => rfl
      | some q =>
        show (match some (dGet l q) with | some (some v) => Res.ok v S | _ => .bad) = ixA S (dGet l q)
        cases dGet l q <;> rfl
    | dT l =>
      show (match (ktOf k).map (dGet l) with | some (some v) => Res.ok v S | _ => .bad) = ixA S ((ktOf k).bind (dGet l))
      cases ktOf k with
      | none => rfl
      | some q =>
        show (match some (dGet l q) with | some (some v) => Res.ok v S | _ => .bad) = ixA S (dGet l q)
        cases dGet l q <;> rfl
    | zK l =>
      show (match (kyOf k).map (dGet l) with | some (some v) => Res.ok v S | _ => .bad) = ixA S ((kyOf k).bind (dGet l))
      cases kyOf k with
      | none => rfl
      | some q =>
        show (match some (dGet l q) with | some (some v) => Res.ok v S | _ => .bad) = ixA S (dGet l q)
        cases dGet l q <;> rfl
    | zT l =>
      show (match (ktOf k).map (dGet l) with | some (some v) => Res.ok v S | _ => .bad) = ixA S ((ktOf k).bind (dGet l))
      cases ktOf k with
      | none => rfl
      | some q =>
        show (match some (dGet l q) with | some (some v) => Res.ok v S | _ => .bad) = ixA S (dGet l q)
        cases dGet l q <;> rfl
    | ins C f => rfl
@[simp] theorem lstOf_s (n : Nat) : lstOf S n = (S[n]?).bind fun o => match o with
    | .lst l => some l
    | .fls l => some l
    | _ => none := by
  unfold lstOf
  cases S[n]? with
  | none => rfl
  | some o => cases o <;> rfl
@[simp] theorem seqOf_t (l : List D) : seqOf S (.tup l) = some l := (rfl)
@[simp] theorem seqOf_w (l : List D) : seqOf S (.wtp l) = some l := (rfl)
@[simp] theorem seqOf_r (n : Nat) : seqOf S (.ref n) = lstOf S n := (rfl)
@[simp] theorem truth_n : truth .non S = some false := (rfl)
@[simp] theorem truth_b (b : Bool) : truth (.bl b) S = some b := (rfl)
@[simp] theorem truth_i (i : Int) : truth (.int i) S = some (i != 0) := (rfl)
@[simp] theorem truth_t (l : List D) : truth (.tup l) S = some (!l.isEmpty) := (rfl)
/-! ### slices -/
@[simp] theorem oSl_s (z : Tx) (lo hi : Option Int) : oSl (.str z) lo hi S = if z.length ≤ LINE then .ok (.str (cut z lo hi)) S else .bad := (rfl)
@[simp] theorem oSl_t (l : List D) (lo hi : Option Int) : oSl (.tup l) lo hi S = if (cut l lo hi).length < l.length then .ok (.tup (cut l lo hi)) S else .bad := (rfl)
def slR (lo hi : Option Int) : Option (List D) → Res D
  | some l => new (.lst (cut l lo hi)) S
  | none => .bad
@[simp] theorem slR_s (lo hi : Option Int) (l : List D) : slR S lo hi (some l) = .ok (.ref S.length) (S ++ [.lst (cut l lo hi)]) := (rfl)
@[simp] theorem oSl_r (n : Nat) (lo hi : Option Int) : oSl (.ref n) lo hi S = slR S lo hi (lstOf S n) := by
  unfold oSl slR
  dsimp only
  all_goals cases lstOf S n <;> rfl
/-! ### stores -/
def stL (n : Nat) (v : D) (l : List D) : Option Nat → Res Unit
  | some j => .ok () (S.set n (.lst (l.set j v)))
  | none => .bad
@[simp] theorem stL_s (n : Nat) (v : D) (l : List D) (j : Nat) : stL S n v l (some j) = .ok () (S.set n (.lst (l.set j v))) := (rfl)
def stK (n : Nat) (v : D) (kvs : List (Ky × D)) : Option Ky → Res Unit
  | some k => if kvs.length < LINE then .ok () (S.set n (.dK (dPut kvs k v))) else .bad
  | none => .bad
@[simp] theorem stK_s (n : Nat) (v : D) (kvs : List (Ky × D)) (k : Ky) : stK S n v kvs (some k) = if kvs.length < LINE then .ok () (S.set n (.dK (dPut kvs k v))) else .bad := (rfl)
def stT (n : Nat) (v : D) (kvs : List (List Ky × D)) : Option (List Ky) → Res Unit
  | some k => if kvs.length < LINE then .ok () (S.set n (.dT (dPut kvs k v))) else .bad
  | none => .bad
@[simp] theorem stT_s (n : Nat) (v : D) (kvs : List (List Ky × D)) (k : List Ky) : stT S n v kvs (some k) = if kvs.length < LINE then .ok () (S.set n (.dT (dPut kvs k v))) else .bad := (rfl)
def stR (n : Nat) (i v : D) : Option O → Res Unit
  | some (.lst l) => (match i with
    | .int k => stL S n v l (ixN l.length k)
    | _ => .bad)
  | some (.dK kvs) => stK S n v kvs (kyOf i)
  | some (.dT kvs) => stT S n v kvs (ktOf i)
  | _ => .bad
@[simp] theorem stR_l (n : Nat) (k : Int) (v : D) (l : List D) : stR S n (.int k) v (some (.lst l)) = stL S n v l (ixN l.length k) := (rfl)
@[simp] theorem stR_k (n : Nat) (i v : D) (l : List (Ky × D)) : stR S n i v (some (.dK l)) = stK S n v l (kyOf i) := (rfl)
@[simp] theorem stR_t (n : Nat) (i v : D) (l : List (List Ky × D)) : stR S n i v (some (.dT l)) = stT S n v l (ktOf i) := (rfl)
@[simp] theorem setIx_r (n : Nat) (i v : D) : setIx (.ref n) i v S = stR S n i v S[n]? := by
  unfold setIx stR
  dsimp only
  cases S[n]? with
  | none => rfl
  | some o =>
    cases o with
    | lst l => cases i <;> first | rfl | (rename_i k; dsimp only; cases ixN l.length k <;> rfl)
    | dK l => dsimp only; cases kyOf i <;> rfl
    | dT l => dsimp only; cases ktOf i <;> rfl
    | _ => rfl
@[simp] theorem kyOf_i (i : Int) : kyOf (.int i) = some (.inl i) := (rfl)
@[simp] theorem kyOf_s (i : Tx) : kyOf (.str i) = some (.inr i) := (rfl)
/-! ### built-ins -/
@[simp] theorem bLen_s (s : Tx) : bLen [.str s] S = if s.length ≤ LINE then .ok (.int (s.length : Nat)) S else .bad := (rfl)
@[simp] theorem bLen_t (l : List D) : bLen [.tup l] S = .ok (.int (l.length : Nat)) S := (rfl)
@[simp] theorem bLen_w (l : List D) : bLen [.wtp l] S = .ok (.int (l.length : Nat)) S := (rfl)
def lenK : Option O → Res D
  | some (.lst l) => .ok (.int (l.length : Nat)) S
  | some (.fls l) => .ok (.int (l.length : Nat)) S
  | some (.dK k) => .ok (.int (k.length : Nat)) S
  | some (.dT k) => .ok (.int (k.length : Nat)) S
  | _ => .bad
@[simp] theorem lenK_l (l : List D) : lenK S (some (.lst l)) = .ok (.int (l.length : Nat)) S := (rfl)
@[simp] theorem lenK_f (l : List D) : lenK S (some (.fls l)) = .ok (.int (l.length : Nat)) S := (rfl)
@[simp] theorem lenK_k (l : List (Ky × D)) : lenK S (some (.dK l)) = .ok (.int (l.length : Nat)) S := (rfl)
@[simp] theorem lenK_t (l : List (List Ky × D)) : lenK S (some (.dT l)) = .ok (.int (l.length : Nat)) S := (rfl)
@[simp] theorem bLen_r (n : Nat) : bLen [.ref n] S = lenK S S[n]? := by
  unfold bLen lenK
  dsimp only
  all_goals cases S[n]? with
  | none => rfl
  | some o => cases o <;> rfl
@[simp] theorem bAbs_s (i : Int) : bAbs [.int i] S = .ok (.int (if i < 0 then -i else i)) S := (rfl)
@[simp] theorem bInt_i (i : Int) : bInt [.int i] S = .ok (.int i) S := (rfl)
@[simp] theorem bInt_b (i : Bool) : bInt [.bl i] S = .ok (.int (if i then 1 else 0)) S := (rfl)
@[simp] theorem bMax_s (i j : Int) : bMax [.int i, .int j] S = .ok (.int (if j > i then j else i)) S := (rfl)
@[simp] theorem bMin_s (i j : Int) : bMin [.int i, .int j] S = .ok (.int (if j < i then j else i)) S := (rfl)
def liK : Option (List D) → Res D
  | some l => new (.lst l) S
  | none => .bad
@[simp] theorem liK_s (l : List D) : liK S (some l) = .ok (.ref S.length) (S ++ [.lst l]) := (rfl)
theorem bList_q {x : D} {l : List D} (h : seqOf S x = some l) : bList [x] S = .ok (.ref S.length) (S ++ [.lst l]) := by
  unfold bList
  dsimp only
  rw [h]; rfl
@[simp] theorem bTuple_t (l : List D) : bTuple [.tup l] S = .ok (.tup l) S := (rfl)
theorem bTuple_r {n : Nat} {l : List D} (h : lstOf S n = some l) : bTuple [.ref n] S = .ok (.tup l) S := by
  unfold bTuple
  dsimp only
  rw [h]
theorem bAny_r {n : Nat} {l : List D} {bs : List Bool} (h : lstOf S n = some l) (hb : blsOf l = some bs) : bAny [.ref n] S = .ok (.bl (bs.any id)) S := by
  unfold bAny
  dsimp only
  rw [h, Option.bind_some, hb]
theorem bAll_r {n : Nat} {l : List D} {bs : List Bool} (h : lstOf S n = some l) (hb : blsOf l = some bs) : bAll [.ref n] S = .ok (.bl (bs.all id)) S := by
  unfold bAll
  dsimp only
  rw [h, Option.bind_some, hb]
theorem bSum_r {n : Nat} {l : List D} {bs : List Int} (h : lstOf S n = some l) (hb : intsOf l = some bs) : bSum [.ref n] S = .ok (.int bs.sum) S := by
  unfold bSum
  dsimp only
  rw [h, Option.bind_some, hb]
theorem bls_map (bs : List Bool) : blsOf (bs.map .bl) = some bs := by
  induction bs with
  | nil => rfl
  | cons b r ih => show (blsOf (r.map .bl)).map _ = _; rw [ih]; rfl
theorem ints_map (bs : List Int) : intsOf (bs.map .int) = some bs := by
  induction bs with
  | nil => rfl
  | cons b r ih => show (intsOf (r.map .int)).map _ = _; rw [ih]; rfl
theorem txs_map (bs : List Tx) : txsOf (bs.map .str) = some bs := by
  induction bs with
  | nil => rfl
  | cons b r ih => show (txsOf (r.map .str)).map _ = _; rw [ih]; rfl
def isiK : Option Bool → Res D
  | some b => .ok (.bl b) S
  | none => .bad
@[simp] theorem isiK_s (b : Bool) : isiK S (some b) = .ok (.bl b) S := (rfl)
@[simp] theorem bIsI_s (T : Ty) (x : D) : bIsI T x S = isiK S (isI T x S) := by
  unfold bIsI isiK
  cases isI T x S <;> rfl
def tyR : Option O → Option Ty
  | some (.lst _) => some .list
  | some (.fls _) => some .list
  | some (.dK _) => some .dict
  | some (.dT _) => some .dict
  | _ => none
@[simp] theorem tyR_l (l : List D) : tyR (some (.lst l)) = some .list := (rfl)
@[simp] theorem tyR_f (l : List D) : tyR (some (.fls l)) = some .list := (rfl)
@[simp] theorem tyR_k (l : List (Ky × D)) : tyR (some (.dK l)) = some .dict := (rfl)
@[simp] theorem tyR_t (l : List (List Ky × D)) : tyR (some (.dT l)) = some .dict := (rfl)
def isU (T : Ty) (U : Option Ty) : Option Bool := U.map fun U => decide (U = T) || (decide (U = .bool) && decide (T = .int))
@[simp] theorem isU_s (T U : Ty) : isU T (some U) = some (decide (U = T) || (decide (U = .bool) && decide (T = .int))) := (rfl)
@[simp] theorem isI_n (T : Ty) : isI T .non S = some false := (rfl)
@[simp] theorem isI_b (T : Ty) (b : Bool) : isI T (.bl b) S = isU T (some .bool) := (rfl)
@[simp] theorem isI_i (T : Ty) (b : Int) : isI T (.int b) S = isU T (some .int) := (rfl)
@[simp] theorem isI_s (T : Ty) (b : Tx) : isI T (.str b) S = isU T (some .str) := (rfl)
@[simp] theorem isI_t (T : Ty) (b : List D) : isI T (.tup b) S = isU T (some .tuple) := (rfl)
theorem tyOf_r (n : Nat) : tyOf S (.ref n) = tyR S[n]? := by
  show (match S[n]? with
    | some (.lst _) => some Ty.list
    | some (.fls _) => some Ty.list
    | some (.dK _) => some Ty.dict
    | some (.dT _) => some Ty.dict
    | _ => none) = _
  cases S[n]? with
  | none => rfl
  | some o => cases o <;> rfl
@[simp] theorem isI_r (T : Ty) (n : Nat) : isI T (.ref n) S = isU T (tyR S[n]?) := by
  rw [← tyOf_r]; rfl
/-! ### methods -/
@[simp] theorem isLst_r (n : Nat) : isLst (.ref n) S = (lstOf S n).isSome := (rfl)
@[simp] theorem isStr_s (s : Tx) : isStr (.str s) S = true := (rfl)
def dcR : Option O → Bool
  | some (.dK _) => true
  | some (.dT _) => true
  | _ => false
@[simp] theorem dcR_k (l : List (Ky × D)) : dcR (some (.dK l)) = true := (rfl)
@[simp] theorem dcR_t (l : List (List Ky × D)) : dcR (some (.dT l)) = true := (rfl)
@[simp] theorem isDct_r (n : Nat) : isDct (.ref n) S = dcR S[n]? := by
  unfold isDct dcR
  dsimp only
  all_goals cases S[n]? with
  | none => rfl
  | some o => cases o <;> rfl
def muK (n : Nat) (f : Nat → List D → Res D) : Option O → Res D
  | some (.lst l) => f n l
  | _ => .bad
@[simp] theorem muK_s (n : Nat) (f : Nat → List D → Res D) (l : List D) : muK n f (some (.lst l)) = f n l := (rfl)
theorem mutL_r (n : Nat) (f : Nat → List D → Res D) : mutL (.ref n) S f = muK n f S[n]? := by
  unfold mutL muK
  dsimp only
  all_goals cases S[n]? with
  | none => rfl
  | some o => cases o <;> rfl
def apF (x : D) : Nat → List D → Res D := fun n l => if l.length < LINE then .ok .non (S.set n (.lst (l ++ [x]))) else .bad
@[simp] theorem apF_s (x : D) (n : Nat) (l : List D) : apF S x n l = if l.length < LINE then .ok .non (S.set n (.lst (l ++ [x]))) else .bad := (rfl)
@[simp] theorem lAppend_s (n : Nat) (x : D) : lAppend (.ref n) [x] S = muK n (apF S x) S[n]? := by
  show mutL (.ref n) S (apF S x) = _
  exact mutL_r S n _
def poA (n : Nat) (l : List D) : Option D → Res D
  | some y => .ok y (S.set n (.lst l.dropLast))
  | none => .bad
@[simp] theorem poA_s (n : Nat) (l : List D) (y : D) : poA S n l (some y) = .ok y (S.set n (.lst l.dropLast)) := (rfl)
def poF : Nat → List D → Res D := fun n l => poA S n l l[l.length - 1]?
@[simp] theorem poF_s (n : Nat) (l : List D) : poF S n l = poA S n l l[l.length - 1]? := (rfl)
@[simp] theorem lPop_s (n : Nat) : lPop (.ref n) [] S = muK n (poF S) S[n]? := by
  show mutL (.ref n) S (fun k l => match l[l.length - 1]? with | some y => .ok y (S.set k (.lst l.dropLast)) | none => .bad) = _
  rw [mutL_r]
  congr 1
/-- pop(0) -/
def p0F : Nat → List D → Res D := fun n l => match l with
  | y :: r => .ok y (S.set n (.lst r))
  | [] => .bad
@[simp] theorem p0F_s (n : Nat) (y : D) (r : List D) : p0F S n (y :: r) = .ok y (S.set n (.lst r)) := (rfl)
@[simp] theorem lPop_0 (n : Nat) : lPop (.ref n) [.int 0] S = muK n (p0F S) S[n]? := by
  show mutL (.ref n) S (fun n l => if -(2 ^ 63) ≤ (0 : Int) ∧ (0 : Int) < 2 ^ 63 then (match (ixN l.length 0) with
    | some k => (match l[k]? with
      | some y => .ok y (S.set n (.lst (l.eraseIdx k)))
      | none => .bad)
    | none => .bad) else .bad) = _
  rw [mutL_r]
  congr 1
  funext k l
  cases l with
  | nil => rfl
  | cons y r =>
    have h : ixN (y :: r).length 0 = some 0 := by
      unfold ixN
      rw [if_pos (Int.le_refl 0), if_pos (by rw [List.length_cons]; omega)]
      rfl
    show (if _ then _ else _) = _
    rw [if_pos (by decide), h]
    rfl
def rvF : Nat → List D → Res D := fun n l => .ok .non (S.set n (.lst l.reverse))
@[simp] theorem rvF_s (n : Nat) (l : List D) : rvF S n l = .ok .non (S.set n (.lst l.reverse)) := (rfl)
@[simp] theorem lReverse_s (n : Nat) : lReverse (.ref n) [] S = muK n (rvF S) S[n]? := by
  show mutL (.ref n) S (rvF S) = _
  exact mutL_r S n _
def clF : Nat → List D → Res D := fun n _ => .ok .non (S.set n (.lst []))
@[simp] theorem clF_s (n : Nat) (l : List D) : clF S n l = .ok .non (S.set n (.lst [])) := (rfl)
@[simp] theorem lClear_s (n : Nat) : lClear (.ref n) [] S = muK n (clF S) S[n]? := by
  show mutL (.ref n) S (clF S) = _
  exact mutL_r S n _
def inF (i : Int) (x : D) : Nat → List D → Res D := fun n l => if l.length < LINE ∧ 0 ≤ i ∧ i < 2 ^ 63 then .ok .non (S.set n (.lst (l.take i.toNat ++ [x] ++ l.drop i.toNat))) else .bad
@[simp] theorem inF_s (i : Int) (x : D) (n : Nat) (l : List D) : inF S i x n l = if l.length < LINE ∧ 0 ≤ i ∧ i < 2 ^ 63 then .ok .non (S.set n (.lst (l.take i.toNat ++ [x] ++ l.drop i.toNat))) else .bad := (rfl)
@[simp] theorem lInsert_s (n : Nat) (i : Int) (x : D) : lInsert (.ref n) [.int i, x] S = muK n (inF S i x) S[n]? := by
  show mutL (.ref n) S (inF S i x) = _
  exact mutL_r S n _
def joK (a : Tx) : Option (List Tx) → Res D
  | some ys => if (ys.map List.length).sum + ys.length * a.length ≤ LINE then .ok (.str (joinT a ys)) S else .bad
  | none => .bad
@[simp] theorem joK_s (a : Tx) (ys : List Tx) : joK S a (some ys) = if (ys.map List.length).sum + ys.length * a.length ≤ LINE then .ok (.str (joinT a ys)) S else .bad := (rfl)
@[simp] theorem sJoin_s (a : Tx) (d : D) : sJoin (.str a) [d] S = joK S a ((seqOf S d).bind txsOf) := by
  show (match (seqOf S d).bind txsOf with | some ys => _ | none => _) = _
  cases (seqOf S d).bind txsOf <;> rfl
end
/-- one step of a store's look -/
theorem set_get {S : Store} {n : Nat} {o u : O} (h : S[n]? = some o) : (S.set n u)[n]? = some u := by
  rw [List.getElem?_set_self (List.getElem?_eq_some_iff.mp h).1]
end Mi

set_option Elab.async false
set_option linter.all false
set_option maxRecDepth 100000
/-! the defs of the text as steps of the small language (printed by gen.py) -/
namespace Lk22
open Mi
abbrev t_x0_ : Tx := [43]
abbrev t_x1_ : Tx := [45]
abbrev t_x2_ : Tx := [42]
abbrev t_x3_ : Tx := [38]
abbrev t_x4_ : Tx := [124]
abbrev t_x5_ : Tx := [94]
abbrev t_x6_ : Tx := [60]
abbrev t_way : Tx := [119, 97, 121]
abbrev t_at : Tx := [97, 116]
abbrev t_end : Tx := [101, 110, 100]
abbrev t_told : Tx := [116, 111, 108, 100]
abbrev t_step : Tx := [115, 116, 101, 112]
abbrev t_spent : Tx := [115, 112, 101, 110, 116]
abbrev t_go : Tx := [103, 111]
abbrev t_part : Tx := [112, 97, 114, 116]
abbrev t_x15_abcdefghijkl : Tx := [97, 98, 99, 100, 101, 102, 103, 104, 105, 106, 107, 108, 109, 110, 111, 112, 113, 114, 115, 116, 117, 118, 119, 120, 121, 122, 48, 49, 50, 51, 52, 53, 54, 55, 56, 57]
abbrev t_x16_ : Tx := []
abbrev t_say : Tx := [115, 97, 121]
abbrev t_x18_0 : Tx := [48]
abbrev t_x19_ : Tx := [43, 45, 42, 38, 124, 94, 60, 61]
abbrev t_reckon : Tx := [114, 101, 99, 107, 111, 110]
abbrev t_copy : Tx := [99, 111, 112, 121]
abbrev t_worths : Tx := [119, 111, 114, 116, 104, 115]
abbrev t_said : Tx := [115, 97, 105, 100]
abbrev t_worth : Tx := [119, 111, 114, 116, 104]
/-- 0 s 1 a 2 b -/
noncomputable def b_reckoned : SM := sSeq (sIf (tBl (mOp oEq (mVar 0) (mC (.str t_x0_)))) (sRet (mOp oMod (mOp oAdd (mVar 1) (mVar 2)) (mC (.int 18446744073709551616)))) (sNx)) (sSeq (sIf (tBl (mOp oEq (mVar 0) (mC (.str t_x1_)))) (sRet (mOp oMod (mOp oSub (mVar 1) (mVar 2)) (mC (.int 18446744073709551616)))) (sNx)) (sSeq (sIf (tBl (mOp oEq (mVar 0) (mC (.str t_x2_)))) (sRet (mOp oMod (mOp oMul (mVar 1) (mVar 2)) (mC (.int 18446744073709551616)))) (sNx)) (sSeq (sIf (tBl (mOp oEq (mVar 0) (mC (.str t_x3_)))) (sRet (mOp oAnd (mVar 1) (mVar 2))) (sNx)) (sSeq (sIf (tBl (mOp oEq (mVar 0) (mC (.str t_x4_)))) (sRet (mOp oOr (mVar 1) (mVar 2))) (sNx)) (sSeq (sIf (tBl (mOp oEq (mVar 0) (mC (.str t_x5_)))) (sRet (mOp oXor (mVar 1) (mVar 2))) (sNx)) (sSeq (sIf (tBl (mOp oEq (mVar 0) (mC (.str t_x6_)))) (sRet (mCall bInt (aCons (mOp oLt (mVar 1) (mVar 2)) aNil))) (sNx)) (sRet (mCall bInt (aCons (mOp oEq (mVar 1) (mVar 2)) aNil)))))))))
noncomputable def m_reckoned : Fn := mDef 3 3 b_reckoned
/-- 0 self 1 names -/
noncomputable def b_Run__init : SM := sSeq (sFldM "Run" t_worths (mCall bDict (aCons (mVar 1) aNil)) (mVar 0)) (sSeq (sFldM "Run" t_said (mLst (aNil)) (mVar 0)) (sSeq (sFldM "Run" t_way (mLst (aNil)) (mVar 0)) (sFldM "Run" t_at (mC (.int 0)) (mVar 0))))
noncomputable def m_Run__init : Fn := mDef 2 2 b_Run__init
/-- 0 self 1 operand -/
noncomputable def b_Run_worth : SM := sSeq (sIf (tTru (mUn (bIsI .str) (mVar 1))) (sRet (mMt isDct dGetM (mFld "Run" t_worths (mVar 0)) (aCons (mVar 1) (aCons (mC (.int 0)) aNil)))) (sNx)) (sRet (mVar 1))
noncomputable def m_Run_worth : Fn := mDef 2 2 b_Run_worth
/-- 0 self 1 row 2 kind -/
noncomputable def b_Run_step : SM := sSeq (sAsg (mOp oIx (mVar 1) (mC (.int 0))) (gName 2)) (sSeq (sFldM "Run" t_at (mOp oAdd (mFld "Run" t_at (mVar 0)) (mC (.int 1))) (mVar 0)) (sIf (tBl (mOp oEq (mVar 2) (mC (.str t_reckon)))) (sAsg (mCall m_reckoned (aCons (mOp oIx (mVar 1) (mC (.int 2))) (aCons (mMeth "Run" t_worth m_Run_worth (mVar 0) (aCons (mOp oIx (mVar 1) (mC (.int 3))) aNil)) (aCons (mMeth "Run" t_worth m_Run_worth (mVar 0) (aCons (mOp oIx (mVar 1) (mC (.int 4))) aNil)) aNil)))) (gSub (mFld "Run" t_worths (mVar 0)) (mOp oIx (mVar 1) (mC (.int 1))))) (sIf (tBl (mOp oEq (mVar 2) (mC (.str t_copy)))) (sAsg (mMeth "Run" t_worth m_Run_worth (mVar 0) (aCons (mOp oIx (mVar 1) (mC (.int 2))) aNil)) (gSub (mFld "Run" t_worths (mVar 0)) (mOp oIx (mVar 1) (mC (.int 1))))) (sIf (tBl (mOp oEq (mVar 2) (mC (.str t_say)))) (sExp (mMt isLst lAppend (mFld "Run" t_said (mVar 0)) (aCons (mMeth "Run" t_worth m_Run_worth (mVar 0) (aCons (mOp oIx (mVar 1) (mC (.int 1))) aNil)) aNil))) (sIf (tOr (tBl (mOp oEq (mVar 2) (mC (.str t_go)))) (tBl (mOp oNe (mMeth "Run" t_worth m_Run_worth (mVar 0) (aCons (mOp oIx (mVar 1) (mC (.int 1))) aNil)) (mC (.int 0))))) (sFldM "Run" t_at (mOp oIx (mVar 1) (mUn uNeg (mC (.int 1)))) (mVar 0)) (sNx))))))
noncomputable def m_Run_step : Fn := mDef 2 3 b_Run_step
/-- 0 self 1 word 2 worths 3 name 4 worth -/
noncomputable def l_Run_told_1 : SM := sIf (tBl (mOp oNe (mVar 4) (mC (.int 0)))) (sAsg (mVar 4) (gSub (mVar 2) (mVar 3))) (sNx)
noncomputable def b_Run_told : SM := sSeq (sAsg (mNewK) (gName 2)) (sSeq (sForD .itm (mFld "Run" t_worths (mVar 0)) (gTup 2 (gCons (gName 3) (gCons (gName 4) gNil))) (l_Run_told_1)) (sRet (mTup (aCons (mVar 1) (aCons (mFld "Run" t_said (mVar 0)) (aCons (mVar 2) (aCons (mFld "Run" t_way (mVar 0)) aNil)))))))
noncomputable def m_Run_told : Fn := mDef 2 5 b_Run_told
/-- 0 program 1 names 2 most 3 doing 4 row -/
noncomputable def l_run_1 : SM := sSeq (sAsg (mOp oIx (mVar 0) (mFld "Run" t_at (mVar 3))) (gName 4)) (sSeq (sExp (mMt isLst lAppend (mFld "Run" t_way (mVar 3)) (aCons (mFld "Run" t_at (mVar 3)) aNil))) (sSeq (sIf (tBl (mOp oEq (mOp oIx (mVar 4) (mC (.int 0))) (mC (.str t_end)))) (sRet (mMeth "Run" t_told m_Run_told (mVar 3) (aCons (mC (.str t_end)) aNil))) (sNx)) (sExp (mMeth "Run" t_step m_Run_step (mVar 3) (aCons (mVar 4) aNil)))))
noncomputable def c_run_2 : TM := tBl (mOp oLt (mCall bLen (aCons (mFld "Run" t_way (mVar 3)) aNil)) (mVar 2))
noncomputable def b_run : SM := sSeq (sAsg (mMake "Run" m_Run__init (aCons (mVar 1) aNil)) (gName 3)) (sSeq (sWhile (c_run_2) (l_run_1)) (sRet (mMeth "Run" t_told m_Run_told (mVar 3) (aCons (mC (.str t_spent)) aNil))))
noncomputable def m_run : Fn := mDef 3 5 b_run
/-- 0 program 1 n 2 row -/
noncomputable def b_followers : SM := sSeq (sAsg (mOp oIx (mVar 0) (mVar 1)) (gName 2)) (sSeq (sIf (tBl (mOp oEq (mOp oIx (mVar 2) (mC (.int 0))) (mC (.str t_go)))) (sRet (mLst (aCons (mOp oIx (mVar 2) (mC (.int 1))) aNil))) (sNx)) (sSeq (sIf (tBl (mOp oEq (mOp oIx (mVar 2) (mC (.int 0))) (mC (.str t_part)))) (sRet (mLst (aCons (mOp oAdd (mVar 1) (mC (.int 1))) (aCons (mOp oIx (mVar 2) (mC (.int 2))) aNil)))) (sNx)) (sSeq (sIf (tBl (mOp oEq (mOp oIx (mVar 2) (mC (.int 0))) (mC (.str t_end)))) (sRet (mLst (aNil))) (sNx)) (sRet (mLst (aCons (mOp oAdd (mVar 1) (mC (.int 1))) aNil))))))
noncomputable def m_followers : Fn := mDef 2 3 b_followers
/-- 0 program 1 way 2 at 3 n -/
noncomputable def l_is_way_1 : SM := sSeq (sIf (tNot (tBl (mChain oLe oLt (mC (.int 0)) (mVar 3) (mCall bLen (aCons (mVar 0) aNil))))) (sRet (mC (.bl false))) (sNx)) (sIf (tAnd (tBl (mOp oGt (mVar 2) (mC (.int 0)))) (tBl (mOp oNotIn (mVar 3) (mCall m_followers (aCons (mVar 0) (aCons (mOp oIx (mVar 1) (mOp oSub (mVar 2) (mC (.int 1)))) aNil)))))) (sRet (mC (.bl false))) (sNx))
noncomputable def b_is_way : SM := sSeq (sIf (tBl (mOp oEq (mCall bLen (aCons (mVar 1) aNil)) (mC (.int 0)))) (sRet (mC (.bl false))) (sNx)) (sSeq (sFor (iEnum (aCons (mVar 1) aNil)) (gTup 2 (gCons (gName 2) (gCons (gName 3) gNil))) (l_is_way_1)) (sRet (mC (.bl true))))
noncomputable def m_is_way : Fn := mDef 2 4 b_is_way
/-- 0 program 1 n -/
noncomputable def b_is_end : SM := sRet (mOp oEq (mOp oIx (mOp oIx (mVar 0) (mVar 1)) (mC (.int 0))) (mC (.str t_end)))
noncomputable def m_is_end : Fn := mDef 2 2 b_is_end
/-- 0 program 1 way -/
noncomputable def b_is_whole : SM := sRet (mAnd (mCall m_is_way (aCons (mVar 0) (aCons (mVar 1) aNil))) (mAnd (mOp oEq (mOp oIx (mVar 1) (mC (.int 0))) (mC (.int 0))) (mCall m_is_end (aCons (mVar 0) (aCons (mOp oIx (mVar 1) (mUn uNeg (mC (.int 1)))) aNil)))))
noncomputable def m_is_whole : Fn := mDef 2 2 b_is_whole
/-- 0 script 1 k 2 many -/
noncomputable def b_law_cell : SM := sSeq (sIf (tBl (mOp oLt (mVar 1) (mCall bLen (aCons (mVar 0) aNil)))) (sRet (mOp oIx (mVar 0) (mVar 1))) (sNx)) (sSeq (sAsg (mCall bLen (aCons (mVar 0) aNil)) (gName 2)) (sSeq (sIf (tBl (mOp oEq (mVar 2) (mC (.int 0)))) (sRet (mOp oMul (mVar 1) (mC (.int 7919)))) (sNx)) (sRet (mOp oAdd (mOp oMul (mOp oMod (mCall bAbs (aCons (mOp oIx (mVar 0) (mOp oMod (mVar 1) (mVar 2))) aNil)) (mC (.int 1000003))) (mOp oAdd (mVar 1) (mC (.int 2)))) (mOp oMul (mVar 1) (mC (.int 7919)))))))
noncomputable def m_law_cell : Fn := mDef 2 3 b_law_cell
/-- 0 cell_here 1 many 2 signs 3 size 4 spot 5 some 6 j 7 found 8 k 9 name -/
noncomputable def e_law_names_1 : EM := mOp oIx (mVar 2) (mOp oMod (mOp oDiv (mVar 0) (mOp oAdd (mC (.int 64)) (mOp oMul (mC (.int 5)) (mVar 6)))) (mOp oIx (mLst (aCons (mC (.int 26)) (aCons (mC (.int 36)) aNil))) (mCall bInt (aCons (mOp oGt (mVar 6) (mC (.int 0))) aNil))))
noncomputable def l_law_names_2 : SM := sSeq (sAsg (mOp oIx (mVar 2) (mOp oMod (mOp oAdd (mOp oDiv (mVar 0) (mC (.int 64))) (mVar 8)) (mC (.int 26)))) (gSub (mVar 5) (mVar 4))) (sSeq (sAsg (mMt isStr sJoin (mC (.str t_x16_)) (aCons (mVar 5) aNil)) (gName 9)) (sSeq (sIf (tBl (mOp oIn (mVar 9) (mTup (aCons (mC (.str t_say)) (aCons (mC (.str t_go)) (aCons (mC (.str t_part)) (aCons (mC (.str t_end)) aNil))))))) (sAsg (mOp oAdd (mVar 9) (mC (.str t_x18_0))) (gName 9)) (sNx)) (sExp (mMt isLst lAppend (mVar 7) (aCons (mVar 9) aNil)))))
noncomputable def b_law_names : SM := sSeq (sAsg (mC (.str t_x15_abcdefghijkl)) (gName 2)) (sSeq (sAsg (mOp oAdd (mC (.int 1)) (mOp oMod (mVar 0) (mC (.int 8)))) (gName 3)) (sSeq (sAsg (mOp oMod (mOp oDiv (mVar 0) (mC (.int 8))) (mVar 3)) (gName 4)) (sSeq (sAsg (mLc [6] (iRng1 (aCons (mVar 3) aNil)) (gName 6) (tYes) (e_law_names_1)) (gName 5)) (sSeq (sAsg (mLst (aNil)) (gName 7)) (sSeq (sFor (iRng1 (aCons (mVar 1) aNil)) (gName 8) (l_law_names_2)) (sRet (mVar 7)))))))
noncomputable def m_law_names : Fn := mDef 2 10 b_law_names
/-- 0 cell_here 1 sizes 2 number 3 found 4 size -/
noncomputable def l_law_digits_1 : SM := sSeq (sExp (mMt isLst lAppend (mVar 3) (aCons (mOp oMod (mVar 2) (mVar 4)) aNil))) (sAsg (mOp oDiv (mVar 2) (mVar 4)) (gName 2))
noncomputable def b_law_digits : SM := sSeq (sAsg (mOp oMod (mOp oMul (mVar 0) (mC (.int 48271))) (mC (.int 2147483647))) (gName 2)) (sSeq (sAsg (mLst (aNil)) (gName 3)) (sSeq (sFor (iSeq (mVar 1)) (gName 4) (l_law_digits_1)) (sRet (mVar 3))))
noncomputable def m_law_digits : Fn := mDef 2 5 b_law_digits
/-- 0 digit 1 cell_here 2 names_here -/
noncomputable def b_law_operand : SM := sSeq (sIf (tBl (mOp oLt (mVar 0) (mCall bLen (aCons (mVar 2) aNil)))) (sRet (mOp oIx (mVar 2) (mVar 0))) (sNx)) (sSeq (sIf (tBl (mOp oEq (mVar 0) (mCall bLen (aCons (mVar 2) aNil)))) (sRet (mOp oMod (mVar 1) (mC (.int 3)))) (sNx)) (sSeq (sIf (tBl (mOp oEq (mOp oMod (mVar 1) (mC (.int 3))) (mC (.int 0)))) (sRet (mOp oSub (mC (.int 18446744073709551615)) (mOp oMod (mOp oDiv (mVar 1) (mC (.int 3))) (mC (.int 9))))) (sNx)) (sRet (mOp oMod (mOp oMul (mVar 1) (mC (.int 48271))) (mC (.int 18446744073709551616))))))
noncomputable def m_law_operand : Fn := mDef 3 3 b_law_operand
/-- 0 cell_here 1 names_here 2 wide 3 kind 4 x 5 s 6 one 7 other -/
noncomputable def b_law_row : SM := sSeq (sAsg (mOp oAdd (mCall bLen (aCons (mVar 1) aNil)) (mC (.int 2))) (gName 2)) (sSeq (sAsg (mCall m_law_digits (aCons (mVar 0) (aCons (mLst (aCons (mC (.int 12)) (aCons (mCall bLen (aCons (mVar 1) aNil)) (aCons (mC (.int 8)) (aCons (mVar 2) (aCons (mVar 2) aNil)))))) aNil))) (gTup 5 (gCons (gName 3) (gCons (gName 4) (gCons (gName 5) (gCons (gName 6) (gCons (gName 7) gNil))))))) (sSeq (sAsg (mCall m_law_operand (aCons (mVar 6) (aCons (mVar 0) (aCons (mVar 1) aNil)))) (gName 6)) (sSeq (sIf (tBl (mOp oLt (mVar 3) (mC (.int 7)))) (sRet (mTup (aCons (mC (.str t_reckon)) (aCons (mOp oIx (mVar 1) (mVar 4)) (aCons (mOp oIx (mC (.str t_x19_)) (mVar 5)) (aCons (mVar 6) (aCons (mCall m_law_operand (aCons (mVar 7) (aCons (mOp oDiv (mVar 0) (mC (.int 7))) (aCons (mVar 1) aNil)))) aNil))))))) (sNx)) (sSeq (sIf (tBl (mOp oLt (mVar 3) (mC (.int 9)))) (sRet (mTup (aCons (mC (.str t_copy)) (aCons (mOp oIx (mVar 1) (mVar 4)) (aCons (mVar 6) aNil))))) (sNx)) (sSeq (sIf (tBl (mOp oEq (mVar 3) (mC (.int 9)))) (sRet (mTup (aCons (mC (.str t_say)) (aCons (mVar 6) aNil)))) (sNx)) (sRet (mTup (aCons (mC (.str t_part)) (aCons (mVar 6) (aCons (mOp oMod (mOp oDiv (mVar 0) (mC (.int 5))) (mC (.int 1000))) aNil))))))))))
noncomputable def m_law_row : Fn := mDef 2 8 b_law_row
/-- 0 rows 1 begin 2 cell_here 3 outer -/
noncomputable def b_law_shut : SM := sSeq (sIf (tBl (mOp oEq (mOp oMod (mOp oDiv (mVar 2) (mC (.int 3))) (mC (.int 3))) (mC (.int 0)))) (sExp (mMt isLst lAppend (mVar 0) (aCons (mTup (aCons (mC (.str t_end)) aNil)) aNil))) (sIf (tBl (mOp oEq (mOp oMod (mOp oDiv (mVar 2) (mC (.int 3))) (mC (.int 3))) (mC (.int 1)))) (sExp (mMt isLst lAppend (mVar 0) (aCons (mTup (aCons (mC (.str t_go)) (aCons (mOp oIx (mVar 3) (mOp oMod (mOp oDiv (mVar 2) (mC (.int 9))) (mCall bLen (aCons (mVar 3) aNil)))) aNil))) aNil))) (sExp (mMt isLst lAppend (mVar 0) (aCons (mTup (aCons (mC (.str t_go)) (aCons (mOp oSub (mUn uNeg (mC (.int 1))) (mOp oMod (mOp oDiv (mVar 2) (mC (.int 9))) (mC (.int 1000)))) aNil))) aNil))))) (sAsg (mTup (aCons (mC (.str t_part)) (aCons (mOp oIx (mOp oIx (mVar 0) (mVar 1)) (mC (.int 1))) (aCons (mCall bLen (aCons (mVar 0) aNil)) aNil)))) (gSub (mVar 0) (mVar 1)))
noncomputable def m_law_shut : Fn := mDef 4 4 b_law_shut
/-- 0 rows 1 many 2 found 3 n 4 row_here 5 to -/
noncomputable def l_law_turned_to_1 : SM := sSeq (sIf (tAnd (tBl (mOp oEq (mOp oIx (mVar 4) (mC (.int 0))) (mC (.str t_go)))) (tBl (mOp oLt (mOp oIx (mVar 4) (mC (.int 1))) (mC (.int 0))))) (sAsg (mTup (aCons (mC (.str t_go)) (aCons (mOp oAdd (mOp oAdd (mVar 3) (mC (.int 1))) (mOp oMod (mOp oSub (mUn uNeg (mC (.int 1))) (mOp oIx (mVar 4) (mC (.int 1)))) (mOp oSub (mOp oSub (mVar 1) (mVar 3)) (mC (.int 1))))) aNil))) (gName 4)) (sIf (tBl (mOp oEq (mOp oIx (mVar 4) (mC (.int 0))) (mC (.str t_part)))) (sSeq (sAsg (mOp oMod (mOp oIx (mVar 4) (mC (.int 2))) (mVar 1)) (gName 5)) (sAsg (mTup (aCons (mC (.str t_part)) (aCons (mOp oIx (mVar 4) (mC (.int 1))) (aCons (mOp oIx (mLst (aCons (mVar 5) (aCons (mVar 3) aNil))) (mCall bInt (aCons (mOp oEq (mVar 5) (mOp oAdd (mVar 3) (mC (.int 1)))) aNil))) aNil)))) (gName 4))) (sNx))) (sExp (mMt isLst lAppend (mVar 2) (aCons (mVar 4) aNil)))
noncomputable def b_law_turned_to : SM := sSeq (sAsg (mCall bLen (aCons (mVar 0) aNil)) (gName 1)) (sSeq (sAsg (mLst (aNil)) (gName 2)) (sSeq (sFor (iEnum (aCons (mVar 0) aNil)) (gTup 2 (gCons (gName 3) (gCons (gName 4) gNil))) (l_law_turned_to_1)) (sRet (mVar 2))))
noncomputable def m_law_turned_to : Fn := mDef 1 6 b_law_turned_to
/-- 0 rows 1 name 2 many 3 found 4 row_here -/
noncomputable def l_law_tested_1 : SM := sSeq (sIf (tBl (mOp oIn (mOp oIx (mVar 4) (mC (.int 0))) (mTup (aCons (mC (.str t_go)) (aCons (mC (.str t_part)) aNil))))) (sAsg (mOp oAdd (mSl (mVar 4) (pNo) (pSome (mUn uNeg (mC (.int 1))))) (mTup (aCons (mOp oAdd (mOp oIx (mVar 4) (mUn uNeg (mC (.int 1)))) (mC (.int 1))) aNil))) (gName 4)) (sNx)) (sExp (mMt isLst lAppend (mVar 3) (aCons (mVar 4) aNil)))
noncomputable def b_law_tested : SM := sSeq (sAsg (mCall bLen (aCons (mVar 0) aNil)) (gName 2)) (sSeq (sAsg (mLst (aCons (mTup (aCons (mC (.str t_go)) (aCons (mVar 2) aNil))) aNil)) (gName 3)) (sSeq (sFor (iSeq (mSl (mVar 0) (pNo) (pSome (mUn uNeg (mC (.int 1)))))) (gName 4) (l_law_tested_1)) (sRet (mOp oAdd (mVar 3) (mLst (aCons (mTup (aCons (mC (.str t_part)) (aCons (mVar 1) (aCons (mC (.int 1)) aNil)))) (aCons (mTup (aCons (mC (.str t_end)) aNil)) aNil)))))))
noncomputable def m_law_tested : Fn := mDef 2 5 b_law_tested
/-- 0 cells 1 names_here 2 more 3 rows 4 outer 5 begin 6 cell_here 7 k -/
noncomputable def e_law_program_1 : EM := mOp oAdd (mOp oIx (mVar 0) (mOp oMod (mVar 7) (mCall bLen (aCons (mVar 0) aNil)))) (mOp oMul (mC (.int 101)) (mVar 7))
noncomputable def l_law_program_2 : SM := sIf (tAnd (tBl (mOp oEq (mOp oMod (mVar 6) (mC (.int 11))) (mC (.int 3)))) (tBl (mOp oIs (mVar 5) (mC .non)))) (sSeq (sAsg (mCall bLen (aCons (mVar 3) aNil)) (gName 5)) (sSeq (sExp (mMt isLst lAppend (mVar 4) (aCons (mVar 5) aNil))) (sExp (mMt isLst lAppend (mVar 3) (aCons (mTup (aCons (mC (.str t_part)) (aCons (mCall m_law_operand (aCons (mOp oMod (mOp oDiv (mVar 6) (mC (.int 11))) (mOp oAdd (mCall bLen (aCons (mVar 1) aNil)) (mC (.int 1)))) (aCons (mVar 6) (aCons (mVar 1) aNil)))) (aCons (mC (.int 0)) aNil)))) aNil))))) (sIf (tAnd (tBl (mOp oLt (mOp oMod (mVar 6) (mC (.int 11))) (mC (.int 3)))) (tBl (mOp oIsNot (mVar 5) (mC .non)))) (sSeq (sExp (mCall m_law_shut (aCons (mVar 3) (aCons (mVar 5) (aCons (mOp oDiv (mVar 6) (mC (.int 11))) (aCons (mVar 4) aNil)))))) (sAsg (mC .non) (gName 5))) (sSeq (sIf (tBl (mOp oIs (mVar 5) (mC .non))) (sExp (mMt isLst lAppend (mVar 4) (aCons (mCall bLen (aCons (mVar 3) aNil)) aNil))) (sNx)) (sExp (mMt isLst lAppend (mVar 3) (aCons (mCall m_law_row (aCons (mOp oDiv (mVar 6) (mC (.int 11))) (aCons (mVar 1) aNil))) aNil)))))
noncomputable def b_law_program : SM := sSeq (sAsg (mLst (aNil)) (gName 3)) (sSeq (sAsg (mLst (aNil)) (gName 4)) (sSeq (sAsg (mC .non) (gName 5)) (sSeq (sFor (iSeq (mOp oAdd (mVar 0) (mLc [7] (iRng1 (aCons (mOp oMul (mVar 2) (mCall bInt (aCons (mOp oNe (mVar 0) (mLst (aNil))) aNil))) aNil)) (gName 7) (tYes) (e_law_program_1)))) (gName 6) (l_law_program_2)) (sSeq (sIf (tBl (mOp oIsNot (mVar 5) (mC .non))) (sExp (mCall m_law_shut (aCons (mVar 3) (aCons (mVar 5) (aCons (mC (.int 0)) (aCons (mVar 4) aNil)))))) (sNx)) (sSeq (sAsg (mCall m_law_turned_to (aCons (mOp oAdd (mVar 3) (mLst (aCons (mTup (aCons (mC (.str t_end)) aNil)) aNil))) aNil)) (gName 3)) (sSeq (sIf (tAnd (tBl (mOp oNe (mVar 0) (mLst (aNil)))) (tAnd (tBl (mOp oEq (mOp oMod (mOp oDiv (mOp oIx (mVar 0) (mC (.int 0))) (mC (.int 7))) (mC (.int 6))) (mC (.int 1)))) (tBl (mOp oLt (mCall bLen (aCons (mVar 3) aNil)) (mC (.int 59)))))) (sAsg (mCall m_law_tested (aCons (mVar 3) (aCons (mOp oIx (mVar 1) (mC (.int 0))) aNil))) (gName 3)) (sNx)) (sRet (mVar 3))))))))
noncomputable def m_law_program : Fn := mDef 3 8 b_law_program
/-- 0 program_here 1 handed 2 fewer 3 more 4 first 5 other 6 found 7 says 8 n -/
noncomputable def l_law_good_1 : SM := sSeq (sIf (tAnd (tBl (mOp oGt (mCall bLen (aCons (mOp oIx (mVar 6) (mC (.int 3))) aNil)) (mC (.int 0)))) (tOr (tNot (tTru (mCall m_is_way (aCons (mVar 0) (aCons (mOp oIx (mVar 6) (mC (.int 3))) aNil))))) (tBl (mOp oNe (mOp oIx (mOp oIx (mVar 6) (mC (.int 3))) (mC (.int 0))) (mC (.int 0)))))) (sRet (mC (.bl false))) (sNx)) (sIf (tOr (tBl (mOp oNe (mCall m_is_whole (aCons (mVar 0) (aCons (mOp oIx (mVar 6) (mC (.int 3))) aNil))) (mOp oEq (mOp oIx (mVar 6) (mC (.int 0))) (mC (.str t_end))))) (tBl (mOp oNotIn (mOp oIx (mVar 6) (mC (.int 0))) (mTup (aCons (mC (.str t_end)) (aCons (mC (.str t_spent)) aNil)))))) (sRet (mC (.bl false))) (sNx))
noncomputable def c_law_good_2 : TM := tBl (mOp oEq (mOp oIx (mOp oIx (mVar 0) (mVar 8)) (mC (.int 0))) (mC (.str t_say)))
noncomputable def e_law_good_3 : EM := mVar 8
noncomputable def b_law_good : SM := sSeq (sAsg (mCall m_run (aCons (mVar 0) (aCons (mVar 1) (aCons (mVar 2) aNil)))) (gName 4)) (sSeq (sAsg (mCall m_run (aCons (mVar 0) (aCons (mVar 1) (aCons (mVar 3) aNil)))) (gName 5)) (sSeq (sFor (iSeq (mLst (aCons (mVar 4) (aCons (mVar 5) aNil)))) (gName 6) (l_law_good_1)) (sSeq (sIf (tOr (tBl (mOp oNe (mOp oIx (mVar 4) (mC (.int 3))) (mSl (mOp oIx (mVar 5) (mC (.int 3))) (pNo) (pSome (mVar 2))))) (tBl (mOp oNe (mOp oIx (mVar 4) (mC (.int 1))) (mSl (mOp oIx (mVar 5) (mC (.int 1))) (pNo) (pSome (mCall bLen (aCons (mOp oIx (mVar 4) (mC (.int 1))) aNil))))))) (sRet (mC (.bl false))) (sNx)) (sSeq (sIf (tBl (mOp oEq (mOp oIx (mVar 4) (mC (.int 0))) (mC (.str t_end)))) (sRet (mOp oEqT (mVar 4) (mVar 5))) (sNx)) (sSeq (sAsg (mCall bLen (aCons (mLc [8] (iSeq (mOp oIx (mVar 4) (mC (.int 3)))) (gName 8) (c_law_good_2) (e_law_good_3)) aNil)) (gName 7)) (sRet (mAnd (mOp oEq (mCall bLen (aCons (mOp oIx (mVar 4) (mC (.int 3))) aNil)) (mVar 2)) (mOp oEq (mCall bLen (aCons (mOp oIx (mVar 4) (mC (.int 1))) aNil)) (mVar 7)))))))))
noncomputable def m_law_good : Fn := mDef 4 9 b_law_good
/-- 0 script 1 names_here 2 program_here 3 more 4 some 5 handed 6 k 7 name 8 less -/
noncomputable def l_law_1 : SM := sAsg (mCall m_law_operand (aCons (mOp oAdd (mC (.int 4)) (mOp oMod (mOp oDiv (mCall m_law_cell (aCons (mVar 0) (aCons (mC (.int 3)) aNil))) (mOp oAdd (mVar 6) (mC (.int 1)))) (mC (.int 2)))) (aCons (mOp oAdd (mOp oDiv (mCall m_law_cell (aCons (mVar 0) (aCons (mC (.int 3)) aNil))) (mC (.int 5))) (mVar 6)) (aCons (mVar 1) aNil)))) (gSub (mVar 5) (mVar 7))
noncomputable def l_law_2 : SM := sIf (tBl (mOp oNe (mOp oIx (mVar 5) (mVar 7)) (mC (.int 0)))) (sAsg (mOp oIx (mVar 5) (mVar 7)) (gSub (mVar 8) (mVar 7))) (sNx)
noncomputable def b_law : SM := sSeq (sAsg (mCall m_law_names (aCons (mCall m_law_cell (aCons (mVar 0) (aCons (mC (.int 0)) aNil))) (aCons (mC (.int 4)) aNil))) (gName 1)) (sSeq (sAsg (mCall m_law_program (aCons (mSl (mVar 0) (pSome (mC (.int 4))) (pSome (mC (.int 44)))) (aCons (mVar 1) (aCons (mOp oMod (mCall m_law_cell (aCons (mVar 0) (aCons (mC (.int 1)) aNil))) (mC (.int 19))) aNil)))) (gName 2)) (sSeq (sAsg (mOp oIx (mLst (aCons (mC (.int 150)) (aCons (mC (.int 2001)) aNil))) (mCall bInt (aCons (mOp oEq (mOp oMod (mOp oDiv (mCall m_law_cell (aCons (mVar 0) (aCons (mC (.int 2)) aNil))) (mC (.int 22500))) (mC (.int 32))) (mC (.int 1))) aNil))) (gName 3)) (sSeq (sAsg (mCall bSort2 (aCons (mLst (aCons (mOp oMod (mCall m_law_cell (aCons (mVar 0) (aCons (mC (.int 2)) aNil))) (mC (.int 150))) (aCons (mOp oMod (mOp oDiv (mCall m_law_cell (aCons (mVar 0) (aCons (mC (.int 2)) aNil))) (mC (.int 150))) (mVar 3)) aNil))) aNil)) (gName 4)) (sSeq (sAsg (mNewK) (gName 5)) (sSeq (sFor (iEnum (aCons (mVar 1) aNil)) (gTup 2 (gCons (gName 6) (gCons (gName 7) gNil))) (l_law_1)) (sSeq (sAsg (mNewK) (gName 8)) (sSeq (sFor (iSeq (mVar 1)) (gName 7) (l_law_2)) (sSeq (sIf (tOr (tNot (tTru (mCall m_law_good (aCons (mVar 2) (aCons (mVar 5) (aCons (mOp oIx (mVar 4) (mC (.int 0))) (aCons (mOp oIx (mVar 4) (mC (.int 1))) aNil))))))) (tNot (tTru (mCall m_law_good (aCons (mVar 2) (aCons (mVar 8) (aCons (mOp oIx (mVar 4) (mC (.int 0))) (aCons (mOp oIx (mVar 4) (mC (.int 1))) aNil)))))))) (sRet (mC (.bl false))) (sNx)) (sSeq (sIf (tBl (mOp oNeT (mCall m_run (aCons (mVar 2) (aCons (mVar 5) (aCons (mOp oIx (mVar 4) (mC (.int 1))) aNil)))) (mCall m_run (aCons (mVar 2) (aCons (mVar 8) (aCons (mOp oIx (mVar 4) (mC (.int 1))) aNil)))))) (sRet (mC (.bl false))) (sNx)) (sRet (mOp oEqT (mCall m_run (aCons (mVar 2) (aCons (mVar 5) (aCons (mC (.int 0)) aNil)))) (mTup (aCons (mC (.str t_spent)) (aCons (mLst (aNil)) (aCons (mVar 8) (aCons (mLst (aNil)) aNil))))))))))))))))
noncomputable def m_law : Fn := mDef 1 9 b_law
end Lk22

set_option Elab.async false
set_option linter.all false
/-! rows, operands, reckonings as values of the small language; data by their keys -/
namespace Mi
/-! ### at a written place -/
theorem at_of {α : Type} {l : List α} {k : Nat} {d : α} (h : l[k]? = some d) : atI l (k : Int) = some d := by
  have hk := (List.getElem?_eq_some_iff.mp h).1
  unfold atI ixN
  rw [if_pos (Int.natCast_nonneg k), if_pos (by omega), Option.bind_some, Int.toNat_natCast, h]
@[simp] theorem at0 {α : Type} (a : α) (l : List α) : atI (a :: l) 0 = some a := at_of (k := 0) rfl
@[simp] theorem at1 {α : Type} (a b : α) (l : List α) : atI (a :: b :: l) 1 = some b := at_of (k := 1) rfl
@[simp] theorem at2 {α : Type} (a b c : α) (l : List α) : atI (a :: b :: c :: l) 2 = some c := at_of (k := 2) rfl
@[simp] theorem at3 {α : Type} (a b c d : α) (l : List α) : atI (a :: b :: c :: d :: l) 3 = some d := at_of (k := 3) rfl
@[simp] theorem at4 {α : Type} (a b c d e : α) (l : List α) : atI (a :: b :: c :: d :: e :: l) 4 = some e := at_of (k := 4) rfl
@[simp] theorem at5 {α : Type} (a b c d e f : α) (l : List α) : atI (a :: b :: c :: d :: e :: f :: l) 5 = some f := at_of (k := 5) rfl
theorem at_last {α : Type} (l : List α) (a : α) : atI (l ++ [a]) (-1) = some a := by
  have e : ixN (l ++ [a]).length (-1) = some l.length := by
    unfold ixN
    rw [if_neg (by decide), if_pos (by rw [List.length_append]; simp; omega)]
    congr 1
    rw [List.length_append, List.length_singleton]
    omega
  unfold atI
  rw [e]; simp
theorem div_ok {j : Int} (h : 0 < j) (h2 : j < 2 ^ 64) : divOk j := ⟨h, by
  have : j.natAbs < 2 ^ 64 := by omega
  have : j.natAbs.log2 < 64 := (Nat.log2_lt (by omega)).mpr this
  omega⟩
theorem mul_r {i j : Int} (h : small j) : mulOk i j := .inr (.inl h)
theorem mul_l {i j : Int} (h : small i) : mulOk i j := .inl h
theorem rng_at {lo : Int} {n i : Nat} {d : D} (h : (rng lo n)[i]? = some d) : i < n ∧ d = .int (lo + i) := by
  unfold rng at h
  rw [List.getElem?_map] at h
  by_cases hi : i < n
  · rw [List.getElem?_range hi] at h
    exact ⟨hi, (Option.some.inj h).symm⟩
  · rw [List.getElem?_eq_none (by simpa using hi)] at h
    cases h
@[simp] theorem rng_len (lo : Int) (n : Nat) : (rng lo n).length = n := by simp [rng]
/-- a look behind the old part -/
theorem get_at {α : Type} (S : List α) (x : α) (G : List α) : (S ++ x :: G)[S.length]? = some x := by
  rw [List.getElem?_append_right (Nat.le_refl _), Nat.sub_self]; rfl
theorem set_at {α : Type} (S : List α) (x y : α) (G : List α) : (S ++ x :: G).set S.length y = S ++ y :: G := by
  rw [List.set_append_right _ _ (Nat.le_refl _), Nat.sub_self, List.set_cons_zero]
theorem beq_dec {α : Type} [DecidableEq α] (a b : α) : (a == b) = decide (a = b) := by
  by_cases h : a = b
  · subst h; simp
  · simp [h]
theorem str_dec (a b : Tx) : ((⟨a.toArray⟩ : PySem.Str) == ⟨b.toArray⟩) = decide (a = b) := by
  rw [beq_dec]
  congr 1
  simp
theorem dec_false {p : Prop} (h : ¬ p) : dec p = false := @decide_eq_false p (Classical.propDecidable p) h
@[simp] theorem dec_iff {p : Prop} : (dec p = true) = p := propext ⟨of_dec, dec_true⟩
/-! ### keys -/
abbrev kp : Ky → PySem.PyData
  | .inl i => .int i
  | .inr s => .str ⟨s.toArray⟩
@[simp] theorem kyD_l (i : Int) : kyD (.inl i) = .int i := (rfl)
@[simp] theorem kyD_r (s : Tx) : kyD (.inr s) = .str s := (rfl)
def kOk : Ky → Bool
  | .inl _ => true
  | .inr s => s.all (· < 0x110000)
def kt (l : List Ky) : D := .tup (l.map kyD)
@[simp] theorem kyOf_kyD (k : Ky) : kyOf (kyD k) = some k := by cases k <;> rfl
@[simp] theorem kysOf_map (l : List Ky) : kysOf (l.map kyD) = some l := by
  induction l with
  | nil => rfl
  | cons k r ih => show (kyOf (kyD k)).bind _ = _; rw [kyOf_kyD, Option.bind_some, ih]; rfl
@[simp] theorem ktOf_t (l : List D) : ktOf (.tup l) = kysOf l := (rfl)
@[simp] theorem ktOf_kt (l : List Ky) : ktOf (kt l) = some l := kysOf_map l
@[simp] theorem flat_k (k : Ky) : flatD (kyD k) = true := by cases k <;> rfl
theorem eqF_k (a b : Ky) : eqF (kyD a) (kyD b) = decide (a = b) := by
  have h2 : ∀ s t : Tx, (s == t) = decide (s = t) := fun s t => by
    by_cases h : s = t
    · subst h; simp
    · simp [h]
  cases a <;> cases b <;> simp [kyD, eqF, beq_dec, h2]
theorem toP_k (rd : Nat → Option PySem.PyData) (k : Ky) : toP rd (kyD k) = some (kp k) := by cases k <;> rfl
theorem toPs_k (rd : Nat → Option PySem.PyData) (l : List Ky) : toPs rd (l.map kyD) = some (l.map kp) := by
  induction l with
  | nil => rfl
  | cons k r ih => rw [List.map_cons, toPs, toP_k, Option.bind_some, ih]; rfl
theorem toP_kt (rd : Nat → Option PySem.PyData) (l : List Ky) : toP rd (kt l) = some (.tuple (l.map kp)) := by
  unfold kt
  rw [toP, toPs_k]; rfl
theorem toPs_kt (rd : Nat → Option PySem.PyData) (L : List (List Ky)) : toPs rd (L.map kt) = some (L.map fun l => .tuple (l.map kp)) := by
  induction L with
  | nil => rfl
  | cons k r ih => rw [List.map_cons, toPs, toP_kt, Option.bind_some, ih]; rfl
theorem eqv_k (a b : Ky) : PySem.PyData.eqv (kp a) (kp b) = decide (a = b) := by
  cases a <;> cases b <;> simp [kp, PySem.PyData.eqv, beq_dec, str_dec]
theorem eqv_ks (a b : List Ky) : PySem.PyData.eqvAll (a.map kp) (b.map kp) = decide (a = b) := by
  induction a generalizing b with
  | nil => cases b <;> simp [PySem.PyData.eqvAll]
  | cons x r ih =>
    cases b with
    | nil => simp [PySem.PyData.eqvAll]
    | cons y q => simp [PySem.PyData.eqvAll, eqv_k, ih]
theorem eqv_kt (a b : List Ky) : PySem.PyData.eqv (.tuple (a.map kp)) (.tuple (b.map kp)) = decide (a = b) := by
  unfold PySem.PyData.eqv; exact eqv_ks a b
theorem eqv_kts (a b : List (List Ky)) : PySem.PyData.eqvAll (a.map fun l => .tuple (l.map kp)) (b.map fun l => .tuple (l.map kp)) = decide (a = b) := by
  induction a generalizing b with
  | nil => cases b <;> simp [PySem.PyData.eqvAll]
  | cons x r ih =>
    cases b with
    | nil => simp [PySem.PyData.eqvAll]
    | cons y q => simp [PySem.PyData.eqvAll, eqv_kt, ih]
theorem lay_k {k : Ky} (h : kOk k = true) : PySem.PyData.canLay0 (kp k) = true := by
  cases k with
  | inl i => simp [PySem.PyData.canLay0]
  | inr s =>
    simp only [PySem.PyData.canLay0, PySem.PyData.strOk]
    simpa [kOk] using h
theorem lay_ks {l : List Ky} (h : l.all kOk = true) : PySem.PyData.canLayAll0 (l.map kp) = true := by
  induction l with
  | nil => simp [PySem.PyData.canLayAll0]
  | cons k r ih =>
    rw [List.all_cons, Bool.and_eq_true] at h
    simp only [List.map_cons, PySem.PyData.canLayAll0, lay_k h.1, ih h.2, Bool.and_self]
theorem dep_ks (l : List Ky) : PySem.PyData.depthAll (l.map kp) = 0 := by
  induction l with
  | nil => simp [PySem.PyData.depthAll]
  | cons k r ih =>
    cases k <;> simp [PySem.PyData.depthAll, PySem.PyData.depth, ih]
theorem shp_kt {l : List Ky} (h : l.all kOk = true) : shp (.tuple (l.map kp)) = true := by
  unfold shp PySem.SeqAt.shaped
  simp [PySem.PyData.canLay0, PySem.PyData.depth, lay_ks h, dep_ks]
theorem lay_kts {L : List (List Ky)} (h : L.all (fun l => l.all kOk) = true) : PySem.PyData.canLayAll0 (L.map fun l => .tuple (l.map kp)) = true := by
  induction L with
  | nil => simp [PySem.PyData.canLayAll0]
  | cons k r ih =>
    rw [List.all_cons, Bool.and_eq_true] at h
    simp only [List.map_cons, PySem.PyData.canLayAll0, PySem.PyData.canLay0, lay_ks h.1, ih h.2, Bool.and_self]
theorem dep_kts (L : List (List Ky)) : PySem.PyData.depthAll (L.map fun l => .tuple (l.map kp)) ≤ 1 := by
  induction L with
  | nil => simp [PySem.PyData.depthAll]
  | cons k r ih =>
    simp only [List.map_cons, PySem.PyData.depthAll, PySem.PyData.depth, dep_ks]
    omega
theorem shp_kts {L : List (List Ky)} (h : L.all (fun l => l.all kOk) = true) : shp (.list (L.map fun l => .tuple (l.map kp))) = true := by
  unfold shp PySem.SeqAt.shaped
  have := dep_kts L
  simp only [PySem.PyData.canLay0, PySem.PyData.depth, lay_kts h, Bool.true_and, decide_eq_true_eq]
  exact decide_eq_true (Nat.le_trans (Nat.add_le_add_right this 1) (show 1 + 1 ≤ 64 by decide))
theorem eq_kt {a b : List Ky} (S : Store) (ha : a.all kOk = true) (hb : b.all kOk = true) : pyEq (kt a) (kt b) S = some (decide (a = b)) := by
  unfold pyEq
  have e : scq (kt a) (kt b) = none := rfl
  rw [e]
  simp only [pd, toP_kt, shp_kt ha, shp_kt hb, and_self, if_true, eqv_kt]
theorem in_kts {x : List Ky} {L : List (List Ky)} (S : Store) (hx : x.all kOk = true) (hL : L.all (fun l => l.all kOk) = true) : inSeq (kt x) (L.map kt) S = some (dec (x ∈ L)) := by
  unfold inSeq
  rw [if_neg (by unfold kt flatD; simp)]
  simp only [pd, toP_kt, toPs_kt, shp_kt hx, shp_kts hL, and_self, if_true, List.any_map]
  congr 1
  induction L with
  | nil => exact (dec_false (by simp)).symm
  | cons y r ih =>
    rw [List.all_cons, Bool.and_eq_true] at hL
    simp only [List.any_cons, Function.comp, eqv_kt] at ih ⊢
    rw [ih hL.2]
    by_cases h : y = x
    · subst h; simp [dec_true]
    · have : ¬ x = y := fun q => h q.symm
      simp [h, this]
theorem in_ks (x : Ky) (l : List Ky) (S : Store) : inSeq (kyD x) (l.map kyD) S = some (dec (x ∈ l)) := by
  rw [inSeq_f S (flat_k x) (by simp), List.any_map]
  congr 1
  induction l with
  | nil => exact (dec_false (by simp)).symm
  | cons y r ih =>
    simp only [List.any_cons, Function.comp, eqF_k] at ih ⊢
    rw [ih]
    by_cases h : y = x
    · subst h; simp [dec_true]
    · have : ¬ x = y := fun q => h q.symm
      simp [h, this]
/-- lists of such tuples against one another -/
theorem eq_lkts {m n : Nat} {A B : List (List Ky)} {S : Store} (ha : lstOf S m = some (A.map kt)) (hb : lstOf S n = some (B.map kt)) (hA : A.all (fun l => l.all kOk) = true) (hB : B.all (fun l => l.all kOk) = true) : pyEq (.ref m) (.ref n) S = some (decide (A = B)) := by
  have look : ∀ {n A}, lstOf S n = some (List.map kt A) → lookP 8 S n = some (.list (A.map fun l => .tuple (l.map kp))) := fun {n A} h => by
    unfold lookP
    unfold lstOf at h
    cases hn : S[n]? with
    | none => rw [hn] at h; cases h
    | some o =>
      rw [hn] at h
      cases o with
      | lst l => dsimp only at h ⊢; obtain rfl := Option.some.inj h; rw [toPs_kt]; rfl
      | fls l => dsimp only at h ⊢; obtain rfl := Option.some.inj h; rw [toPs_kt]; rfl
      | _ => cases h
  unfold pyEq
  have e : scq (.ref m) (.ref n) = none := rfl
  rw [e]
  simp only [pd, toP, look ha, look hb, shp_kts hA, shp_kts hB, and_self, if_true]
  unfold PySem.PyData.eqv
  rw [eqv_kts]
/-! ### stores by what is found in them -/
theorem Pre.lt {S S' : Store} {n : Nat} {o : O} (h : S[n]? = some o) : n < S.length := (List.getElem?_eq_some_iff.mp h).1
theorem Pre.set {S S' : Store} {p : Nat} {x : O} (h : Pre S S') (hp : S.length ≤ p) : Pre S (S'.set p x) := by
  obtain ⟨G, rfl⟩ := h
  rw [List.set_append_right _ _ hp]
  exact ⟨_, rfl⟩
theorem set_ne {S : Store} {p q : Nat} {x : O} (h : p ≠ q) : (S.set p x)[q]? = S[q]? := List.getElem?_set_ne h
theorem app_get {S : Store} {n : Nat} {o : O} {G : Store} (h : S[n]? = some o) : (S ++ G)[n]? = some o := (Pre.app S G).get h
theorem app_new (S : Store) (o : O) (G : Store) : (S ++ o :: G)[S.length]? = some o := get_at S o G
theorem ne_new {S : Store} {n : Nat} {o : O} (h : S[n]? = some o) : S.length ≠ n := by have := Pre.lt (S' := S) h; omega
theorem ixN_of {n : Nat} {i : Int} (h : 0 ≤ i) (h2 : i < n) : ixN n i = some i.toNat := by
  unfold ixN
  rw [if_pos h, if_pos h2]
theorem at_nat {α : Type} {l : List α} {i : Int} {d : α} (h0 : 0 ≤ i) (h : l[i.toNat]? = some d) : atI l i = some d := by
  have := at_of h
  rw [Int.toNat_of_nonneg h0] at this
  exact this
/-! ### texts of single signs -/
abbrev sgn (c : Nat) : D := .str [c]
theorem txs_sgn (cs : Tx) : txsOf (cs.map sgn) = some (cs.map fun c => [c]) := by
  have := txs_map (cs.map fun c => [c])
  rw [List.map_map] at this
  exact this
theorem join_nil (ys : List Tx) : joinT [] ys = ys.flatten := by
  induction ys with
  | nil => rfl
  | cons y r ih =>
    cases r with
    | nil => simp [joinT]
    | cons z q => rw [joinT, ih]; simp
theorem flat_sgn (cs : Tx) : (cs.map fun c => [c]).flatten = cs := by
  induction cs with
  | nil => rfl
  | cons c r ih => simp [ih]
theorem sum_sgn (cs : Tx) : ((cs.map fun c => [c]).map List.length).sum = cs.length := by
  induction cs with
  | nil => rfl
  | cons c r ih => simp at ih ⊢; omega
theorem join_sgn {S : Store} {p : Nat} {cs : Tx} (h : S[p]? = some (.lst (cs.map sgn))) (hl : cs.length ≤ LINE) : sJoin (.str []) [.ref p] S = .ok (.str cs) S := by
  rw [sJoin_s, seqOf_r, lstOf_s, h]
  simp only [Option.bind_some, txs_sgn, joK_s, sum_sgn, join_nil, flat_sgn, List.length_nil, Nat.mul_zero, Nat.add_zero, hl, if_true]
/-- a row -/
inductive Row where
  | rk (n s : Tx) (a b : Ky) | cp (n : Tx) (a : Ky) | sy (a : Ky) | go (t : Int) | pt (a : Ky) (t : Int) | en
abbrev w_rk : Tx := [114, 101, 99, 107, 111, 110]
abbrev w_cp : Tx := [99, 111, 112, 121]
abbrev w_sy : Tx := [115, 97, 121]
abbrev w_go : Tx := [103, 111]
abbrev w_pt : Tx := [112, 97, 114, 116]
abbrev w_en : Tx := [101, 110, 100]
def Row.ks : Row → List Ky
  | .rk n s a b => [.inr w_rk, .inr n, .inr s, a, b]
  | .cp n a => [.inr w_cp, .inr n, a]
  | .sy a => [.inr w_sy, a]
  | .go t => [.inr w_go, .inl t]
  | .pt a t => [.inr w_pt, a, .inl t]
  | .en => [.inr w_en]
def Row.d (r : Row) : D := kt r.ks
abbrev SG : Tx := [97, 98, 99, 100, 101, 102, 103, 104, 105, 106, 107, 108, 109, 110, 111, 112, 113, 114, 115, 116, 117, 118, 119, 120, 121, 122, 48, 49, 50, 51, 52, 53, 54, 55, 56, 57]
abbrev S8 : Tx := [43, 45, 42, 38, 124, 94, 60, 61]
/-- a name -/
structure Nm (t : Tx) : Prop where
  lo : 1 ≤ t.length
  hi : t.length ≤ 8
  fst : ∃ c, t[0]? = some c ∧ 97 ≤ c ∧ c ≤ 122
  all : ∀ c ∈ t, c ∈ SG
  no : t ≠ w_sy ∧ t ≠ w_go ∧ t ≠ w_pt ∧ t ≠ w_en
theorem Nm.ok {t : Tx} (h : Nm t) : kOk (.inr t) = true := by
  show t.all _ = true
  rw [List.all_eq_true]
  intro c hc
  have : ∀ c ∈ SG, decide (c < 0x110000) = true := by decide
  exact this c (h.all c hc)
/-- what a name's signs are -/
structure Cs (cs : Tx) : Prop where
  lo : 1 ≤ cs.length
  hi : cs.length ≤ 8
  fst : ∃ c, cs[0]? = some c ∧ 97 ≤ c ∧ c ≤ 122
  all : ∀ c ∈ cs, c ∈ SG
theorem Cs.set {cs : Tx} (h : Cs cs) (i c : Nat) (hc : 97 ≤ c ∧ c ≤ 122) (hs : c ∈ SG) : Cs (cs.set i c) := by
  refine ⟨by simpa using h.lo, by simpa using h.hi, ?_, ?_⟩
  · obtain ⟨d, e, q⟩ := h.fst
    rw [List.getElem?_set]
    by_cases h0 : i = 0
    · subst h0
      rw [if_pos rfl, if_pos (Nat.lt_of_lt_of_le Nat.zero_lt_one h.lo)]
      exact ⟨c, rfl, hc⟩
    · rw [if_neg h0]; exact ⟨d, e, q⟩
  · intro d hd
    rcases List.mem_or_eq_of_mem_set hd with z | z
    · exact h.all d z
    · exact z ▸ hs
/-- the name of such signs -/
def nmOf (cs : Tx) : Tx := if cs = w_sy ∨ cs = w_go ∨ cs = w_pt ∨ cs = w_en then cs ++ [48] else cs
theorem Cs.nm {cs : Tx} (h : Cs cs) : Nm (nmOf cs) := by
  unfold nmOf
  split
  · rename_i q
    rcases q with rfl | rfl | rfl | rfl <;> exact ⟨by decide, by decide, ⟨_, rfl, by decide⟩, by decide, by decide⟩
  · rename_i q
    refine ⟨h.lo, h.hi, h.fst, h.all, ?_⟩
    refine ⟨fun e => q (.inl e), fun e => q (.inr (.inl e)), fun e => q (.inr (.inr (.inl e))), fun e => q (.inr (.inr (.inr e)))⟩
theorem sg_lt {i : Int} (h0 : 0 ≤ i) (h : i < 36) : ∃ c, atI SG i = some c ∧ c ∈ SG ∧ (i < 26 → 97 ≤ c ∧ c ≤ 122) := by
  have hl : i.toNat < SG.length := by show i.toNat < 36; omega
  refine ⟨SG[i.toNat], at_nat h0 (List.getElem?_eq_getElem hl), List.getElem_mem _, fun h2 => ?_⟩
  have all : ∀ k : Nat, k < 26 → ∀ c, SG[k]? = some c → 97 ≤ c ∧ c ≤ 122 := by decide
  exact all i.toNat (by omega) _ (List.getElem?_eq_getElem hl)
/-! ### comprehensions whose elements are told by a property -/
theorem lc_rel_go {hs : List (Nat × List D)} {g : GM} {t : TM} {e : EM} {fr : Fr} {S1 : Store} (P : D → D → Prop) :
    ∀ (items : List D) (acc : List D) (S : Store), Pre S1 S → S[S1.length]? = some (.lst acc) → (∀ p, p ∈ hs → lstOf S1 p.1 = some p.2) → acc.length + items.length ≤ LINE →
    (∀ d, d ∈ items → ∀ S, Pre S1 S → S1.length < S.length → ∃ fr' S', g d fr S = .ok fr' S ∧ t fr' S = .ok true S ∧ ∃ x, e fr' S = .ok x S' ∧ Pre S S' ∧ P d x) →
    ∃ xs S', lcLoop hs S1.length g t e fr items S = .ok (.ref S1.length) S' ∧ Pre S1 S' ∧ S'[S1.length]? = some (.lst (acc ++ xs)) ∧ xs.length = items.length ∧ ∀ (i : Nat) (d x : D), items[i]? = some d → xs[i]? = some x → P d x := by
  have stand : ∀ S, Pre S1 S → (∀ p, p ∈ hs → lstOf S1 p.1 = some p.2) → stands hs S := fun S pr h p hp => by
    have q := h p hp
    unfold lstOf at q ⊢
    cases hh : S1[p.1]? with
    | none => rw [hh] at q; cases q
    | some o => rw [pr.get hh]; rw [hh] at q; exact q
  intro items
  induction items with
  | nil => exact fun acc S pr ha h _ _ => ⟨[], S, by rw [lcLoop, dec_true (stand S pr h)]; rfl, pr, by rw [List.append_nil]; exact ha, rfl, fun i d x hd _ => by cases hd⟩
  | cons d ds ih =>
    intro acc S pr ha h hl step
    rw [List.length_cons] at hl
    obtain ⟨fr', S', e1, e2, x, e3, pr2, px⟩ := step d List.mem_cons_self S pr (Pre.lt (S' := S) ha)
    have ha' : S'[S1.length]? = some (.lst acc) := pr2.get ha
    obtain ⟨xs, S2, q, pr3, hx, hxl, hp⟩ := ih (acc ++ [x]) (S'.set S1.length (.lst (acc ++ [x]))) ((pr.trans pr2).set (Nat.le_refl _)) (set_get ha') h (by rw [List.length_append, List.length_singleton]; omega) fun d' hd' => step d' (List.mem_cons_of_mem _ hd')
    refine ⟨x :: xs, S2, ?_, pr3, by rw [hx, List.append_assoc]; rfl, by rw [List.length_cons, List.length_cons, hxl], ?_⟩
    · rw [lcLoop, dec_true (stand S pr h)]
      simp only [if_true, e1, bind_ok, e2, e3, ha']
      rw [if_pos (by omega), q]
    · intro i d' x' hd hx
      cases i with
      | zero => obtain rfl := Option.some.inj hd; obtain rfl := Option.some.inj hx; exact px
      | succ i => exact hp i d' x' hd hx
theorem lc_rel {vs : List Nat} {g : GM} {e : EM} {fr : Fr} {l : List D} {hs : List (Nat × List D)} {S : Store} (P : D → D → Prop) (h1 : ∀ p, p ∈ hs → lstOf S p.1 = some p.2) (h2 : l.length ≤ LINE)
    (h3 : ∀ d, d ∈ l → ∀ S', Pre S S' → ∃ fr' S2, g d (unset vs fr) S' = .ok fr' S' ∧ ∃ x, e fr' S' = .ok x S2 ∧ Pre S' S2 ∧ P d x) :
    ∃ xs S', lcK vs g tYes e fr (.ok ⟨l, hs⟩ S) = .ok (.ref S.length) S' ∧ Pre S S' ∧ S'[S.length]? = some (.lst xs) ∧ xs.length = l.length ∧ ∀ (i : Nat) (d x : D), l[i]? = some d → xs[i]? = some x → P d x := by
  obtain ⟨xs, S', q, pr, hx, hxl, hp⟩ := lc_rel_go (g := g) (t := fun fr S => quiet (tYes fr S)) (e := fun fr S => quiet (e fr S)) (fr := unset vs fr) P l [] (S ++ [.lst []]) (Pre.app _ _) (app_new _ _ _) h1 (by simpa using h2) fun d hd S' pr _ => by
    obtain ⟨fr', S2, e1, x, e2, pr2, px⟩ := h3 d hd S' pr
    exact ⟨fr', S2, e1, rfl, x, by rw [e2]; rfl, pr2, px⟩
  exact ⟨xs, S', q, pr, hx, hxl, hp⟩
theorem lc_fil_go {α : Type} {hs : List (Nat × List D)} {g : GM} {t : TM} {e : EM} {fr : Fr} {S1 : Store} (F H : α → D) (keep : α → Bool) :
    ∀ (items : List α) (acc : List D) (S : Store), Pre S1 S → S[S1.length]? = some (.lst acc) → (∀ p, p ∈ hs → lstOf S1 p.1 = some p.2) → acc.length + items.length ≤ LINE →
    (∀ a, a ∈ items → ∀ S, Pre S1 S → ∃ fr' S2, g (F a) fr S = .ok fr' S ∧ t fr' S = .ok (keep a) S2 ∧ Pre S S2 ∧ (keep a = true → ∃ S3, e fr' S2 = .ok (H a) S3 ∧ Pre S2 S3)) →
    ∃ S', lcLoop hs S1.length g t e fr (items.map F) S = .ok (.ref S1.length) S' ∧ Pre S1 S' ∧ S'[S1.length]? = some (.lst (acc ++ (items.filter keep).map H)) := by
  have stand : ∀ S, Pre S1 S → (∀ p, p ∈ hs → lstOf S1 p.1 = some p.2) → stands hs S := fun S pr h p hp => by
    have q := h p hp
    unfold lstOf at q ⊢
    cases hh : S1[p.1]? with
    | none => rw [hh] at q; cases q
    | some o => rw [pr.get hh]; rw [hh] at q; exact q
  intro items
  induction items with
  | nil => exact fun acc S pr ha h _ _ => ⟨S, by rw [List.map_nil, lcLoop, dec_true (stand S pr h)]; rfl, pr, by simpa using ha⟩
  | cons a as ih =>
    intro acc S pr ha h hl step
    rw [List.length_cons] at hl
    obtain ⟨fr', S2, e1, e2, pr2, e3⟩ := step a List.mem_cons_self S pr
    have ha' : S2[S1.length]? = some (.lst acc) := pr2.get ha
    cases hk : keep a with
    | false =>
      obtain ⟨S', q, pr3, hx⟩ := ih acc S2 (pr.trans pr2) ha' h (by omega) fun d' hd' => step d' (List.mem_cons_of_mem _ hd')
      refine ⟨S', ?_, pr3, by rw [hx, List.filter_cons_of_neg (by rw [hk]; exact Bool.false_ne_true)]⟩
      rw [List.map_cons, lcLoop, dec_true (stand S pr h)]
      rw [hk] at e2
      simp only [if_true, e1, bind_ok, e2, Bool.false_eq_true, if_false]
      exact q
    | true =>
      obtain ⟨S3, e4, pr4⟩ := e3 hk
      have ha2 : S3[S1.length]? = some (.lst acc) := pr4.get ha'
      obtain ⟨S', q, pr3, hx⟩ := ih (acc ++ [H a]) (S3.set S1.length (.lst (acc ++ [H a]))) (((pr.trans pr2).trans pr4).set (Nat.le_refl _)) (set_get ha2) h (by rw [List.length_append, List.length_singleton]; omega) fun d' hd' => step d' (List.mem_cons_of_mem _ hd')
      refine ⟨S', ?_, pr3, by rw [hx, List.filter_cons_of_pos hk, List.append_assoc]; rfl⟩
      rw [List.map_cons, lcLoop, dec_true (stand S pr h)]
      rw [hk] at e2
      simp only [if_true, e1, bind_ok, e2, e4, ha2]
      rw [if_pos (by omega)]
      exact q
/-- a comprehension over values of a kind -/
theorem lc_fil {α : Type} {vs : List Nat} {g : GM} {t : TM} {e : EM} {fr : Fr} {l : List D} {hs : List (Nat × List D)} {S : Store} (as : List α) (F H : α → D) (keep : α → Bool) (hl : l = as.map F) (h1 : ∀ p, p ∈ hs → lstOf S p.1 = some p.2) (h2 : as.length ≤ LINE)
    (h3 : ∀ a, a ∈ as → ∀ S', Pre S S' → ∃ fr' S2, g (F a) (unset vs fr) S' = .ok fr' S' ∧ t fr' S' = .ok (keep a) S2 ∧ Pre S' S2 ∧ (keep a = true → ∃ S3, e fr' S2 = .ok (H a) S3 ∧ Pre S2 S3)) :
    ∃ S', lcK vs g t e fr (.ok ⟨l, hs⟩ S) = .ok (.ref S.length) S' ∧ Pre S S' ∧ S'[S.length]? = some (.lst ((as.filter keep).map H)) := by
  subst hl
  obtain ⟨S', q, pr, hx⟩ := lc_fil_go (g := g) (t := fun fr S => quiet (t fr S)) (e := fun fr S => quiet (e fr S)) (fr := unset vs fr) (hs := hs) F H keep as [] (S ++ [.lst []]) (Pre.app _ _) (app_new _ _ _) h1 (by simpa using h2) fun a ha S' pr => by
    obtain ⟨fr', S2, e1, e2, pr2, k⟩ := h3 a ha S' pr
    refine ⟨fr', S2, e1, by rw [e2]; rfl, pr2, fun hk => ?_⟩
    obtain ⟨S3, e3, pr3⟩ := k hk
    exact ⟨S3, by rw [e3]; rfl, pr3⟩
  exact ⟨S', q, pr, hx⟩
theorem stand_one {S : Store} {n : Nat} {l : List D} (h : lstOf S n = some l) : ∀ p, p ∈ [(n, l)] → lstOf S p.1 = some p.2 := stands_one h
theorem lst_of {S : Store} {n : Nat} {l : List D} (h : S[n]? = some (.lst l)) : lstOf S n = some l := by rw [lstOf_s, h]; rfl
/-- such a list, as values of a kind -/
theorem of_rel {α : Type} {f : α → D} {l xs : List D} {Q : α → Prop} (hl : xs.length = l.length) (h : ∀ (i : Nat) (d x : D), l[i]? = some d → xs[i]? = some x → ∃ a, x = f a ∧ Q a) : ∃ as : List α, xs = as.map f ∧ as.length = l.length ∧ ∀ a ∈ as, Q a := by
  induction xs generalizing l with
  | nil => exact ⟨[], rfl, by simpa using hl, by simp⟩
  | cons x r ih =>
    cases l with
    | nil => simp at hl
    | cons d q =>
      obtain ⟨as, rfl, hl2, ha⟩ := ih (l := q) (by simpa using hl) fun i d x h1 h2 => h (i + 1) d x h1 h2
      obtain ⟨a, rfl, qa⟩ := h 0 d x rfl rfl
      refine ⟨a :: as, rfl, by simp [hl2], ?_⟩
      intro b hb
      rcases List.mem_cons.mp hb with z | z
      · exact z ▸ qa
      · exact ha b z
/-! ### reckonings -/
@[simp] theorem oEq_sk (n : Tx) (k : Ky) (S : Store) : oEq (.str n) (kyD k) S = .ok (.bl (decide (k = .inr n))) S := by
  cases k with
  | inl i => simp [kyD]
  | inr s => simp [kyD, eq_comm]
@[simp] theorem eqF_ks (n : Tx) (k : Ky) : eqF (kyD k) (.str n) = decide (k = .inr n) := eqF_k k (.inr n)
theorem oEq_kt {a b : List Ky} (S : Store) (ha : a.all kOk = true) (hb : b.all kOk = true) : oEq (kt a) (kt b) S = .ok (.bl (decide (a = b))) S := by
  rw [oEq_g, eq_kt S ha hb]; rfl
theorem oNe_kt {a b : List Ky} (S : Store) (ha : a.all kOk = true) (hb : b.all kOk = true) : oNe (kt a) (kt b) S = .ok (.bl (!decide (a = b))) S := by
  rw [oNe_g, eq_kt S ha hb]; rfl
theorem dGet_map {κ α : Type} [DecidableEq κ] (l : List κ) (k : κ) (v : α) : dGet (l.map fun k => (k, v)) k = if k ∈ l then some v else none := by
  unfold dGet
  rw [List.find?_map]
  induction l with
  | nil => simp
  | cons x r ih =>
    by_cases h : x = k
    · subst h; simp
    · have : ¬ k = x := fun e => h e.symm
      simp [h, this] at ih ⊢
      exact ih
theorem dPut_map {κ α : Type} [DecidableEq κ] (l : List κ) (k : κ) (v : α) : dPut (l.map fun k => (k, v)) k v = (if dec (k ∈ l) = true then l else l ++ [k]).map fun k => (k, v) := by
  unfold dPut
  by_cases h : k ∈ l
  · rw [if_pos (by simpa using h), if_pos (dec_true h), List.map_map]
    apply List.map_congr_left
    intro x _
    simp only [Function.comp]
    split <;> rfl
  · rw [if_neg (by simpa using h), if_neg (by rw [dec_false h]; exact Bool.false_ne_true)]; simp
def Row.rkg : Row → Option (List Ky)
  | .rk _ s a b => some [.inr s, a, b]
  | _ => none
noncomputable def addK (acc : List (List Ky)) (r : Row) : List (List Ky) := match r.rkg with
  | some k => if dec (k ∈ acc) = true then acc else acc ++ [k]
  | none => acc
/-- an operand: one of the names, or a worth -/
def Opd (l : List Tx) (k : Ky) : Prop := (∃ t, t ∈ l ∧ k = .inr t) ∨ ∃ w : Int, k = .inl w ∧ 0 ≤ w ∧ w < 18446744073709551616
theorem Opd.ok {l : List Tx} {k : Ky} (h : Opd l k) (hl : ∀ t ∈ l, Nm t) : kOk k = true := by
  rcases h with ⟨t, ht, rfl⟩ | ⟨w, rfl, _⟩
  · exact (hl t ht).ok
  · rfl
/-- a reckoning -/
structure Rkg (l : List Tx) (s a b : Ky) : Prop where
  s1 : ∃ c, c ∈ S8 ∧ s = .inr [c]
  a1 : Opd l a
  b1 : Opd l b
end Mi

set_option Elab.async false
set_option linter.all false
/-! programs as they are built by the laws: what may stand in them, how each row is come to, how each leads to an end -/
namespace Mi
def Row.seq : Row → Bool
  | .go _ => false
  | .en => false
  | _ => true
def RowN (l : List Tx) : Row → Prop
  | .rk n s a b => n ∈ l ∧ Rkg l (.inr s) a b
  | .cp n a => n ∈ l ∧ Opd l a
  | .sy a => Opd l a
  | .go _ => True
  | .pt a _ => Opd l a
  | .en => True
/-- what comes behind row n -/
def fol (n : Nat) : Row → List Int
  | .go t => [t]
  | .pt _ t => [(n : Int) + 1, t]
  | .en => []
  | _ => [(n : Int) + 1]
/-- rows as they are being built: `outer` lie outside of stretches, `bg` begins an open one -/
structure Bld (l : List Tx) (rows : List Row) (outer : List Nat) (bg : Option Nat) : Prop where
  nm : ∀ r ∈ rows, RowN l r
  pts : ∀ (n : Nat) (a : Ky) (t : Int), rows[n]? = some (.pt a t) → 0 ≤ t
  out : ∀ o ∈ outer, o < rows.length
  bgn : ∀ b, bg = some b → b ∈ outer ∧ ∃ a, rows[b]? = some (.pt a 0)
  rch : ∀ i, 0 < i → i ≤ rows.length → (∃ r, rows[i - 1]? = some r ∧ r.seq = true) ∨ ∃ b a, b + 1 < i ∧ rows[b]? = some (.pt a (i : Nat))
  nxt : ∀ o ∈ outer, bg = some o ∨ ∃ r, rows[o]? = some r ∧ r.seq = true ∧ ((o + 1 ∈ outer ∨ (o + 1 = rows.length ∧ bg = none)) ∨ ∃ a t, r = .pt a (t : Nat) ∧ o + 1 < t ∧ (t ∈ outer ∨ (t = rows.length ∧ bg = none)))
  gos : ∀ (n : Nat) (t : Int), rows[n]? = some (.go t) → t < 0 ∨ ∃ o ∈ outer, t = (o : Int)
theorem Bld.start (l : List Tx) : Bld l [] [] none := by
  refine ⟨by simp, by simp, by simp, by simp, ?_, by simp, by simp⟩
  intro i h1 h2
  rw [List.length_nil] at h2
  omega
theorem get_snoc {α : Type} {l : List α} {a b : α} {n : Nat} (h : (l ++ [a])[n]? = some b) : l[n]? = some b ∨ (n = l.length ∧ b = a) := by
  rw [List.getElem?_append] at h
  split at h
  · exact .inl h
  · rename_i hn
    have := (List.getElem?_eq_some_iff.mp h).1
    rw [List.length_singleton] at this
    have hn : n = l.length := by omega
    subst hn
    rw [Nat.sub_self] at h
    exact .inr ⟨rfl, (Option.some.inj h).symm⟩
theorem snoc_lt {α : Type} {l : List α} {a b : α} {n : Nat} (h : l[n]? = some b) : (l ++ [a])[n]? = some b := by
  rw [List.getElem?_append_left (List.getElem?_eq_some_iff.mp h).1]; exact h
theorem snoc_eq {α : Type} (l : List α) (a : α) : (l ++ [a])[l.length]? = some a := by simp
/-- a row more: outside, or within an open stretch -/
theorem Bld.add {l : List Tx} {rows : List Row} {outer outer' : List Nat} {bg : Option Nat} (h : Bld l rows outer bg) {r : Row} (hr : RowN l r) (hs : r.seq = true) (hp : ∀ a t, r = .pt a t → 0 ≤ t)
    (ho : (bg = none ∧ outer' = outer ++ [rows.length]) ∨ (bg ≠ none ∧ outer' = outer)) : Bld l (rows ++ [r]) outer' bg := by
  have sub : ∀ o ∈ outer, o ∈ outer' := fun o hm => by
    rcases ho with ⟨_, rfl⟩ | ⟨_, rfl⟩
    · exact List.mem_append_left _ hm
    · exact hm
  refine ⟨?_, ?_, ?_, ?_, ?_, ?_, ?_⟩
  · intro r' hr'
    rcases List.mem_append.mp hr' with z | z
    · exact h.nm r' z
    · rw [List.mem_singleton.mp z]; exact hr
  · intro n a t e
    rcases get_snoc e with z | ⟨_, z⟩
    · exact h.pts n a t z
    · exact hp a t z.symm
  · intro o hm
    rw [List.length_append, List.length_singleton]
    rcases ho with ⟨_, rfl⟩ | ⟨_, rfl⟩
    · rcases List.mem_append.mp hm with z | z
      · have := h.out o z; omega
      · rw [List.mem_singleton.mp z]; omega
    · have := h.out o hm; omega
  · intro b e
    obtain ⟨m, a, q⟩ := h.bgn b e
    exact ⟨sub b m, a, snoc_lt q⟩
  · intro i h0 h1
    rw [List.length_append, List.length_singleton] at h1
    by_cases hi : i = rows.length + 1
    · exact .inl ⟨r, by subst hi; exact snoc_eq _ _, hs⟩
    · rcases h.rch i h0 (by omega) with ⟨r', e, q⟩ | ⟨b, a, q, e⟩
      · exact .inl ⟨r', snoc_lt e, q⟩
      · exact .inr ⟨b, a, q, snoc_lt e⟩
  · intro o hm
    have old : o ∈ outer → bg = some o ∨ ∃ r', (rows ++ [r])[o]? = some r' ∧ r'.seq = true ∧ ((o + 1 ∈ outer' ∨ (o + 1 = (rows ++ [r]).length ∧ bg = none)) ∨ ∃ a t, r' = .pt a (t : Nat) ∧ o + 1 < t ∧ (t ∈ outer' ∨ (t = (rows ++ [r]).length ∧ bg = none))) := fun z => by
      rcases h.nxt o z with e | ⟨r', e, q, c⟩
      · exact .inl e
      · refine .inr ⟨r', snoc_lt e, q, ?_⟩
        have up : ∀ t : Nat, t ∈ outer ∨ (t = rows.length ∧ bg = none) → t ∈ outer' := fun t c => by
          rcases c with c | ⟨c, e2⟩
          · exact sub t c
          · rcases ho with ⟨_, rfl⟩ | ⟨e3, _⟩
            · subst c; simp
            · exact absurd e2 e3
        rcases c with c | ⟨a, t, e2, lt, c⟩
        · exact .inl (.inl (up _ c))
        · exact .inr ⟨a, t, e2, lt, .inl (up _ c)⟩
    rcases ho with ⟨e, rfl⟩ | ⟨e, rfl⟩
    · rcases List.mem_append.mp hm with z | z
      · exact old z
      · rw [List.mem_singleton.mp z]
        exact .inr ⟨r, snoc_eq _ _, hs, .inl (.inr ⟨by simp, e⟩)⟩
    · exact old hm
  · intro n t e
    rcases get_snoc e with z | ⟨_, z⟩
    · rcases h.gos n t z with q | ⟨o, m, q⟩
      · exact .inl q
      · exact .inr ⟨o, sub o m, q⟩
    · rw [← z] at hs; cases hs
/-- a stretch is begun -/
theorem Bld.opened {l : List Tx} {rows : List Row} {outer : List Nat} (h : Bld l rows outer none) {a : Ky} (ha : Opd l a) : Bld l (rows ++ [.pt a 0]) (outer ++ [rows.length]) (some rows.length) := by
  have q := h.add (r := .pt a 0) ha rfl (fun _ _ e => by cases e; exact Int.le_refl 0) (.inl ⟨rfl, rfl⟩)
  refine ⟨q.nm, q.pts, q.out, ?_, q.rch, ?_, q.gos⟩
  · intro b e
    obtain rfl := Option.some.inj e
    exact ⟨by simp, a, snoc_eq _ _⟩
  · intro o hm
    by_cases ho : o = rows.length
    · exact .inl (by rw [ho])
    · rcases h.nxt o (by simpa [ho] using hm) with e | ⟨r, e, s, c⟩
      · cases e
      · have up : ∀ t : Nat, t ∈ outer ∨ (t = rows.length ∧ (none : Option Nat) = none) → t ∈ outer ++ [rows.length] := fun t c => by
          rcases c with c | ⟨c, _⟩
          · exact List.mem_append_left _ c
          · subst c; simp
        refine .inr ⟨r, snoc_lt e, s, ?_⟩
        rcases c with c | ⟨a', t, e2, lt, c⟩
        · exact .inl (.inl (up _ c))
        · exact .inr ⟨a', t, e2, lt, .inl (up _ c)⟩
/-- a stretch is closed -/
theorem Bld.closed {l : List Tx} {rows : List Row} {outer : List Nat} {b : Nat} (h : Bld l rows outer (some b)) {a : Ky} (hb : rows[b]? = some (.pt a 0)) {r : Row} (hr : r = .en ∨ ∃ t, r = .go t ∧ (t < 0 ∨ ∃ o ∈ outer, t = (o : Int))) :
    Bld l ((rows ++ [r]).set b (.pt a ((rows.length + 1 : Nat) : Int))) outer none := by
  have hbl : b < rows.length := (List.getElem?_eq_some_iff.mp hb).1
  have ha : Opd l a := h.nm _ (List.mem_of_getElem? hb)
  have len : ((rows ++ [r]).set b (.pt a ((rows.length + 1 : Nat) : Int))).length = rows.length + 1 := by simp
  have atb : ((rows ++ [r]).set b (.pt a ((rows.length + 1 : Nat) : Int)))[b]? = some (.pt a ((rows.length + 1 : Nat) : Int)) := List.getElem?_set_self (by simp; omega)
  have ne : ∀ n : Nat, n ≠ b → ((rows ++ [r]).set b (.pt a ((rows.length + 1 : Nat) : Int)))[n]? = (rows ++ [r])[n]? := fun n hn => List.getElem?_set_ne (Ne.symm hn)
  refine ⟨?_, ?_, ?_, by simp, ?_, ?_, ?_⟩
  · intro r' hm
    rcases List.mem_or_eq_of_mem_set hm with z | z
    · rcases List.mem_append.mp z with z | z
      · exact h.nm r' z
      · rw [List.mem_singleton.mp z]
        rcases hr with rfl | ⟨t, rfl, _⟩ <;> trivial
    · rw [z]; exact ha
  · intro n a' t e
    by_cases hn : n = b
    · subst hn
      rw [atb] at e
      cases e
      omega
    · rw [ne n hn] at e
      rcases get_snoc e with z | ⟨_, z⟩
      · exact h.pts n a' t z
      · rcases hr with rfl | ⟨t, rfl, _⟩ <;> cases z
  · intro o hm
    have := h.out o hm
    omega
  · intro i h0 h1
    rw [len] at h1
    by_cases hi : i = rows.length + 1
    · subst hi
      exact .inr ⟨b, a, by omega, atb⟩
    · rcases h.rch i h0 (by omega) with ⟨r', e, q⟩ | ⟨c, a', q, e⟩
      · by_cases hc : i - 1 = b
        · exact .inl ⟨_, by rw [hc]; exact atb, rfl⟩
        · exact .inl ⟨r', by rw [ne _ hc]; exact snoc_lt e, q⟩
      · by_cases hc : c = b
        · subst hc
          rw [hb] at e
          have : (0 : Int) = (i : Int) := by injection e with e; injection e
          omega
        · exact .inr ⟨c, a', q, by rw [ne _ hc]; exact snoc_lt e⟩
  · intro o hm
    right
    by_cases ho : o = b
    · subst ho
      exact ⟨_, atb, rfl, .inr ⟨a, rows.length + 1, rfl, by omega, .inr ⟨len.symm, rfl⟩⟩⟩
    · rcases h.nxt o hm with e | ⟨r', e, s, c⟩
      · exact absurd (Option.some.inj e).symm ho
      · refine ⟨r', by rw [ne _ ho]; exact snoc_lt e, s, ?_⟩
        rcases c with c | ⟨a', t, e2, lt, c⟩
        · rcases c with c | ⟨_, e2⟩
          · exact .inl (.inl c)
          · cases e2
        · rcases c with c | ⟨_, e2⟩
          · exact .inr ⟨a', t, e2, lt, .inl c⟩
          · cases e2
  · intro n t e
    by_cases hn : n = b
    · subst hn; rw [atb] at e; cases e
    · rw [ne n hn] at e
      rcases get_snoc e with z | ⟨_, z⟩
      · exact h.gos n t z
      · rcases hr with rfl | ⟨t', rfl, q⟩
        · cases z
        · cases z; exact q
/-! ### programs -/
inductive Reach (rows : List Row) : Nat → Prop
  | zero : Reach rows 0
  | step {i j : Nat} {r : Row} : Reach rows j → rows[j]? = some r → (i : Int) ∈ fol j r → Reach rows i
inductive Ends (rows : List Row) : Nat → Prop
  | en {n : Nat} : rows[n]? = some .en → Ends rows n
  | step {i j : Nat} {r : Row} : rows[j]? = some r → (i : Int) ∈ fol j r → Ends rows i → Ends rows j
structure Prg (l : List Tx) (rows : List Row) : Prop where
  nm : ∀ r ∈ rows, RowN l r
  last : ∃ q, rows = q ++ [.en]
  go : ∀ (n : Nat) (t : Int), rows[n]? = some (.go t) → 0 ≤ t ∧ t < rows.length
  pt : ∀ (n : Nat) (a : Ky) (t : Int), rows[n]? = some (.pt a t) → 0 ≤ t ∧ t < rows.length ∧ t ≠ n + 1
  rch : ∀ i, i < rows.length → Reach rows i
  ends : ∀ i, i < rows.length → Ends rows i
/-- the rows turned to where they lead -/
def turn (many n : Nat) : Row → Row
  | .go t => if t < 0 then .go ((n : Int) + 1 + (-1 - t) % ((many : Int) - n - 1)) else .go t
  | .pt a t => .pt a (if t % many = (n : Int) + 1 then n else t % many)
  | r => r
def turnAll (many : Nat) : Nat → List Row → List Row
  | _, [] => []
  | n, r :: rs => turn many n r :: turnAll many (n + 1) rs
theorem turnAll_get (many : Nat) : ∀ (rs : List Row) (n i : Nat), (turnAll many n rs)[i]? = (rs[i]?).map (turn many (n + i))
  | [], n, i => rfl
  | r :: rs, n, 0 => rfl
  | r :: rs, n, i + 1 => by
    show (turnAll many (n + 1) rs)[i]? = _
    rw [turnAll_get many rs (n + 1) i, show n + 1 + i = n + (i + 1) by omega]
    rfl
theorem turnAll_len (many : Nat) : ∀ (rs : List Row) (n : Nat), (turnAll many n rs).length = rs.length
  | [], n => rfl
  | r :: rs, n => by rw [turnAll, List.length_cons, List.length_cons, turnAll_len]
theorem turnAll_snoc (many : Nat) (r : Row) : ∀ (rs : List Row) (n : Nat), turnAll many n (rs ++ [r]) = turnAll many n rs ++ [turn many (n + rs.length) r]
  | [], n => rfl
  | x :: rs, n => by
    rw [List.cons_append, turnAll, turnAll_snoc many r rs (n + 1), turnAll, List.cons_append, List.length_cons, show n + 1 + rs.length = n + (rs.length + 1) by omega]
theorem Bld.prg {l : List Tx} {rows : List Row} {outer : List Nat} (h : Bld l rows outer none) : Prg l (turnAll (rows.length + 1) 0 (rows ++ [.en])) := by
  have len : (turnAll (rows.length + 1) 0 (rows ++ [.en])).length = rows.length + 1 := by rw [turnAll_len]; simp
  have get : ∀ (n : Nat) (r : Row), rows[n]? = some r → (turnAll (rows.length + 1) 0 (rows ++ [.en]))[n]? = some (turn (rows.length + 1) n r) := fun n r e => by
    rw [turnAll_get, snoc_lt e, Nat.zero_add]; rfl
  have getl : (turnAll (rows.length + 1) 0 (rows ++ [.en]))[rows.length]? = some .en := by
    rw [turnAll_get, snoc_eq]; rfl
  have inv : ∀ (n : Nat) (r : Row), (turnAll (rows.length + 1) 0 (rows ++ [.en]))[n]? = some r → (n = rows.length ∧ r = .en) ∨ ∃ r', rows[n]? = some r' ∧ r = turn (rows.length + 1) n r' := fun n r e => by
    rw [turnAll_get, Nat.zero_add] at e
    obtain ⟨r', e1, e2⟩ := Option.map_eq_some_iff.mp e
    rcases get_snoc e1 with z | ⟨z1, z2⟩
    · exact .inr ⟨r', z, e2.symm⟩
    · subst z2; exact .inl ⟨z1, e2.symm⟩
  have seqf : ∀ (n : Nat) (r : Row), r.seq = true → ((n + 1 : Nat) : Int) ∈ fol n (turn (rows.length + 1) n r) := fun n r hs => by
    cases r <;> first | (simp [turn, fol]; done) | cases hs
  have ptf : ∀ (n : Nat) (a : Ky) (t : Nat), n + 1 < t → t ≤ rows.length → (t : Int) ∈ fol n (turn (rows.length + 1) n (.pt a t)) := fun n a t h1 h2 => by
    have e1 : (t : Int) % ((rows.length + 1 : Nat) : Int) = t := Int.emod_eq_of_lt (by omega) (by omega)
    have e2 : ¬ (t : Int) = (n : Int) + 1 := by omega
    simp only [turn, e1, if_neg e2, fol, List.mem_cons, List.not_mem_nil, or_false]
    exact .inr trivial
  refine ⟨?_, ?_, ?_, ?_, ?_, ?_⟩
  · intro r hm
    obtain ⟨n, e⟩ := List.getElem?_of_mem hm
    rcases inv n r e with ⟨_, rfl⟩ | ⟨r', e2, rfl⟩
    · trivial
    · have q := h.nm r' (List.mem_of_getElem? e2)
      cases r' with
      | go t => simp only [turn]; split <;> trivial
      | pt a t => exact q
      | _ => exact q
  · exact ⟨turnAll (rows.length + 1) 0 rows, by rw [turnAll_snoc]; rfl⟩
  · intro n t e
    rw [len]
    rcases inv n _ e with ⟨_, z⟩ | ⟨r', e2, z⟩
    · cases z
    · have hn := (List.getElem?_eq_some_iff.mp e2).1
      cases r' with
      | go t' =>
        simp only [turn] at z
        split at z
        · injection z with z
          have h1 := Int.emod_nonneg (-1 - t') (show ((rows.length + 1 : Nat) : Int) - n - 1 ≠ 0 by omega)
          have h2 := Int.emod_lt_of_pos (-1 - t') (show 0 < ((rows.length + 1 : Nat) : Int) - n - 1 by omega)
          omega
        · injection z with z
          subst z
          rcases h.gos n _ e2 with q | ⟨o, m, q⟩
          · omega
          · have := h.out o m
            omega
      | _ => cases z
  · intro n a t e
    rw [len]
    rcases inv n _ e with ⟨_, z⟩ | ⟨r', e2, z⟩
    · cases z
    · have hn := (List.getElem?_eq_some_iff.mp e2).1
      cases r' with
      | pt a' t' =>
        simp only [turn] at z
        injection z with _ z
        have h1 := Int.emod_nonneg t' (show ((rows.length + 1 : Nat) : Int) ≠ 0 by omega)
        have h2 := Int.emod_lt_of_pos t' (show 0 < ((rows.length + 1 : Nat) : Int) by omega)
        split at z <;> omega
      | go t' => simp only [turn] at z; split at z <;> cases z
      | _ => cases z
  · intro i hi
    rw [len] at hi
    induction i using Nat.strongRecOn with
    | _ i ih =>
      by_cases h0 : i = 0
      · subst h0; exact .zero
      · rcases h.rch i (by omega) (by omega) with ⟨r, e, s⟩ | ⟨b, a, lt, e⟩
        · refine .step (ih (i - 1) (by omega) (by omega)) (get _ _ e) ?_
          have := seqf (i - 1) r s
          rw [show i - 1 + 1 = i by omega] at this
          exact this
        · exact .step (ih b (by omega) (by omega)) (get _ _ e) (ptf b a i lt (by omega))
  · -- outer rows first, from behind; then all
    have lastE : Ends (turnAll (rows.length + 1) 0 (rows ++ [.en])) rows.length := .en getl
    have outE : ∀ k o, o ∈ outer → rows.length - o ≤ k → Ends (turnAll (rows.length + 1) 0 (rows ++ [.en])) o := by
      intro k
      induction k with
      | zero => intro o hm hk; have := h.out o hm; omega
      | succ k ih =>
        intro o hm hk
        rcases h.nxt o hm with e | ⟨r, e, s, c⟩
        · cases e
        · have ho := h.out o hm
          have go : ∀ t : Nat, o < t → (t : Int) ∈ fol o (turn (rows.length + 1) o r) → t ∈ outer ∨ (t = rows.length ∧ (none : Option Nat) = none) → Ends (turnAll (rows.length + 1) 0 (rows ++ [.en])) o := fun t lt hf c => by
            rcases c with c | ⟨c, _⟩
            · exact .step (get _ _ e) hf (ih t c (by omega))
            · subst c; exact .step (get _ _ e) hf lastE
          rcases c with c | ⟨a, t, e2, lt, c⟩
          · exact go (o + 1) (by omega) (seqf o r s) c
          · refine go t (by omega) ?_ c
            rw [e2]
            refine ptf o a t lt ?_
            rcases c with c | ⟨c, _⟩
            · exact Nat.le_of_lt (h.out t c)
            · omega
    have allE : ∀ k i, i ≤ rows.length → rows.length - i ≤ k → Ends (turnAll (rows.length + 1) 0 (rows ++ [.en])) i := by
      intro k
      induction k with
      | zero => intro i hi hk; rw [show i = rows.length by omega]; exact lastE
      | succ k ih =>
        intro i hi hk
        by_cases h1 : i = rows.length
        · rw [h1]; exact lastE
        · have hlt : i < rows.length := by omega
          have e : rows[i]? = some rows[i] := List.getElem?_eq_getElem hlt
          generalize rows[i] = r at e
          by_cases hs : r.seq = true
          · exact .step (get _ _ e) (seqf i r hs) (ih (i + 1) (by omega) (by omega))
          · cases r with
            | en => exact .en (get _ _ e)
            | go t =>
              rcases h.gos i t e with q | ⟨o, m, q⟩
              · have h1 := Int.emod_nonneg (-1 - t) (show ((rows.length + 1 : Nat) : Int) - i - 1 ≠ 0 by omega)
                have h2 := Int.emod_lt_of_pos (-1 - t) (show 0 < ((rows.length + 1 : Nat) : Int) - i - 1 by omega)
                obtain ⟨m, hm⟩ : ∃ m : Nat, (i : Int) + 1 + (-1 - t) % (((rows.length + 1 : Nat) : Int) - i - 1) = m := ⟨((i : Int) + 1 + (-1 - t) % (((rows.length + 1 : Nat) : Int) - i - 1)).toNat, by omega⟩
                refine .step (i := m) (get _ _ e) ?_ (ih m (by omega) (by omega))
                simp only [turn, if_pos q, fol, List.mem_singleton]
                exact hm.symm
              · subst q
                refine .step (i := o) (get _ _ e) ?_ (outE _ o m (Nat.le_refl _))
                have : ¬ ((o : Int) < 0) := by omega
                simp only [turn, if_neg this, fol, List.mem_singleton]
            | _ => exact absurd rfl hs
    intro i hi
    rw [len] at hi
    exact allE _ i (by omega) (Nat.le_refl _)
/-- a row further down by one -/
def shift : Row → Row
  | .go t => .go (t + 1)
  | .pt a t => .pt a (t + 1)
  | r => r
theorem fol_shift {n i : Nat} {r : Row} (h : (i : Int) ∈ fol n r) : ((i + 1 : Nat) : Int) ∈ fol (n + 1) (shift r) := by
  cases r <;> simp [fol, shift] at h ⊢ <;> omega
def tst (nm : Tx) (q : List Row) : List Row := .go (q.length + 1) :: (q.map shift ++ [.pt (.inr nm) 1, .en])
theorem Prg.tested {l : List Tx} {q : List Row} (h : Prg l (q ++ [.en])) {nm : Tx} (hn : nm ∈ l) : Prg l (tst nm q) := by
  have len : (tst nm q).length = q.length + 3 := by simp [tst]
  have g0 : (tst nm q)[0]? = some (.go (q.length + 1)) := rfl
  have gs : ∀ (n : Nat) (r : Row), q[n]? = some r → (tst nm q)[n + 1]? = some (shift r) := fun n r e => by
    have hn := (List.getElem?_eq_some_iff.mp e).1
    show (q.map shift ++ [.pt (.inr nm) 1, .en])[n]? = _
    rw [List.getElem?_append_left (by simpa using hn), List.getElem?_map, e]; rfl
  have gp : (tst nm q)[q.length + 1]? = some (.pt (.inr nm) 1) := by
    show (q.map shift ++ [.pt (.inr nm) 1, .en])[q.length]? = _
    rw [List.getElem?_append_right (by simp), List.length_map, Nat.sub_self]; rfl
  have ge : (tst nm q)[q.length + 2]? = some .en := by
    show (q.map shift ++ [.pt (.inr nm) 1, .en])[q.length + 1]? = _
    rw [List.getElem?_append_right (by simp), List.length_map, show q.length + 1 - q.length = 1 by omega]; rfl
  have inv : ∀ (n : Nat) (r : Row), (tst nm q)[n]? = some r → (n = 0 ∧ r = .go (q.length + 1)) ∨ (∃ k r', n = k + 1 ∧ q[k]? = some r' ∧ r = shift r') ∨ (n = q.length + 1 ∧ r = .pt (.inr nm) 1) ∨ (n = q.length + 2 ∧ r = .en) := fun n r e => by
    have hn := (List.getElem?_eq_some_iff.mp e).1
    rw [len] at hn
    cases n with
    | zero => exact .inl ⟨rfl, (Option.some.inj e).symm⟩
    | succ k =>
      right
      by_cases h1 : k < q.length
      · have e1 := List.getElem?_eq_getElem h1
        have := gs k _ e1
        rw [e] at this
        exact .inl ⟨k, _, rfl, e1, Option.some.inj this⟩
      · by_cases h2 : k = q.length
        · subst h2; rw [gp] at e; exact .inr (.inl ⟨rfl, (Option.some.inj e).symm⟩)
        · obtain rfl : k = q.length + 1 := by omega
          rw [ge] at e; exact .inr (.inr ⟨rfl, (Option.some.inj e).symm⟩)
  have enE : Ends (tst nm q) (q.length + 2) := .en ge
  have ptE : Ends (tst nm q) (q.length + 1) := .step (i := q.length + 2) gp (by simp only [fol, List.mem_cons]; exact .inl (by omega)) enE
  have ptR : Reach (tst nm q) (q.length + 1) := .step .zero g0 (by simp [fol])
  have upR : ∀ i, Reach (q ++ [.en]) i → Reach (tst nm q) (i + 1) := fun i hr => by
    induction hr with
    | zero => exact .step ptR gp (by simp [fol])
    | step _ e f ih =>
      rcases get_snoc e with z | ⟨_, z⟩
      · exact .step ih (gs _ _ z) (fol_shift f)
      · subst z; cases f
  have upE : ∀ i, Ends (q ++ [.en]) i → Ends (tst nm q) (i + 1) := fun i hr => by
    induction hr with
    | en e =>
      rcases get_snoc e with z | ⟨z, _⟩
      · exact .en (gs _ _ z)
      · subst z; exact ptE
    | step e f _ ih =>
      rcases get_snoc e with z | ⟨_, z⟩
      · exact .step (gs _ _ z) (fol_shift f) ih
      · subst z; cases f
  have l1 : (q ++ [Row.en]).length = q.length + 1 := by simp
  refine ⟨?_, ⟨.go (q.length + 1) :: (q.map shift ++ [.pt (.inr nm) 1]), by simp [tst]⟩, ?_, ?_, ?_, ?_⟩
  · intro r hm
    obtain ⟨n, e⟩ := List.getElem?_of_mem hm
    rcases inv n r e with ⟨_, rfl⟩ | ⟨k, r', _, e2, rfl⟩ | ⟨_, rfl⟩ | ⟨_, rfl⟩
    · trivial
    · have := h.nm r' (List.mem_append_left _ (List.mem_of_getElem? e2))
      cases r' <;> exact this
    · exact .inl ⟨nm, hn, rfl⟩
    · trivial
  · intro n t e
    rw [len]
    rcases inv n _ e with ⟨_, z⟩ | ⟨k, r', _, e2, z⟩ | ⟨_, z⟩ | ⟨_, z⟩
    · injection z with z; omega
    · cases r' with
      | go t' =>
        have := h.go k t' (snoc_lt e2)
        simp only [shift] at z
        injection z with z
        omega
      | _ => cases z
    · cases z
    · cases z
  · intro n a t e
    rw [len]
    rcases inv n _ e with ⟨_, z⟩ | ⟨k, r', hk, e2, z⟩ | ⟨hk, z⟩ | ⟨_, z⟩
    · cases z
    · cases r' with
      | pt a' t' =>
        have := h.pt k a' t' (snoc_lt e2)
        simp only [shift] at z
        injection z with _ z
        omega
      | _ => cases z
    · injection z with _ z; omega
    · cases z
  · intro i hi
    rw [len] at hi
    cases i with
    | zero => exact .zero
    | succ k =>
      by_cases h2 : k = q.length + 1
      · subst h2
        exact .step ptR gp (by simp only [fol, List.mem_cons]; exact .inl (by omega))
      · exact upR k (h.rch k (by omega))
  · intro i hi
    rw [len] at hi
    cases i with
    | zero => exact .step (i := q.length + 1) g0 (by simp [fol]) ptE
    | succ k =>
      by_cases h2 : k = q.length + 1
      · subst h2; exact enE
      · exact upE k (h.ends k (by omega))
theorem Prg.pos {l : List Tx} {rows : List Row} (h : Prg l rows) : 0 < rows.length := by
  obtain ⟨q, rfl⟩ := h.last
  simp
/-! ### data of rows -/
theorem d_rk (n s : Tx) (a b : Ky) : (Row.rk n s a b).d = .tup [.str w_rk, .str n, .str s, kyD a, kyD b] := rfl
theorem d_cp (n : Tx) (a : Ky) : (Row.cp n a).d = .tup [.str w_cp, .str n, kyD a] := rfl
theorem d_sy (a : Ky) : (Row.sy a).d = .tup [.str w_sy, kyD a] := rfl
theorem d_go (t : Int) : (Row.go t).d = .tup [.str w_go, .int t] := rfl
theorem d_pt (a : Ky) (t : Int) : (Row.pt a t).d = .tup [.str w_pt, kyD a, .int t] := rfl
theorem d_en : Row.en.d = .tup [.str w_en] := rfl
theorem prs_get : ∀ (l : List D) (k i : Nat), (prs k l)[i]? = (l[i]?).map fun d => .tup [.int ((k + i : Nat) : Int), d]
  | [], k, i => rfl
  | d :: l, k, 0 => rfl
  | d :: l, k, i + 1 => by
    show (prs (k + 1) l)[i]? = _
    rw [prs_get l (k + 1) i, show k + 1 + i = k + (i + 1) by omega]
    rfl
theorem prs_len : ∀ (l : List D) (k : Nat), (prs k l).length = l.length
  | [], k => rfl
  | d :: l, k => by rw [prs, List.length_cons, List.length_cons, prs_len]
@[simp] theorem cut_m2 {α : Type} (a b : α) : cut [a, b] none (some (-1)) = [a] := rfl
@[simp] theorem cut_m3 {α : Type} (a b c : α) : cut [a, b, c] none (some (-1)) = [a, b] := rfl
theorem cut_last {α : Type} (l : List α) (a : α) : cut (l ++ [a]) none (some (-1)) = l := by
  have e : sIx (l ++ [a]).length (l ++ [a]).length (some (-1)) = l.length := by
    unfold sIx
    dsimp only
    rw [if_pos (by decide), List.length_append, List.length_singleton]
    omega
  unfold cut
  rw [e]
  simp [sIx]
@[simp] theorem at_m2 {α : Type} (a b : α) : atI [a, b] (-1) = some b := rfl
@[simp] theorem at_m3 {α : Type} (a b c : α) : atI [a, b, c] (-1) = some c := rfl
/-- lists of single data against one another -/
theorem shp_ks {l : List Ky} (h : l.all kOk = true) : shp (.list (l.map kp)) = true := by
  unfold shp PySem.SeqAt.shaped
  simp [PySem.PyData.canLay0, PySem.PyData.depth, lay_ks h, dep_ks]
theorem eq_lks {m n : Nat} {A B : List Ky} {S : Store} (ha : lstOf S m = some (A.map kyD)) (hb : lstOf S n = some (B.map kyD)) (hA : A.all kOk = true) (hB : B.all kOk = true) : pyEq (.ref m) (.ref n) S = some (decide (A = B)) := by
  have look : ∀ {n A}, lstOf S n = some (List.map kyD A) → lookP 8 S n = some (.list (A.map kp)) := fun {n A} h => by
    unfold lookP
    unfold lstOf at h
    cases hn : S[n]? with
    | none => rw [hn] at h; cases h
    | some o =>
      rw [hn] at h
      cases o with
      | lst l => dsimp only at h ⊢; obtain rfl := Option.some.inj h; rw [toPs_k]; rfl
      | fls l => dsimp only at h ⊢; obtain rfl := Option.some.inj h; rw [toPs_k]; rfl
      | _ => cases h
  unfold pyEq
  have e : scq (.ref m) (.ref n) = none := rfl
  rw [e]
  simp only [pd, toP, look ha, look hb, shp_ks hA, shp_ks hB, and_self, if_true]
  unfold PySem.PyData.eqv
  rw [eqv_ks]
theorem eq_ints {m n : Nat} {A B : List Int} {S : Store} (ha : lstOf S m = some (A.map D.int)) (hb : lstOf S n = some (B.map D.int)) : pyEq (.ref m) (.ref n) S = some (decide (A = B)) := by
  have e : ∀ A : List Int, A.map D.int = (A.map Sum.inl).map kyD := fun A => by rw [List.map_map]; rfl
  have o : ∀ A : List Int, (A.map (Sum.inl : Int → Ky)).all kOk = true := fun A => by rw [List.all_map]; simp [kOk]
  rw [e] at ha hb
  rw [eq_lks ha hb (o A) (o B)]
  congr 1
  rw [decide_eq_decide]
  exact List.map_inj_right fun x y h => by injection h
/-! ### truths in lists -/
theorem toPs_b (rd : Nat → Option PySem.PyData) (l : List Bool) : toPs rd (l.map .bl) = some (l.map .bool) := by
  induction l with
  | nil => rfl
  | cons k r ih => rw [List.map_cons, toPs, toP, Option.bind_some, ih]; rfl
theorem eqv_bs (a b : List Bool) : PySem.PyData.eqvAll (a.map .bool) (b.map .bool) = decide (a = b) := by
  induction a generalizing b with
  | nil => cases b <;> simp [PySem.PyData.eqvAll]
  | cons x r ih =>
    cases b with
    | nil => simp [PySem.PyData.eqvAll]
    | cons y q =>
      have : (x == y) = decide (x = y) := by cases x <;> cases y <;> rfl
      simp [PySem.PyData.eqvAll, PySem.PyData.eqv, this, ih]
theorem shp_bs (l : List Bool) : shp (.list (l.map .bool)) = true := by
  have h1 : PySem.PyData.canLayAll0 (l.map .bool) = true := by
    induction l with
    | nil => simp [PySem.PyData.canLayAll0]
    | cons k r ih => simp [PySem.PyData.canLayAll0, PySem.PyData.canLay0, ih]
  have h2 : PySem.PyData.depthAll (l.map .bool) = 0 := by
    induction l with
    | nil => simp [PySem.PyData.depthAll]
    | cons k r ih =>
      simp only [List.map_cons, PySem.PyData.canLayAll0, PySem.PyData.canLay0, Bool.true_and] at h1
      simp [PySem.PyData.depthAll, PySem.PyData.depth, ih h1]
  unfold shp PySem.SeqAt.shaped
  simp [PySem.PyData.canLay0, PySem.PyData.depth, h1, h2]
theorem eq_bls {m n : Nat} {A B : List Bool} {S : Store} (ha : lstOf S m = some (A.map D.bl)) (hb : lstOf S n = some (B.map D.bl)) : pyEq (.ref m) (.ref n) S = some (decide (A = B)) := by
  have look : ∀ {n A}, lstOf S n = some (List.map D.bl A) → lookP 8 S n = some (.list (A.map .bool)) := fun {n A} h => by
    unfold lookP
    unfold lstOf at h
    cases hn : S[n]? with
    | none => rw [hn] at h; cases h
    | some o =>
      rw [hn] at h
      cases o with
      | lst l => dsimp only at h ⊢; obtain rfl := Option.some.inj h; rw [toPs_b]; rfl
      | fls l => dsimp only at h ⊢; obtain rfl := Option.some.inj h; rw [toPs_b]; rfl
      | _ => cases h
  unfold pyEq
  have e : scq (.ref m) (.ref n) = none := rfl
  rw [e]
  simp only [pd, toP, look ha, look hb, shp_bs, and_self, if_true]
  unfold PySem.PyData.eqv
  rw [eqv_bs]
theorem in_ints (n : Int) (l : List Int) (S : Store) : inSeq (.int n) (l.map .int) S = some (dec (n ∈ l)) := by
  have q := in_ks (.inl n) (l.map .inl) S
  rw [List.map_map] at q
  have e : dec ((Sum.inl n : Ky) ∈ l.map Sum.inl) = dec (n ∈ l) := by
    congr 1
    simp
  rw [e] at q
  exact q
/-! ### ways -/
/-- number j of a list: a row's, and one that the number ahead leads to -/
def At (rows : List Row) (w : List Int) (j : Nat) : Prop := ∃ n, w[j]? = some n ∧ 0 ≤ n ∧ n < rows.length ∧ (0 < j → ∃ (a : Int) (r : Row), w[j - 1]? = some a ∧ rows[a.toNat]? = some r ∧ n ∈ fol a.toNat r)
def IsWay (rows : List Row) (w : List Int) : Prop := w ≠ [] ∧ ∀ j, j < w.length → At rows w j
def IsEnd (rows : List Row) (w : List Int) : Prop := w[0]? = some 0 ∧ ∃ n : Int, w[w.length - 1]? = some n ∧ rows[n.toNat]? = some .en
theorem Prg.fol_in {l : List Tx} {rows : List Row} (h : Prg l rows) {n : Nat} {r : Row} {m : Int} (e : rows[n]? = some r) (f : m ∈ fol n r) : 0 ≤ m ∧ m < rows.length := by
  have hn := (List.getElem?_eq_some_iff.mp e).1
  have nx : r ≠ .en → n + 1 < rows.length := fun ne => by
    obtain ⟨q, rfl⟩ := h.last
    rcases get_snoc e with z | ⟨_, z⟩
    · have := (List.getElem?_eq_some_iff.mp z).1
      rw [List.length_append, List.length_singleton]; omega
    · exact absurd z ne
  cases r with
  | go t => have := h.go n t e; simp only [fol, List.mem_singleton] at f; omega
  | pt a t =>
    have := h.pt n a t e
    have := nx (by simp)
    simp only [fol, List.mem_cons, List.not_mem_nil, or_false] at f
    rcases f with f | f <;> omega
  | en => cases f
  | rk _ _ _ _ => have := nx (by simp); simp only [fol, List.mem_singleton] at f; omega
  | cp _ _ => have := nx (by simp); simp only [fol, List.mem_singleton] at f; omega
  | sy _ => have := nx (by simp); simp only [fol, List.mem_singleton] at f; omega
theorem IsWay.snoc {l : List Tx} {rows : List Row} {w : List Int} (h : IsWay rows w) (p : Prg l rows) {a m : Int} {r : Row} (ha : w[w.length - 1]? = some a) (hr : rows[a.toNat]? = some r) (f : m ∈ fol a.toNat r) : IsWay rows (w ++ [m]) := by
  have hp : 0 < w.length := List.length_pos_iff.mpr h.1
  refine ⟨by simp, fun j hj => ?_⟩
  rw [List.length_append, List.length_singleton] at hj
  have old : ∀ i, i < w.length → (w ++ [m])[i]? = w[i]? := fun i hi => List.getElem?_append_left hi
  by_cases h1 : j < w.length
  · obtain ⟨n, e, a0, a1, q⟩ := h.2 j h1
    refine ⟨n, by rw [old j h1, e], a0, a1, fun h0 => ?_⟩
    obtain ⟨a, r, z, q⟩ := q h0
    exact ⟨a, r, by rw [old _ (by omega), z], q⟩
  · obtain rfl : j = w.length := by omega
    have := p.fol_in hr f
    exact ⟨m, snoc_eq _ _, this.1, this.2, fun _ => ⟨a, r, by rw [old _ (by omega), ha], hr, f⟩⟩
theorem IsWay.one {rows : List Row} {n : Int} (h : 0 ≤ n ∧ n < rows.length) : IsWay rows [n] := by
  refine ⟨by simp, fun j hj => ?_⟩
  have : j = 0 := by simpa using hj
  subst this
  exact ⟨n, rfl, h.1, h.2, fun z => absurd z (by decide)⟩
theorem at_m1 {α : Type} {l : List α} (h : l ≠ []) : atI l (-1) = l[l.length - 1]? := by
  have hp : 0 < l.length := List.length_pos_iff.mpr h
  unfold atI ixN
  rw [if_neg (by decide), if_pos (by omega), Option.bind_some]
  congr 1
  omega
end Mi

set_option Elab.async false
set_option linter.all false
/-! rows come to from one, each by the first that led to it -/
namespace Mi
/-! ### dict displays by simp -/
@[simp] theorem mDis_one (a b : EM) (fr : Fr) (S : Store) : mDis [(a, b)] fr S = (a fr (S ++ [.dK []])).bind fun x S1 => (b fr S1).bind fun y S2 => disK S.length S2 (kvsM [(x, y)]) S2[S.length]? := by
  show ((a fr (S ++ [.dK []])).bind fun x S1 => (b fr S1).bind fun y S2 => (mPairs [] fr S2).bind fun ps S3 => .ok ((x, y) :: ps) S3).bind _ = _
  rw [Res.bind_assoc]
  congr 1; funext x S1
  rw [Res.bind_assoc]
  congr 1
theorem dis_one (n : Nat) (S : Store) (k : Ky) (v : D) (h : S[n]? = some (.dK [])) : disK n S (kvsM [(kyD k, v)]) S[n]? = .ok (.ref n) (S.set n (.dK [(k, v)])) := by
  rw [h]
  unfold kvsM
  rw [kyOf_kyD]
  rfl
/-! ### what a dict of numbers holds -/
def oD : Option Int → D
  | none => .non
  | some a => .int a
abbrev CM := List (Int × Option Int)
def cmD (cm : CM) : O := .dK (cm.map fun p => (.inl p.1, oD p.2))
theorem cm_get (cm : CM) (x : Int) : dGet (cm.map fun p => ((Sum.inl p.1 : Ky), oD p.2)) (.inl x) = (dGet cm x).map oD := by
  unfold dGet
  induction cm with
  | nil => rfl
  | cons p r ih =>
    by_cases h : p.1 = x
    · subst h; simp
    · have h2 : ¬ ((Sum.inl p.1 : Ky) = Sum.inl x) := fun z => h (Sum.inl.inj z)
      simp [List.find?_cons, h]
      simpa using ih
theorem cm_put (cm : CM) (x : Int) (v : Option Int) (h : dGet cm x = none) : dPut (cm.map fun p => ((Sum.inl p.1 : Ky), oD p.2)) (.inl x) (oD v) = (cm ++ [(x, v)]).map fun p => ((Sum.inl p.1 : Ky), oD p.2) := by
  unfold dPut
  rw [if_neg]
  · simp
  · unfold dGet at h
    simp only [Option.map_eq_none_iff, List.find?_eq_none, decide_eq_true_eq] at h
    simp only [List.any_map, List.any_eq_true, Function.comp, decide_eq_true_eq, not_exists, not_and]
    intro p hp z
    exact h p hp (Sum.inl.inj z)
theorem dGet_some {cm : CM} {x : Int} : (dGet cm x).isSome = true ↔ x ∈ cm.map Prod.fst := by
  unfold dGet
  rw [Option.isSome_map, List.find?_isSome]
  simp
theorem dGet_app {cm : CM} {x m : Int} {v : Option Int} (h : x ∈ cm.map Prod.fst) : dGet (cm ++ [(m, v)]) x = dGet cm x := by
  have := dGet_some.mpr h
  unfold dGet at this ⊢
  rw [List.find?_append]
  rw [Option.isSome_map] at this
  obtain ⟨p, hp⟩ := Option.isSome_iff_exists.mp this
  rw [hp]; rfl
theorem dGet_new {cm : CM} {m : Int} {v : Option Int} (h : m ∉ cm.map Prod.fst) : dGet (cm ++ [(m, v)]) m = some v := by
  unfold dGet
  rw [List.find?_append]
  have : cm.find? (fun kv => decide (kv.1 = m)) = none := by
    rw [List.find?_eq_none]
    intro p hp
    simp only [decide_eq_true_eq]
    intro z
    exact h (List.mem_map.mpr ⟨p, hp, z⟩)
  rw [this]
  simp
/-! ### trees -/
inductive Tree (rows : List Row) (st : Int) : CM → Prop
  | base : 0 ≤ st → st < rows.length → Tree rows st [(st, none)]
  | snoc {cm : CM} {h m : Int} {r : Row} : Tree rows st cm → h ∈ cm.map Prod.fst → m ∉ cm.map Prod.fst → rows[h.toNat]? = some r → m ∈ fol h.toNat r → Tree rows st (cm ++ [(m, some h)])
def Up (cm : CM) : List Int → Prop
  | [] => False
  | [x] => dGet cm x = some none
  | x :: y :: r => dGet cm x = some (some y) ∧ Up cm (y :: r)
theorem Up.keys {cm : CM} : ∀ {w : List Int}, Up cm w → ∀ x ∈ w, x ∈ cm.map Prod.fst
  | [], h, _, _ => h.elim
  | [x], h, y, hy => by
    rw [List.mem_singleton.mp hy]
    exact dGet_some.mp (by rw [show dGet cm x = some none from h]; rfl)
  | x :: y :: r, h, z, hz => by
    rcases List.mem_cons.mp hz with e | e
    · rw [e]; exact dGet_some.mp (by rw [h.1]; rfl)
    · exact Up.keys h.2 z e
theorem Up.mono {cm : CM} {m : Int} {v : Option Int} : ∀ {w : List Int}, Up cm w → Up (cm ++ [(m, v)]) w
  | [], h => h
  | [x], h => by
    show dGet _ x = _
    rw [dGet_app (Up.keys (w := [x]) h x (by simp))]; exact h
  | x :: y :: r, h => ⟨by rw [dGet_app (Up.keys h x (by simp))]; exact h.1, Up.mono h.2⟩
theorem Tree.inr {l : List Tx} {rows : List Row} {st : Int} {cm : CM} (t : Tree rows st cm) (pg : Prg l rows) : ∀ x ∈ cm.map Prod.fst, (0 : Int) ≤ x ∧ x < (rows.length : Int) := by
  induction t with
  | base h0 h1 => intro x hx; rw [List.mem_singleton.mp hx]; exact ⟨h0, h1⟩
  | snoc _ _ _ hr hf ih =>
    intro x hx
    rw [List.map_append] at hx
    rcases List.mem_append.mp hx with z | z
    · exact ih x z
    · rw [List.mem_singleton.mp z]; exact pg.fol_in hr hf
theorem Tree.nodup {rows : List Row} {st : Int} {cm : CM} (t : Tree rows st cm) : (cm.map Prod.fst).Nodup := by
  induction t with
  | base => simp
  | @snoc cm h m r _ _ hm _ _ ih =>
    rw [List.map_append, List.nodup_append]
    refine ⟨ih, by simp, ?_⟩
    intro a ha b hb
    rw [List.mem_singleton.mp hb]
    intro z
    have z : a = m := z
    exact hm (z ▸ ha)
theorem nodup_range : ∀ (n : Nat) (l : List Int), l.Nodup → (∀ x ∈ l, 0 ≤ x ∧ x < n) → l.length ≤ n := by
  intro n
  induction n with
  | zero =>
    intro l _ h
    cases l with
    | nil => simp
    | cons x r => have := h x (by simp); omega
  | succ n ih =>
    intro l nd h
    by_cases hn : (n : Int) ∈ l
    · have h2 := ih (l.erase n) (nd.erase _) (fun x hx => by
        have h3 := h x (List.mem_of_mem_erase hx)
        have h4 : x ≠ n := fun z => by
          subst z
          exact (List.Nodup.not_mem_erase nd) hx
        omega)
      have := List.length_erase_of_mem hn
      have : 0 < l.length := List.length_pos_of_mem hn
      omega
    · have h2 := ih l nd (fun x hx => by
        have h3 := h x hx
        have h4 : x ≠ n := fun z => hn (z ▸ hx)
        omega)
      omega
theorem Tree.len {l : List Tx} {rows : List Row} {st : Int} {cm : CM} (t : Tree rows st cm) (pg : Prg l rows) : cm.length ≤ rows.length := by
  have := nodup_range rows.length _ t.nodup (t.inr pg)
  rwa [List.length_map] at this
/-- the way that a tree tells -/
theorem Tree.way {l : List Tx} {rows : List Row} {st : Int} {cm : CM} (t : Tree rows st cm) (pg : Prg l rows) : ∀ n ∈ cm.map Prod.fst, ∃ w, IsWay rows w ∧ w[0]? = some st ∧ w[w.length - 1]? = some n ∧ w.length ≤ cm.length ∧ Up cm w.reverse := by
  induction t with
  | base h0 h1 =>
    intro n hn
    rw [List.mem_singleton.mp hn]
    refine ⟨[st], IsWay.one ⟨h0, h1⟩, rfl, rfl, Nat.le_refl _, ?_⟩
    show dGet [(st, none)] st = some none
    simp [dGet]
  | @snoc cm h m r t hh hm hr hf ih =>
    intro n hn
    rw [List.map_append] at hn
    rcases List.mem_append.mp hn with z | z
    · obtain ⟨w, a, b, c, d, u⟩ := ih n z
      exact ⟨w, a, b, c, by rw [List.length_append, List.length_singleton]; omega, u.mono⟩
    · rw [List.mem_singleton.mp z]
      obtain ⟨w, a, b, c, d, u⟩ := ih h hh
      have hp : 0 < w.length := List.length_pos_iff.mpr a.1
      refine ⟨w ++ [m], a.snoc pg c hr hf, by rw [List.getElem?_append_left hp]; exact b, by simp, by simp; omega, ?_⟩
      rw [List.reverse_append, List.reverse_singleton]
      have hd : w.reverse[0]? = some h := by
        rw [List.getElem?_reverse hp]; exact c
      have um := u.mono (m := m) (v := some h)
      cases hw : w.reverse with
      | nil => rw [hw] at hd; cases hd
      | cons y q =>
        rw [hw] at hd um
        obtain rfl := Option.some.inj hd
        exact ⟨dGet_new hm, um⟩
/-- what is done, what waits -/
structure Bfs (rows : List Row) (st : Int) (cm : CM) (done wt : List Int) : Prop where
  tree : Tree rows st cm
  ks : cm.map Prod.fst = done ++ wt
  cl : ∀ h ∈ done, ∀ r m, rows[h.toNat]? = some r → m ∈ fol h.toNat r → m ∈ cm.map Prod.fst
theorem Tree.st_in {rows : List Row} {st : Int} {cm : CM} (t : Tree rows st cm) : st ∈ cm.map Prod.fst := by
  induction t with
  | base => simp
  | snoc _ _ _ _ _ ih => rw [List.map_append]; exact List.mem_append_left _ ih
/-- nothing waits: all that is reached from a key is a key -/
theorem Bfs.shut_reach {rows : List Row} {cm : CM} {done : List Int} (b : Bfs rows 0 cm done []) {n : Nat} (h : Reach rows n) : (n : Int) ∈ cm.map Prod.fst := by
  have kd := b.ks
  rw [List.append_nil] at kd
  induction h with
  | zero => exact b.tree.st_in
  | @step i j r _ hr hf ih =>
    rw [kd] at ih
    exact b.cl _ ih r _ (by simpa using hr) (by simpa using hf)
theorem Bfs.shut_ends {rows : List Row} {st : Int} {cm : CM} {done : List Int} (b : Bfs rows st cm done []) (ne : ∀ h ∈ done, rows[h.toNat]? ≠ some .en) {n : Nat} (h : Ends rows n) : (n : Int) ∉ cm.map Prod.fst := by
  have kd := b.ks
  rw [List.append_nil] at kd
  induction h with
  | en e => intro z; rw [kd] at z; exact ne _ z (by simpa using e)
  | @step i j r hr hf _ ih =>
    intro z
    rw [kd] at z
    exact ih (b.cl _ z r _ (by simpa using hr) (by simpa using hf))
@[simp] theorem oD_n : oD none = .non := rfl
@[simp] theorem oD_s (a : Int) : oD (some a) = .int a := rfl
theorem cm_put' {cm : CM} {x v : Int} (h : x ∉ cm.map Prod.fst) : dPut (cm.map fun p => ((Sum.inl p.1 : Ky), oD p.2)) (.inl x) (.int v) = (cm ++ [(x, some v)]).map fun p => ((Sum.inl p.1 : Ky), oD p.2) := by
  have : dGet cm x = none := by
    cases e : dGet cm x with
    | none => rfl
    | some y => exact absurd (dGet_some.mp (by rw [e]; rfl)) h
  exact cm_put cm x (some v) this
theorem cm_none {cm : CM} {x : Int} (h : x ∉ cm.map Prod.fst) : dGet cm x = none := by
  cases e : dGet cm x with
  | none => rfl
  | some y => exact absurd (dGet_some.mp (by rw [e]; rfl)) h
end Mi

set_option Elab.async false
set_option linter.all false
/-! what a check of a program finds -/
namespace Mi
abbrev LTS : Tx := [97, 98, 99, 100, 101, 102, 103, 104, 105, 106, 107, 108, 109, 110, 111, 112, 113, 114, 115, 116, 117, 118, 119, 120, 121, 122]
abbrev FG : Tx := [48, 49, 50, 51, 52, 53, 54, 55, 56, 57]
theorem sg_or {c : Nat} (h : c ∈ SG) : c ∈ LTS ∨ c ∈ FG := by
  have : ∀ c ∈ SG, c ∈ LTS ∨ c ∈ FG := by decide
  exact this c h
theorem lt_of {c : Nat} (h : 97 ≤ c ∧ c ≤ 122) : c ∈ LTS := by
  have : ∀ k : Nat, k < 26 → 97 + k ∈ LTS := by decide
  have q := this (c - 97) (by omega)
  rwa [show 97 + (c - 97) = c by omega] at q
theorem snoc_or {α : Type} (l : List α) : l = [] ∨ ∃ q a, l = q ++ [a] := by
  induction l with
  | nil => exact .inl rfl
  | cons x r ih =>
    right
    rcases ih with h | ⟨q, a, h⟩
    · exact ⟨[], x, by rw [h]; rfl⟩
    · exact ⟨x :: q, a, by rw [h]; rfl⟩
/-! ### dicts that keep what was found -/
def bmD (ks : List Int) : O := .dK (ks.map fun x => ((Sum.inl x : Ky), D.bl true))
theorem bm_get (ks : List Int) (x : Int) : (dGet (ks.map fun x => ((Sum.inl x : Ky), D.bl true)) (.inl x)).isSome = dec (x ∈ ks) := by
  by_cases h : x ∈ ks
  · rw [dec_true h]
    unfold dGet
    rw [Option.isSome_map, List.find?_isSome]
    exact ⟨(.inl x, .bl true), List.mem_map.mpr ⟨x, h, rfl⟩, by simp⟩
  · rw [dec_false h]
    unfold dGet
    have : (ks.map fun x => ((Sum.inl x : Ky), D.bl true)).find? (fun kv => decide (kv.1 = .inl x)) = none := by
      rw [List.find?_eq_none]
      intro p hp
      obtain ⟨y, hy, rfl⟩ := List.mem_map.mp hp
      simp only [decide_eq_true_eq]
      intro z
      exact h (Sum.inl.inj z ▸ hy)
    rw [this]; rfl
theorem bm_put {ks : List Int} {x : Int} (h : x ∉ ks) : dPut (ks.map fun x => ((Sum.inl x : Ky), D.bl true)) (.inl x) (.bl true) = (ks ++ [x]).map fun x => ((Sum.inl x : Ky), D.bl true) := by
  unfold dPut
  rw [if_neg]
  · simp
  · simp only [List.any_map, List.any_eq_true, Function.comp, decide_eq_true_eq, not_exists, not_and]
    intro p hp z
    exact h (Sum.inl.inj z ▸ hp)
structure Ks (rows : List Row) (ks : List Int) : Prop where
  nd : ks.Nodup
  rg : ∀ x ∈ ks, (0 : Int) ≤ x ∧ x < (rows.length : Int)
theorem Ks.len {rows : List Row} {ks : List Int} (h : Ks rows ks) : ks.length ≤ rows.length := nodup_range _ _ h.nd h.rg
theorem Ks.snoc {rows : List Row} {ks : List Int} (h : Ks rows ks) {x : Int} (hx : x ∉ ks) (hr : 0 ≤ x ∧ x < (rows.length : Int)) : Ks rows (ks ++ [x]) := by
  refine ⟨?_, ?_⟩
  · rw [List.nodup_append]
    refine ⟨h.nd, by simp, ?_⟩
    intro a ha b hb
    rw [List.mem_singleton.mp hb]
    intro z
    exact hx (z ▸ ha)
  · intro y hy
    rcases List.mem_append.mp hy with z | z
    · exact h.rg y z
    · rw [List.mem_singleton.mp z]; exact hr
structure Dfs (rows : List Row) (ks wt : List Int) : Prop extends Ks rows ks where
  zero : (0 : Int) ∈ ks
  sub : ∀ x ∈ wt, x ∈ ks
  cl : ∀ h ∈ ks, h ∈ wt ∨ ∀ r m, rows[h.toNat]? = some r → m ∈ fol h.toNat r → m ∈ ks
theorem Dfs.all {rows : List Row} {ks : List Int} (h : Dfs rows ks []) {n : Nat} (r : Reach rows n) : (n : Int) ∈ ks := by
  induction r with
  | zero => exact h.zero
  | @step i j r _ hr hf ih =>
    rcases h.cl _ ih with z | z
    · cases z
    · exact z r _ (by simpa using hr) (by simpa using hf)
/-- nothing more leads to an end -/
def Closed (rows : List Row) (ks : List Int) : Prop := ∀ (n : Nat) (r : Row), rows[n]? = some r → (n : Int) ∈ ks ∨ (r ≠ .en ∧ ∀ m ∈ fol n r, m ∉ ks)
theorem Closed.all {rows : List Row} {ks : List Int} (h : Closed rows ks) {n : Nat} (e : Ends rows n) : (n : Int) ∈ ks := by
  induction e with
  | @en n hr =>
    rcases h n _ hr with z | z
    · exact z
    · exact absurd rfl z.1
  | @step i j r hr hf _ ih =>
    rcases h j r hr with z | z
    · exact z
    · exact absurd ih (z.2 _ hf)
end Mi

set_option Elab.async false
set_option linter.all false
set_option maxHeartbeats 1000000
/-! sets as bits; reckonings of rows; places; dicts by places -/
namespace Mi
/-! ### bits -/
def bitsOf (p : Nat → Bool) : Nat → Nat
  | 0 => 0
  | m + 1 => bitsOf p m + if p m then 2 ^ m else 0
theorem bits_lt (p : Nat → Bool) : ∀ m, bitsOf p m < 2 ^ m
  | 0 => by simp [bitsOf]
  | m + 1 => by
    have := bits_lt p m
    unfold bitsOf
    rw [Nat.pow_succ]
    split <;> omega
theorem bits_test (p : Nat → Bool) : ∀ m k, (bitsOf p m).testBit k = (decide (k < m) && p k)
  | 0, k => by simp [bitsOf]
  | m + 1, k => by
    have lt := bits_lt p m
    have ih := bits_test p m k
    unfold bitsOf
    cases hp : p m with
    | true =>
      have e : bitsOf p m + 2 ^ m = 2 ^ m * 1 + bitsOf p m := by omega
      simp only [if_true]
      rw [e]
      by_cases hk : k < m
      · rw [Nat.testBit_two_pow_mul_add 1 lt k, if_pos hk, ih]
        simp [hk, show k < m + 1 by omega]
      · rw [Nat.testBit_two_pow_mul_add 1 lt k, if_neg hk]
        by_cases h2 : k = m
        · subst h2
          simp [hp]
        · have : k - m ≠ 0 := by omega
          have h3 : ¬ k < m + 1 := by omega
          simp [h3]
          have e1 := Nat.testBit_two_pow_of_ne (n := 0) (m := k - m) (by omega)
          simpa using e1
    | false =>
      simp only [Bool.false_eq_true, if_false, Nat.add_zero]
      rw [ih]
      by_cases h2 : k = m
      · subst h2; simp [hp]
      · by_cases hk : k < m
        · simp [hk, show k < m + 1 by omega]
        · simp [hk, show ¬ k < m + 1 by omega]
theorem bits_congr {p q : Nat → Bool} : ∀ {m}, (∀ k, k < m → p k = q k) → bitsOf p m = bitsOf q m
  | 0, _ => rfl
  | m + 1, h => by
    unfold bitsOf
    rw [bits_congr fun k hk => h k (by omega), h m (by omega)]
theorem bits_inj {p q : Nat → Bool} {m : Nat} (h : bitsOf p m = bitsOf q m) : ∀ k, k < m → p k = q k := fun k hk => by
  have e := congrArg (fun x => x.testBit k) h
  simpa [bits_test, hk] using e
theorem bits_eq {p : Nat → Bool} {m n : Nat} (h : ∀ k, n.testBit k = (decide (k < m) && p k)) : n = bitsOf p m := by
  apply Nat.eq_of_testBit_eq
  intro k
  rw [h, bits_test]
theorem bits_and (p q : Nat → Bool) (m : Nat) : bitsOf p m &&& bitsOf q m = bitsOf (fun k => p k && q k) m := bits_eq fun k => by
  rw [Nat.testBit_and, bits_test, bits_test]
  cases decide (k < m) <;> simp
theorem bits_or (p q : Nat → Bool) (m : Nat) : bitsOf p m ||| bitsOf q m = bitsOf (fun k => p k || q k) m := bits_eq fun k => by
  rw [Nat.testBit_or, bits_test, bits_test]
  cases decide (k < m) <;> simp
theorem bits_xor (p q : Nat → Bool) (m : Nat) : bitsOf p m ^^^ bitsOf q m = bitsOf (fun k => p k ^^ q k) m := bits_eq fun k => by
  rw [Nat.testBit_xor, bits_test, bits_test]
  cases decide (k < m) <;> simp
theorem bits_all : ∀ m, bitsOf (fun _ => true) m = 2 ^ m - 1
  | 0 => rfl
  | m + 1 => by
    unfold bitsOf
    rw [bits_all m]
    have := Nat.one_le_two_pow (n := m)
    simp only [if_true]
    rw [Nat.pow_succ]
    omega
theorem bits_none : ∀ m, bitsOf (fun _ => false) m = 0
  | 0 => rfl
  | m + 1 => by unfold bitsOf; rw [bits_none m]; rfl
theorem bits_one {m i : Nat} (h : i < m) : 2 ^ i = bitsOf (fun k => decide (k = i)) m := bits_eq fun k => by
  rw [Nat.testBit_two_pow]
  by_cases e : i = k
  · subst e; simp [h]
  · have : ¬ k = i := fun z => e z.symm
    simp [e, this]
theorem bits_le {p q : Nat → Bool} : ∀ {m}, (∀ k, k < m → p k = true → q k = true) → bitsOf p m ≤ bitsOf q m
  | 0, _ => Nat.le_refl _
  | m + 1, h => by
    have ih := bits_le (m := m) fun k hk => h k (by omega)
    unfold bitsOf
    by_cases hp : p m = true
    · rw [if_pos hp, if_pos (h m (by omega) hp)]; omega
    · rw [if_neg hp]; omega
theorem bits_shr (p : Nat → Bool) (m k : Nat) : bitsOf p m / 2 ^ k % 2 = if (decide (k < m) && p k) = true then 1 else 0 := by
  have e := bits_test p m k
  rw [← e, Nat.testBit_eq_decide_div_mod_eq]
  have := Nat.mod_two_eq_zero_or_one (bitsOf p m / 2 ^ k)
  rcases this with h | h <;> simp [h]
/-- 1 << k -/
theorem shl_1 (k : Nat) (hk : k ≤ 1000000) (S : Store) : oShl (.int 1) (.int k) S = .ok (.int ((2 ^ k : Nat) : Int)) S := by
  have h : powOk 1 (k : Int) := by unfold powOk; refine ⟨by omega, by omega, by decide⟩
  rw [oShl_i, if_pos h]
  simp
/-- (x >> k) & 1 -/
theorem shr_bit (p : Nat → Bool) (m k : Nat) (S : Store) : oShr (.int ((bitsOf p m : Nat) : Int)) (.int k) S = .ok (.int ((bitsOf p m / 2 ^ k : Nat) : Int)) S := by
  rw [oShr_i, if_pos (by omega)]
  simp
theorem and_one (n : Nat) (S : Store) : oAnd (.int (n : Int)) (.int 1) S = .ok (.int ((n % 2 : Nat) : Int)) S := by
  rw [oAnd_i, if_pos ⟨by omega, by omega⟩]
  congr 3
  rw [Int.toNat_natCast, show (1 : Int).toNat = 1 from rfl, Nat.and_one_is_mod]
/-! ### reckonings -/
noncomputable def recs (rows : List Row) : List (List Ky) := rows.foldl addK []
theorem addK_nd {acc : List (List Ky)} {r : Row} (h : acc.Nodup) : (addK acc r).Nodup := by
  unfold addK
  split
  · rename_i k _
    by_cases hk : k ∈ acc
    · rw [if_pos (dec_true hk)]; exact h
    · rw [if_neg (by rw [dec_false hk]; exact Bool.false_ne_true), List.nodup_append]
      refine ⟨h, by simp, ?_⟩
      intro a ha b hb
      rw [List.mem_singleton.mp hb]
      intro z
      exact hk (z ▸ ha)
  · exact h
theorem recs_nd (rows : List Row) : (recs rows).Nodup := by
  unfold recs
  have : ∀ (l : List Row) (acc : List (List Ky)), acc.Nodup → (l.foldl addK acc).Nodup := by
    intro l
    induction l with
    | nil => exact fun _ h => h
    | cons r q ih => exact fun acc h => ih _ (addK_nd h)
  exact this rows [] List.nodup_nil
theorem addK_mem {acc : List (List Ky)} {r : Row} {k : List Ky} : k ∈ addK acc r ↔ k ∈ acc ∨ r.rkg = some k := by
  unfold addK
  cases h : r.rkg with
  | none => simp
  | some x =>
    dsimp only
    by_cases hk : x ∈ acc
    · rw [if_pos (dec_true hk)]
      constructor
      · exact fun z => .inl z
      · rintro (z | z)
        · exact z
        · obtain rfl := Option.some.inj z; exact hk
    · rw [if_neg (by rw [dec_false hk]; exact Bool.false_ne_true), List.mem_append, List.mem_singleton]
      constructor
      · rintro (z | z)
        · exact .inl z
        · exact .inr (by rw [z])
      · rintro (z | z)
        · exact .inl z
        · exact .inr (Option.some.inj z).symm
theorem recs_mem {rows : List Row} {k : List Ky} : k ∈ recs rows ↔ ∃ r ∈ rows, r.rkg = some k := by
  unfold recs
  have : ∀ (l : List Row) (acc : List (List Ky)), k ∈ l.foldl addK acc ↔ k ∈ acc ∨ ∃ r ∈ l, r.rkg = some k := by
    intro l
    induction l with
    | nil => intro acc; simp
    | cons r q ih =>
      intro acc
      rw [List.foldl_cons, ih, addK_mem]
      simp only [List.mem_cons, exists_eq_or_imp]
      constructor
      · rintro ((z | z) | z)
        · exact .inl z
        · exact .inr (.inl z)
        · exact .inr (.inr z)
      · rintro (z | z | z)
        · exact .inl (.inl z)
        · exact .inl (.inr z)
        · exact .inr z
  rw [this]; simp
theorem recs_snoc (q : List Row) (r : Row) : recs (q ++ [r]) = addK (recs q) r := by
  unfold recs
  rw [List.foldl_append]; rfl
theorem addK_len (acc : List (List Ky)) (r : Row) : (addK acc r).length ≤ acc.length + 1 := by
  unfold addK
  split
  · split
    · omega
    · simp
  · omega
theorem recs_len (rows : List Row) : (recs rows).length ≤ rows.length := by
  unfold recs
  have : ∀ (l : List Row) (acc : List (List Ky)), (l.foldl addK acc).length ≤ acc.length + l.length := by
    intro l
    induction l with
    | nil => intro acc; simp
    | cons r q ih =>
      intro acc
      have h1 := ih (addK acc r)
      have h2 := addK_len acc r
      rw [List.foldl_cons, List.length_cons]
      omega
  have := this rows []
  simpa using this
/-- the name that a row sets -/
def Row.set : Row → Option Tx
  | .rk n _ _ _ => some n
  | .cp n _ => some n
  | _ => none
/-- whether a row changes a reckoning -/
noncomputable def chg (r : Row) (k : List Ky) : Bool := match r.set with
  | some n => dec ((.inr n : Ky) ∈ k.drop 1)
  | none => false
noncomputable def hasK (r : Row) (k : List Ky) : Bool := dec (r.rkg = some k)
/-- numbers of reckonings -/
def numK : Nat → List (List Ky) → List (List Ky × D)
  | _, [] => []
  | i, k :: r => (k, .int (i : Nat)) :: numK (i + 1) r
theorem numK_len : ∀ (i : Nat) (L : List (List Ky)), (numK i L).length = L.length
  | _, [] => rfl
  | i, k :: r => by rw [numK, List.length_cons, List.length_cons, numK_len]
theorem numK_keys : ∀ (i : Nat) (L : List (List Ky)), (numK i L).map (·.1) = L
  | _, [] => rfl
  | i, k :: r => by rw [numK, List.map_cons, numK_keys]
theorem numK_snoc : ∀ (i : Nat) (L : List (List Ky)) (k : List Ky), numK i (L ++ [k]) = numK i L ++ [(k, .int ((i + L.length : Nat) : Int))]
  | i, [], k => rfl
  | i, x :: r, k => by
    rw [List.cons_append, numK, numK_snoc (i + 1) r k, numK, List.cons_append, List.length_cons]
    congr 5
    omega
theorem numK_put {i : Nat} {L : List (List Ky)} {k : List Ky} (h : k ∉ L) (v : D) : dPut (numK i L) k v = numK i L ++ [(k, v)] := by
  unfold dPut
  rw [if_neg]
  simp only [List.any_eq_true, decide_eq_true_eq, not_exists, not_and]
  intro p hp z
  have : p.1 ∈ (numK i L).map (·.1) := List.mem_map.mpr ⟨p, hp, rfl⟩
  rw [numK_keys] at this
  exact h (z ▸ this)
theorem numK_get : ∀ (i : Nat) {L : List (List Ky)} {k : List Ky} {j : Nat}, L.Nodup → L[j]? = some k → dGet (numK i L) k = some (.int ((i + j : Nat) : Int))
  | i, [], k, j, _, e => by cases e
  | i, x :: r, k, 0, _, e => by
    obtain rfl := Option.some.inj e
    simp [numK, dGet]
  | i, x :: r, k, j + 1, nd, e => by
    have hx : ¬ x = k := fun z => by
      subst z
      exact (List.nodup_cons.mp nd).1 (List.mem_of_getElem? (i := j) (by simpa using e))
    have ih := numK_get (i + 1) (List.nodup_cons.mp nd).2 (j := j) (by simpa using e)
    unfold dGet at ih ⊢
    rw [numK, List.find?_cons]
    simp only [hx, decide_false]
    rw [ih]
    congr 3
    omega
/-! ### places -/
def pk (p : Int × Int) : List Ky := [.inl p.1, .inl p.2]
theorem pk_inj {p q : Int × Int} (h : pk p = pk q) : p = q := by
  obtain ⟨a, b⟩ := p
  obtain ⟨c, d⟩ := q
  simp [pk] at h
  rw [h.1, h.2]
theorem pk_ok (p : Int × Int) : (pk p).all kOk = true := rfl
def plcFrom : Nat → List Row → List (Int × Int)
  | _, [] => []
  | n, r :: q => (fol n r).map (fun m => ((n : Int), m)) ++ plcFrom (n + 1) q
def plc (rows : List Row) : List (Int × Int) := (-1, 0) :: plcFrom 0 rows
theorem plcFrom_snoc : ∀ (n : Nat) (q : List Row) (r : Row), plcFrom n (q ++ [r]) = plcFrom n q ++ (fol (n + q.length) r).map (fun m => (((n + q.length : Nat) : Int), m))
  | n, [], r => by simp [plcFrom]
  | n, x :: q, r => by
    rw [List.cons_append, plcFrom, plcFrom_snoc (n + 1) q r, plcFrom, List.append_assoc, List.length_cons]
    rw [show n + 1 + q.length = n + (q.length + 1) by omega]
theorem fol_len (n : Nat) (r : Row) : (fol n r).length ≤ 2 := by cases r <;> simp [fol]
theorem plcFrom_len : ∀ (n : Nat) (q : List Row), (plcFrom n q).length ≤ 2 * q.length
  | n, [] => by simp [plcFrom]
  | n, x :: q => by
    have := plcFrom_len (n + 1) q
    have := fol_len n x
    rw [plcFrom, List.length_append, List.length_map, List.length_cons]
    omega
theorem plc_len (rows : List Row) : (plc rows).length ≤ 2 * rows.length + 1 := by
  have := plcFrom_len 0 rows
  rw [plc, List.length_cons]; omega
theorem plcFrom_mem : ∀ (n : Nat) (q : List Row) (a b : Int), (a, b) ∈ plcFrom n q ↔ ∃ (i : Nat) (r : Row), q[i]? = some r ∧ a = ((n + i : Nat) : Int) ∧ b ∈ fol (n + i) r
  | n, [], a, b => by simp [plcFrom]
  | n, x :: q, a, b => by
    rw [plcFrom, List.mem_append, List.mem_map, plcFrom_mem (n + 1) q a b]
    constructor
    · rintro (⟨m, hm, e⟩ | ⟨i, r, e, h1, h2⟩)
      · injection e with e1 e2
        subst e2
        exact ⟨0, x, rfl, e1.symm, hm⟩
      · exact ⟨i + 1, r, by simpa using e, by rw [h1, show n + 1 + i = n + (i + 1) by omega], by rw [show n + (i + 1) = n + 1 + i by omega]; exact h2⟩
    · rintro ⟨i, r, e, h1, h2⟩
      cases i with
      | zero =>
        obtain rfl := Option.some.inj e
        exact .inl ⟨b, h2, by rw [h1]; rfl⟩
      | succ i => exact .inr ⟨i, r, by simpa using e, by rw [h1, show n + 1 + i = n + (i + 1) by omega], by rw [show n + 1 + i = n + (i + 1) by omega]; exact h2⟩
theorem plc_mem {rows : List Row} {a b : Int} : (a, b) ∈ plc rows ↔ (a = -1 ∧ b = 0) ∨ ∃ (i : Nat) (r : Row), rows[i]? = some r ∧ a = (i : Int) ∧ b ∈ fol i r := by
  rw [plc, List.mem_cons, plcFrom_mem]
  simp
/-! ### dicts by places -/
def dOf (f : Int × Int → D) (L : List (Int × Int)) : List (List Ky × D) := L.foldl (fun acc p => dPut acc (pk p) (f p)) []
theorem dOf_snoc (f : Int × Int → D) (L : List (Int × Int)) (p : Int × Int) : dOf f (L ++ [p]) = dPut (dOf f L) (pk p) (f p) := by
  unfold dOf
  rw [List.foldl_append]; rfl
theorem dPut_get {κ α : Type} [DecidableEq κ] (l : List (κ × α)) (k k' : κ) (v : α) : dGet (dPut l k v) k' = if k = k' then some v else dGet l k' := by
  unfold dPut dGet
  by_cases h : (l.any fun kv => decide (kv.1 = k)) = true
  · rw [if_pos h]
    induction l with
    | nil => simp at h
    | cons x r ih =>
      by_cases hx : x.1 = k
      · by_cases hk : k = k'
        · subst hk; simp [hx]
        · have h1 : ¬ x.1 = k' := fun z => hk (hx.symm.trans z)
          simp only [List.map_cons, if_pos hx, List.find?_cons, h1, decide_false, if_neg hk]
          have q : ∀ (l : List (κ × α)), ((l.map fun kv => if kv.1 = k then (kv.1, v) else kv).find? fun kv => decide (kv.1 = k')).map (·.2) = (l.find? fun kv => decide (kv.1 = k')).map (·.2) := by
            intro l
            induction l with
            | nil => rfl
            | cons y q ih2 =>
              by_cases hy : y.1 = k
              · have h2 : ¬ y.1 = k' := fun z => hk (hy.symm.trans z)
                simp only [List.map_cons, if_pos hy, List.find?_cons, h2, decide_false]
                exact ih2
              · simp only [List.map_cons, if_neg hy, List.find?_cons]
                cases decide (y.1 = k')
                · exact ih2
                · rfl
          exact q r
      · have h' : (r.any fun kv => decide (kv.1 = k)) = true := by simpa [hx] using h
        have := ih h'
        simp only [List.map_cons, if_neg hx, List.find?_cons]
        by_cases h1 : x.1 = k'
        · have hk : ¬ k = k' := fun z => hx (h1.trans z.symm)
          simp [h1, hk]
        · simp only [h1, decide_false]
          exact this
  · rw [if_neg h, List.find?_append]
    by_cases hk : k = k'
    · subst hk
      have : l.find? (fun kv => decide (kv.1 = k)) = none := by
        rw [List.find?_eq_none]
        intro p hp z
        exact h (List.any_eq_true.mpr ⟨p, hp, z⟩)
      simp [this]
    · simp only [if_neg hk]
      have : ([(k, v)] : List (κ × α)).find? (fun kv => decide (kv.1 = k')) = none := by simp [hk]
      rw [this, Option.or_none]
theorem dPut_mem {κ α : Type} [DecidableEq κ] {l : List (κ × α)} {k : κ} {v : α} {p : κ × α} (h : p ∈ dPut l k v) : p = (k, v) ∨ p ∈ l := by
  unfold dPut at h
  split at h
  · obtain ⟨q, hq, rfl⟩ := List.mem_map.mp h
    split
    · rename_i e; exact .inl (by rw [e])
    · exact .inr hq
  · rcases List.mem_append.mp h with z | z
    · exact .inr z
    · exact .inl (List.mem_singleton.mp z)
theorem dPut_len {κ α : Type} [DecidableEq κ] (l : List (κ × α)) (k : κ) (v : α) : (dPut l k v).length ≤ l.length + 1 := by
  unfold dPut
  split <;> simp
theorem snoc_ind {α : Type} {P : List α → Prop} (h0 : P []) (h1 : ∀ l a, P l → P (l ++ [a])) (l : List α) : P l := by
  have : ∀ n, ∀ l : List α, l.length = n → P l := by
    intro n
    induction n with
    | zero => intro l hl; rw [List.length_eq_zero_iff.mp hl]; exact h0
    | succ n ih =>
      intro l hl
      rcases snoc_or l with rfl | ⟨q, a, rfl⟩
      · simp at hl
      · rw [List.length_append, List.length_singleton] at hl
        exact h1 q a (ih q (by omega))
  exact this l.length l rfl
theorem dOf_get (f : Int × Int → D) (L : List (Int × Int)) (p : Int × Int) : dGet (dOf f L) (pk p) = if p ∈ L then some (f p) else none := by
  refine snoc_ind (P := fun L => dGet (dOf f L) (pk p) = if p ∈ L then some (f p) else none) rfl ?_ L
  intro L q ih
  rw [dOf_snoc, dPut_get, ih]
  by_cases h : q = p
  · subst h; simp
  · have h1 : ¬ pk q = pk p := fun z => h (pk_inj z)
    have h2 : ¬ p = q := fun z => h z.symm
    rw [if_neg h1]
    simp [h2]
theorem dOf_mem (f : Int × Int → D) (L : List (Int × Int)) : ∀ e ∈ dOf f L, ∃ p ∈ L, e = (pk p, f p) := by
  refine snoc_ind (P := fun L => ∀ e ∈ dOf f L, ∃ p ∈ L, e = (pk p, f p)) (fun e h => by cases h) ?_ L
  intro L q ih e he
  rw [dOf_snoc] at he
  rcases dPut_mem he with z | z
  · exact ⟨q, by simp, z⟩
  · obtain ⟨p, hp, z⟩ := ih e z
    exact ⟨p, List.mem_append_left _ hp, z⟩
theorem dOf_len (f : Int × Int → D) (L : List (Int × Int)) : (dOf f L).length ≤ L.length := by
  refine snoc_ind (P := fun L => (dOf f L).length ≤ L.length) (Nat.le_refl _) ?_ L
  intro L q ih
  have := dPut_len (dOf f L) (pk q) (f q)
  rw [dOf_snoc, List.length_append, List.length_singleton]
  omega
theorem dOf_congr {f g : Int × Int → D} {L : List (Int × Int)} (h : ∀ p ∈ L, f p = g p) : dOf f L = dOf g L := by
  unfold dOf
  have : ∀ (L : List (Int × Int)) (acc : List (List Ky × D)), (∀ p ∈ L, f p = g p) → L.foldl (fun acc p => dPut acc (pk p) (f p)) acc = L.foldl (fun acc p => dPut acc (pk p) (g p)) acc := by
    intro L
    induction L with
    | nil => intro acc _; rfl
    | cons x r ih =>
      intro acc h
      rw [List.foldl_cons, List.foldl_cons, h x (by simp), ih _ fun p hp => h p (List.mem_cons_of_mem _ hp)]
  exact this L [] h
theorem dOf_same (f : Int × Int → Nat) (L : List (Int × Int)) : dSame (dOf (fun p => .int ((f p : Nat) : Int)) L) (dOf (fun p => .int ((f p : Nat) : Int)) L) = true := by
  unfold dSame
  simp only [decide_true, Bool.true_and, List.all_eq_true]
  intro e he
  obtain ⟨p, hp, rfl⟩ := dOf_mem _ _ e he
  dsimp only
  rw [dOf_get, if_pos hp]
  simp [scq]
end Mi

set_option Elab.async false
set_option linter.all false
/-! k10's own operators by simp -/
namespace Mi
@[simp] theorem oEqX_s (a : Tx) (y : D) (S : Store) : oEqX (.str a) y S = oEq (.str a) y S := (rfl)
@[simp] theorem oEqX_i (a : Int) (y : D) (S : Store) : oEqX (.int a) y S = oEq (.int a) y S := (rfl)
@[simp] theorem oEqX_n (y : D) (S : Store) : oEqX .non y S = oEq .non y S := (rfl)
@[simp] theorem oEqX_b (a : Bool) (y : D) (S : Store) : oEqX (.bl a) y S = oEq (.bl a) y S := (rfl)
@[simp] theorem oEqX_t (a : List D) (y : D) (S : Store) : oEqX (.tup a) y S = oEq (.tup a) y S := (rfl)
def slA3 (x : D) (l : Option Int) (r : Res (Option Int)) : Res D := r.bind fun h S3 => oSlA x l h S3
@[simp] theorem slA3_s (x : D) (l h : Option Int) (S : Store) : slA3 x l (.ok h S) = oSlA x l h S := (rfl)
def slA2 (x : D) (hi : PM) (fr : Fr) (r : Res (Option Int)) : Res D := r.bind fun l S2 => slA3 x l (hi fr S2)
@[simp] theorem slA2_s (x : D) (hi : PM) (fr : Fr) (l : Option Int) (S : Store) : slA2 x hi fr (.ok l S) = slA3 x l (hi fr S) := (rfl)
def slA1 (lo hi : PM) (fr : Fr) (r : Res D) : Res D := r.bind fun x S1 => slA2 x hi fr (lo fr S1)
@[simp] theorem slA1_s (lo hi : PM) (fr : Fr) (x : D) (S : Store) : slA1 lo hi fr (.ok x S) = slA2 x hi fr (lo fr S) := (rfl)
@[simp] theorem mSlA_s (a : EM) (lo hi : PM) (fr : Fr) (S : Store) : mSlA a lo hi fr S = slA1 lo hi fr (a fr S) := (rfl)
@[simp] theorem oSlA_t (l : List D) (lo hi : Option Int) (S : Store) : oSlA (.tup l) lo hi S = .ok (.tup (cut l lo hi)) S := (rfl)
@[simp] theorem oAddA_t (a b : List D) (S : Store) : oAddA (.tup a) (.tup b) S = if a.length + b.length ≤ LINE then .ok (.tup (a ++ b)) S else .bad := (rfl)
@[simp] theorem oAddA_i (a : Int) (y : D) (S : Store) : oAddA (.int a) y S = oAdd (.int a) y S := (rfl)
@[simp] theorem sUpper_s (w : Tx) (S : Store) : sUpper (.str w) [] S = if w ∈ sixW then .ok (.str (w.map fun c => c - 32)) S else .bad := (rfl)
end Mi

set_option Elab.async false
set_option linter.all false
/-! Mini5's and Mini6's operators by simp -/
namespace Mi
def rvA2 (x : D) (r : Res (Option Int)) : Res D := r.bind fun o S2 => if o = some (-1) then oRev x S2 else .bad
@[simp] theorem rvA2_s (x : D) (S : Store) : rvA2 x (.ok (some (-1)) S) = oRev x S := (rfl)
def rvA1 (st : PM) (fr : Fr) (r : Res D) : Res D := r.bind fun x S1 => rvA2 x (st fr S1)
@[simp] theorem rvA1_s (st : PM) (fr : Fr) (x : D) (S : Store) : rvA1 st fr (.ok x S) = rvA2 x (st fr S) := (rfl)
@[simp] theorem mRev_s (a : EM) (st : PM) (fr : Fr) (S : Store) : mRev a st fr S = rvA1 st fr (a fr S) := (rfl)
def rvO (S : Store) : Option (List D) → Res D
  | some l => new (.lst l.reverse) S
  | none => .bad
@[simp] theorem rvO_s (S : Store) (l : List D) : rvO S (some l) = .ok (.ref S.length) (S ++ [.lst l.reverse]) := (rfl)
@[simp] theorem oRev_r (n : Nat) (S : Store) : oRev (.ref n) S = rvO S (lstOf S n) := by
  unfold oRev rvO
  first
  | (cases lstOf S n <;> rfl)
  | (dsimp only; cases lstOf S n <;> rfl)
  | dsimp only
theorem oNeD_same {x y : D} {S : Store} (h : oSame x y S = true) : oNeD x y S = .ok (.bl false) S := by unfold oNeD; rw [if_pos h]
theorem oEqD_same {x y : D} {S : Store} (h : oSame x y S = true) : oEqD x y S = .ok (.bl true) S := by unfold oEqD; rw [if_pos h]
theorem same_T {m n : Nat} {k l : List (List Ky × D)} {S : Store} (h1 : S[m]? = some (.dT k)) (h2 : S[n]? = some (.dT l)) (h : dSame k l = true) : oSame (.ref m) (.ref n) S = true := by
  unfold oSame
  dsimp only
  rw [h1, h2]
  exact h
theorem same_K {m n : Nat} {k l : List (Ky × D)} {S : Store} (h1 : S[m]? = some (.dK k)) (h2 : S[n]? = some (.dK l)) (h : dSame k l = true) : oSame (.ref m) (.ref n) S = true := by
  unfold oSame
  dsimp only
  rw [h1, h2]
  exact h
theorem dClear_T {n : Nat} {k : List (List Ky × D)} {S : Store} (h : S[n]? = some (.dT k)) : dClear (.ref n) [] S = .ok .non (S.set n (.dT [])) := by
  unfold dClear
  dsimp only
  rw [h]
/-! ### a locked walk -/
theorem loopZ_inv {n : Nat} {z : O} {turn : D → SM} (I : Nat → Fr → Store → Prop) : ∀ (items : List D) (k : Nat) (fr : Fr) (S : Store), I k fr S →
    (∀ i fr S, I i fr S → S[n]? = some z) →
    (∀ i d fr S, items[i]? = some d → I (k + i) fr S → ∃ fr' S', (turn d fr S = .ok (.nx fr') S' ∨ turn d fr S = .ok (.ct fr') S') ∧ I (k + i + 1) fr' S') →
    ∃ fr' S', loopZ n z turn items fr S = .ok (.nx fr') S' ∧ I (k + items.length) fr' S'
  | [], k, fr, S, h, st, _ => ⟨fr, S, by rw [loopZ, dec_true (st k fr S h)]; rfl, h⟩
  | d :: ds, k, fr, S, h, st, step => by
    obtain ⟨fr', S', e, h'⟩ := step 0 d fr S rfl h
    obtain ⟨fr2, S2, e2, h2⟩ := loopZ_inv I ds (k + 1) fr' S' h' st fun i d fr S hd hi => by
      have q := step (i + 1) d fr S hd (by rw [show k + (i + 1) = k + 1 + i by omega]; exact hi)
      rw [show k + (i + 1) = k + 1 + i by omega] at q
      exact q
    refine ⟨fr2, S2, ?_, by rw [List.length_cons, show k + (ds.length + 1) = k + 1 + ds.length by omega]; exact h2⟩
    rw [loopZ, dec_true (st k fr S h)]
    rcases e with e | e <;> rw [e] <;> exact e2
/-- a walk over the values of a dict of places that changes no store -/
theorem forD_valT {e : EM} {g : GM} {b : SM} {fr : Fr} {S : Store} {n : Nat} {k : List (List Ky × D)} (hs : S[n]? = some (.dT k)) (he : ∀ S, e fr S = .ok (.ref n) S) (I : Fr → Prop) (h0 : I fr)
    (step : ∀ d fr S, d ∈ k.map (·.2) → I fr → ∃ fr', turnM g b d fr S = .ok (.nx fr') S ∧ I fr') : ∃ fr', sForD .val e g b fr S = .ok (.nx fr') S ∧ I fr' := by
  have hl := (List.getElem?_eq_some_iff.mp hs).1
  obtain ⟨fr', S', q, rfl, hI⟩ := loopZ_inv (n := n) (z := .zT k) (turn := turnM g b) (fun _ fr S' => S' = S.set n (.zT k) ∧ I fr) (k.map (·.2)) 0 fr (S.set n (.zT k)) ⟨rfl, h0⟩ (fun _ _ S' h => by rw [h.1]; exact set_get hs) (fun i d fr S' hd h => by
    obtain ⟨fr', e1, e2⟩ := step d fr S' (List.mem_of_getElem? hd) h.2
    exact ⟨fr', S', .inl e1, h.1, e2⟩)
  refine ⟨fr', ?_, hI⟩
  unfold sForD
  rw [he S]
  dsimp only
  rw [hs]
  simp only [zOf, zItems]
  unfold runZ
  rw [he]
  simp only [bind_ok, if_true]
  have : loopZ n (.zT k) (fun d fr S => (g d fr S).bind fun fr' S' => b fr' S') (k.map fun p => p.2) fr (S.set n (.zT k)) = .ok (.nx fr') (S.set n (.zT k)) := q
  rw [this]
  simp only [bind_ok]
  rw [if_pos (dec_true (set_get hs)), List.set_set]
  congr 1
  obtain ⟨hl, e⟩ := List.getElem?_eq_some_iff.mp hs
  rw [← e, List.set_getElem_self]
end Mi

set_option Elab.async false
set_option linter.all false
set_option maxHeartbeats 1000000
/-! where a reckoning is not wanted, not standing; greatest sets -/
namespace Mi
/-- a way leads on to a change or an end without it -/
inductive Mis (rows : List Row) (k : List Ky) : Nat → Prop
  | out {n : Nat} {r : Row} : rows[n]? = some r → r.rkg ≠ some k → (chg r k = true ∨ r = .en) → Mis rows k n
  | step {n j : Nat} {r : Row} : rows[n]? = some r → r.rkg ≠ some k → (j : Int) ∈ fol n r → Mis rows k j → Mis rows k n
/-- a way leads back to a change or the begin without it -/
inductive Mst (rows : List Row) (k : List Ky) : Nat → Prop
  | out {n : Nat} {r : Row} : rows[n]? = some r → chg r k = true → Mst rows k n
  | zero {r : Row} : rows[0]? = some r → r.rkg ≠ some k → Mst rows k 0
  | step {n j : Nat} {r q : Row} : rows[n]? = some r → r.rkg ≠ some k → rows[j]? = some q → (n : Int) ∈ fol j q → Mst rows k j → Mst rows k n
abbrev BF := Nat → Bool
def fsAt (fs : List BF) (m : Int) : BF := fs.getD m.toNat fun _ => false
def bD (m : Nat) (p : BF) : D := .int ((bitsOf p m : Nat) : Int)
def sumB (m : Nat) (fs : List BF) : Nat := (fs.map fun p => bitsOf p m).sum
theorem sum_set {L : List Nat} {i : Nat} {x y : Nat} (h : L[i]? = some x) (hy : y < x) : (L.set i y).sum < L.sum := by
  induction L generalizing i with
  | nil => cases h
  | cons a r ih =>
    cases i with
    | zero => obtain rfl := Option.some.inj h; simp; omega
    | succ i => have := ih (i := i) (by simpa using h); simp; omega
theorem sumB_set {m : Nat} {fs : List BF} {i : Nat} {p q : BF} (h : fs[i]? = some p) (hq : bitsOf q m < bitsOf p m) : sumB m (fs.set i q) < sumB m fs := by
  unfold sumB
  rw [List.map_set]
  exact sum_set (by rw [List.getElem?_map, h]; rfl) hq
theorem fsAt_set {fs : List BF} {i : Nat} {q : BF} (hi : i < fs.length) (m : Int) : fsAt (fs.set i q) m = if m.toNat = i then q else fsAt fs m := by
  unfold fsAt
  simp only [List.getD_eq_getElem?_getD, List.getElem?_set]
  by_cases h : i = m.toNat
  · subst h; simp [hi]
  · have : ¬ m.toNat = i := fun z => h z.symm
    simp [h, this]
theorem fsAt_of {fs : List BF} {i : Nat} {p : BF} (h : fs[i]? = some p) : fsAt fs (i : Int) = p := by
  unfold fsAt
  rw [List.getD_eq_getElem?_getD, Int.toNat_natCast, h]; rfl
/-- all of some rows' bits -/
def allF (fs : List BF) (L : List Int) : BF := fun k => L.all fun m => fsAt fs m k
theorem bit_lt {m : Nat} {p q : BF} (h : ∀ k, k < m → p k = true → q k = true) (ne : bitsOf p m ≠ bitsOf q m) : bitsOf p m < bitsOf q m := by
  have := bits_le h
  omega
/-- what a rule makes of the sets, row by row -/
structure Rule (rows : List Row) where
  g : List BF → Nat → BF
  mono : ∀ (fs fs' : List BF) (n : Nat) (k : Nat), (∀ m, fsAt fs m k = true → fsAt fs' m k = true) → g fs n k = true → g fs' n k = true
/-- sets on their way down to the greatest that fit -/
structure Down {rows : List Row} (R : Rule rows) (m : Nat) (W : Nat → Nat → Prop) (fs : List BF) : Prop where
  len : fs.length = rows.length
  up : ∀ n k, n < rows.length → k < m → W n k → fsAt fs (n : Int) k = true
  post : ∀ n k, n < rows.length → k < m → R.g fs n k = true → fsAt fs (n : Int) k = true
theorem Down.put {rows : List Row} {R : Rule rows} {m : Nat} {W : Nat → Nat → Prop} {fs : List BF} (d : Down R m W fs) {n : Nat} (hn : n < rows.length) (hw : ∀ k, k < m → W n k → R.g fs n k = true) : Down R m W (fs.set n (R.g fs n)) := by
  have hl : n < fs.length := by rw [d.len]; exact hn
  have sub : ∀ j k, k < m → j < rows.length → fsAt (fs.set n (R.g fs n)) (j : Int) k = true → fsAt fs (j : Int) k = true := fun j k hk hj h => by
    rw [fsAt_set hl] at h
    split at h
    · rename_i e
      rw [Int.toNat_natCast] at e
      subst e
      exact d.post j k hj hk h
    · exact h
  have sub2 : ∀ (x : Int) k, k < m → fsAt (fs.set n (R.g fs n)) x k = true → fsAt fs x k = true := fun x k hk h => by
    rw [fsAt_set hl] at h
    split at h
    · rename_i e
      have q := d.post n k hn hk h
      unfold fsAt at q ⊢
      rw [Int.toNat_natCast] at q
      rw [e]; exact q
    · exact h
  refine ⟨by rw [List.length_set]; exact d.len, fun j k hj hk w => ?_, fun j k hj hk h => ?_⟩
  · rw [fsAt_set hl]
    split
    · rename_i e
      rw [Int.toNat_natCast] at e
      subst e
      exact hw k hk w
    · exact d.up j k hj hk w
  · have h2 := R.mono _ fs j k (fun x => sub2 x k hk) h
    rw [fsAt_set hl]
    split
    · rename_i e
      rw [Int.toNat_natCast] at e
      subst e
      exact h2
    · exact d.post j k hj hk h2
/-- the bits wanted at a row -/
noncomputable def wantP (rows : List Row) (n : Nat) : BF := fun k => match (recs rows)[k]? with
  | some x => !dec (Mis rows x n)
  | none => false
noncomputable def wantD (rows : List Row) (n : Nat) : D := bD (recs rows).length (wantP rows n)
noncomputable def ownF (rows : List Row) (r : Row) : BF := fun k => dec (r.rkg ≠ none ∧ r.rkg = (recs rows)[k]?)
noncomputable def lostF (rows : List Row) (r : Row) : BF := fun k => match (recs rows)[k]? with
  | some x => chg r x
  | none => false
noncomputable def gAsk (rows : List Row) (fs : List BF) (n : Nat) : BF := fun k => match rows[n]? with
  | some r => ownF rows r k || ((dec (r ≠ .en) && allF fs (fol n r) k) && (true ^^ lostF rows r k))
  | none => false
theorem allF_mono {fs fs' : List BF} {k : Nat} (h : ∀ m, fsAt fs m k = true → fsAt fs' m k = true) {L : List Int} (a : allF fs L k = true) : allF fs' L k = true := by
  unfold allF at a ⊢
  rw [List.all_eq_true] at a ⊢
  exact fun m hm => h m (a m hm)
noncomputable def ruleA (rows : List Row) : Rule rows where
  g := gAsk rows
  mono := fun fs fs' n k h a => by
    unfold gAsk at a ⊢
    split at a
    · rename_i r e
      simp only [Bool.or_eq_true, Bool.and_eq_true] at a ⊢
      rcases a with a | ⟨⟨a1, a2⟩, a3⟩
      · exact .inl a
      · exact .inr ⟨⟨a1, allF_mono h a2⟩, a3⟩
    · cases a
/-- what is wanted fits -/
theorem ask_up {rows : List Row} {fs : List BF} (d : Down (ruleA rows) (recs rows).length (fun n k => wantP rows n k = true) fs) (hin : ∀ (n : Nat) (r : Row) (m : Int), rows[n]? = some r → m ∈ fol n r → 0 ≤ m ∧ m < rows.length) {n : Nat} (hn : n < rows.length) : ∀ k, k < (recs rows).length → wantP rows n k = true → (ruleA rows).g fs n k = true := by
  intro k hk w
  obtain ⟨x, hx⟩ : ∃ x, (recs rows)[k]? = some x := ⟨_, List.getElem?_eq_getElem hk⟩
  obtain ⟨r, hr⟩ : ∃ r, rows[n]? = some r := ⟨_, List.getElem?_eq_getElem hn⟩
  have wx : ∀ j, wantP rows j k = !dec (Mis rows x j) := fun j => by unfold wantP; rw [hx]
  rw [wx] at w
  have nm : ¬ Mis rows x n := fun z => by rw [dec_true z] at w; cases w
  show gAsk rows fs n k = true
  unfold gAsk
  rw [hr]
  simp only [Bool.or_eq_true, Bool.and_eq_true]
  by_cases ho : r.rkg = some x
  · exact .inl (by unfold ownF; exact dec_true ⟨by rw [ho]; simp, by rw [ho, hx]⟩)
  · right
    refine ⟨⟨dec_true fun z => nm (.out hr ho (.inr z)), ?_⟩, ?_⟩
    · unfold allF
      rw [List.all_eq_true]
      intro m hm
      have hi := hin n r m hr hm
      obtain ⟨j, rfl⟩ : ∃ j : Nat, m = (j : Int) := ⟨m.toNat, by omega⟩
      refine d.up j k (by omega) hk ?_
      rw [wx, dec_false fun z => nm (.step hr ho hm z)]
      rfl
    · unfold lostF
      rw [hx]
      dsimp only
      cases hc : chg r x with
      | false => rfl
      | true => exact absurd (.out hr ho (.inl hc)) nm
/-- what stays is wanted -/
theorem ask_fix {rows : List Row} {fs : List BF} (hf : ∀ n k, n < rows.length → k < (recs rows).length → gAsk rows fs n k = fsAt fs (n : Int) k) {k : Nat} {x : List Ky} (hx : (recs rows)[k]? = some x) {n : Nat} (m : Mis rows x n) : fsAt fs (n : Int) k = false := by
  have hk := (List.getElem?_eq_some_iff.mp hx).1
  have own : ∀ r : Row, r.rkg ≠ some x → ownF rows r k = false := fun r h => by
    unfold ownF
    exact dec_false fun z => h (by rw [z.2, hx])
  induction m with
  | @out n r hr ho h =>
    have hn := (List.getElem?_eq_some_iff.mp hr).1
    rw [← hf n k hn hk]
    unfold gAsk
    rw [hr]
    dsimp only
    rw [own r ho, Bool.false_or]
    rcases h with h | h
    · have : lostF rows r k = true := by unfold lostF; rw [hx]; exact h
      rw [this]; simp
    · rw [dec_false fun z => z h]; simp
  | @step n j r hr ho hj _ ih =>
    have hn := (List.getElem?_eq_some_iff.mp hr).1
    rw [← hf n k hn hk]
    unfold gAsk
    rw [hr]
    dsimp only
    rw [own r ho, Bool.false_or]
    have : allF fs (fol n r) k = false := by
      unfold allF
      rw [List.all_eq_false]
      exact ⟨(j : Int), hj, by rw [ih]; simp⟩
    rw [this]; simp
/-! ### bits as data -/
theorem bD_and (m : Nat) (p q : BF) (S : Store) : oAnd (bD m p) (bD m q) S = .ok (bD m fun k => p k && q k) S := by
  unfold bD
  rw [oAnd_i, if_pos ⟨by omega, by omega⟩]
  simp only [Int.toNat_natCast]
  rw [bits_and]
theorem bD_or (m : Nat) (p q : BF) (S : Store) : oOr (bD m p) (bD m q) S = .ok (bD m fun k => p k || q k) S := by
  unfold bD
  rw [oOr_i, if_pos ⟨by omega, by omega⟩]
  simp only [Int.toNat_natCast]
  rw [bits_or]
theorem bD_xor (m : Nat) (p q : BF) (S : Store) : oXor (bD m p) (bD m q) S = .ok (bD m fun k => p k ^^ q k) S := by
  unfold bD
  rw [oXor_i, if_pos ⟨by omega, by omega⟩]
  simp only [Int.toNat_natCast]
  rw [bits_xor]
theorem bD_ne (m : Nat) (p q : BF) (S : Store) : oNe (bD m p) (bD m q) S = .ok (.bl (!decide (bitsOf p m = bitsOf q m))) S := by
  unfold bD
  rw [oNe_i]
  congr 3
  rw [decide_eq_decide]
  omega
theorem bD_zero (m : Nat) : (D.int 0) = bD m fun _ => false := by
  unfold bD
  rw [bits_none]; rfl
theorem bD_congr {m : Nat} {p q : BF} (h : ∀ k, k < m → p k = q k) : bD m p = bD m q := by
  unfold bD
  rw [bits_congr h]
theorem bD_funext {m : Nat} {p q : BF} (h : ∀ k, p k = q k) : bD m p = bD m q := bD_congr fun k _ => h k
theorem allF_nil (fs : List BF) (k : Nat) : allF fs [] k = true := rfl
theorem allF_snoc (fs : List BF) (L : List Int) (m : Int) (k : Nat) : allF fs (L ++ [m]) k = (allF fs L k && fsAt fs m k) := by
  unfold allF
  rw [List.all_append]
  simp
end Mi

set_option Elab.async false
set_option linter.all false
set_option maxHeartbeats 1000000
/-! rows by the rows from which they are come to; where a reckoning is standing -/
namespace Mi
/-- [[] for x in xs] -/
theorem lc_fresh_go {hs : List (Nat × List D)} {g : GM} {t : TM} {e : EM} {fr : Fr} {S1 : Store} (hg : ∀ d S, ∃ fr', g d fr S = .ok fr' S ∧ t fr' S = .ok true S ∧ e fr' S = .ok (.ref S.length) (S ++ [.lst []])) (h : ∀ p, p ∈ hs → lstOf S1 p.1 = some p.2) :
    ∀ (items : List D) (j : Nat), j + items.length ≤ LINE →
    lcLoop hs S1.length g t e fr items (S1 ++ .lst ((List.range j).map fun i => .ref (S1.length + 1 + i)) :: List.replicate j (.lst [])) = .ok (.ref S1.length) (S1 ++ .lst ((List.range (j + items.length)).map fun i => .ref (S1.length + 1 + i)) :: List.replicate (j + items.length) (.lst [])) := by
  have stand : ∀ G, stands hs (S1 ++ G) := fun G p hp => by
    have q := h p hp
    unfold lstOf at q ⊢
    cases hh : S1[p.1]? with
    | none => rw [hh] at q; cases q
    | some o => rw [app_get hh]; rw [hh] at q; exact q
  intro items
  induction items with
  | nil => intro j _; rw [lcLoop, dec_true (stand _)]; rfl
  | cons d ds ih =>
    intro j hj
    rw [List.length_cons] at hj
    obtain ⟨fr', e1, e2, e3⟩ := hg d (S1 ++ .lst ((List.range j).map fun i => .ref (S1.length + 1 + i)) :: List.replicate j (.lst []))
    rw [lcLoop, dec_true (stand _)]
    simp only [if_true, e1, bind_ok, e2, e3]
    have gl : (S1 ++ .lst ((List.range j).map fun i => D.ref (S1.length + 1 + i)) :: List.replicate j (O.lst []) ++ [.lst []])[S1.length]? = some (.lst ((List.range j).map fun i => D.ref (S1.length + 1 + i))) := by
      rw [List.append_assoc, List.cons_append]; exact app_new _ _ _
    rw [gl]
    dsimp only
    have hl : ((List.range j).map fun i => D.ref (S1.length + 1 + i)).length < LINE := by rw [List.length_map, List.length_range]; omega
    rw [if_pos hl]
    have len : (S1 ++ .lst ((List.range j).map fun i => D.ref (S1.length + 1 + i)) :: List.replicate j (O.lst [])).length = S1.length + 1 + j := by
      rw [List.length_append, List.length_cons, List.length_replicate]; omega
    have st : (S1 ++ O.lst ((List.range j).map fun i => D.ref (S1.length + 1 + i)) :: List.replicate j (O.lst []) ++ [O.lst []]).set S1.length (O.lst ((List.range j).map (fun i => D.ref (S1.length + 1 + i)) ++ [D.ref (S1 ++ O.lst ((List.range j).map fun i => D.ref (S1.length + 1 + i)) :: List.replicate j (O.lst [])).length])) = S1 ++ O.lst ((List.range (j + 1)).map fun i => D.ref (S1.length + 1 + i)) :: List.replicate (j + 1) (O.lst []) := by
      rw [len, List.append_assoc, List.cons_append, set_at, List.range_succ, List.map_append, List.replicate_succ']
      rfl
    rw [st, ih (j + 1) (by omega), List.length_cons, show j + 1 + ds.length = j + (ds.length + 1) by omega]
theorem lc_fresh {vs : List Nat} {g : GM} {e : EM} {fr : Fr} {l : List D} {hs : List (Nat × List D)} {S : Store} (hg : ∀ d S, ∃ fr', g d (unset vs fr) S = .ok fr' S ∧ e fr' S = .ok (.ref S.length) (S ++ [.lst []])) (h : ∀ p, p ∈ hs → lstOf S p.1 = some p.2) (hl : l.length ≤ LINE) :
    lcK vs g tYes e fr (.ok ⟨l, hs⟩ S) = .ok (.ref S.length) (S ++ .lst ((List.range l.length).map fun i => .ref (S.length + 1 + i)) :: List.replicate l.length (.lst [])) := by
  have q := lc_fresh_go (g := g) (t := fun fr S => quiet (tYes fr S)) (e := fun fr S => quiet (e fr S)) (fr := unset vs fr) (hs := hs) (S1 := S) (fun d S' => by
    obtain ⟨fr', e1, e2⟩ := hg d S'
    exact ⟨fr', e1, rfl, by rw [e2]; rfl⟩) h l 0 (by omega)
  rw [Nat.zero_add] at q
  exact q
/-- lists within a list -/
structure Cm (S : Store) (A : Nat) (n : Nat) (L : Nat → List Int) : Prop where
  a : S[A]? = some (.lst ((List.range n).map fun i => .ref (A + 1 + i)))
  at_ : ∀ i, i < n → S[A + 1 + i]? = some (.lst ((L i).map .int))
theorem Cm.mono {S S' : Store} {A n : Nat} {L : Nat → List Int} (c : Cm S A n L) (p : Pre S S') : Cm S' A n L := ⟨p.get c.a, fun i hi => p.get (c.at_ i hi)⟩
theorem Cm.ix {S : Store} {A n : Nat} {L : Nat → List Int} (c : Cm S A n L) {i : Nat} (hi : i < n) : atI ((List.range n).map fun i => D.ref (A + 1 + i)) (i : Int) = some (.ref (A + 1 + i)) := at_of (by rw [List.getElem?_map, List.getElem?_range hi]; rfl)
theorem Cm.start {S : Store} {n : Nat} : Cm (S ++ .lst ((List.range n).map fun i => .ref (S.length + 1 + i)) :: List.replicate n (.lst [])) S.length n fun _ => [] := by
  refine ⟨app_new _ _ _, fun i hi => ?_⟩
  rw [List.getElem?_append_right (by omega), show S.length + 1 + i - S.length = i + 1 by omega, List.getElem?_cons_succ, List.getElem?_replicate, if_pos hi]
  rfl
theorem Cm.put {S : Store} {A n : Nat} {L : Nat → List Int} (c : Cm S A n L) {i : Nat} (hi : i < n) (x : Int) : Cm (S.set (A + 1 + i) (.lst ((L i ++ [x]).map .int))) A n fun j => if j = i then L j ++ [x] else L j := by
  refine ⟨by rw [set_ne (by omega)]; exact c.a, fun j hj => ?_⟩
  by_cases h : j = i
  · subst h
    rw [if_pos rfl]
    exact set_get (c.at_ j hj)
  · rw [if_neg h, set_ne (by omega)]
    exact c.at_ j hj
/-- the rows from which row m is come to, by places -/
def cameL (L : List (Int × Int)) (m : Nat) : List Int := (L.filter fun p => decide (p.1 ≠ -1 ∧ p.2 = (m : Int))).map (·.1)
theorem cameL_snoc (L : List (Int × Int)) (p : Int × Int) (m : Nat) : cameL (L ++ [p]) m = if p.1 ≠ -1 ∧ p.2 = (m : Int) then cameL L m ++ [p.1] else cameL L m := by
  unfold cameL
  rw [List.filter_append]
  split
  · rename_i h; simp [h]
  · rename_i h
    have : ([p].filter fun p => decide (p.1 ≠ -1 ∧ p.2 = (m : Int))) = [] := by
      rw [List.filter_cons_of_neg (by simpa using h)]; rfl
    rw [this, List.append_nil]
def cameR (rows : List Row) (m : Nat) : List Int := cameL (plc rows) m
theorem cameR_mem {rows : List Row} {m : Nat} {n : Int} : n ∈ cameR rows m ↔ ∃ (i : Nat) (r : Row), rows[i]? = some r ∧ n = (i : Int) ∧ (m : Int) ∈ fol i r := by
  unfold cameR cameL
  simp only [List.mem_map, List.mem_filter, decide_eq_true_eq]
  constructor
  · rintro ⟨⟨a, b⟩, ⟨h1, h2, h3⟩, rfl⟩
    have h2 : a ≠ -1 := h2
    have h3 : b = (m : Int) := h3
    subst h3
    rcases plc_mem.mp h1 with ⟨z, _⟩ | ⟨i, r, e, h4, h5⟩
    · exact absurd z h2
    · exact ⟨i, r, e, h4, h5⟩
  · rintro ⟨i, r, e, rfl, h⟩
    exact ⟨((i : Int), (m : Int)), ⟨plc_mem.mpr (.inr ⟨i, r, e, rfl, h⟩), by show ((i : Int)) ≠ -1; omega, rfl⟩, rfl⟩
theorem cameL_len (L : List (Int × Int)) (m : Nat) : (cameL L m).length ≤ L.length := by
  unfold cameL
  rw [List.length_map]
  exact List.length_filter_le _ _
theorem cameR_len (rows : List Row) (m : Nat) : (cameR rows m).length ≤ 2 * rows.length + 1 := Nat.le_trans (cameL_len _ _) (plc_len rows)
/-- the bits standing behind a row -/
noncomputable def standP (rows : List Row) (n : Nat) : BF := fun k => match (recs rows)[k]? with
  | some x => !dec (Mst rows x n)
  | none => false
noncomputable def gStd (rows : List Row) (fs : List BF) (n : Nat) : BF := fun k => match rows[n]? with
  | some r => (ownF rows r k || (decide (n ≠ 0) && allF fs (cameR rows n) k)) && (true ^^ lostF rows r k)
  | none => false
noncomputable def ruleS (rows : List Row) : Rule rows where
  g := gStd rows
  mono := fun fs fs' n k h a => by
    unfold gStd at a ⊢
    split at a
    · rename_i r e
      simp only [Bool.or_eq_true, Bool.and_eq_true] at a ⊢
      obtain ⟨a, a3⟩ := a
      refine ⟨?_, a3⟩
      rcases a with a | ⟨a1, a2⟩
      · exact .inl a
      · exact .inr ⟨a1, allF_mono h a2⟩
    · cases a
theorem std_up {rows : List Row} {fs : List BF} (d : Down (ruleS rows) (recs rows).length (fun n k => standP rows n k = true) fs) {n : Nat} (hn : n < rows.length) : ∀ k, k < (recs rows).length → standP rows n k = true → (ruleS rows).g fs n k = true := by
  intro k hk w
  obtain ⟨x, hx⟩ : ∃ x, (recs rows)[k]? = some x := ⟨_, List.getElem?_eq_getElem hk⟩
  obtain ⟨r, hr⟩ : ∃ r, rows[n]? = some r := ⟨_, List.getElem?_eq_getElem hn⟩
  have wx : ∀ j, standP rows j k = !dec (Mst rows x j) := fun j => by unfold standP; rw [hx]
  rw [wx] at w
  have nm : ¬ Mst rows x n := fun z => by rw [dec_true z] at w; cases w
  show gStd rows fs n k = true
  unfold gStd
  rw [hr]
  simp only [Bool.or_eq_true, Bool.and_eq_true]
  refine ⟨?_, ?_⟩
  · by_cases ho : r.rkg = some x
    · exact .inl (by unfold ownF; exact dec_true ⟨by rw [ho]; simp, by rw [ho, hx]⟩)
    · right
      refine ⟨decide_eq_true fun z => nm (by subst z; exact .zero hr ho), ?_⟩
      unfold allF
      rw [List.all_eq_true]
      intro m hm
      obtain ⟨j, q, hq, rfl, hf⟩ := cameR_mem.mp hm
      refine d.up j k (List.getElem?_eq_some_iff.mp hq).1 hk ?_
      rw [wx, dec_false fun z => nm (.step hr ho hq hf z)]
      rfl
  · unfold lostF
    rw [hx]
    dsimp only
    cases hc : chg r x with
    | false => rfl
    | true => exact absurd (.out hr hc) nm
theorem std_fix {rows : List Row} {fs : List BF} (hf : ∀ n k, n < rows.length → k < (recs rows).length → gStd rows fs n k = fsAt fs (n : Int) k) {k : Nat} {x : List Ky} (hx : (recs rows)[k]? = some x) {n : Nat} (m : Mst rows x n) : fsAt fs (n : Int) k = false := by
  have hk := (List.getElem?_eq_some_iff.mp hx).1
  have own : ∀ r : Row, r.rkg ≠ some x → ownF rows r k = false := fun r h => by
    unfold ownF
    exact dec_false fun z => h (by rw [z.2, hx])
  induction m with
  | @out n r hr h =>
    have hn := (List.getElem?_eq_some_iff.mp hr).1
    rw [← hf n k hn hk]
    unfold gStd
    rw [hr]
    dsimp only
    have : lostF rows r k = true := by unfold lostF; rw [hx]; exact h
    rw [this]; simp
  | @zero r hr ho =>
    have hn := (List.getElem?_eq_some_iff.mp hr).1
    rw [← hf 0 k hn hk]
    unfold gStd
    rw [hr]
    dsimp only
    rw [own r ho]; simp
  | @step n j r q hr ho hq hj _ ih =>
    have hn := (List.getElem?_eq_some_iff.mp hr).1
    rw [← hf n k hn hk]
    unfold gStd
    rw [hr]
    dsimp only
    rw [own r ho, Bool.false_or]
    have : allF fs (cameR rows n) k = false := by
      unfold allF
      rw [List.all_eq_false]
      exact ⟨(j : Int), cameR_mem.mpr ⟨j, q, hq, rfl, hj⟩, by rw [ih]; simp⟩
    rw [this]; simp
theorem dPut_put {κ α : Type} [DecidableEq κ] (l : List (κ × α)) (k : κ) (v w : α) : dPut (dPut l k v) k w = dPut l k w := by
  unfold dPut
  by_cases h : (l.any fun kv => decide (kv.1 = k)) = true
  · have h2 : ((l.map fun kv => if kv.1 = k then (kv.1, v) else kv).any fun kv => decide (kv.1 = k)) = true := by
      rw [List.any_eq_true] at h ⊢
      obtain ⟨p, hp, e⟩ := h
      refine ⟨_, List.mem_map.mpr ⟨p, hp, rfl⟩, ?_⟩
      have e : p.1 = k := of_decide_eq_true e
      rw [if_pos e]
      exact decide_eq_true e
    rw [if_pos h, if_pos h2, if_pos h, List.map_map]
    apply List.map_congr_left
    intro p _
    simp only [Function.comp]
    by_cases e : p.1 = k
    · rw [if_pos e, if_pos e, if_pos e]
    · rw [if_neg e, if_neg e]
  · rw [if_neg h, if_neg h]
    have h2 : ((l ++ [(k, v)]).any fun kv => decide (kv.1 = k)) = true := by simp
    rw [if_pos h2, List.map_append]
    congr 1
    · have : ∀ p ∈ l, (if p.1 = k then (p.1, w) else p) = p := fun p hp => if_neg fun z => h (List.any_eq_true.mpr ⟨p, hp, decide_eq_true z⟩)
      rw [List.map_congr_left this, List.map_id']
    · simp
end Mi

set_option Elab.async false
set_option linter.all false
set_option maxHeartbeats 1000000
/-! first places -/
namespace Mi
theorem bits_sub_add (p q : BF) : ∀ m, bitsOf (fun k => p k && !q k) m + bitsOf (fun k => p k && q k) m = bitsOf p m
  | 0 => rfl
  | m + 1 => by
    have ih := bits_sub_add p q m
    unfold bitsOf
    cases hp : p m <;> cases hq : q m <;> simp [hp, hq] <;> omega
theorem bD_sub (m : Nat) (p q : BF) (S : Store) : oSub (bD m p) (bD m fun k => p k && q k) S = .ok (bD m fun k => p k && !q k) S := by
  unfold bD
  rw [oSub_i]
  have := bits_sub_add p q m
  congr 2
  omega
/-- x >> k, as it stands -/
def shD (m : Nat) (p : BF) (k : Nat) : D := .int ((bitsOf p m / 2 ^ k : Nat) : Int)
theorem bD_shr (m : Nat) (p : BF) (k : Nat) (S : Store) : oShr (bD m p) (.int (k : Int)) S = .ok (shD m p k) S := shr_bit p m k S
theorem shD_and (m : Nat) (p : BF) (k : Nat) (hk : k < m) (S : Store) : oAnd (shD m p k) (.int 1) S = .ok (.int (if p k = true then 1 else 0)) S := by
  unfold shD
  rw [and_one, bits_shr]
  simp only [hk, decide_true, Bool.true_and]
  cases p k <;> rfl
/-- whether row n keeps it from going further ahead -/
noncomputable def backP (rows : List Row) (n : Nat) : BF := fun k => match rows[n]? with
  | some r => lostF rows r k || ((true ^^ ownF rows r k) && (true ^^ (fol n r).all fun m => wantP rows m.toNat k))
  | none => false
noncomputable def stdB (rows : List Row) (p : Int × Int) : BF := if p.1 = -1 then fun _ => false else standP rows p.1.toNat
noncomputable def firstB (rows : List Row) (p : Int × Int) : BF := fun k => (wantP rows p.2.toNat k && !stdB rows p k) && (decide (p.1 = -1) || backP rows p.1.toNat k)
end Mi

set_option Elab.async false
set_option linter.all false
set_option maxHeartbeats 1000000
/-! rows put off: the greatest sets that fit -/
namespace Mi
/-- lists of any things within a list -/
structure CmD (S : Store) (A : Nat) (n : Nat) (L : Nat → List D) : Prop where
  a : S[A]? = some (.lst ((List.range n).map fun i => .ref (A + 1 + i)))
  at_ : ∀ i, i < n → S[A + 1 + i]? = some (.lst (L i))
theorem CmD.mono {S S' : Store} {A n : Nat} {L : Nat → List D} (c : CmD S A n L) (p : Pre S S') : CmD S' A n L := ⟨p.get c.a, fun i hi => p.get (c.at_ i hi)⟩
theorem CmD.ix {S : Store} {A n : Nat} {L : Nat → List D} (c : CmD S A n L) {i : Nat} (hi : i < n) : atI ((List.range n).map fun i => D.ref (A + 1 + i)) (i : Int) = some (.ref (A + 1 + i)) := at_of (by rw [List.getElem?_map, List.getElem?_range hi]; rfl)
theorem CmD.start {S : Store} {n : Nat} : CmD (S ++ .lst ((List.range n).map fun i => .ref (S.length + 1 + i)) :: List.replicate n (.lst [])) S.length n fun _ => [] := by
  refine ⟨app_new _ _ _, fun i hi => ?_⟩
  rw [List.getElem?_append_right (by omega), show S.length + 1 + i - S.length = i + 1 by omega, List.getElem?_cons_succ, List.getElem?_replicate, if_pos hi]
theorem CmD.put {S : Store} {A n : Nat} {L : Nat → List D} (c : CmD S A n L) {i : Nat} (hi : i < n) (x : D) : CmD (S.set (A + 1 + i) (.lst (L i ++ [x]))) A n fun j => if j = i then L j ++ [x] else L j := by
  refine ⟨by rw [set_ne (by omega)]; exact c.a, fun j hj => ?_⟩
  by_cases h : j = i
  · subst h
    rw [if_pos rfl]
    exact set_get (c.at_ j hj)
  · rw [if_neg h, set_ne (by omega)]
    exact c.at_ j hj
/-- places that lead to a row -/
def ledL (L : List (Int × Int)) (m : Nat) : List (Int × Int) := L.filter fun p => decide (p.2 = (m : Int))
theorem ledL_snoc (L : List (Int × Int)) (p : Int × Int) (m : Nat) : ledL (L ++ [p]) m = if p.2 = (m : Int) then ledL L m ++ [p] else ledL L m := by
  unfold ledL
  rw [List.filter_append]
  by_cases h : p.2 = (m : Int)
  · simp [h]
  · simp [h]
theorem ledL_len (L : List (Int × Int)) (m : Nat) : (ledL L m).length ≤ L.length := List.length_filter_le _ _
theorem ledL_mem {L : List (Int × Int)} {p : Int × Int} {m : Nat} : p ∈ ledL L m ↔ p ∈ L ∧ p.2 = (m : Int) := by
  unfold ledL
  rw [List.mem_filter, decide_eq_true_eq]
section
variable {bg st : Int × Int → Bool} {ow : Nat → Bool} {L : List (Int × Int)}
/-- whether it comes put off to a place -/
def comesF (bg : Int × Int → Bool) (ow : Nat → Bool) (F : BF) (p : Int × Int) : Bool := bg p || (decide (p.1 ≠ -1) && (F p.1.toNat && !ow p.1.toNat))
theorem comesF_mono {F G : BF} (h : ∀ m, F m = true → G m = true) {p : Int × Int} (c : comesF bg ow F p = true) : comesF bg ow G p = true := by
  unfold comesF at c ⊢
  rw [Bool.or_eq_true] at c ⊢
  rcases c with c | c
  · exact .inl c
  · rw [Bool.and_eq_true, Bool.and_eq_true] at c ⊢
    exact .inr ⟨c.1, h _ c.2.1, c.2.2⟩
def goodF (bg st : Int × Int → Bool) (ow : Nat → Bool) (L : List (Int × Int)) (F : BF) : Prop := ∀ p ∈ L, F p.2.toNat = true → st p = false ∧ comesF bg ow F p = true
noncomputable def offF (bg st : Int × Int → Bool) (ow : Nat → Bool) (L : List (Int × Int)) : BF := fun m => dec (∃ G, goodF bg st ow L G ∧ G m = true)
theorem offF_max {G : BF} (g : goodF bg st ow L G) {m : Nat} (h : G m = true) : offF bg st ow L m = true := dec_true ⟨G, g, h⟩
theorem offF_good : goodF bg st ow L (offF bg st ow L) := fun p hp h => by
  obtain ⟨G, g, hg⟩ := of_dec h
  obtain ⟨a, b⟩ := g p hp hg
  exact ⟨a, comesF_mono (fun m hm => offF_max g hm) b⟩
def clr (F : BF) (j : Nat) : BF := fun m => if m = j then false else F m
/-- rows on their way down -/
structure OffI (bg st : Int × Int → Bool) (ow : Nat → Bool) (L : List (Int × Int)) (n : Nat) (F0 F : BF) (b : Bool) (Dn : Int × Int → Prop) : Prop where
  up : ∀ m, offF bg st ow L m = true → F m = true
  le : bitsOf F n ≤ bitsOf F0 n
  lt : b = true → bitsOf F n < bitsOf F0 n
  eq : b = false → F = F0 ∧ ∀ p, Dn p → F p.2.toNat = true → st p = false ∧ comesF bg ow F p = true
theorem OffI.start {n : Nat} {F : BF} (up : ∀ m, offF bg st ow L m = true → F m = true) {Dn : Int × Int → Prop} (h : ∀ p, ¬ Dn p) : OffI bg st ow L n F F false Dn := ⟨up, Nat.le_refl _, (fun h => by cases h), fun _ => ⟨rfl, fun p hp => absurd hp (h p)⟩⟩
theorem OffI.of {n : Nat} {F0 F : BF} {b : Bool} {Dn Dn' : Int × Int → Prop} (h : OffI bg st ow L n F0 F b Dn) (hd : ∀ p, Dn' p → Dn p) : OffI bg st ow L n F0 F b Dn' := ⟨h.up, h.le, h.lt, fun hb => ⟨(h.eq hb).1, fun p hp => (h.eq hb).2 p (hd p hp)⟩⟩
theorem OffI.keep {n : Nat} {F0 F : BF} {b : Bool} {Dn Dn' : Int × Int → Prop} (h : OffI bg st ow L n F0 F b Dn) {p : Int × Int} (c : (F p.2.toNat && (st p || !comesF bg ow F p)) = false) (hd : ∀ q, Dn' q → Dn q ∨ q = p) : OffI bg st ow L n F0 F b Dn' :=
  ⟨h.up, h.le, h.lt, fun hb => ⟨(h.eq hb).1, fun q hq hf => by
    rcases hd q hq with z | z
    · exact (h.eq hb).2 q z hf
    · subst z
      rw [hf, Bool.true_and, Bool.or_eq_false_iff] at c
      exact ⟨c.1, by simpa using c.2⟩⟩⟩
theorem clr_lt {F : BF} {j n : Nat} (hj : j < n) (h : F j = true) : bitsOf (clr F j) n < bitsOf F n := bit_lt (fun k _ e => by
    unfold clr at e
    split at e
    · cases e
    · exact e) fun e => by
    have := bits_inj e j hj
    unfold clr at this
    rw [if_pos rfl, h] at this
    cases this
theorem OffI.cut {n : Nat} {F0 F : BF} {b : Bool} {Dn Dn' : Int × Int → Prop} (h : OffI bg st ow L n F0 F b Dn) {p : Int × Int} (hp : p ∈ L) (hn : p.2.toNat < n) (c : (F p.2.toNat && (st p || !comesF bg ow F p)) = true) : OffI bg st ow L n F0 (clr F p.2.toNat) true Dn' := by
  rw [Bool.and_eq_true] at c
  have lt := clr_lt hn c.1
  refine ⟨fun m hm => ?_, Nat.le_trans (Nat.le_of_lt lt) h.le, fun _ => Nat.lt_of_lt_of_le lt h.le, (fun h => by cases h)⟩
  unfold clr
  by_cases e : m = p.2.toNat
  · subst e
    obtain ⟨a, z⟩ := offF_good p hp hm
    rw [a, comesF_mono h.up z] at c
    exact absurd c.2 (by simp)
  · rw [if_neg e]
    exact h.up m hm
theorem OffI.done {n : Nat} {F0 F : BF} {Dn : Int × Int → Prop} (h : OffI bg st ow L n F0 F false Dn) (hd : ∀ p ∈ L, Dn p) : F = offF bg st ow L := by
  have g : goodF bg st ow L F := fun p hp hf => (h.eq rfl).2 p (hd p hp) hf
  funext m
  cases h1 : F m with
  | true => rw [offF_max g h1]
  | false =>
    cases h2 : offF bg st ow L m with
    | false => rfl
    | true => rw [h.up m h2] at h1; cases h1
end
theorem off_congr {bg bg' st st' : Int × Int → Bool} {ow ow' : Nat → Bool} {L : List (Int × Int)} (h1 : ∀ p ∈ L, bg p = bg' p) (h2 : ∀ p ∈ L, st p = st' p) (h3 : ∀ p ∈ L, p.1 ≠ -1 → ow p.1.toNat = ow' p.1.toNat) : offF bg st ow L = offF bg' st' ow' L := by
  have e : ∀ F p, p ∈ L → comesF bg ow F p = comesF bg' ow' F p := fun F p hp => by
    unfold comesF
    rw [h1 p hp]
    by_cases c : p.1 = -1
    · simp [c]
    · rw [h3 p hp c]
  have g : goodF bg st ow L = goodF bg' st' ow' L := by
    funext F
    refine propext ⟨fun h p hp hf => ?_, fun h p hp hf => ?_⟩
    · have := h p hp hf
      rw [← h2 p hp, ← e F p hp]; exact this
    · have := h p hp hf
      rw [h2 p hp, e F p hp]; exact this
  unfold offF
  rw [g]
/-! ### a tuple of two lists, compared -/
theorem look_of {S : Store} {n : Nat} {l : List D} {r : List PySem.PyData} (h : lstOf S n = some l) (e : toPs (lookP 7 S) l = some r) : lookP 8 S n = some (.list r) := by
  unfold lookP
  unfold lstOf at h
  cases hn : S[n]? with
  | none => rw [hn] at h; cases h
  | some o =>
    rw [hn] at h
    cases o with
    | lst l => dsimp only at h ⊢; obtain rfl := Option.some.inj h; rw [e]; rfl
    | fls l => dsimp only at h ⊢; obtain rfl := Option.some.inj h; rw [e]; rfl
    | _ => cases h
theorem eq_two {S : Store} {a b a' b' : Nat} {A : List (List Ky)} {B : List Ky} (ha : lstOf S a = some (A.map kt)) (hb : lstOf S b = some (B.map kyD)) (ha' : lstOf S a' = some (A.map kt)) (hb' : lstOf S b' = some (B.map kyD)) (hA : A.all (fun l => l.all kOk) = true) (hB : B.all kOk = true) :
    pyEq (.tup [.ref a, .ref b]) (.tup [.ref a', .ref b']) S = some true := by
  have l1 := look_of ha (toPs_kt _ A)
  have l2 := look_of hb (toPs_k _ B)
  have l3 := look_of ha' (toPs_kt _ A)
  have l4 := look_of hb' (toPs_k _ B)
  have sh : shp (.tuple [.list (A.map fun l => .tuple (l.map kp)), .list (B.map kp)]) = true := by
    unfold shp PySem.SeqAt.shaped
    have d1 := dep_kts A
    have d2 := dep_ks B
    simp only [PySem.PyData.canLay0, PySem.PyData.canLayAll0, PySem.PyData.depth, PySem.PyData.depthAll, lay_kts hA, lay_ks hB, Bool.true_and, Bool.and_self]
    refine decide_eq_true ?_
    simp only [Nat.max_def]
    split <;> split <;> omega
  unfold pyEq
  have e : scq (.tup [.ref a, .ref b]) (.tup [.ref a', .ref b']) = none := rfl
  rw [e]
  simp only [pd, toP, toPs, l1, l2, l3, l4, Option.bind_some, Option.map_some, sh, and_self, if_true]
  unfold PySem.PyData.eqv PySem.PyData.eqvAll PySem.PyData.eqvAll PySem.PyData.eqvAll PySem.PyData.eqv
  rw [eqv_kts, eqv_ks]
  simp
end Mi

set_option Elab.async false
set_option linter.all false
set_option maxHeartbeats 1000000
/-! where a row is come to that asks -/
namespace Mi
inductive RdI (rd dd : Nat → Bool) (nx : Nat → List Int) : Nat → Prop
  | read {n : Nat} (h : rd n = true) : RdI rd dd nx n
  | step {n m : Nat} (h : dd n = false) (hm : (m : Int) ∈ nx n) (r : RdI rd dd nx m) : RdI rd dd nx n
noncomputable def rdF (rd dd : Nat → Bool) (nx : Nat → List Int) : BF := fun m => dec (RdI rd dd nx m)
def setT (F : BF) (j : Nat) : BF := fun m => if m = j then true else F m
section
variable {rd dd : Nat → Bool} {nx : Nat → List Int}
/-- rows on their way up -/
structure AskI (rd dd : Nat → Bool) (nx : Nat → List Int) (n : Nat) (F0 F : BF) (b : Bool) (Dn : Nat → Int → Prop) : Prop where
  sd : ∀ m, F m = true → RdI rd dd nx m
  base : ∀ m, rd m = true → F m = true
  le : bitsOf (fun i => !F i) n ≤ bitsOf (fun i => !F0 i) n
  lt : b = true → bitsOf (fun i => !F i) n < bitsOf (fun i => !F0 i) n
  eq : b = false → F = F0 ∧ ∀ (i m : Nat), Dn i (m : Int) → dd i = false → (m : Int) ∈ nx i → F m = true → F i = true
theorem AskI.start {n : Nat} {F : BF} (sd : ∀ m, F m = true → RdI rd dd nx m) (base : ∀ m, rd m = true → F m = true) {Dn : Nat → Int → Prop} (h : ∀ i j, ¬ Dn i j) : AskI rd dd nx n F F false Dn := ⟨sd, base, Nat.le_refl _, (fun h => by cases h), fun _ => ⟨rfl, fun i m hd => absurd hd (h i m)⟩⟩
theorem AskI.of {n : Nat} {F0 F : BF} {b : Bool} {Dn Dn' : Nat → Int → Prop} (h : AskI rd dd nx n F0 F b Dn) (hd : ∀ (i m : Nat), Dn' i m → Dn i m ∨ dd i = true ∨ (m : Int) ∉ nx i ∨ F m = false ∨ F i = true) : AskI rd dd nx n F0 F b Dn' := ⟨h.sd, h.base, h.le, h.lt, fun hb => ⟨(h.eq hb).1, fun i m hm h1 h2 h3 => by
  rcases hd i m hm with z | z | z | z | z
  · exact (h.eq hb).2 i m z h1 h2 h3
  · rw [h1] at z; cases z
  · exact absurd h2 z
  · rw [h3] at z; cases z
  · exact z⟩⟩
theorem AskI.put {n : Nat} {F0 F : BF} {b : Bool} {Dn Dn' : Nat → Int → Prop} (h : AskI rd dd nx n F0 F b Dn) {i m : Nat} (hi : i < n) (h1 : dd i = false) (h2 : (m : Int) ∈ nx i) (h3 : F m = true) (h4 : F i = false) : AskI rd dd nx n F0 (setT F i) true Dn' := by
  have lt : bitsOf (fun j => !setT F i j) n < bitsOf (fun j => !F j) n := bit_lt (fun k _ e => by
    unfold setT at e
    split at e
    · cases e
    · exact e) fun e => by
    have := bits_inj e i hi
    unfold setT at this
    rw [if_pos rfl, h4] at this
    cases this
  refine ⟨fun k hk => ?_, fun k hk => ?_, Nat.le_trans (Nat.le_of_lt lt) h.le, fun _ => Nat.lt_of_lt_of_le lt h.le, (fun h => by cases h)⟩
  · unfold setT at hk
    split at hk
    · rename_i e
      subst e
      exact .step h1 h2 (h.sd m h3)
    · exact h.sd k hk
  · unfold setT
    split
    · rfl
    · exact h.base k hk
theorem AskI.done {n : Nat} {F0 F : BF} {Dn : Nat → Int → Prop} (h : AskI rd dd nx n F0 F false Dn) (hd : ∀ (i m : Nat), i < n → (m : Int) ∈ nx i → Dn i m) (hx : ∀ (i m : Nat), (m : Int) ∈ nx i → m < n) : ∀ m, m < n → F m = rdF rd dd nx m := by
  have up : ∀ m, RdI rd dd nx m → m < n → F m = true := by
    intro m r
    induction r with
    | read z => intro _; exact h.base _ z
    | @step i j z hm r ih =>
      intro hi
      exact (h.eq rfl).2 i j (hd i j hi hm) z hm (ih (hx i j hm))
  intro m hm
  unfold rdF
  by_cases r : RdI rd dd nx m
  · rw [dec_true r, up m r hm]
  · rw [dec_false r]
    cases hf : F m with
    | false => rfl
    | true => exact absurd (h.sd m hf) r
end
/-- what a search on keeps -/
structure Sea (rows : List Row) (rd dd : Nat → Bool) (nx : Nat → List Int) (m0 : Nat) (ks left : List Int) : Prop where
  kss : Ks rows ks
  rg : ∀ y ∈ left, (0 : Int) ≤ y ∧ y < (rows.length : Int)
  sound : ∀ n : Nat, (n : Int) ∈ left → RdI rd dd nx n → RdI rd dd nx m0
  quiet : ∀ n : Nat, (n : Int) ∈ ks → rd n = false ∧ ∀ j : Nat, (j : Int) ∈ nx n → (j : Int) ∈ ks ∨ (j : Int) ∈ left ∨ (rd j = false ∧ dd j = true)
  start : (m0 : Int) ∈ ks ∨ (m0 : Int) ∈ left ∨ (rd m0 = false ∧ dd m0 = true)
theorem rdI_dead {rd dd : Nat → Bool} {nx : Nat → List Int} {n : Nat} (h1 : rd n = false) (h2 : dd n = true) : ¬ RdI rd dd nx n := by
  intro r
  cases r with
  | read h => rw [h1] at h; cases h
  | step h _ _ => rw [h2] at h; cases h
theorem Sea.done {rows : List Row} {rd dd : Nat → Bool} {nx : Nat → List Int} {m0 : Nat} {ks : List Int} (s : Sea rows rd dd nx m0 ks []) : ¬ RdI rd dd nx m0 := by
  have no : ∀ n, RdI rd dd nx n → (n : Int) ∉ ks := by
    intro n r
    induction r with
    | @read n h =>
      intro z
      rw [(s.quiet n z).1] at h; cases h
    | @step n m h hm r ih =>
      intro z
      rcases (s.quiet n z).2 m hm with y | y | ⟨y, w⟩
      · exact ih y
      · cases y
      · exact rdI_dead y w r
  intro r
  rcases s.start with h | h | ⟨y, w⟩
  · exact no _ r h
  · cases h
  · exact rdI_dead y w r
theorem Sea.init {rows : List Row} {rd dd : Nat → Bool} {nx : Nat → List Int} {m0 : Nat} (h : m0 < rows.length) : Sea rows rd dd nx m0 [] [(m0 : Int)] := ⟨⟨by simp, by simp⟩, fun y hy => by simp at hy; omega, fun n hn m => (by
  have : n = m0 := by simp at hn; omega
  exact this ▸ m), fun n hn => (by cases hn), .inr (.inl (by simp))⟩
/-- one that is seen or dead is left out -/
theorem Sea.skip {rows : List Row} {rd dd : Nat → Bool} {nx : Nat → List Int} {m0 : Nat} {ks q : List Int} {n : Nat} (s : Sea rows rd dd nx m0 ks (q ++ [(n : Int)])) (h : (n : Int) ∈ ks ∨ (rd n = false ∧ dd n = true)) : Sea rows rd dd nx m0 ks q := by
  have f : ∀ j : Nat, (j : Int) ∈ q ++ [(n : Int)] → (j : Int) ∈ ks ∨ (j : Int) ∈ q ∨ (rd j = false ∧ dd j = true) := fun j hj => by
    rcases List.mem_append.mp hj with z | z
    · exact .inr (.inl z)
    · have : j = n := by have := List.mem_singleton.mp z; omega
      subst this
      rcases h with h | h
      · exact .inl h
      · exact .inr (.inr h)
  refine ⟨s.kss, fun y hy => s.rg y (by simp [hy]), fun j hj => s.sound j (by simp [hj]), fun j hj => ⟨(s.quiet j hj).1, fun i hi => ?_⟩, ?_⟩
  · rcases (s.quiet j hj).2 i hi with z | z | z
    · exact .inl z
    · exact f i z
    · exact .inr (.inr z)
  · rcases s.start with z | z | z
    · exact .inl z
    · exact f m0 z
    · exact .inr (.inr z)
theorem Sea.go {rows : List Row} {rd dd : Nat → Bool} {nx : Nat → List Int} {m0 : Nat} {ks q : List Int} {n : Nat} (s : Sea rows rd dd nx m0 ks (q ++ [(n : Int)])) (hn : (n : Int) ∉ ks) (h1 : rd n = false) (h2 : dd n = false) (hx : ∀ y ∈ nx n, (0 : Int) ≤ y ∧ y < (rows.length : Int)) : Sea rows rd dd nx m0 (ks ++ [(n : Int)]) (q ++ nx n) := by
  have hrg := s.rg n (by simp)
  have f : ∀ j : Nat, (j : Int) ∈ q ++ [(n : Int)] → (j : Int) ∈ ks ++ [(n : Int)] ∨ (j : Int) ∈ q ++ nx n ∨ (rd j = false ∧ dd j = true) := fun j hj => by
    rcases List.mem_append.mp hj with z | z
    · exact .inr (.inl (by simp [z]))
    · exact .inl (by rw [List.mem_append]; exact .inr z)
  refine ⟨s.kss.snoc hn hrg, fun y hy => ?_, fun j hj r => ?_, fun j hj => ?_, ?_⟩
  · rcases List.mem_append.mp hy with z | z
    · exact s.rg y (by simp [z])
    · exact hx y z
  · rcases List.mem_append.mp hj with z | z
    · exact s.sound j (by simp [z]) r
    · exact s.sound n (by simp) (.step h2 z r)
  · rcases List.mem_append.mp hj with z | z
    · refine ⟨(s.quiet j z).1, fun i hi => ?_⟩
      rcases (s.quiet j z).2 i hi with y | y | y
      · exact .inl (by simp [y])
      · exact f i y
      · exact .inr (.inr y)
    · have : j = n := by have := List.mem_singleton.mp z; omega
      subst this
      exact ⟨h1, fun i hi => .inr (.inl (by simp [hi]))⟩
  · rcases s.start with z | z | z
    · exact .inl (by simp [z])
    · exact f m0 z
    · exact .inr (.inr z)
/-! ### what rows do, told by pairs -/
def HD (L : List (Nat × Tx)) : List D := L.map fun p => .tup [.int (p.1 : Int), .str p.2]
def TL (L : List (Nat × Tx)) : List (Ky × D) := L.foldl (fun acc p => dPut acc (.inl (p.1 : Int)) (.str p.2)) []
def hwL (L : List (Nat × Tx)) (n : Nat) : Tx := L.foldl (fun acc p => if p.1 = n then p.2 else acc) []
theorem prs_HD (L : List (Nat × Tx)) : prsOf (HD L) = some (L.map fun p => ((Sum.inl (p.1 : Int) : Ky), D.str p.2)) := by
  induction L with
  | nil => rfl
  | cons p r ih =>
    show ((kyOf (.int (p.1 : Int))).bind fun q => (prsOf (HD r)).map fun l => (q, D.str p.2) :: l) = _
    rw [ih]; rfl
theorem bDict_HD (L : List (Nat × Tx)) (S : Store) : bDict [.wtp (HD L)] S = .ok (.ref S.length) (S ++ [.dK (TL L)]) := by
  unfold bDict
  dsimp only
  rw [prs_HD]
  dsimp only
  rw [List.foldl_map]
  rfl
theorem TL_get (L : List (Nat × Tx)) (n : Nat) : (dGet (TL L) (.inl (n : Int))).getD (.str []) = .str (hwL L n) := by
  refine snoc_ind (P := fun L => (dGet (TL L) (.inl (n : Int))).getD (.str []) = .str (hwL L n)) rfl (fun L p ih => ?_) L
  have e1 : TL (L ++ [p]) = dPut (TL L) (.inl (p.1 : Int)) (.str p.2) := by unfold TL; rw [List.foldl_append]; rfl
  have e2 : hwL (L ++ [p]) n = if p.1 = n then p.2 else hwL L n := by unfold hwL; rw [List.foldl_append]; rfl
  rw [e1, e2, dPut_get]
  by_cases h : p.1 = n
  · rw [if_pos (by rw [h]), if_pos h]; rfl
  · rw [if_neg (fun z => h (by injection z with z; omega)), if_neg h]
    exact ih
theorem dGetM_2 {n : Nat} {T : List (Ky × D)} {S : Store} (h : S[n]? = some (.dK T)) (i : Int) (x : D) : dGetM (.ref n) [.int i, x] S = .ok ((dGet T (.inl i)).getD x) S := by
  unfold dGetM dLook
  dsimp only
  rw [h]
  rfl
end Mi

set_option Elab.async false
set_option linter.all false
set_option maxHeartbeats 1000000
/-! how far rows are from an end -/
namespace Mi
def TF (ks : List Int) (G : Nat → Nat) : List (Ky × D) := ks.map fun x => ((Sum.inl x : Ky), D.int ((G x.toNat : Nat) : Int))
def upG (G : Nat → Nat) (n v : Nat) : Nat → Nat := fun i => if i = n then v else G i
theorem TF_get (ks : List Int) (G : Nat → Nat) (n : Nat) : dGet (TF ks G) (.inl (n : Int)) = if (n : Int) ∈ ks then some (.int ((G n : Nat) : Int)) else none := by
  unfold TF dGet
  induction ks with
  | nil => rfl
  | cons x r ih =>
    rw [List.map_cons, List.find?_cons]
    by_cases h : x = (n : Int)
    · subst h
      simp
    · have h1 : decide ((Sum.inl x : Ky) = .inl (n : Int)) = false := decide_eq_false fun e => h (by injection e)
      dsimp only
      rw [h1]
      dsimp only
      rw [ih]
      have h2 : ¬ (n : Int) = x := fun e => h e.symm
      by_cases m : (n : Int) ∈ r
      · rw [if_pos m, if_pos (by simp [m])]
      · rw [if_neg m, if_neg (by simp [m, h2])]
theorem TF_any (ks : List Int) (G : Nat → Nat) (n : Nat) : ((TF ks G).any fun kv => decide (kv.1 = (Sum.inl (n : Int) : Ky))) = decide ((n : Int) ∈ ks) := by
  unfold TF
  rw [List.any_map]
  induction ks with
  | nil => rfl
  | cons x r ih =>
    rw [List.any_cons, ih]
    by_cases h : x = (n : Int)
    · subst h; simp
    · have h2 : ¬ (n : Int) = x := fun e => h e.symm
      simp [h, h2]
theorem TF_old {ks : List Int} {G : Nat → Nat} {n v : Nat} (h : (n : Int) ∈ ks) (hz : ∀ x ∈ ks, (0 : Int) ≤ x) : dPut (TF ks G) (.inl (n : Int)) (.int (v : Int)) = TF ks (upG G n v) := by
  unfold dPut
  rw [TF_any, if_pos (decide_eq_true h)]
  unfold TF
  rw [List.map_map]
  apply List.map_congr_left
  intro x hx
  have := hz x hx
  by_cases e : x = (n : Int)
  · subst e
    simp [upG]
  · have e2 : ¬ x.toNat = n := by omega
    simp [upG, e, e2]
theorem TF_new {ks : List Int} {G : Nat → Nat} {n v : Nat} (h : (n : Int) ∉ ks) (hz : ∀ x ∈ ks, (0 : Int) ≤ x) : dPut (TF ks G) (.inl (n : Int)) (.int (v : Int)) = TF (ks ++ [(n : Int)]) (upG G n v) := by
  unfold dPut
  rw [TF_any, if_neg (by simp [h])]
  unfold TF
  rw [List.map_append]
  congr 1
  · apply List.map_congr_left
    intro x hx
    have := hz x hx
    have e : ¬ x.toNat = n := fun z => h (by rw [show (n : Int) = x by omega]; exact hx)
    simp [upG, e]
  · simp [upG]
theorem TF_len (ks : List Int) (G : Nat → Nat) : (TF ks G).length = ks.length := by unfold TF; rw [List.length_map]
/-! ### rounds -/
def sumTo (f : Nat → Nat) : Nat → Nat
  | 0 => 0
  | n + 1 => sumTo f n + f n
theorem sumTo_le {f g : Nat → Nat} : ∀ {N : Nat}, (∀ i, i < N → f i ≤ g i) → sumTo f N ≤ sumTo g N
  | 0, _ => Nat.le_refl _
  | N + 1, h => Nat.add_le_add (sumTo_le fun i hi => h i (by omega)) (h N (by omega))
theorem sumTo_lt {f g : Nat → Nat} {n : Nat} : ∀ {N : Nat}, (∀ i, i < N → f i ≤ g i) → n < N → f n < g n → sumTo f N < sumTo g N
  | N + 1, h, hn, hl => by
    by_cases e : n = N
    · subst e
      exact Nat.add_lt_add_of_le_of_lt (sumTo_le fun i hi => h i (by omega)) hl
    · exact Nat.add_lt_add_of_lt_of_le (sumTo_lt (fun i hi => h i (by omega)) (by omega) hl) (h N (by omega))
def mu (N : Nat) (ks : List Int) (G : Nat → Nat) : Nat := sumTo (fun n => if (n : Int) ∈ ks then G n else N) N
structure FarI (rows : List Row) (ks : List Int) (G : Nat → Nat) : Prop where
  kss : Ks rows ks
  bd : ∀ n : Nat, (n : Int) ∈ ks → G n < ks.length
  snd : ∀ (n : Nat) (r : Row), (n : Int) ∈ ks → rows[n]? = some r → r = .en ∨ ∃ m : Nat, (m : Int) ∈ fol n r ∧ (m : Int) ∈ ks ∧ G m + 1 ≤ G n
  ends : ∀ n : Nat, rows[n]? = some .en → (n : Int) ∈ ks
def putK (ks : List Int) (n : Int) : List Int := if n ∈ ks then ks else ks ++ [n]
theorem putK_mem {ks : List Int} {n x : Int} : x ∈ putK ks n ↔ x ∈ ks ∨ x = n := by
  unfold putK
  split
  · rename_i h
    exact ⟨.inl, fun z => z.elim id fun e => e ▸ h⟩
  · simp
theorem FarI.put {rows : List Row} {ks : List Int} {G : Nat → Nat} (h : FarI rows ks G) {n m : Nat} {r : Row} (hr : rows[n]? = some r) (hm : (m : Int) ∈ fol n r) (hmk : (m : Int) ∈ ks) (hc : (n : Int) ∉ ks ∨ G m + 1 < G n) : FarI rows (putK ks n) (upG G n (G m + 1)) ∧ mu rows.length (putK ks n) (upG G n (G m + 1)) < mu rows.length ks G := by
  have hn := (List.getElem?_eq_some_iff.mp hr).1
  have bm := h.bd m hmk
  have nm : m ≠ n := by
    intro e
    subst e
    rcases hc with c | c
    · exact c hmk
    · omega
  have len : ks.length ≤ (putK ks n).length := by unfold putK; split <;> simp
  have lenn : (n : Int) ∉ ks → ks.length < (putK ks n).length := fun z => by unfold putK; rw [if_neg z]; simp
  have kl := h.kss.len
  have K' : Ks rows (putK ks n) := by
    unfold putK
    split
    · exact h.kss
    · rename_i z
      exact h.kss.snoc z (by omega)
  have klt : (n : Int) ∉ ks → ks.length < rows.length := fun z => Nat.lt_of_lt_of_le (lenn z) K'.len
  refine ⟨⟨K', fun i hi => ?_, fun i q hi hq => ?_, fun i hi => putK_mem.mpr (.inl (h.ends i hi))⟩, ?_⟩
  · unfold upG
    by_cases e : i = n
    · rw [if_pos e]
      rcases hc with c | c
      · have := lenn c; omega
      · by_cases z : (n : Int) ∈ ks
        · have := h.bd n z; omega
        · have := lenn z; omega
    · rw [if_neg e]
      rcases putK_mem.mp hi with z | z
      · have := h.bd i z; omega
      · exact absurd (by omega) e
  · by_cases e : i = n
    · subst e
      rw [hr] at hq
      obtain rfl := Option.some.inj hq
      exact .inr ⟨m, hm, putK_mem.mpr (.inl hmk), by unfold upG; rw [if_neg nm, if_pos rfl]; omega⟩
    · rcases putK_mem.mp hi with z | z
      · rcases h.snd i q z hq with w | ⟨m', w1, w2, w3⟩
        · exact .inl w
        · refine .inr ⟨m', w1, putK_mem.mpr (.inl w2), ?_⟩
          unfold upG
          rw [if_neg e]
          by_cases e2 : m' = n
          · subst e2
            rw [if_pos rfl]
            rcases hc with c | c
            · exact absurd w2 c
            · omega
          · rw [if_neg e2]; exact w3
      · exact absurd (by omega) e
  · unfold mu
    refine sumTo_lt (n := n) (fun i hi => ?_) hn ?_
    · by_cases e : i = n
      · subst e
        rw [if_pos (putK_mem.mpr (.inr rfl))]
        unfold upG
        rw [if_pos rfl]
        by_cases z : (i : Int) ∈ ks
        · rw [if_pos z]
          rcases hc with c | c
          · exact absurd z c
          · omega
        · rw [if_neg z]; have := klt z; omega
      · have : upG G n (G m + 1) i = G i := by unfold upG; rw [if_neg e]
        by_cases z : (i : Int) ∈ ks
        · rw [if_pos z, if_pos (putK_mem.mpr (.inl z)), this]; exact Nat.le_refl _
        · rw [if_neg z, if_neg (fun w => (putK_mem.mp w).elim z fun w => e (by omega))]; exact Nat.le_refl _
    · rw [if_pos (putK_mem.mpr (.inr rfl))]
      unfold upG
      rw [if_pos rfl]
      by_cases z : (n : Int) ∈ ks
      · rw [if_pos z]
        rcases hc with c | c
        · exact absurd z c
        · exact c
      · rw [if_neg z]; have := klt z; omega
structure FarP (rows : List Row) (ks0 : List Int) (G0 : Nat → Nat) (ks : List Int) (G : Nat → Nat) (b : Bool) (Dn : Nat → Int → Prop) : Prop where
  inv : FarI rows ks G
  le : mu rows.length ks G ≤ mu rows.length ks0 G0
  lt : b = true → mu rows.length ks G < mu rows.length ks0 G0
  eq : b = false → ∀ i m : Nat, Dn i (m : Int) → (m : Int) ∈ ks → (i : Int) ∈ ks ∧ G i ≤ G m + 1
theorem FarP.keep {rows : List Row} {ks0 ks : List Int} {G0 G : Nat → Nat} {b : Bool} {Dn Dn' : Nat → Int → Prop} (h : FarP rows ks0 G0 ks G b Dn) (hd : ∀ i m : Nat, Dn' i m → Dn i m ∨ ((m : Int) ∈ ks → (i : Int) ∈ ks ∧ G i ≤ G m + 1)) : FarP rows ks0 G0 ks G b Dn' := ⟨h.inv, h.le, h.lt, fun hb i m hm hk => (hd i m hm).elim (fun z => h.eq hb i m z hk) fun z => z hk⟩
theorem FarP.put {rows : List Row} {ks0 ks : List Int} {G0 G : Nat → Nat} {b : Bool} {Dn Dn' : Nat → Int → Prop} (h : FarP rows ks0 G0 ks G b Dn) {n m : Nat} {r : Row} (hr : rows[n]? = some r) (hm : (m : Int) ∈ fol n r) (hmk : (m : Int) ∈ ks) (hc : (n : Int) ∉ ks ∨ G m + 1 < G n) : FarP rows ks0 G0 (putK ks n) (upG G n (G m + 1)) true Dn' := by
  obtain ⟨a, b⟩ := h.inv.put hr hm hmk hc
  have le := h.le
  exact ⟨a, by omega, fun _ => by omega, fun z => by cases z⟩
structure FarD (rows : List Row) (ks : List Int) (G : Nat → Nat) : Prop where
  inv : FarI rows ks G
  cl : ∀ (n m : Nat) (r : Row), rows[n]? = some r → (m : Int) ∈ fol n r → (m : Int) ∈ ks → (n : Int) ∈ ks ∧ G n ≤ G m + 1
/-- what one table holds, each other table holds -/
theorem FarD.sub {rows : List Row} {ks ks' : List Int} {G G' : Nat → Nat} (a : FarD rows ks G) (b : FarD rows ks' G') : ∀ (c n : Nat), G n ≤ c → (n : Int) ∈ ks → (n : Int) ∈ ks' := by
  intro c
  induction c with
  | zero =>
    intro n hc hn
    have hl := (a.inv.kss.rg _ hn).2
    have hr : rows[n]? = some rows[n] := List.getElem?_eq_getElem (by omega)
    rcases a.inv.snd n _ hn hr with e | ⟨m, _, _, h3⟩
    · rw [e] at hr
      exact b.inv.ends n hr
    · omega
  | succ c ih =>
    intro n hc hn
    have hl := (a.inv.kss.rg _ hn).2
    have hr : rows[n]? = some rows[n] := List.getElem?_eq_getElem (by omega)
    rcases a.inv.snd n _ hn hr with e | ⟨m, h1, h2, h3⟩
    · rw [e] at hr
      exact b.inv.ends n hr
    · exact (b.cl n m _ hr h1 (ih m (by omega) h2)).1
end Mi

set_option Elab.async false
set_option linter.all false
set_option maxHeartbeats 1000000
/-! ways and trees over rows that need no end as the last one -/
namespace Mi
structure PW (rows : List Row) : Prop where
  pos : 0 < rows.length
  fi : ∀ {n : Nat} {r : Row} {m : Int}, rows[n]? = some r → m ∈ fol n r → 0 ≤ m ∧ m < rows.length
  rch : ∀ i, i < rows.length → Reach rows i
  ends : ∀ i, i < rows.length → Ends rows i
theorem IsWay.snocW {rows : List Row} {w : List Int} (h : IsWay rows w) (p : PW rows) {a m : Int} {r : Row} (ha : w[w.length - 1]? = some a) (hr : rows[a.toNat]? = some r) (f : m ∈ fol a.toNat r) : IsWay rows (w ++ [m]) := by
  have hp : 0 < w.length := List.length_pos_iff.mpr h.1
  refine ⟨by simp, fun j hj => ?_⟩
  rw [List.length_append, List.length_singleton] at hj
  have old : ∀ i, i < w.length → (w ++ [m])[i]? = w[i]? := fun i hi => List.getElem?_append_left hi
  by_cases h1 : j < w.length
  · obtain ⟨n, e, a0, a1, q⟩ := h.2 j h1
    refine ⟨n, by rw [old j h1, e], a0, a1, fun h0 => ?_⟩
    obtain ⟨a, r, z, q⟩ := q h0
    exact ⟨a, r, by rw [old _ (by omega), z], q⟩
  · obtain rfl : j = w.length := by omega
    have := p.fi hr f
    exact ⟨m, snoc_eq _ _, this.1, this.2, fun _ => ⟨a, r, by rw [old _ (by omega), ha], hr, f⟩⟩
theorem Tree.inrW {rows : List Row} {st : Int} {cm : CM} (t : Tree rows st cm) (pg : PW rows) : ∀ x ∈ cm.map Prod.fst, (0 : Int) ≤ x ∧ x < (rows.length : Int) := by
  induction t with
  | base h0 h1 => intro x hx; rw [List.mem_singleton.mp hx]; exact ⟨h0, h1⟩
  | snoc _ _ _ hr hf ih =>
    intro x hx
    rw [List.map_append] at hx
    rcases List.mem_append.mp hx with z | z
    · exact ih x z
    · rw [List.mem_singleton.mp z]; exact pg.fi hr hf
theorem Tree.lenW {rows : List Row} {st : Int} {cm : CM} (t : Tree rows st cm) (pg : PW rows) : cm.length ≤ rows.length := by
  have := nodup_range rows.length _ t.nodup (t.inrW pg)
  rwa [List.length_map] at this
/-- the way that a tree tells -/
theorem Tree.wayW {rows : List Row} {st : Int} {cm : CM} (t : Tree rows st cm) (pg : PW rows) : ∀ n ∈ cm.map Prod.fst, ∃ w, IsWay rows w ∧ w[0]? = some st ∧ w[w.length - 1]? = some n ∧ w.length ≤ cm.length ∧ Up cm w.reverse := by
  induction t with
  | base h0 h1 =>
    intro n hn
    rw [List.mem_singleton.mp hn]
    refine ⟨[st], IsWay.one ⟨h0, h1⟩, rfl, rfl, Nat.le_refl _, ?_⟩
    show dGet [(st, none)] st = some none
    simp [dGet]
  | @snoc cm h m r t hh hm hr hf ih =>
    intro n hn
    rw [List.map_append] at hn
    rcases List.mem_append.mp hn with z | z
    · obtain ⟨w, a, b, c, d, u⟩ := ih n z
      exact ⟨w, a, b, c, by rw [List.length_append, List.length_singleton]; omega, u.mono⟩
    · rw [List.mem_singleton.mp z]
      obtain ⟨w, a, b, c, d, u⟩ := ih h hh
      have hp : 0 < w.length := List.length_pos_iff.mpr a.1
      refine ⟨w ++ [m], a.snocW pg c hr hf, by rw [List.getElem?_append_left hp]; exact b, by simp, by simp; omega, ?_⟩
      rw [List.reverse_append, List.reverse_singleton]
      have hd : w.reverse[0]? = some h := by
        rw [List.getElem?_reverse hp]; exact c
      have um := u.mono (m := m) (v := some h)
      cases hw : w.reverse with
      | nil => rw [hw] at hd; cases hd
      | cons y q =>
        rw [hw] at hd um
        obtain rfl := Option.some.inj hd
        exact ⟨dGet_new hm, um⟩
/-! ### dicts of numbers, any values -/
theorem fm_get {β : Type} (f : β → D) (L : List (Int × β)) (x : Int) : dGet (L.map fun p => ((Sum.inl p.1 : Ky), f p.2)) (.inl x) = (dGet L x).map f := by
  unfold dGet
  induction L with
  | nil => rfl
  | cons p r ih =>
    by_cases h : p.1 = x
    · subst h; simp
    · have h2 : ¬ ((Sum.inl p.1 : Ky) = Sum.inl x) := fun z => h (Sum.inl.inj z)
      simp [List.find?_cons, h]
      simpa using ih
theorem kget_some {β : Type} {L : List (Int × β)} {x : Int} : (dGet L x).isSome = true ↔ x ∈ L.map Prod.fst := by
  unfold dGet
  rw [Option.isSome_map, List.find?_isSome]
  simp
theorem kget_none {β : Type} {L : List (Int × β)} {x : Int} (h : x ∉ L.map Prod.fst) : dGet L x = none := by
  cases e : dGet L x with
  | none => rfl
  | some y => exact absurd (kget_some.mp (by rw [e]; rfl)) h
theorem fm_put {β : Type} (f : β → D) (L : List (Int × β)) (x : Int) (v : β) (h : x ∉ L.map Prod.fst) : dPut (L.map fun p => ((Sum.inl p.1 : Ky), f p.2)) (.inl x) (f v) = (L ++ [(x, v)]).map fun p => ((Sum.inl p.1 : Ky), f p.2) := by
  unfold dPut
  rw [if_neg]
  · simp
  · simp only [List.any_map, List.any_eq_true, Function.comp, decide_eq_true_eq, not_exists, not_and]
    intro p hp z
    exact h (List.mem_map.mpr ⟨p, hp, Sum.inl.inj z⟩)
theorem kget_of {β : Type} {L : List (Int × β)} {x : Int} {v : β} (nd : (L.map Prod.fst).Nodup) (h : (x, v) ∈ L) : dGet L x = some v := by
  unfold dGet
  induction L with
  | nil => cases h
  | cons p r ih =>
    rw [List.map_cons, List.nodup_cons] at nd
    rcases List.mem_cons.mp h with e | e
    · subst e; simp
    · have hx : ¬ p.1 = x := fun z => nd.1 (List.mem_map.mpr ⟨(x, v), e, z.symm⟩)
      simp only [List.find?_cons, hx, decide_false]
      exact ih nd.2 e
theorem kget_mem {β : Type} {L : List (Int × β)} {x : Int} {v : β} (h : dGet L x = some v) : (x, v) ∈ L := by
  unfold dGet at h
  obtain ⟨p, hp, rfl⟩ := Option.map_eq_some_iff.mp h
  have h1 := List.mem_of_find?_eq_some hp
  have h2 := List.find?_some hp
  have : p.1 = x := by simpa using h2
  rw [← this]; exact h1
end Mi

set_option Elab.async false
set_option linter.all false
set_option maxHeartbeats 1000000
/-! least sums by rounds; rings; ways counted by differences -/
namespace Mi
/-! ### back by what each was come to from -/
def it (a : Int → Option Int) : Nat → Int → Option Int
  | 0, v => some v
  | k + 1, v => (it a k v).bind a
theorem it_add (a : Int → Option Int) (j : Nat) : ∀ (k : Nat) (v : Int), it a (j + k) v = (it a j v).bind (it a k)
  | 0, v => by
    show it a j v = _
    cases it a j v <;> rfl
  | k + 1, v => by
    show (it a (j + k) v).bind a = _
    rw [it_add a j k v]
    cases it a j v <;> rfl
theorem it_one (a : Int → Option Int) (k : Nat) (v u : Int) (h : a v = some u) : it a (k + 1) v = it a k u := by
  rw [Nat.add_comm, it_add]
  show ((some v).bind a).bind (it a k) = _
  rw [Option.bind_some, h, Option.bind_some]
def orZ (o : Option Int) : Int := o.getD 0
/-- what the steps back sum up to -/
def cw (a : Int → Option Int) (W : Int → Int → Int) (v : Int) : Nat → Int
  | 0 => 0
  | k + 1 => cw a W v k + W (orZ (it a (k + 1) v)) (orZ (it a k v))
section
variable {N : Nat} {E : List (Int × Int × Int)} {W : Int → Int → Int} {first : Int}
/-- round t, i steps of it done -/
structure LSm (N : Nat) (E : List (Int × Int × Int)) (W : Int → Int → Int) (first : Int) (t i : Nat) (s a : Int → Option Int) (L : Int → Nat) : Prop where
  rng : ∀ n v, s n = some v → 0 ≤ n ∧ n < N
  zero : ∃ v, s 0 = some v ∧ v ≤ first
  root : a 0 = none → s 0 = some first
  dom : ∀ m, m ≠ 0 → s m ≠ none → a m ≠ none
  pre : ∀ m n, a m = some n → ∃ x y, (n, m, W n m) ∈ E ∧ s n = some x ∧ s m = some y ∧ x + W n m ≤ y
  lvl : ∀ m, 1 ≤ L m → ∃ n, a m = some n ∧ L m ≤ L n + 1
  le : ∀ m, L m ≤ t
  ok : ∀ (j : Nat) (n m w : Int), E[j]? = some (n, m, w) → (j < i ∧ L n < t) ∨ L n + 1 < t → ∀ x, s n = some x → ∃ y, s m = some y ∧ y ≤ x + w
  neg : ∀ (v : Int) (p : Nat), 0 < p → it a p v = some v → ∃ k q r x y, k < p ∧ it a k v = some q ∧ it a (k + 1) v = some r ∧ s r = some x ∧ s q = some y ∧ x + W r q < y
def putF {β : Type} (f : Int → Option β) (m : Int) (v : β) : Int → Option β := fun n => if n = m then some v else f n
def putL (L : Int → Nat) (m : Int) (t : Nat) : Int → Nat := fun n => if n = m then t else L n
theorem LSm.start (hN : 0 < N) : LSm N E W first 1 0 (putF (fun _ => none) 0 first) (fun _ => none) (fun _ => 0) := by
  have no : ∀ (k : Nat) (v : Int), it (fun _ : Int => (none : Option Int)) (k + 1) v = none := fun k v => by
    show (it _ k v).bind _ = none
    cases it (fun _ : Int => (none : Option Int)) k v <;> rfl
  refine ⟨fun n v h => ?_, ⟨first, if_pos rfl, Int.le_refl _⟩, fun _ => if_pos rfl, fun m hm h => ?_, (fun m n h => by cases h), (fun m h => absurd h (by omega)), (fun m => by omega), fun j n m w _ h => ?_, fun v p hp h => ?_⟩
  · unfold putF at h
    split at h
    · omega
    · cases h
  · unfold putF at h
    rw [if_neg hm] at h
    exact absurd rfl h
  · rcases h with h | h <;> omega
  · cases p with
    | zero => omega
    | succ p => rw [no] at h; cases h
/-- a step that changes nothing -/
theorem LSm.skip {t i : Nat} {s a : Int → Option Int} {L : Int → Nat} (h : LSm N E W first t i s a L) {n m w : Int} (e : E[i]? = some (n, m, w)) (c : ∀ x, s n = some x → ∃ y, s m = some y ∧ y ≤ x + w) : LSm N E W first t (i + 1) s a L :=
  ⟨h.rng, h.zero, h.root, h.dom, h.pre, h.lvl, h.le, fun j n' m' w' ej hj => by
    by_cases z : j = i
    · subst z
      rw [e] at ej
      cases ej
      exact c
    · refine h.ok j n' m' w' ej ?_
      rcases hj with ⟨a, b⟩ | b
      · exact .inl ⟨by omega, b⟩
      · exact .inr b, h.neg⟩
/-- a step that makes a sum less -/
theorem LSm.put {t i : Nat} {s a : Int → Option Int} {L : Int → Nat} (h : LSm N E W first t i s a L) (ht : 1 ≤ t) {n m x : Int} (e : E[i]? = some (n, m, W n m)) (hm : 0 ≤ m ∧ m < N) (hx : s n = some x) (c : ∀ y, s m = some y → x + W n m < y) (hEW : ∀ n m w, (n, m, w) ∈ E → w = W n m) :
    LSm N E W first t (i + 1) (putF s m (x + W n m)) (putF a m n) (putL L m t) := by
  have sm : putF s m (x + W n m) m = some (x + W n m) := if_pos rfl
  have so : ∀ p, p ≠ m → putF s m (x + W n m) p = s p := fun p hp => if_neg hp
  have am : putF a m n m = some n := if_pos rfl
  have ao : ∀ p, p ≠ m → putF a m n p = a p := fun p hp => if_neg hp
  -- sums only fall
  have fall : ∀ p z, s p = some z → ∃ z', putF s m (x + W n m) p = some z' ∧ z' ≤ z := fun p z hz => by
    by_cases hp : p = m
    · subst hp
      have := c z hz
      exact ⟨_, sm, by omega⟩
    · exact ⟨z, by rw [so p hp]; exact hz, Int.le_refl _⟩
  have hln : t ≤ L n + 1 := by
    refine Classical.byContradiction fun z => ?_
    obtain ⟨y, hy, hle⟩ := h.ok i n m _ e (.inr (by omega)) x hx
    have := c y hy
    omega
  refine ⟨fun p v hv => ?_, ?_, fun h0 => ?_, fun p hp hs => ?_, fun p q hq => ?_, fun p hp => ?_, fun p => ?_, fun j n' m' w' ej hj z hz => ?_, fun v p hp hc => ?_⟩
  · by_cases e' : p = m
    · rw [e']; exact hm
    · rw [so p e'] at hv; exact h.rng p v hv
  · obtain ⟨v, h1, h2⟩ := h.zero
    obtain ⟨z, h3, h4⟩ := fall 0 v h1
    exact ⟨z, h3, by omega⟩
  · by_cases e' : (0 : Int) = m
    · rw [e', am] at h0; cases h0
    · rw [ao 0 e'] at h0
      rw [so 0 e']; exact h.root h0
  · by_cases e' : p = m
    · rw [e', am]; simp
    · rw [ao p e']
      rw [so p e'] at hs
      exact h.dom p hp hs
  · by_cases e' : p = m
    · subst e'
      rw [am] at hq
      obtain rfl := Option.some.inj hq
      obtain ⟨z, h3, h4⟩ := fall n x hx
      exact ⟨z, x + W n p, List.mem_of_getElem? e, h3, sm, by omega⟩
    · rw [ao p e'] at hq
      obtain ⟨x1, y1, h1, h2, h3, h4⟩ := h.pre p q hq
      obtain ⟨z, h5, h6⟩ := fall q x1 h2
      exact ⟨z, y1, h1, h5, by rw [so p e']; exact h3, by omega⟩
  · by_cases e' : p = m
    · subst e'
      refine ⟨n, am, ?_⟩
      unfold putL
      rw [if_pos rfl]
      by_cases e2 : n = p
      · rw [if_pos e2]; omega
      · rw [if_neg e2]; omega
    · unfold putL at hp ⊢
      rw [if_neg e'] at hp ⊢
      obtain ⟨q, h1, h2⟩ := h.lvl p hp
      refine ⟨q, by rw [ao p e']; exact h1, ?_⟩
      by_cases e2 : q = m
      · rw [if_pos e2]
        have := h.le p
        omega
      · rw [if_neg e2]; omega
  · unfold putL
    split
    · omega
    · exact h.le p
  · by_cases e' : n' = m
    · exfalso
      unfold putL at hj
      rw [if_pos e'] at hj
      rcases hj with ⟨_, b⟩ | b <;> omega
    · unfold putL at hj
      rw [if_neg e'] at hj
      rw [so n' e'] at hz
      by_cases ji : j = i
      · subst ji
        rw [e] at ej
        injection ej with ej
        injection ej with e1 e2
        injection e2 with e2 e3
        subst e1 e2 e3
        rw [hx] at hz
        obtain rfl := Option.some.inj hz
        exact ⟨_, sm, Int.le_refl _⟩
      · obtain ⟨y, h1, h2⟩ := h.ok j n' m' w' ej (by
          rcases hj with ⟨a, b⟩ | b
          · exact .inl ⟨by omega, b⟩
          · exact .inr b) z hz
        obtain ⟨y', h3, h4⟩ := fall m' y h1
        exact ⟨y', h3, by omega⟩
  · by_cases hex : ∃ k, k < p ∧ it (putF a m n) k v = some m
    · obtain ⟨k, hk, hkm⟩ := hex
      -- the one ahead of m on the ring
      obtain ⟨k', q, hk', hq, hq2⟩ : ∃ k' q, k' < p ∧ it (putF a m n) k' v = some q ∧ it (putF a m n) (k' + 1) v = some m := by
        cases k with
        | zero =>
          have hv : v = m := Option.some.inj hkm
          have hpp : p - 1 + 1 = p := by omega
          rw [← hpp] at hc
          cases hq : it (putF a m n) (p - 1) v with
          | none =>
            have : it (putF a m n) (p - 1 + 1) v = none := by show (it _ (p - 1) v).bind _ = none; rw [hq]; rfl
            rw [this] at hc; cases hc
          | some q => exact ⟨p - 1, q, by omega, hq, by rw [hc, hv]⟩
        | succ k =>
          cases hq : it (putF a m n) k v with
          | none =>
            have : it (putF a m n) (k + 1) v = none := by show (it _ k v).bind _ = none; rw [hq]; rfl
            rw [this] at hkm; cases hkm
          | some q => exact ⟨k, q, by omega, hq, hkm⟩
      have aq : putF a m n q = some m := by
        have : it (putF a m n) (k' + 1) v = putF a m n q := by show (it _ k' v).bind _ = _; rw [hq]; rfl
        rw [← this]; exact hq2
      by_cases e' : q = m
      · subst e'
        rw [am] at aq
        obtain rfl := Option.some.inj aq
        have := c x hx
        exact ⟨k', n, n, x + W n n, x + W n n, hk', hq, hq2, sm, sm, by omega⟩
      · rw [ao q e'] at aq
        obtain ⟨x1, y1, h1, h2, h3, h4⟩ := h.pre q m aq
        have := c x1 h2
        exact ⟨k', q, m, x + W n m, y1, hk', hq, hq2, sm, by rw [so q e']; exact h3, by omega⟩
    · have same : ∀ k, k ≤ p → it a k v = it (putF a m n) k v := by
        intro k
        induction k with
        | zero => intro _; rfl
        | succ k ih =>
          intro hk
          show (it a k v).bind a = (it (putF a m n) k v).bind (putF a m n)
          rw [ih (by omega)]
          cases hq : it (putF a m n) k v with
          | none => rfl
          | some q =>
            rw [Option.bind_some, Option.bind_some, ao q fun z => hex ⟨k, by omega, by rw [hq, z]⟩]
      obtain ⟨k, q, r, x1, y1, h1, h2, h3, h4, h5, h6⟩ := h.neg v p hp (by rw [same p (Nat.le_refl _)]; exact hc)
      have qm : q ≠ m := fun z => hex ⟨k, h1, by rw [← same k (by omega), h2, z]⟩
      have rm : r ≠ m := fun z => by
        by_cases hkp : k + 1 = p
        · refine hex ⟨0, hp, ?_⟩
          rw [same (k + 1) (by omega), hkp, hc] at h3
          show some v = some m
          rw [h3, z]
        · exact hex ⟨k + 1, by omega, by rw [← same (k + 1) (by omega), h3, z]⟩
      exact ⟨k, q, r, x1, y1, h1, by rw [← same k (by omega)]; exact h2, by rw [← same (k + 1) (by omega)]; exact h3, by rw [so r rm]; exact h4, by rw [so q qm]; exact h5, h6⟩
/-- the next round -/
theorem LSm.next {t : Nat} {s a : Int → Option Int} {L : Int → Nat} (h : LSm N E W first t E.length s a L) : LSm N E W first (t + 1) 0 s a L :=
  ⟨h.rng, h.zero, h.root, h.dom, h.pre, h.lvl, fun m => by have := h.le m; omega, fun j n m w e hj => h.ok j n m w e (.inl ⟨(List.getElem?_eq_some_iff.mp e).1, by omega⟩), h.neg⟩
/-- a round without a change: all steps are kept -/
theorem LSm.all {t : Nat} {s a : Int → Option Int} {L : Int → Nat} (h : LSm N E W first t E.length s a L) (hL : ∀ m, L m < t) : ∀ n m w, (n, m, w) ∈ E → ∀ x, s n = some x → ∃ y, s m = some y ∧ y ≤ x + w := fun n m w hw => by
  obtain ⟨j, hj⟩ := List.getElem?_of_mem hw
  exact h.ok j n m w hj (.inl ⟨(List.getElem?_eq_some_iff.mp hj).1, hL n⟩)
theorem LSm.tele {t i : Nat} {s a : Int → Option Int} {L : Int → Nat} (h : LSm N E W first t i s a L) (v : Int) : ∀ (k : Nat) (u : Int), it a k v = some u → ∀ y, s v = some y → ∃ x, s u = some x ∧ x + cw a W v k ≤ y := by
  intro k
  induction k with
  | zero =>
    intro u hu y hy
    obtain rfl := Option.some.inj hu
    exact ⟨y, hy, by show y + 0 ≤ y; omega⟩
  | succ k ih =>
    intro u hu y hy
    cases hq : it a k v with
    | none =>
      have : it a (k + 1) v = none := by show (it _ k v).bind _ = none; rw [hq]; rfl
      rw [this] at hu; cases hu
    | some q =>
      obtain ⟨x, h1, h2⟩ := ih q hq y hy
      have aq : a q = some u := by
        have : it a (k + 1) v = a q := by show (it _ k v).bind _ = _; rw [hq]; rfl
        rw [← this]; exact hu
      obtain ⟨x1, y1, _, h4, h5, h6⟩ := h.pre q u aq
      rw [h1] at h5
      obtain rfl := Option.some.inj h5
      refine ⟨x1, h4, ?_⟩
      have e : cw a W v (k + 1) = cw a W v k + W u q := by
        show cw a W v k + W (orZ (it a (k + 1) v)) (orZ (it a k v)) = _
        rw [hu, hq]; rfl
      rw [e]; omega
/-- a ring's sum is below nought -/
theorem LSm.ring {t i : Nat} {s a : Int → Option Int} {L : Int → Nat} (h : LSm N E W first t i s a L) {v : Int} {p : Nat} (hp : 0 < p) (hc : it a p v = some v) : cw a W v p < 0 := by
  obtain ⟨k, q, r, x, y, h1, h2, h3, h4, h5, h6⟩ := h.neg v p hp hc
  have hv : ∃ z, s v = some z := by
    cases p with
    | zero => omega
    | succ p =>
      cases k with
      | zero =>
        obtain rfl := Option.some.inj h2
        exact ⟨y, h5⟩
      | succ k =>
        have : ∃ w, a v = some w := by
          cases hw : a v with
          | some w => exact ⟨w, rfl⟩
          | none =>
            have : it a (1 + k) v = none := by
              rw [it_add]
              show ((some v).bind a).bind _ = none
              rw [Option.bind_some, hw]; rfl
            rw [Nat.add_comm, h2] at this; cases this
        obtain ⟨w, hw⟩ := this
        obtain ⟨_, y1, _, _, z, _⟩ := h.pre v w hw
        exact ⟨y1, z⟩
  obtain ⟨z, hz⟩ := hv
  obtain ⟨y', g1, g2⟩ := h.tele v k q h2 z hz
  rw [h5] at g1
  obtain rfl := Option.some.inj g1
  -- from r on
  have e : cw a W v (k + 1) = cw a W v k + W r q := by
    show cw a W v k + W (orZ (it a (k + 1) v)) (orZ (it a k v)) = _
    rw [h3, h2]; rfl
  have main : ∀ (d : Nat) (u : Int), it a (k + 1 + d) v = some u → ∃ x', s u = some x' ∧ x' + cw a W v (k + 1 + d) < z := by
    intro d
    induction d with
    | zero =>
      intro u hu
      rw [Nat.add_zero, h3] at hu
      obtain rfl := Option.some.inj hu
      exact ⟨x, h4, by rw [Nat.add_zero, e]; omega⟩
    | succ d ih =>
      intro u hu
      cases hq : it a (k + 1 + d) v with
      | none =>
        have : it a (k + 1 + d + 1) v = none := by show (it _ (k + 1 + d) v).bind _ = none; rw [hq]; rfl
        rw [show k + 1 + (d + 1) = k + 1 + d + 1 by omega, this] at hu; cases hu
      | some q' =>
        obtain ⟨x', i1, i2⟩ := ih q' hq
        have aq : a q' = some u := by
          have : it a (k + 1 + d + 1) v = a q' := by show (it _ (k + 1 + d) v).bind _ = _; rw [hq]; rfl
          rw [← this]; exact hu
        obtain ⟨x1, y1, _, j4, j5, j6⟩ := h.pre q' u aq
        rw [i1] at j5
        obtain rfl := Option.some.inj j5
        refine ⟨x1, j4, ?_⟩
        have e2 : cw a W v (k + 1 + d + 1) = cw a W v (k + 1 + d) + W u q' := by
          show cw a W v (k + 1 + d) + W (orZ (it a (k + 1 + d + 1) v)) (orZ (it a (k + 1 + d) v)) = _
          rw [show it a (k + 1 + d + 1) v = some u from hu, hq]; rfl
        rw [show k + 1 + (d + 1) = k + 1 + d + 1 by omega, e2]; omega
  obtain ⟨d, hd⟩ : ∃ d, p = k + 1 + d := ⟨p - (k + 1), by omega⟩
  rw [hd] at hc ⊢
  obtain ⟨x', i1, i2⟩ := main d v hc
  rw [hz] at i1
  obtain rfl := Option.some.inj i1
  omega
/-- where all steps are kept there is no ring -/
theorem LSm.no_ring {t i : Nat} {s a : Int → Option Int} {L : Int → Nat} (h : LSm N E W first t i s a L) (al : ∀ n m w, (n, m, w) ∈ E → ∀ x, s n = some x → ∃ y, s m = some y ∧ y ≤ x + w) (v : Int) (p : Nat) (hp : 0 < p) : it a p v ≠ some v := fun hc => by
  obtain ⟨k, q, r, x, y, h1, h2, h3, h4, h5, h6⟩ := h.neg v p hp hc
  have aq : a q = some r := by
    have : it a (k + 1) v = a q := by show (it _ k v).bind _ = _; rw [h2]; rfl
    rw [← this]; exact h3
  obtain ⟨_, _, he, _, _, _⟩ := h.pre q r aq
  obtain ⟨y', h7, h8⟩ := al r q _ he x h4
  rw [h5] at h7
  obtain rfl := Option.some.inj h7
  omega
/-- as far back as there are rounds -/
theorem LSm.back {t i : Nat} {s a : Int → Option Int} {L : Int → Nat} (h : LSm N E W first t i s a L) (v : Int) : ∀ k, k ≤ L v → ∃ u, it a k v = some u ∧ L v ≤ L u + k := by
  intro k
  induction k with
  | zero => exact fun _ => ⟨v, rfl, by omega⟩
  | succ k ih =>
    intro hk
    obtain ⟨u, h1, h2⟩ := ih (by omega)
    obtain ⟨n, h3, h4⟩ := h.lvl u (by omega)
    exact ⟨n, by show (it a k v).bind a = _; rw [h1]; exact h3, by omega⟩
end
/-- among more than N numbers below N two are alike -/
theorem pigeon : ∀ (N : Nat) (f : Nat → Int), (∀ i, i ≤ N → 0 ≤ f i ∧ f i < N) → ∃ i j, i < j ∧ j ≤ N ∧ f i = f j := by
  intro N f hf
  refine Classical.byContradiction fun no => ?_
  have nd : ((List.range (N + 1)).map f).Nodup := by
    rw [List.nodup_iff_pairwise_ne, List.pairwise_map]
    refine List.Pairwise.imp_of_mem ?_ (List.pairwise_lt_range (n := N + 1))
    intro i j hi hj hlt z
    exact no ⟨i, j, hlt, by have := List.mem_range.mp hj; omega, z⟩
  have := nodup_range N _ nd (fun x hx => by
    obtain ⟨i, hi, rfl⟩ := List.mem_map.mp hx
    exact hf i (by have := List.mem_range.mp hi; omega))
  rw [List.length_map, List.length_range] at this
  omega
/-- one who comes so far back is on a ring -/
theorem on_ring {N : Nat} {a : Int → Option Int} {v : Int} (h : ∀ k, k ≤ N → ∃ u, it a k v = some u ∧ 0 ≤ u ∧ u < N) : ∃ u p, it a N v = some u ∧ 0 < p ∧ p ≤ N ∧ it a p u = some u := by
  obtain ⟨i, j, hij, hj, e⟩ := pigeon N (fun k => orZ (it a k v)) (fun k hk => by
    obtain ⟨u, h1, h2⟩ := h k hk
    show 0 ≤ orZ (it a k v) ∧ orZ (it a k v) < N
    rw [h1]; exact h2)
  obtain ⟨u1, h1, _⟩ := h i (by omega)
  obtain ⟨u2, h2, _⟩ := h j hj
  have e : orZ (it a i v) = orZ (it a j v) := e
  rw [h1, h2] at e
  have e : u1 = u2 := e
  subst e
  obtain ⟨u, hu, _⟩ := h N (Nat.le_refl _)
  refine ⟨u, j - i, hu, by omega, by omega, ?_⟩
  have e1 : it a (N - j) u1 = some u := by
    have := it_add a j (N - j) v
    rw [show j + (N - j) = N by omega, h2, Option.bind_some, hu] at this
    exact this.symm
  have e2 : it a (N - i) u1 = some u := by
    have := it_add a i (N - i) v
    rw [show i + (N - i) = N by omega, h1, Option.bind_some, hu] at this
    exact this.symm
  have := it_add a (N - j) (j - i) u1
  rw [show N - j + (j - i) = N - i by omega, e1, Option.bind_some, e2] at this
  exact this.symm
/-! ### ways by their differences -/
def b1 (b : Bool) : Int := if b then 1 else 0
/-- how often is reckoned -/
def cnt (kp : Int × Int → Bool) (rc : Int → Bool) : Int → List Int → Int
  | _, [] => 0
  | a, n :: l => b1 (kp (a, n)) + b1 (rc n) + cnt kp rc n l
def ws (W : Int → Int → Int) : List Int → Int
  | [] => 0
  | [_] => 0
  | n :: m :: l => W n m + ws W (m :: l)
theorem ws_cons (W : Int → Int → Int) (n m : Int) (l : List Int) : ws W (n :: m :: l) = W n m + ws W (m :: l) := rfl
theorem ws_app (W : Int → Int → Int) (x : Int) (l2 : List Int) : ∀ l1 : List Int, ws W (l1 ++ x :: l2) = ws W (l1 ++ [x]) + ws W (x :: l2)
  | [] => by show ws W (x :: l2) = 0 + _; omega
  | [n] => by
    show ws W (n :: x :: l2) = ws W [n, x] + _
    rw [ws_cons, ws_cons]
    show _ = W n x + 0 + _
    omega
  | n :: m :: l => by
    have ih := ws_app W x l2 (m :: l)
    show ws W (n :: m :: (l ++ x :: l2)) = ws W (n :: m :: (l ++ [x])) + _
    rw [ws_cons, ws_cons]
    have e1 : m :: l ++ x :: l2 = m :: (l ++ x :: l2) := rfl
    have e2 : m :: l ++ [x] = m :: (l ++ [x]) := rfl
    rw [e1, e2] at ih
    rw [ih]; omega
section
variable {k1 k2 : Int × Int → Bool} {r1 r2 : Int → Bool} {W : Int → Int → Int}
/-- the difference on a way -/
theorem cnt_diff (hW : ∀ n m, W n m = b1 (r1 n) - b1 (r2 n) + (b1 (k1 (n, m)) - b1 (k2 (n, m)))) : ∀ (l : List Int) (a n z : Int), (n :: l).getLast? = some z → cnt k1 r1 a (n :: l) - cnt k2 r2 a (n :: l) = b1 (k1 (a, n)) - b1 (k2 (a, n)) + ws W (n :: l) + (b1 (r1 z) - b1 (r2 z))
  | [], a, n, z, h => by
    have : n = z := by simpa using h
    subst this
    show b1 (k1 (a, n)) + b1 (r1 n) + 0 - (b1 (k2 (a, n)) + b1 (r2 n) + 0) = _ + 0 + _
    omega
  | m :: l, a, n, z, h => by
    have ih := cnt_diff hW l n m z (by rw [List.getLast?_cons_cons] at h; exact h)
    have e1 : cnt k1 r1 a (n :: m :: l) = b1 (k1 (a, n)) + b1 (r1 n) + cnt k1 r1 n (m :: l) := rfl
    have e2 : cnt k2 r2 a (n :: m :: l) = b1 (k2 (a, n)) + b1 (r2 n) + cnt k2 r2 n (m :: l) := rfl
    rw [e1, e2, ws_cons, hW n m]
    omega
end
theorem b1_le (b : Bool) : 0 ≤ b1 b ∧ b1 b ≤ 1 := by cases b <;> decide
theorem cnt_le (kp : Int × Int → Bool) (rc : Int → Bool) : ∀ (l : List Int) (a : Int), 0 ≤ cnt kp rc a l ∧ cnt kp rc a l ≤ 2 * (l.length : Int)
  | [], a => ⟨by show (0 : Int) ≤ 0; omega, by show (0 : Int) ≤ _; omega⟩
  | n :: l, a => by
    have ih := cnt_le kp rc l n
    have h1 := b1_le (kp (a, n))
    have h2 := b1_le (rc n)
    have e : cnt kp rc a (n :: l) = b1 (kp (a, n)) + b1 (rc n) + cnt kp rc n l := rfl
    rw [e, List.length_cons]
    omega
/-- round a ring -/
def rnd (c : Nat) (R : List Int) : List Int := (List.replicate c R).flatten
theorem rnd_succ (c : Nat) (R : List Int) : rnd (c + 1) R = R ++ rnd c R := by unfold rnd; rw [List.replicate_succ, List.flatten_cons]
theorem rnd_len (c : Nat) (R : List Int) : (rnd c R).length = c * R.length := by
  induction c with
  | zero => simp [rnd]
  | succ c ih => rw [rnd_succ, List.length_append, ih, Nat.succ_mul]; omega
theorem ws_rnd (W : Int → Int → Int) (u : Int) (Q rest : List Int) : ∀ c : Nat, ws W (u :: (rnd c (Q ++ [u]) ++ rest)) = c * ws W (u :: (Q ++ [u])) + ws W (u :: rest)
  | 0 => by
    show ws W (u :: rest) = _
    simp
  | c + 1 => by
    have ih := ws_rnd W u Q rest c
    rw [rnd_succ]
    have e : u :: (Q ++ [u] ++ rnd c (Q ++ [u]) ++ rest) = (u :: Q) ++ u :: (rnd c (Q ++ [u]) ++ rest) := by simp
    rw [e, ws_app, ih]
    have e2 : u :: Q ++ [u] = u :: (Q ++ [u]) := rfl
    rw [e2]
    generalize ws W (u :: (Q ++ [u])) = z
    have : ((c + 1 : Nat) : Int) * z = (c : Int) * z + z := by rw [Int.natCast_add, Int.add_mul]; simp
    omega
/-- the way back, forwards -/
def wb (a : Int → Option Int) (v : Int) (k : Nat) : List Int := (List.range k).map fun j => orZ (it a j v)
theorem wb_succ (a : Int → Option Int) (v : Int) (k : Nat) : wb a v (k + 1) = wb a v k ++ [orZ (it a k v)] := by
  unfold wb
  rw [List.range_succ, List.map_append]; rfl
theorem wb_len (a : Int → Option Int) (v : Int) (k : Nat) : (wb a v k).length = k := by unfold wb; rw [List.length_map, List.length_range]
theorem wb_rev (a : Int → Option Int) (v : Int) (k : Nat) : (wb a v (k + 1)).reverse = orZ (it a k v) :: (wb a v k).reverse := by
  rw [wb_succ, List.reverse_append]; rfl
theorem wb_ws (a : Int → Option Int) (W : Int → Int → Int) (v : Int) : ∀ k : Nat, ws W (wb a v (k + 1)).reverse = cw a W v k
  | 0 => rfl
  | k + 1 => by
    have ih := wb_ws a W v k
    rw [wb_rev] at ih
    rw [wb_rev, wb_rev, ws_cons, ih]
    show _ = cw a W v k + W _ _
    omega
end Mi

set_option Elab.async false
set_option linter.all false
set_option maxHeartbeats 1000000
/-! more for sums by rounds -/
namespace Mi
/-! ### dicts of numbers that are changed -/
theorem fm_putx {β : Type} (f : β → D) (L : List (Int × β)) (x : Int) (v : β) : dPut (L.map fun p => ((Sum.inl p.1 : Ky), f p.2)) (.inl x) (f v) = (dPut L x v).map fun p => ((Sum.inl p.1 : Ky), f p.2) := by
  by_cases h : x ∈ L.map Prod.fst
  · unfold dPut
    have h1 : ((L.map fun p => ((Sum.inl p.1 : Ky), f p.2)).any fun kv => decide (kv.1 = (Sum.inl x : Ky))) = true := by
      rw [List.any_map, List.any_eq_true]
      obtain ⟨p, hp, e⟩ := List.mem_map.mp h
      exact ⟨p, hp, by simp [e]⟩
    have h2 : (L.any fun kv => decide (kv.1 = x)) = true := by
      rw [List.any_eq_true]
      obtain ⟨p, hp, e⟩ := List.mem_map.mp h
      exact ⟨p, hp, by simp [e]⟩
    rw [if_pos h1, if_pos h2, List.map_map, List.map_map]
    apply List.map_congr_left
    intro p _
    simp only [Function.comp]
    by_cases e : p.1 = x
    · rw [if_pos (by rw [e]), if_pos e]
    · rw [if_neg (fun z => e (Sum.inl.inj z)), if_neg e]
  · rw [fm_put f L x v h]
    congr 1
    unfold dPut
    rw [if_neg]
    simp only [List.any_eq_true, decide_eq_true_eq, not_exists, not_and]
    intro p hp z
    exact h (List.mem_map.mpr ⟨p, hp, z⟩)
theorem dPut_keys {β : Type} (L : List (Int × β)) (x : Int) (v : β) : (x ∈ L.map Prod.fst ∧ (dPut L x v).map Prod.fst = L.map Prod.fst) ∨ (x ∉ L.map Prod.fst ∧ (dPut L x v).map Prod.fst = L.map Prod.fst ++ [x]) := by
  by_cases h : x ∈ L.map Prod.fst
  · refine .inl ⟨h, ?_⟩
    unfold dPut
    have h2 : (L.any fun kv => decide (kv.1 = x)) = true := by
      rw [List.any_eq_true]
      obtain ⟨p, hp, e⟩ := List.mem_map.mp h
      exact ⟨p, hp, by simp [e]⟩
    rw [if_pos h2, List.map_map]
    apply List.map_congr_left
    intro p _
    simp only [Function.comp]
    split <;> rfl
  · refine .inr ⟨h, ?_⟩
    unfold dPut
    rw [if_neg]
    · simp
    · simp only [List.any_eq_true, decide_eq_true_eq, not_exists, not_and]
      intro p hp z
      exact h (List.mem_map.mpr ⟨p, hp, z⟩)
theorem Ks.put {β : Type} {rows : List Row} {L : List (Int × β)} {x : Int} {v : β} (h : Ks rows (L.map Prod.fst)) (hr : 0 ≤ x ∧ x < (rows.length : Int)) : Ks rows ((dPut L x v).map Prod.fst) := by
  rcases dPut_keys L x v with ⟨_, e⟩ | ⟨a, e⟩
  · rw [e]; exact h
  · rw [e]; exact h.snoc a hr
theorem dGet_putF {β : Type} (L : List (Int × β)) (x : Int) (v : β) : dGet (dPut L x v) = putF (dGet L) x v := by
  funext n
  rw [dPut_get]
  unfold putF
  by_cases h : n = x
  · subst h; simp
  · rw [if_neg h, if_neg fun z => h z.symm]
/-! ### a walk that may break off -/
theorem loop_brk {hs : List (Nat × List D)} {turn : D → SM} (I : Nat → Fr → Store → Prop) (B : Fr → Store → Prop) : ∀ (items : List D) (k : Nat) (fr : Fr) (S : Store), I k fr S →
    (∀ i fr S, I i fr S → stands hs S) →
    (∀ i d fr S, items[i]? = some d → I (k + i) fr S → (∃ fr' S', (turn d fr S = .ok (.nx fr') S' ∨ turn d fr S = .ok (.ct fr') S') ∧ I (k + i + 1) fr' S') ∨ ∃ fr' S', turn d fr S = .ok (.bk fr') S' ∧ B fr' S') →
    ∃ fr' S', loopM hs turn items fr S = .ok (.nx fr') S' ∧ (I (k + items.length) fr' S' ∨ B fr' S')
  | [], k, fr, S, h, st, _ => ⟨fr, S, by rw [loopM, dec_true (st k fr S h)]; rfl, .inl h⟩
  | d :: ds, k, fr, S, h, st, step => by
    have un : loopM hs turn (d :: ds) fr S = (turn d fr S).bind (goOn (loopM hs turn ds)) := by rw [loopM, dec_true (st k fr S h)]; rfl
    rcases step 0 d fr S rfl h with ⟨fr', S', e, h'⟩ | ⟨fr', S', e, h'⟩
    · have un2 : loopM hs turn (d :: ds) fr S = loopM hs turn ds fr' S' := by rw [un]; rcases e with e | e <;> rw [e] <;> rfl
      rw [un2]
      have := loop_brk I B ds (k + 1) fr' S' h' st fun i d fr S hd hi => by
        have q := step (i + 1) d fr S hd (by rw [show k + (i + 1) = k + 1 + i by omega]; exact hi)
        rw [show k + (i + 1) = k + 1 + i by omega] at q
        exact q
      rw [List.length_cons, show k + (ds.length + 1) = k + 1 + ds.length by omega]
      exact this
    · exact ⟨fr', S', by rw [un, e]; rfl, .inr h'⟩
/-! ### ways as chains -/
def ChW (rows : List Row) : List Int → Prop
  | [] => False
  | [n] => 0 ≤ n ∧ n < rows.length
  | n :: m :: l => (0 ≤ n ∧ n < rows.length) ∧ (∃ r, rows[n.toNat]? = some r ∧ m ∈ fol n.toNat r) ∧ ChW rows (m :: l)
theorem ChW.hd {rows : List Row} {n : Int} : ∀ {l : List Int}, ChW rows (n :: l) → 0 ≤ n ∧ n < rows.length
  | [], h => h
  | _ :: _, h => h.1
theorem ChW.at_ {rows : List Row} : ∀ {w : List Int}, ChW rows w → ∀ j, j < w.length → At rows w j
  | [n], h, j, hj => by
    have : j = 0 := by simp at hj; omega
    subst this
    exact ⟨n, rfl, h.1, h.2, fun z => absurd z (by decide)⟩
  | n :: m :: l, h, j, hj => by
    cases j with
    | zero => exact ⟨n, rfl, h.1.1, h.1.2, fun z => absurd z (by decide)⟩
    | succ j =>
      obtain ⟨z, e, z0, z1, q⟩ := ChW.at_ h.2.2 j (by simp at hj ⊢; omega)
      refine ⟨z, by simpa using e, z0, z1, fun _ => ?_⟩
      cases j with
      | zero =>
        obtain ⟨r, h1, h2⟩ := h.2.1
        have : m = z := by simpa using e
        subst this
        exact ⟨n, r, rfl, h1, h2⟩
      | succ j =>
        obtain ⟨a, r, h1, h2, h3⟩ := q (by omega)
        exact ⟨a, r, by simpa using h1, h2, h3⟩
theorem ChW.way {rows : List Row} {w : List Int} (h : ChW rows w) : IsWay rows w := ⟨fun z => by subst z; exact h, h.at_⟩
theorem IsWay.chw {rows : List Row} : ∀ {w : List Int}, IsWay rows w → ChW rows w
  | [], h => absurd rfl h.1
  | [n], h => by
    obtain ⟨z, e, h0, h1, _⟩ := h.2 0 (by simp)
    obtain rfl : n = z := by simpa using e
    exact ⟨h0, h1⟩
  | n :: m :: l, h => by
    obtain ⟨z, e, h0, h1, _⟩ := h.2 0 (by simp)
    obtain rfl : n = z := by simpa using e
    obtain ⟨z, e, _, _, q⟩ := h.2 1 (by simp)
    obtain rfl : m = z := by simpa using e
    obtain ⟨a, r, g1, g2, g3⟩ := q (by decide)
    obtain rfl : n = a := by simpa using g1
    refine ⟨⟨h0, h1⟩, ⟨r, g2, g3⟩, IsWay.chw ⟨by simp, fun j hj => ?_⟩⟩
    obtain ⟨z, e, i0, i1, q⟩ := h.2 (j + 1) (by simp at hj ⊢; omega)
    refine ⟨z, by simpa using e, i0, i1, fun hj0 => ?_⟩
    obtain ⟨a, r, g1, g2, g3⟩ := q (by omega)
    refine ⟨a, r, ?_, g2, g3⟩
    rw [Nat.add_sub_cancel] at g1
    obtain ⟨j', rfl⟩ : ∃ j', j = j' + 1 := ⟨j - 1, by omega⟩
    simpa using g1
theorem ChW.app {rows : List Row} {x : Int} {l2 : List Int} : ∀ {l1 : List Int}, ChW rows (l1 ++ [x]) → ChW rows (x :: l2) → ChW rows (l1 ++ x :: l2)
  | [], _, h => h
  | [n], h, h2 => ⟨h.1, h.2.1, h2⟩
  | n :: m :: l, h, h2 => ⟨h.1, h.2.1, ChW.app (l1 := m :: l) h.2.2 h2⟩
theorem ChW.rnd {rows : List Row} {u : Int} {Q rest : List Int} (h : ChW rows (u :: (Q ++ [u]))) (h2 : ChW rows (u :: rest)) : ∀ c, ChW rows (u :: (rnd c (Q ++ [u]) ++ rest))
  | 0 => h2
  | c + 1 => by
    rw [rnd_succ]
    have e : u :: (Q ++ [u] ++ Mi.rnd c (Q ++ [u]) ++ rest) = (u :: Q) ++ u :: (Mi.rnd c (Q ++ [u]) ++ rest) := by simp
    rw [e]
    exact ChW.app (l1 := u :: Q) h (ChW.rnd h h2 c)
theorem wb_chw {rows : List Row} {a : Int → Option Int} {v : Int} (hs : ∀ m n, a m = some n → (0 ≤ n ∧ n < rows.length) ∧ ∃ r, rows[n.toNat]? = some r ∧ m ∈ fol n.toNat r) (hv : 0 ≤ v ∧ v < rows.length) : ∀ (k : Nat) (u : Int), it a k v = some u → ChW rows (wb a v (k + 1)).reverse
  | 0, u, _ => hv
  | k + 1, u, hu => by
    cases hq : it a k v with
    | none =>
      have : it a (k + 1) v = none := by show (it _ k v).bind _ = none; rw [hq]; rfl
      rw [this] at hu; cases hu
    | some q =>
      have aq : a q = some u := by
        have : it a (k + 1) v = a q := by show (it _ k v).bind _ = _; rw [hq]; rfl
        rw [← this]; exact hu
      have ih := wb_chw hs hv k q hq
      rw [wb_rev] at ih ⊢
      rw [wb_rev, hu, hq]
      rw [hq] at ih
      exact ⟨(hs q u aq).1, (hs q u aq).2, ih⟩
/-- a whole way -/
structure WhW (rows : List Row) (w : List Int) : Prop where
  way : ChW rows w
  fst : w[0]? = some 0
  lst : ∃ e : Int, w.getLast? = some e ∧ rows[e.toNat]? = some .en
end Mi

set_option Elab.async false
set_option linter.all false
/-! evaluation where something is raised -/
namespace Mi
section
variable (S : Store) (x : Exn)
@[simp] theorem seqK_x (b : SM) : seqK b (.exc x S) = .exc x S := (rfl)
@[simp] theorem deK_x : deK (.exc x S) = .exc x S := (rfl)
@[simp] theorem exK_x (fr : Fr) : exK fr (.exc x S) = .exc x S := (rfl)
@[simp] theorem asK_x (g : GM) (fr : Fr) : asK g fr (.exc x S) = .exc x S := (rfl)
@[simp] theorem mDefX_1 (n : Nat) (b : SM) (x0 : D) : mDefX 1 n b [x0] S = deK (b ([some x0] ++ List.replicate (n - 1) none) S) := (rfl)
@[simp] theorem mDefX_2 (n : Nat) (b : SM) (x0 x1 : D) : mDefX 2 n b [x0, x1] S = deK (b ([some x0, some x1] ++ List.replicate (n - 2) none) S) := (rfl)
@[simp] theorem mDefX_3 (n : Nat) (b : SM) (x0 x1 x2 : D) : mDefX 3 n b [x0, x1, x2] S = deK (b ([some x0, some x1, some x2] ++ List.replicate (n - 3) none) S) := (rfl)
def raiseK (cn : String) (fs : List Tx) (r : Res (List D)) : Res Out := r.bind fun ds S1 => if ds.length = fs.length then .exc ⟨cn, (fs.zip ds).reverse⟩ S1 else .bad
@[simp] theorem sRaise_s (cn : String) (fs : List Tx) (a : AM) (fr : Fr) : sRaise cn fs a fr S = raiseK cn fs (a fr S) := (rfl)
@[simp] theorem raiseK_1 (cn : String) (f1 : Tx) (d1 : D) : raiseK cn [f1] (.ok [d1] S) = .exc ⟨cn, [(f1, d1)]⟩ S := (rfl)
@[simp] theorem raiseK_2 (cn : String) (f1 f2 : Tx) (d1 d2 : D) : raiseK cn [f1, f2] (.ok [d1, d2] S) = .exc ⟨cn, [(f2, d2), (f1, d1)]⟩ S := (rfl)
@[simp] theorem raiseK_3 (cn : String) (f1 f2 f3 : Tx) (d1 d2 d3 : D) : raiseK cn [f1, f2, f3] (.ok [d1, d2, d3] S) = .exc ⟨cn, [(f3, d3), (f2, d2), (f1, d1)]⟩ S := (rfl)
def tryS (h : Exn → Store → Res Out) : Option Bool → Res Out
  | some true => quiet (h x S)
  | some false => .exc x S
  | none => .bad
@[simp] theorem tryK_o (sub : String → Option Bool) (h : Exn → Store → Res Out) (o : Out) : tryK sub h (.ok o S) = .ok o S := (rfl)
@[simp] theorem tryK_x (sub : String → Option Bool) (h : Exn → Store → Res Out) : tryK sub h (.exc x S) = tryS S x h (sub x.cls) := by
  unfold tryK tryS
  (try dsimp only) <;> (cases sub x.cls with
    | none => rfl
    | some b => cases b <;> rfl)
@[simp] theorem tryS_t (h : Exn → Store → Res Out) : tryS S x h (some true) = quiet (h x S) := (rfl)
@[simp] theorem sTry_s (sub : String → Option Bool) (b : SM) (h : Exn → SM) (fr : Fr) : sTry sub b h fr S = tryK sub (fun x => h x fr) (b fr S) := (rfl)
def offK (i : Nat) (r : Res Out) : Res Out := r.bind fun o S2 => .ok (offI i o) S2
@[simp] theorem offK_n (i : Nat) (fr : Fr) : offK i (.ok (.nx fr) S) = .ok (.nx (fr.set i none)) S := (rfl)
@[simp] theorem sTryA_s (sub : String → Option Bool) (i : Nat) (b : SM) (h : Exn → SM) (fr : Fr) : sTryA sub i b h fr S = tryK sub (fun x S' => if i < fr.length then offK i (h x (fr.set i none) S') else .bad) (b fr S) := (rfl)
@[simp] theorem mXf_s (cn : String) (f : Tx) (fr : Fr) : mXf cn x f fr S = if x.cls = cn then (match lkF x.fs f with
  | some d => .ok d S
  | none => .bad) else .bad := (rfl)
end
/-- an invariant; a way out by what is raised -/
theorem loop_exc {hs : List (Nat × List D)} {turn : D → SM} (I : Nat → Fr → Store → Prop) (R : Nat → Exn → Store → Prop) : ∀ (items : List D) (k : Nat) (fr : Fr) (S : Store), I k fr S →
    (∀ i fr S, I i fr S → stands hs S) →
    (∀ i d fr S, items[i]? = some d → I (k + i) fr S → (∃ fr' S', (turn d fr S = .ok (.nx fr') S' ∨ turn d fr S = .ok (.ct fr') S') ∧ I (k + i + 1) fr' S') ∨ ∃ x S', turn d fr S = .exc x S' ∧ R (k + i) x S') →
    (∃ fr' S', loopM hs turn items fr S = .ok (.nx fr') S' ∧ I (k + items.length) fr' S') ∨ ∃ i x S', i < items.length ∧ loopM hs turn items fr S = .exc x S' ∧ R (k + i) x S'
  | [], k, fr, S, h, st, _ => .inl ⟨fr, S, by rw [loopM, dec_true (st k fr S h)]; rfl, h⟩
  | d :: ds, k, fr, S, h, st, step => by
    have un : loopM hs turn (d :: ds) fr S = (turn d fr S).bind (goOn (loopM hs turn ds)) := by rw [loopM, dec_true (st k fr S h)]; rfl
    rcases step 0 d fr S rfl h with ⟨fr', S', e, h'⟩ | ⟨x, S', e, h'⟩
    · have un2 : loopM hs turn (d :: ds) fr S = loopM hs turn ds fr' S' := by rw [un]; rcases e with e | e <;> rw [e] <;> rfl
      rw [un2]
      have := loop_exc I R ds (k + 1) fr' S' h' st fun i d fr S hd hi => by
        have q := step (i + 1) d fr S hd (by rw [show k + (i + 1) = k + 1 + i by omega]; exact hi)
        rw [show k + (i + 1) = k + 1 + i by omega] at q
        exact q
      rw [List.length_cons, show k + (ds.length + 1) = k + 1 + ds.length by omega]
      rcases this with q | ⟨i, x, S2, h1, h2, h3⟩
      · exact .inl q
      · exact .inr ⟨i + 1, x, S2, by omega, h2, by rw [show k + (i + 1) = k + 1 + i by omega]; exact h3⟩
    · exact .inr ⟨0, x, S', by rw [List.length_cons]; omega, by rw [un, e]; rfl, h'⟩
end Mi

set_option Elab.async false
set_option linter.all false
/-! instances of own classes; a walk over the pairs of a dict -/
namespace Mi
def fldK (cn : String) (f : Tx) (r : Res D) : Res D := r.bind fun x S1 => match insOf cn S1 x with
  | some (_, fs) => (match lkF fs f with
    | some d => .ok d S1
    | none => .bad)
  | none => .bad
@[simp] theorem mFld_s (cn : String) (f : Tx) (a : EM) (fr : Fr) (S : Store) : mFld cn f a fr S = fldK cn f (a fr S) := (rfl)
theorem insOf_of {cn : String} {S : Store} {n : Nat} {fs : List (Tx × D)} (h : S[n]? = some (.ins cn fs)) : insOf cn S (.ref n) = some (n, fs) := by
  unfold insOf
  dsimp only
  rw [h]
  dsimp only
  rw [if_pos rfl]
theorem fldK_of {cn : String} {f : Tx} {S : Store} {n : Nat} {fs : List (Tx × D)} {d : D} (h : S[n]? = some (.ins cn fs)) (hd : lkF fs f = some d) : fldK cn f (.ok (.ref n) S) = .ok d S := by
  unfold fldK
  rw [bind_ok, insOf_of h]
  dsimp only
  rw [hd]
def sfK2 (cn : String) (f : Tx) (y : D) (fr : Fr) (r : Res D) : Res Out := r.bind fun x S2 => match insOf cn S2 x with
  | some (n, fs) => if fs.length < 1000 then .ok (.nx fr) (S2.set n (.ins cn (fPut f y fs))) else .bad
  | none => .bad
def sfK1 (cn : String) (f : Tx) (a : EM) (fr : Fr) (r : Res D) : Res Out := r.bind fun y S1 => sfK2 cn f y fr (a fr S1)
@[simp] theorem sfK1_s (cn : String) (f : Tx) (a : EM) (fr : Fr) (y : D) (S : Store) : sfK1 cn f a fr (.ok y S) = sfK2 cn f y fr (a fr S) := (rfl)
@[simp] theorem sFldM_s (cn : String) (f : Tx) (v a : EM) (fr : Fr) (S : Store) : sFldM cn f v a fr S = sfK1 cn f a fr (v fr S) := (rfl)
theorem sfK2_of {cn : String} {f : Tx} {y : D} {fr : Fr} {S : Store} {n : Nat} {fs : List (Tx × D)} (h : S[n]? = some (.ins cn fs)) (hl : fs.length < 1000) : sfK2 cn f y fr (.ok (.ref n) S) = .ok (.nx fr) (S.set n (.ins cn (fPut f y fs))) := by
  unfold sfK2
  rw [bind_ok, insOf_of h]
  dsimp only
  rw [if_pos hl]
def mtK2 (g : Fn) (x : D) (r : Res (List D)) : Res D := r.bind fun ds S2 => g (x :: ds) S2
@[simp] theorem mtK2_s (g : Fn) (x : D) (ds : List D) (S : Store) : mtK2 g x (.ok ds S) = g (x :: ds) S := (rfl)
def mtK1 (cn : String) (mn : Tx) (g : Fn) (as : AM) (fr : Fr) (r : Res D) : Res D := r.bind fun x S1 => match insOf cn S1 x with
  | some (_, fs) => if lkF fs mn = none then mtK2 g x (as fr S1) else .bad
  | none => .bad
@[simp] theorem mMeth_s (cn : String) (mn : Tx) (g : Fn) (a : EM) (as : AM) (fr : Fr) (S : Store) : mMeth cn mn g a as fr S = mtK1 cn mn g as fr (a fr S) := (rfl)
theorem mtK1_of {cn : String} {mn : Tx} {g : Fn} {as : AM} {fr : Fr} {S : Store} {n : Nat} {fs : List (Tx × D)} (h : S[n]? = some (.ins cn fs)) (hm : lkF fs mn = none) : mtK1 cn mn g as fr (.ok (.ref n) S) = mtK2 g (.ref n) (as fr S) := by
  unfold mtK1
  rw [bind_ok, insOf_of h]
  dsimp only
  rw [if_pos hm]
def mkK2 (n : Nat) (r : Res D) : Res D := r.bind fun d S2 => if isN d then .ok (.ref n) S2 else .bad
@[simp] theorem mkK2_n (n : Nat) (S : Store) : mkK2 n (.ok .non S) = .ok (.ref n) S := (rfl)
def mkK (cn : String) (g : Fn) (r : Res (List D)) : Res D := r.bind fun ds S1 => mkK2 S1.length (g (.ref S1.length :: ds) (S1 ++ [.ins cn []]))
@[simp] theorem mkK_s (cn : String) (g : Fn) (ds : List D) (S : Store) : mkK cn g (.ok ds S) = mkK2 S.length (g (.ref S.length :: ds) (S ++ [.ins cn []])) := (rfl)
@[simp] theorem mMake_s (cn : String) (g : Fn) (as : AM) (fr : Fr) (S : Store) : mMake cn g as fr S = mkK cn g (as fr S) := (rfl)
/-- a walk over the pairs of a dict -/
theorem forD_itm {e : EM} {g : GM} {b : SM} {fr : Fr} {S : Store} {n : Nat} {k : List (Ky × D)} (hs : S[n]? = some (.dK k)) (he : e fr S = .ok (.ref n) S) (he2 : e fr (S.set n (.zK k)) = .ok (.ref n) (S.set n (.zK k))) (I : Nat → Fr → Store → Prop) (h0 : I 0 fr (S.set n (.zK k))) (hz : ∀ i fr S', I i fr S' → S'[n]? = some (.zK k))
    (step : ∀ i p fr S', k[i]? = some p → I i fr S' → ∃ fr' S2, turnM g b (.tup [kyD p.1, p.2]) fr S' = .ok (.nx fr') S2 ∧ I (i + 1) fr' S2) : ∃ fr' S', sForD .itm e g b fr S = .ok (.nx fr') (S'.set n (.dK k)) ∧ I k.length fr' S' := by
  obtain ⟨fr', S', q, hI⟩ := loopZ_inv (n := n) (z := .zK k) (turn := turnM g b) I (k.map fun p => .tup [kyD p.1, p.2]) 0 fr (S.set n (.zK k)) h0 hz (fun i d fr S' hd h => by
    rw [List.getElem?_map] at hd
    obtain ⟨p, hp, rfl⟩ := Option.map_eq_some_iff.mp hd
    rw [Nat.zero_add] at h ⊢
    obtain ⟨fr', S2, e1, e2⟩ := step i p fr S' hp h
    exact ⟨fr', S2, .inl e1, e2⟩)
  rw [List.length_map, Nat.zero_add] at hI
  refine ⟨fr', S', ?_, hI⟩
  unfold sForD
  rw [he]
  dsimp only
  rw [hs]
  simp only [zOf, zItems]
  unfold runZ
  rw [he2]
  simp only [bind_ok, if_true]
  have : loopZ n (.zK k) (fun d fr S => (g d fr S).bind fun fr' S' => b fr' S') (k.map fun p => .tup [kyD p.1, p.2]) fr (S.set n (.zK k)) = .ok (.nx fr') S' := q
  rw [this]
  simp only [bind_ok]
  rw [if_pos (dec_true (hz _ _ _ hI))]
/-! ### worths by name -/
abbrev Ws := List (Ky × Int)
def wsD (ws : Ws) : List (Ky × D) := ws.map fun p => (p.1, .int p.2)
theorem wsD_get (ws : Ws) (k : Ky) : dGet (wsD ws) k = (dGet ws k).map .int := by
  unfold dGet wsD
  rw [List.find?_map, Option.map_map, Option.map_map]
  rfl
theorem wsD_put (ws : Ws) (k : Ky) (v : Int) : dPut (wsD ws) k (.int v) = wsD (dPut ws k v) := by
  unfold dPut wsD
  rw [List.any_map]
  have : (ws.any ((fun kv : Ky × D => decide (kv.1 = k)) ∘ fun p => (p.1, D.int p.2))) = ws.any fun kv => decide (kv.1 = k) := rfl
  rw [this]
  split
  · rw [List.map_map, List.map_map]
    apply List.map_congr_left
    intro p _
    simp only [Function.comp]
    split <;> rfl
  · rw [List.map_append]; rfl
def rv (ws : Ws) : Ky → Int
  | .inl i => i
  | .inr t => (dGet ws (.inr t)).getD 0
def WOk (v : Int) : Prop := 0 ≤ v ∧ v < 18446744073709551616
def WsOk (ws : Ws) : Prop := ∀ p ∈ ws, WOk p.2
theorem rv_ok {l : List Tx} {ws : Ws} {k : Ky} (h : WsOk ws) (o : Opd l k) : WOk (rv ws k) := by
  rcases o with ⟨t, _, rfl⟩ | ⟨w, rfl, h1, h2⟩
  · show WOk ((dGet ws (.inr t)).getD 0)
    unfold dGet
    cases e : ws.find? fun kv => decide (kv.1 = .inr t) with
    | none => exact ⟨by decide, by decide⟩
    | some p => exact h p (List.mem_of_find?_eq_some e)
  · exact ⟨h1, h2⟩
theorem WsOk.put {ws : Ws} {k : Ky} {v : Int} (h : WsOk ws) (hv : WOk v) : WsOk (dPut ws k v) := by
  intro p hp
  unfold dPut at hp
  split at hp
  · obtain ⟨q, hq, rfl⟩ := List.mem_map.mp hp
    split
    · exact hv
    · exact h q hq
  · rcases List.mem_append.mp hp with z | z
    · exact h p z
    · rw [List.mem_singleton.mp z]; exact hv
end Mi

set_option Elab.async false
set_option linter.all false
/-! evaluation: list(d.values()) -/
namespace Mi
def valK (r : Res D) : Res D := r.bind fun x S1 => uVals x S1
@[simp] theorem mValL_s (e : EM) (fr : Fr) (S : Store) : mValL e fr S = valK (e fr S) := (rfl)
theorem valK_of {S : Store} {n : Nat} {k : List (Ky × D)} (h : S[n]? = some (.dK k)) : valK (.ok (.ref n) S) = .ok (.ref S.length) (S ++ [.lst (k.map fun p => p.2)]) := by
  unfold valK uVals
  rw [bind_ok]
  dsimp only
  rw [h]
  rfl
end Mi

set_option Elab.async false
set_option linter.all false
set_option maxHeartbeats 1000000
namespace Lk22
open Mi
/-! ### the script's cells -/
theorem cell_ok {ns : List Int} {S : Store} (h : S[0]? = some (.fls (ns.map .int))) (k : Nat) : ∃ v, m_law_cell [.ref 0, .int k] S = .ok (.int v) S := by
  by_cases hl : k < ns.length
  · refine ⟨ns[k], ?_⟩
    have e : atI (ns.map D.int) (k : Int) = some (.int ns[k]) := at_of (by simp [hl])
    simp [m_law_cell, b_law_cell, h, hl, e]
  · by_cases h0 : ns = []
    · subst h0
      refine ⟨k * 7919, ?_⟩
      have e : mulOk (k : Int) 7919 := .inr (.inl (by decide))
      have e2 : ¬ ((k : Int) < 0) := by omega
      simp [m_law_cell, b_law_cell, h, e, e2]
    · have hp : 0 < ns.length := List.length_pos_iff.mpr h0
      have hm : k % ns.length < ns.length := Nat.mod_lt _ hp
      have e : atI (ns.map D.int) ((k : Int) % (ns.length : Int)) = some (.int ns[k % ns.length]) := by
        rw [← Int.natCast_emod]
        exact at_of (by simp [hm])
      have e3 : ∀ v : Int, mulOk (v % 1000003) ((k : Int) + 2) := fun v => .inl (by
        have := Int.emod_nonneg v (show (1000003 : Int) ≠ 0 by decide)
        have := Int.emod_lt_of_pos v (show (0 : Int) < 1000003 by decide)
        unfold small; constructor <;> omega)
      have e4 : mulOk (k : Int) 7919 := .inr (.inl (by decide))
      refine ⟨(if ns[k % ns.length] < 0 then -ns[k % ns.length] else ns[k % ns.length]) % 1000003 * ((k : Int) + 2) + (k : Int) * 7919, ?_⟩
      simp [m_law_cell, b_law_cell, h, hl, h0, e, hp, e3, e4]
/-! ### the names -/
theorem names_ok (c : Int) (k : Nat) (S : Store) (hk : k ≤ 10) : ∃ (l : List Tx) (m : Nat) (S' : Store), m_law_names [.int c, .int k] S = .ok (.ref m) S' ∧ Pre S S' ∧ S.length ≤ m ∧ S'[m]? = some (.lst (l.map .str)) ∧ l.length = k ∧ ∀ t ∈ l, Nm t := by
  obtain ⟨sz, hsz, hs0, hs8⟩ : ∃ sz : Nat, 1 + c % 8 = (sz : Int) ∧ 1 ≤ sz ∧ sz ≤ 8 := ⟨(1 + c % 8).toNat, by omega, by omega, by omega⟩
  have hszp : (0 : Int) < sz := by omega
  obtain ⟨sp, hsp, hsp8⟩ : ∃ sp : Nat, c / 8 % (sz : Int) = (sp : Int) ∧ sp < sz := by
    have h1 := Int.emod_nonneg (c / 8) (show (sz : Int) ≠ 0 by omega)
    have h2 := Int.emod_lt_of_pos (c / 8) hszp
    exact ⟨(c / 8 % (sz : Int)).toNat, by omega, by omega⟩
  let wd : Nat → Int := fun j => if 0 < j then 36 else 26
  let cv : Nat → Nat := fun j => SG.getD (c / (64 + 5 * (j : Int)) % wd j).toNat 0
  have hcv : ∀ j : Nat, atI SG (c / (64 + 5 * (j : Int)) % wd j) = some (cv j) ∧ cv j ∈ SG ∧ (j = 0 → 97 ≤ cv j ∧ cv j ≤ 122) := fun j => by
    have w0 : 0 < wd j ∧ wd j ≤ 36 ∧ (j = 0 → wd j = 26) := by
      by_cases h : 0 < j
      · simp [wd, h]; omega
      · simp [wd, h]
    have h1 := Int.emod_nonneg (c / (64 + 5 * (j : Int))) (show wd j ≠ 0 by omega)
    have h2 := Int.emod_lt_of_pos (c / (64 + 5 * (j : Int))) w0.1
    obtain ⟨d, e, m, q⟩ := sg_lt h1 (by omega)
    have ed : cv j = d := by
      have : SG[(c / (64 + 5 * (j : Int)) % wd j).toNat]? = some d := by
        unfold atI at e
        rw [ixN_of h1 (by show _ < ((36 : Nat) : Int); omega)] at e
        exact e
      show (SG[(c / (64 + 5 * (j : Int)) % wd j).toNat]?).getD 0 = d
      rw [this]; rfl
    rw [ed]
    exact ⟨e, m, fun h => q (by have := w0.2.2 h; omega)⟩
  let f : D → Option D := fun d => match d with
    | .int j => some (sgn (cv j.toNat))
    | _ => none
  have fsz : far (sz : Int) := by unfold far; omega
  obtain ⟨G1, q1⟩ := lc_is (vs := [6]) (g := gName 6) (t := tYes) (e := e_law_names_1)
    (fr := [some (.int c), some (.int k), some (.str SG), some (.int sz), some (.int sp), none, none, none, none, none]) (l := rng 0 sz) (hs := []) (S := S) f (fun _ h => by cases h) (by rw [rng_len]; exact Nat.le_trans hs8 (by decide)) (by
      intro d hd acc G
      obtain ⟨i, hi⟩ := List.getElem?_of_mem hd
      obtain ⟨hl, rfl⟩ := rng_at hi
      have e0 : (0 : Int) + (i : Int) = (i : Int) := by omega
      have a := hcv i
      have dv : divOk (64 + 5 * (i : Int)) := div_ok (by omega) (by omega)
      have mo : mulOk 5 (i : Int) := mul_l (by decide)
      refine ⟨[some (.int c), some (.int k), some (.str SG), some (.int sz), some (.int sp), none, some (.int i), none, none, none], [.lst [.int 26, .int 36]], by simp [unset, e0], .inr ⟨sgn (cv i), [], by simp [f, e0], by simp [tYes], ?_⟩⟩
      by_cases h : 0 < i
      · have a1 := a.1
        simp only [wd, if_pos h] at a1
        simp [e_law_names_1, h, LINE, mo, dv, get_app, get_len_add, a1]
      · have h0 : i = 0 := by omega
        subst h0
        have a1 := a.1
        simp [wd] at a1
        have dv' : divOk 64 := div_ok (by decide) (by decide)
        have mo' : mulOk 5 0 := mul_l (by decide)
        simp [e_law_names_1, LINE, mo', dv', get_app, get_len_add, a1])
  have q1l : (rng 0 sz).filterMap f = ((List.range sz).map cv).map sgn := by
    unfold rng
    rw [List.filterMap_map, List.map_map]
    have : (f ∘ fun k : Nat => D.int (0 + (k : Int))) = fun k : Nat => some (sgn (cv k)) := by
      funext k
      simp [f]
    rw [this, List.filterMap_eq_map']
    rfl
  rw [q1l] at q1
  have cs0 : Cs ((List.range sz).map cv) := by
    refine ⟨by simpa using hs0, by simpa using hs8, ⟨cv 0, ?_, (hcv 0).2.2 rfl⟩, ?_⟩
    · rw [List.getElem?_map, List.getElem?_range hs0]; rfl
    · intro d hd
      obtain ⟨j, _, rfl⟩ := List.mem_map.mp hd
      exact (hcv j).2.1
  have csl : ((List.range sz).map cv).length = sz := by simp
  generalize (List.range sz).map cv = cs0' at q1 cs0 csl
  obtain ⟨S1, hS1⟩ : ∃ S1 : Store, S1 = S ++ .lst (cs0'.map sgn) :: G1 := ⟨_, rfl⟩
  rw [← hS1] at q1
  have p1 : Pre S S1 := by rw [hS1]; exact Pre.app _ _
  have g1 : S1[S.length]? = some (.lst (cs0'.map sgn)) := by rw [hS1]; exact app_new _ _ _
  have hlen : S.length < S1.length := Pre.lt (S' := S) g1
  have key := loop_inv (hs := []) (turn := turnM (gName 8) l_law_names_2)
    (fun i fr S' => ∃ k8 k9 cs l, fr = [some (.int c), some (.int k), some (.str SG), some (.int sz), some (.int sp), some (.ref S.length), none, some (.ref S1.length), k8, k9] ∧ Pre S S' ∧ S'[S.length]? = some (.lst (cs.map sgn)) ∧ S'[S1.length]? = some (.lst (l.map .str)) ∧ Cs cs ∧ cs.length = sz ∧ l.length = i ∧ ∀ t ∈ l, Nm t)
    (rng 0 k) 0 [some (.int c), some (.int k), some (.str SG), some (.int sz), some (.int sp), some (.ref S.length), none, some (.ref S1.length), none, none] (S1 ++ [.lst []])
    ⟨none, none, cs0', [], rfl, p1.trans (Pre.app _ _), app_get g1, app_new _ _ _, cs0, csl, rfl, by simp⟩ (fun _ _ S _ => stands_nil S) (by
      rintro i d fr S' hd ⟨k8, k9, cs, l, rfl, pr, ga, gb, hcs, hcl, hll, hnm⟩
      obtain ⟨hi, rfl⟩ := rng_at hd
      have e0 : (0 : Int) + (i : Int) = (i : Int) := by omega
      have d64 : divOk 64 := div_ok (by decide) (by decide)
      have h1 : 0 ≤ (c / 64 + (i : Int)) % 26 ∧ (c / 64 + (i : Int)) % 26 < 26 := ⟨Int.emod_nonneg _ (by decide), Int.emod_lt_of_pos _ (by decide)⟩
      obtain ⟨x, ex, mx, qx⟩ := sg_lt h1.1 (by omega)
      have hx := qx h1.2
      have ix : ixN sz (sp : Int) = some sp := by rw [ixN_of (by omega) (by omega)]; simp
      have hcs' := hcs.set sp x hx mx
      have ne : S.length ≠ S1.length := by omega
      have hmap : (cs.map sgn).set sp (sgn x) = (cs.set sp x).map sgn := by rw [List.map_set]
      have gj : (S'.set S.length (.lst ((cs.set sp x).map sgn)))[S.length]? = some (.lst ((cs.set sp x).map sgn)) := set_get ga
      have gk : (S'.set S.length (.lst ((cs.set sp x).map sgn)))[S1.length]? = some (.lst (l.map .str)) := by rw [set_ne ne]; exact gb
      have jo := join_sgn gj (Nat.le_trans hcs'.hi (by decide))
      have nm := hcs'.nm
      have pr2 : Pre S (S'.set S.length (.lst ((cs.set sp x).map sgn))) := pr.set (Nat.le_refl _)
      generalize hT : S'.set S.length (.lst ((cs.set sp x).map sgn)) = T at gj gk jo pr2
      rw [← hmap] at hT
      have hlL : l.length < LINE := by rw [hll]; exact Nat.lt_of_lt_of_le (Nat.lt_of_lt_of_le (by omega) hk) (by decide)
      have hcl8 : (cs.set sp x).length ≤ 8 := hcs'.hi
      refine ⟨[some (.int c), some (.int k), some (.str SG), some (.int sz), some (.int sp), some (.ref S.length), none, some (.ref S1.length), some (.int i), some (.str (nmOf (cs.set sp x)))], T.set S1.length (.lst ((l ++ [nmOf (cs.set sp x)]).map .str)), .inl ?_, _, _, cs.set sp x, l ++ [nmOf (cs.set sp x)], rfl, pr2.set (by omega), ?_, set_get gk, hcs', by simpa using hcl, by simp [hll], ?_⟩
      · simp [turnM_s, l_law_names_2, e0, d64, LINE, ex, ga, ix, hcl, hT, gj, jo, gk]
        by_cases hw : cs.set sp x = w_sy ∨ cs.set sp x = w_go ∨ cs.set sp x = w_pt ∨ cs.set sp x = w_en
        · have : nmOf (cs.set sp x) = cs.set sp x ++ [48] := by unfold nmOf; rw [if_pos hw]
          have hw' : ((w_sy == cs.set sp x) || ((w_go == cs.set sp x) || ((w_pt == cs.set sp x) || (w_en == cs.set sp x)))) = true := by
            simp only [Bool.or_eq_true, beq_iff_eq]
            rcases hw with z | z | z | z <;> simp [z]
          have hl9 : cs.length + 1 ≤ LINE := Nat.le_trans (show cs.length + 1 ≤ 9 by omega) (by decide)
          rw [this]
          simp [hw', hl9, gk, hlL]
        · have : nmOf (cs.set sp x) = cs.set sp x := by unfold nmOf; rw [if_neg hw]
          rw [this]
          have hw' : ((w_sy == cs.set sp x) || ((w_go == cs.set sp x) || ((w_pt == cs.set sp x) || (w_en == cs.set sp x)))) = false := by
            simp only [not_or] at hw
            simp only [Bool.or_eq_false_iff, beq_eq_false_iff_ne, ne_eq]
            exact ⟨fun e => hw.1 e.symm, fun e => hw.2.1 e.symm, fun e => hw.2.2.1 e.symm, fun e => hw.2.2.2 e.symm⟩
          simp [hw', gk, hlL]
      · rw [set_ne ne.symm]; exact gj
      · intro t ht
        rcases List.mem_append.mp ht with z | z
        · exact hnm t z
        · rw [List.mem_singleton.mp z]; exact nm)
  obtain ⟨fr', S', e, k8, k9, cs, l, rfl, pr, ga, gb, hcs, hcl, hll, hnm⟩ := key
  refine ⟨l, S1.length, S', ?_, pr, by omega, gb, by simpa using hll, hnm⟩
  have fk : far (k : Int) := by unfold far; omega
  have d8 : divOk 8 := div_ok (by decide) (by decide)
  have hs0' : 0 < sz := by omega
  simp [m_law_names, b_law_names, hsz, hsp, d8, fk, fsz, hs0']
  rw [q1]
  simp [LINE, get_app, fk]
  rw [e]
  simp
/-! ### digits, operands -/
structure Digs (sz ds : List Int) : Prop where
  len : ds.length = sz.length
  bd : ∀ (i : Nat) (x : Int), ds[i]? = some x → ∃ n, sz[i]? = some n ∧ 0 ≤ x ∧ x < n
theorem digits_ok (c : Int) (p : Nat) (S : Store) (sz : List Int) (h : S[p]? = some (.lst (sz.map .int))) (hs : ∀ n ∈ sz, 0 < n ∧ n < 2 ^ 60) (hl : sz.length ≤ 10) : ∃ (ds : List Int) (m : Nat) (S' : Store), m_law_digits [.int c, .ref p] S = .ok (.ref m) S' ∧ Pre S S' ∧ S.length ≤ m ∧ S'[m]? = some (.lst (ds.map .int)) ∧ Digs sz ds := by
  have hp := Pre.lt (S' := S) h
  have key := loop_inv (hs := [(p, sz.map D.int)]) (turn := turnM (gName 4) l_law_digits_1)
    (fun i fr S' => ∃ (num : Int) (e : Option D) (ds : List Int), fr = [some (.int c), some (.ref p), some (.int num), some (.ref S.length), e] ∧ S' = S ++ [.lst (ds.map .int)] ∧ ds.length = i ∧ ∀ (i : Nat) (x : Int), ds[i]? = some x → ∃ n, sz[i]? = some n ∧ 0 ≤ x ∧ x < n)
    (sz.map D.int) 0 [some (.int c), some (.ref p), some (.int (c * 48271 % 2147483647)), some (.ref S.length), none] (S ++ [.lst []]) ⟨_, none, [], rfl, rfl, rfl, fun _ _ h => by cases h⟩
    (by
      rintro i fr S' ⟨num, e, ds, rfl, rfl, hl, hb⟩
      exact stands_one (by simp [app_get h]))
    (by
      rintro i d fr S' hd ⟨num, e, ds, rfl, rfl, hdl, hb⟩
      rw [List.getElem?_map] at hd
      obtain ⟨n, hn, rfl⟩ := Option.map_eq_some_iff.mp hd
      have hn2 := hs n (List.mem_of_getElem? hn)
      have dv : divOk n := div_ok hn2.1 (by omega)
      have hil : ds.length < LINE := by
        have := (List.getElem?_eq_some_iff.mp hn).1
        exact Nat.lt_of_lt_of_le (show ds.length < 11 by omega) (by decide)
      refine ⟨[some (.int c), some (.ref p), some (.int (num / n)), some (.ref S.length), some (.int n)], S ++ [.lst ((ds ++ [num % n]).map .int)], .inl (by
        simp [turnM_s, l_law_digits_1, get_len, hn2.1, hil, dv]), _, some (.int n), ds ++ [num % n], rfl, rfl, by rw [List.length_append, hdl]; simp, ?_⟩
      intro j x hj
      rw [List.getElem?_append] at hj
      split at hj
      · exact hb j x hj
      · rename_i hlt
        have : j = i := by
          have := (List.getElem?_eq_some_iff.mp hj).1
          simp at this
          omega
        subst this
        rw [show j - ds.length = 0 by omega] at hj
        obtain rfl := Option.some.inj hj
        exact ⟨n, hn, Int.emod_nonneg _ (by omega), Int.emod_lt_of_pos _ hn2.1⟩)
  obtain ⟨fr', S', e, num, e5, ds, rfl, rfl, hdl, hb⟩ := key
  have mo : mulOk c 48271 := mul_r (by decide)
  refine ⟨ds, S.length, S ++ [.lst (ds.map .int)], ?_, Pre.app _ _, Nat.le_refl _, app_new _ _ _, ⟨by simpa using hdl, hb⟩⟩
  simp [m_law_digits, b_law_digits, mo, LINE, app_get h]
  rw [e]
  simp
theorem operand_ok (dg c : Int) (p : Nat) (S : Store) (l : List Tx) (h : S[p]? = some (.lst (l.map .str))) (hd : 0 ≤ dg) : ∃ k : Ky, m_law_operand [.int dg, .int c, .ref p] S = .ok (kyD k) S ∧ Opd l k := by
  obtain ⟨j, rfl⟩ : ∃ j : Nat, dg = (j : Int) := ⟨dg.toNat, by omega⟩
  by_cases h1 : j < l.length
  · have e : atI (l.map D.str) (j : Int) = some (.str l[j]) := at_of (by simp [h1])
    exact ⟨.inr l[j], by simp [m_law_operand, b_law_operand, h, h1, e], .inl ⟨_, List.getElem_mem h1, rfl⟩⟩
  · by_cases h2 : j = l.length
    · exact ⟨.inl (c % 3), by simp [m_law_operand, b_law_operand, h, h2], .inr ⟨_, rfl, by omega, by omega⟩⟩
    · have d3 : divOk 3 := div_ok (by decide) (by decide)
      have mo : mulOk c 48271 := mul_r (by decide)
      have h2' : ¬ ((j : Int) = (l.length : Int)) := by omega
      by_cases h3 : c % 3 = 0
      · exact ⟨.inl (18446744073709551615 - c / 3 % 9), by simp [m_law_operand, b_law_operand, h, h1, h2, h2', h3, d3], .inr ⟨_, rfl, by omega, by omega⟩⟩
      · exact ⟨.inl (c * 48271 % 18446744073709551616), by simp [m_law_operand, b_law_operand, h, h1, h2, h2', h3, mo], .inr ⟨_, rfl, by omega, by omega⟩⟩
end Lk22

set_option Elab.async false
set_option linter.all false
set_option maxHeartbeats 1000000
namespace Lk22
open Mi
/-! ### rows -/
theorem digs5 {a b c d e : Int} {ds : List Int} (h : Digs [a, b, c, d, e] ds) : ∃ x y z u v, ds = [x, y, z, u, v] ∧ (0 ≤ x ∧ x < a) ∧ (0 ≤ y ∧ y < b) ∧ (0 ≤ z ∧ z < c) ∧ (0 ≤ u ∧ u < d) ∧ (0 ≤ v ∧ v < e) := by
  obtain ⟨hl, hb⟩ := h
  match ds, hl with
  | [x, y, z, u, v], _ =>
    obtain ⟨_, e, q⟩ := hb 0 x rfl
    obtain rfl := Option.some.inj e
    obtain ⟨_, e, q2⟩ := hb 1 y rfl
    obtain rfl := Option.some.inj e
    obtain ⟨_, e, q3⟩ := hb 2 z rfl
    obtain rfl := Option.some.inj e
    obtain ⟨_, e, q4⟩ := hb 3 u rfl
    obtain rfl := Option.some.inj e
    obtain ⟨_, e, q5⟩ := hb 4 v rfl
    obtain rfl := Option.some.inj e
    exact ⟨x, y, z, u, v, rfl, q, q2, q3, q4, q5⟩
theorem row_ok (c : Int) (p : Nat) (S : Store) (l : List Tx) (h : S[p]? = some (.lst (l.map .str))) (hl : l.length ≤ 10) (h0 : 0 < l.length) : ∃ (r : Row) (S' : Store), m_law_row [.int c, .ref p] S = .ok r.d S' ∧ Pre S S' ∧ RowN l r ∧ r.seq = true ∧ ∀ a t, r = .pt a t → 0 ≤ t := by
  have h1 : (S ++ [O.lst ([(12 : Int), (l.length : Int), 8, (l.length : Int) + 2, (l.length : Int) + 2].map D.int)])[S.length]? = some (.lst ([(12 : Int), (l.length : Int), 8, (l.length : Int) + 2, (l.length : Int) + 2].map .int)) := app_new _ _ _
  obtain ⟨ds, m, S1, e, pr, hm, hg, hd⟩ := digits_ok c S.length _ _ h1 (by
    intro n hn
    simp only [List.mem_cons, List.not_mem_nil, or_false] at hn
    rcases hn with rfl | rfl | rfl | rfl | rfl <;> omega) (by simp)
  obtain ⟨k, x, s, y, z, rfl, hk, hx, hs, hy, hz⟩ := digs5 hd
  have h2 : S1[p]? = some (.lst (l.map .str)) := pr.get (app_get h)
  obtain ⟨a, qa, oa⟩ := operand_ok y c p S1 l h2 hy.1
  obtain ⟨b, qb, ob⟩ := operand_ok z (c / 7) p S1 l h2 hz.1
  have hxl : x.toNat < l.length := by omega
  have ex : atI (l.map D.str) x = some (.str l[x.toNat]) := at_nat hx.1 (by rw [List.getElem?_map, List.getElem?_eq_getElem hxl]; rfl)
  have hin : l[x.toNat] ∈ l := List.getElem_mem hxl
  generalize l[x.toNat] = nm at *
  have hs8 : s.toNat < S8.length := by show s.toNat < 8; omega
  have es : atI S8 s = some S8[s.toNat] := at_nat hs.1 (List.getElem?_eq_getElem hs8)
  have hsm : S8[s.toNat] ∈ S8 := List.getElem_mem hs8
  generalize S8[s.toNat] = ch at *
  have d7 : divOk 7 := div_ok (by decide) (by decide)
  have d5 : divOk 5 := div_ok (by decide) (by decide)
  have m1000 : 0 ≤ c / 5 % 1000 := Int.emod_nonneg _ (by decide)
  have pr' : Pre S S1 := (Pre.app _ _).trans pr
  simp only [List.map_cons, List.map_nil] at e hg
  by_cases k7 : k < 7
  · refine ⟨.rk nm [ch] a b, S1, ?_, pr', ⟨hin, ⟨⟨ch, hsm, rfl⟩, oa, ob⟩⟩, rfl, fun _ _ e => by cases e⟩
    simp [m_law_row, b_law_row, h, LINE, e, hg, qa, qb, d7, k7, h2, ex, es, d_rk]
  · by_cases k9 : k < 9
    · refine ⟨.cp nm a, S1, ?_, pr', ⟨hin, oa⟩, rfl, fun _ _ e => by cases e⟩
      simp [m_law_row, b_law_row, h, LINE, e, hg, qa, d7, k7, k9, h2, ex, d_cp]
    · by_cases k10 : k = 9
      · refine ⟨.sy a, S1, ?_, pr', oa, rfl, fun _ _ e => by cases e⟩
        simp [m_law_row, b_law_row, h, LINE, e, hg, qa, d7, k7, k9, k10, d_sy]
      · refine ⟨.pt a (c / 5 % 1000), S1, ?_, pr', oa, rfl, fun _ _ e => by cases e; exact m1000⟩
        simp [m_law_row, b_law_row, h, LINE, e, hg, qa, d7, d5, k7, k9, k10, d_pt]
/-! ### a stretch closed -/
abbrev ofNs (l : List Nat) : List D := l.map fun (n : Nat) => D.int (n : Int)
theorem shut_ok (R Q b : Nat) (c : Int) (rows : List Row) (outer : List Nat) (a : Ky) (S : Store) (hR : S[R]? = some (.lst (rows.map Row.d))) (hO : S[Q]? = some (.lst (ofNs outer))) (hb : rows[b]? = some (.pt a 0)) (h0 : 0 < outer.length) (hl : rows.length < 1000) :
    ∃ r : Row, (r = .en ∨ ∃ t, r = .go t ∧ (t < 0 ∨ ∃ o ∈ outer, t = (o : Int))) ∧ m_law_shut [.ref R, .int b, .int c, .ref Q] S = .ok .non (S.set R (.lst (((rows ++ [r]).set b (.pt a ((rows.length + 1 : Nat) : Int))).map Row.d))) := by
  have hbl : b < rows.length := (List.getElem?_eq_some_iff.mp hb).1
  have d3 : divOk 3 := div_ok (by decide) (by decide)
  have d9 : divOk 9 := div_ok (by decide) (by decide)
  have hl' : rows.length < 16777216 := by omega
  have ab : ∀ x, atI (rows.map Row.d ++ [x]) (b : Int) = some (.tup [.str w_pt, kyD a, .int 0]) := fun x => at_of (by
    rw [List.getElem?_append_left (by simpa using hbl), List.getElem?_map, hb]; rfl)
  have ib : ixN (rows.length + 1) (b : Int) = some b := by rw [ixN_of (by omega) (by omega)]; simp
  have hset : ∀ X, (S.set R X)[R]? = some X := fun X => set_get hR
  by_cases c0 : c / 3 % 3 = 0
  · refine ⟨.en, .inl rfl, ?_⟩
    simp [m_law_shut, b_law_shut, d3, c0, LINE, hR, hset, hl', ab, ib, d_en, d_pt]
  · by_cases c1 : c / 3 % 3 = 1
    · have hm : 0 ≤ c / 9 % (outer.length : Int) ∧ c / 9 % (outer.length : Int) < outer.length := ⟨Int.emod_nonneg _ (by omega), Int.emod_lt_of_pos _ (by omega)⟩
      have hlt : (c / 9 % (outer.length : Int)).toNat < outer.length := by omega
      have eo : atI (ofNs outer) (c / 9 % (outer.length : Int)) = some (.int (outer[(c / 9 % (outer.length : Int)).toNat] : Nat)) := at_nat hm.1 (by rw [List.getElem?_map, List.getElem?_eq_getElem hlt]; rfl)
      refine ⟨.go (outer[(c / 9 % (outer.length : Int)).toNat] : Nat), .inr ⟨_, rfl, .inr ⟨_, List.getElem_mem hlt, rfl⟩⟩, ?_⟩
      generalize outer[(c / 9 % (outer.length : Int)).toNat] = o at *
      simp [m_law_shut, b_law_shut, d3, d9, c1, LINE, hR, hset, hO, h0, hl', ab, ib, eo, d_go, d_pt]
    · refine ⟨.go (-1 - c / 9 % 1000), .inr ⟨_, rfl, .inl (by omega)⟩, ?_⟩
      simp [m_law_shut, b_law_shut, d3, d9, c0, c1, LINE, hR, hset, hl', ab, ib, d_go, d_pt]
/-! ### turned to where they lead -/
theorem turned_ok (R : Nat) (rows : List Row) (S : Store) (hR : S[R]? = some (.lst (rows.map Row.d))) (hl : rows.length < 1000) (hg : ∀ (n : Nat) (t : Int), rows[n]? = some (.go t) → t < 0 → n + 1 < rows.length) :
    ∃ S', m_law_turned_to [.ref R] S = .ok (.ref S.length) S' ∧ Pre S S' ∧ S'[S.length]? = some (.lst ((turnAll rows.length 0 rows).map Row.d)) := by
  have hlt := Pre.lt (S' := S) hR
  have key := loop_inv (hs := [(R, rows.map Row.d)]) (turn := turnM (gTup 2 (gCons (gName 3) (gCons (gName 4) gNil))) l_law_turned_to_1)
    (fun i fr S' => ∃ (x y z : Option D), fr = [some (.ref R), some (.int rows.length), some (.ref S.length), x, y, z] ∧ Pre S S' ∧ S'[S.length]? = some (.lst ((turnAll rows.length 0 (rows.take i)).map Row.d)))
    (prs 0 (rows.map Row.d)) 0 [some (.ref R), some (.int rows.length), some (.ref S.length), none, none, none] (S ++ [.lst []]) ⟨none, none, none, rfl, Pre.app _ _, app_new _ _ _⟩
    (by
      rintro i fr S' ⟨x, y, z, rfl, pr, g⟩
      exact stands_one (lst_of (pr.get hR)))
    (by
      rintro i d fr S' hd ⟨x, y, z, rfl, pr, g⟩
      rw [prs_get, List.getElem?_map, Option.map_map] at hd
      obtain ⟨r, hn, rfl⟩ := Option.map_eq_some_iff.mp hd
      have hi : i < rows.length := (List.getElem?_eq_some_iff.mp hn).1
      have tk : rows.take (i + 1) = rows.take i ++ [r] := by
        obtain ⟨hi, rfl⟩ := List.getElem?_eq_some_iff.mp hn
        rw [List.take_succ_eq_append_getElem hi]
      have tl : (rows.take i).length = i := by rw [List.length_take]; omega
      have tll : (turnAll rows.length 0 (rows.take i)).length < 16777216 := by rw [turnAll_len, tl]; omega
      rw [show 0 + i = i by omega] at *
      rw [tk, turnAll_snoc, tl, show 0 + i = i by omega]
      generalize turnAll rows.length 0 (rows.take i) = acc at *
      have fin : ∀ (y z : Option D) (S2 : Store) (r' : Row), Pre S' S2 → ∃ (x y' z' : Option D), [some (.ref R), some (.int rows.length), some (.ref S.length), some (.int (i : Nat)), y, z] = [some (.ref R), some (.int rows.length), some (.ref S.length), x, y', z'] ∧ Pre S (S2.set S.length (.lst ((acc ++ [r']).map Row.d))) ∧ (S2.set S.length (.lst ((acc ++ [r']).map Row.d)))[S.length]? = some (.lst ((acc ++ [r']).map Row.d)) := fun y z S2 r' p2 => ⟨_, _, _, rfl, (pr.trans p2).set (Nat.le_refl _), set_get (p2.get g)⟩
      cases r with
      | go t =>
        by_cases h : t < 0
        · have pos := hg i t hn h
          have p2 : (1 : Int) < (rows.length : Int) - i := by omega
          refine ⟨_, _, .inl ?_, fin (some (turn rows.length i (.go t)).d) z S' _ (Pre.refl _)⟩
          simp [turnM_s, l_law_turned_to_1, d_go, LINE, turn, h, p2, g, tll]
        · refine ⟨_, _, .inl ?_, fin (some (turn rows.length i (.go t)).d) z S' _ (Pre.refl _)⟩
          simp [turnM_s, l_law_turned_to_1, d_go, LINE, turn, h, g, tll]
      | pt a t =>
        have p0 : 0 < rows.length := by omega
        have g2 := app_get (G := [.lst [.int (t % rows.length), .int (i : Nat)]]) g
        by_cases h : t % (rows.length : Int) = (i : Int) + 1
        · refine ⟨_, _, .inl ?_, fin (some (turn rows.length i (.pt a t)).d) (some (.int (t % rows.length))) (S' ++ [.lst [.int (t % rows.length), .int (i : Nat)]]) _ (Pre.app _ _)⟩
          simp [h] at g2
          simp [turnM_s, l_law_turned_to_1, d_pt, LINE, turn, h, p0, get_len, tll, g2]
        · refine ⟨_, _, .inl ?_, fin (some (turn rows.length i (.pt a t)).d) (some (.int (t % rows.length))) (S' ++ [.lst [.int (t % rows.length), .int (i : Nat)]]) _ (Pre.app _ _)⟩
          simp [turnM_s, l_law_turned_to_1, d_pt, LINE, turn, h, p0, get_len, tll, g2]
      | rk n s a b =>
        refine ⟨_, _, .inl ?_, fin (some (Row.rk n s a b).d) z S' _ (Pre.refl _)⟩
        simp [turnM_s, l_law_turned_to_1, d_rk, LINE, turn, g, tll]
      | cp n a =>
        refine ⟨_, _, .inl ?_, fin (some (Row.cp n a).d) z S' _ (Pre.refl _)⟩
        simp [turnM_s, l_law_turned_to_1, d_cp, LINE, turn, g, tll]
      | sy a =>
        refine ⟨_, _, .inl ?_, fin (some (Row.sy a).d) z S' _ (Pre.refl _)⟩
        simp [turnM_s, l_law_turned_to_1, d_sy, LINE, turn, g, tll]
      | en =>
        refine ⟨_, _, .inl ?_, fin (some Row.en.d) z S' _ (Pre.refl _)⟩
        simp [turnM_s, l_law_turned_to_1, d_en, LINE, turn, g, tll])
  obtain ⟨fr', S', e, x, y, z, rfl, pr, g⟩ := key
  rw [prs_len, List.length_map, Nat.zero_add, List.take_length] at g
  refine ⟨S', ?_, pr, g⟩
  simp [m_law_turned_to, b_law_turned_to, hR, app_get hR]
  rw [e]
  simp
/-! ### behind a test -/
theorem tested_ok (R : Nat) (nm : Tx) (q : List Row) (S : Store) (hR : S[R]? = some (.lst ((q ++ [Row.en]).map Row.d))) (hl : q.length < 1000) :
    ∃ (m : Nat) (S' : Store), m_law_tested [.ref R, .str nm] S = .ok (.ref m) S' ∧ Pre S S' ∧ S'[m]? = some (.lst ((tst nm q).map Row.d)) := by
  have hlt := Pre.lt (S' := S) hR
  obtain ⟨S1, e1⟩ : ∃ S1 : Store, S1 = S ++ [.lst [.tup [.str w_go, .int ((q.length : Int) + 1)]], .lst (q.map Row.d)] := ⟨_, rfl⟩
  have p1 : Pre S S1 := by rw [e1]; exact Pre.app _ _
  have g1 : S1[S.length]? = some (.lst [.tup [.str w_go, .int ((q.length : Int) + 1)]]) := by rw [e1]; exact app_new _ _ _
  have g2 : S1[S.length + 1]? = some (.lst (q.map Row.d)) := by rw [e1]; simp [get_app]
  have key := loop_inv (hs := [(S.length + 1, q.map Row.d)]) (turn := turnM (gName 4) l_law_tested_1)
    (fun i fr S' => ∃ (x : Option D), fr = [some (.ref R), some (.str nm), some (.int ((q.length : Int) + 1)), some (.ref S.length), x] ∧ Pre S S' ∧ S'[S.length + 1]? = some (.lst (q.map Row.d)) ∧ S'[S.length]? = some (.lst ((Row.go ((q.length : Int) + 1) :: (q.take i).map shift).map Row.d)))
    (q.map Row.d) 0 [some (.ref R), some (.str nm), some (.int ((q.length : Int) + 1)), some (.ref S.length), none] S1 ⟨none, rfl, p1, g2, g1⟩
    (by
      rintro i fr S' ⟨x, rfl, pr, gq, g⟩
      exact stands_one (lst_of gq))
    (by
      rintro i d fr S' hd ⟨x, rfl, pr, gq, g⟩
      rw [List.getElem?_map] at hd
      obtain ⟨r, hn, rfl⟩ := Option.map_eq_some_iff.mp hd
      have hi : i < q.length := (List.getElem?_eq_some_iff.mp hn).1
      have tk : q.take (i + 1) = q.take i ++ [r] := by
        obtain ⟨hi, rfl⟩ := List.getElem?_eq_some_iff.mp hn
        rw [List.take_succ_eq_append_getElem hi]
      have tl : (q.take i).length = i := by rw [List.length_take]; omega
      rw [show 0 + i = i by omega] at *
      rw [tk, List.map_append, List.map_singleton]
      have tll : ((q.take i).map shift).length + 1 < 16777216 := by rw [List.length_map, tl]; omega
      generalize (q.take i).map shift = acc at *
      refine ⟨[some (.ref R), some (.str nm), some (.int ((q.length : Int) + 1)), some (.ref S.length), some (shift r).d], S'.set S.length (.lst ((Row.go ((q.length : Int) + 1) :: (acc ++ [shift r])).map Row.d)), .inl ?_, _, rfl, pr.set (Nat.le_refl _), by rw [set_ne (by omega)]; exact gq, set_get g⟩
      cases r <;> simp [turnM_s, l_law_tested_1, d_rk, d_cp, d_sy, d_go, d_pt, d_en, LINE, shift, g, tll])
  obtain ⟨fr', S2, e, x, rfl, p2, _, g⟩ := key
  rw [List.length_map, Nat.zero_add, List.take_length] at g
  refine ⟨S2.length + 1, S2 ++ [.lst [Row.d (.pt (.inr nm) 1), Row.d Row.en], .lst ((tst nm q).map Row.d)], ?_, p2.trans (Pre.app _ _), by simp [get_app]⟩
  have ec : cut (q.map Row.d ++ [.tup [.str w_en]]) none (some (-1)) = q.map Row.d := cut_last _ _
  have hRa := fun G => app_get (G := G) hR
  simp [d_en] at hR hRa
  have e1' : S ++ [.lst [.tup [.str w_go, .int ((q.length : Int) + 1)]], .lst (q.map Row.d)] = S1 := e1.symm
  have ql : q.length + 3 ≤ 16777216 := by omega
  simp [m_law_tested, b_law_tested, hR, hRa, LINE, ec]
  rw [e1', e]
  simp [get_app, get_len, g, LINE, d_go, d_pt, d_en, tst, ql]
/-! ### a program of cells -/
theorem tk_succ {α : Type} {l : List α} {i : Nat} {r : α} (h : l[i]? = some r) : l.take (i + 1) = l.take i ++ [r] := by
  obtain ⟨hi, rfl⟩ := List.getElem?_eq_some_iff.mp h
  rw [List.take_succ_eq_append_getElem hi]
def bgD : Option Nat → D
  | none => .non
  | some b => .int (b : Int)
theorem program_ok (C N : Nat) (more : Int) (cells : List Int) (l : List Tx) (S : Store) (hC : S[C]? = some (.lst (cells.map .int))) (hN : S[N]? = some (.lst (l.map .str))) (hl : l.length ≤ 10) (h0 : 0 < l.length) (hm : 0 ≤ more ∧ more ≤ 100) (hc : cells.length ≤ 60) :
    ∃ (m : Nat) (rows : List Row) (S' : Store), m_law_program [.ref C, .ref N, .int more] S = .ok (.ref m) S' ∧ Pre S S' ∧ S'[m]? = some (.lst (rows.map Row.d)) ∧ Prg l rows ∧ rows.length ≤ 200 := by
  obtain ⟨S1, e1⟩ : ∃ S1 : Store, S1 = S ++ [.lst [], .lst [], .lst []] := ⟨_, rfl⟩
  have p1 : Pre S S1 := by rw [e1]; exact Pre.app _ _
  have gR : S1[S.length]? = some (.lst []) := by rw [e1]; exact app_new _ _ _
  have gO : S1[S.length + 1]? = some (.lst []) := by rw [e1]; simp [get_app]
  have gZ : S1[S.length + 2]? = some (.lst []) := by rw [e1]; simp [get_app]
  have l1 : S1.length = S.length + 3 := by rw [e1]; simp
  have ne0 : oNe (.ref C) (.ref (S.length + 2)) S1 = .ok (.bl (!decide (cells = []))) S1 := by
    rw [oNe_g, eq_ints (B := []) (lst_of (p1.get hC)) (lst_of gZ)]; rfl
  let k : Int := more * (if cells = [] then 0 else 1)
  have hk : 0 ≤ k ∧ k ≤ 100 := by
    by_cases h : cells = []
    · simp [k, h]
    · simp [k, h]; omega
  have fk : far k := by unfold far; omega
  obtain ⟨xs, S2, e2, p2, g2, hxl, hx⟩ := lc_rel (vs := [7]) (g := gName 7) (e := e_law_program_1) (fr := [some (.ref C), some (.ref N), some (.int more), some (.ref S.length), some (.ref (S.length + 1)), some .non, none, none]) (l := rng 0 k.toNat) (hs := []) (S := S1) (fun _ x => ∃ v : Int, x = .int v ∧ True) (fun _ h => by cases h) (by rw [rng_len]; exact Nat.le_trans (show k.toNat ≤ 100 by omega) (by decide)) (by
    intro d hd S' pr
    obtain ⟨i, hi⟩ := List.getElem?_of_mem hd
    obtain ⟨hlt, rfl⟩ := rng_at hi
    have e0 : (0 : Int) + (i : Int) = (i : Int) := by omega
    have hne : cells ≠ [] := fun z => by simp [k, z] at hlt
    have hp : 0 < cells.length := List.length_pos_iff.mpr hne
    have hm : i % cells.length < cells.length := Nat.mod_lt _ hp
    have e : atI (cells.map D.int) ((i : Int) % (cells.length : Int)) = some (.int cells[i % cells.length]) := by
      rw [← Int.natCast_emod]
      exact at_of (by simp [hm])
    have mo : mulOk 101 (i : Int) := mul_l (by decide)
    refine ⟨_, S', rfl, .int (cells[i % cells.length] + 101 * (i : Int)), ?_, Pre.refl _, _, rfl, trivial⟩
    simp [e_law_program_1, unset, e0, pr.get (p1.get hC), hp, e, mo])
  obtain ⟨ex, rfl, hel, _⟩ := of_rel (f := D.int) (Q := fun _ => True) hxl hx
  have hel' : ex.length ≤ 100 := by rw [hel, rng_len]; omega
  obtain ⟨S3, e3⟩ : ∃ S3 : Store, S3 = S2 ++ [.lst ((cells ++ ex).map .int)] := ⟨_, rfl⟩
  have p3 : Pre S2 S3 := by rw [e3]; exact Pre.app _ _
  have g3 : S3[S2.length]? = some (.lst ((cells ++ ex).map .int)) := by rw [e3]; exact app_new _ _ _
  have p13 : Pre S1 S3 := p2.trans p3
  have hcl : (cells ++ ex).length ≤ 160 := by rw [List.length_append]; omega
  have l2 : S1.length < S2.length := Pre.lt (S' := S1) g2
  have d11 : divOk 11 := div_ok (by decide) (by decide)
  have key := loop_inv (hs := [(S2.length, (cells ++ ex).map D.int)]) (turn := turnM (gName 6) l_law_program_2)
    (fun i fr S' => ∃ (rows : List Row) (outer : List Nat) (bg : Option Nat) (x : Option D), fr = [some (.ref C), some (.ref N), some (.int more), some (.ref S.length), some (.ref (S.length + 1)), some (bgD bg), x, none] ∧ Pre S S' ∧ S'[S2.length]? = some (.lst ((cells ++ ex).map .int)) ∧ S'[S.length]? = some (.lst (rows.map Row.d)) ∧ S'[S.length + 1]? = some (.lst (ofNs outer)) ∧ Bld l rows outer bg ∧ rows.length ≤ i ∧ outer.length ≤ i)
    ((cells ++ ex).map D.int) 0 [some (.ref C), some (.ref N), some (.int more), some (.ref S.length), some (.ref (S.length + 1)), some .non, none, none] S3
    ⟨[], [], none, none, rfl, p1.trans p13, g3, p13.get gR, p13.get gO, Bld.start l, Nat.le_refl _, Nat.le_refl _⟩
    (by
      rintro i fr S' ⟨rows, outer, bg, x, rfl, pr, gc, _⟩
      exact stands_one (lst_of gc))
    (by
      rintro i d fr S' hd ⟨rows, outer, bg, x, rfl, pr, gc, gr, go, bd, hri, hoi⟩
      rw [List.getElem?_map] at hd
      obtain ⟨c, hn, rfl⟩ := Option.map_eq_some_iff.mp hd
      have hi : i < (cells ++ ex).length := (List.getElem?_eq_some_iff.mp hn).1
      rw [show 0 + i = i by omega] at *
      have hrl : rows.length < 16777216 := by omega
      have hol : outer.length < 16777216 := by omega
      have gn := pr.get hN
      cases bg with
      | none =>
        by_cases h3 : c % 11 = 3
        · -- a stretch begins
          obtain ⟨a, qa, oa⟩ := operand_ok (c / 11 % ((l.length : Int) + 1)) c N (S'.set (S.length + 1) (.lst (ofNs (outer ++ [rows.length])))) l ((pr.set (Nat.le_succ _)).get hN) (Int.emod_nonneg _ (by omega))
          refine ⟨[some (.ref C), some (.ref N), some (.int more), some (.ref S.length), some (.ref (S.length + 1)), some (.int rows.length), some (.int c), none], (S'.set (S.length + 1) (.lst (ofNs (outer ++ [rows.length])))).set S.length (.lst ((rows ++ [Row.pt a 0]).map Row.d)), .inl ?_, rows ++ [.pt a 0], outer ++ [rows.length], some rows.length, _, rfl, (pr.set (Nat.le_succ _)).set (Nat.le_refl _), by rw [set_ne (by omega), set_ne (by omega)]; exact gc, set_get (o := .lst (rows.map Row.d)) (by rw [set_ne (by omega)]; exact gr), by rw [set_ne (by omega)]; exact set_get go, bd.opened oa, by rw [List.length_append, List.length_singleton]; omega, by rw [List.length_append, List.length_singleton]; omega⟩
          have hp1 : (0 : Int) < (l.length : Int) + 1 := by omega
          have gr2 : ∀ X, (S'.set (S.length + 1) X)[S.length]? = some (.lst (rows.map Row.d)) := fun X => by rw [set_ne (by omega)]; exact gr
          have gn2 : ∀ X, (S'.set (S.length + 1) X)[N]? = some (.lst (l.map .str)) := fun X => (pr.set (Nat.le_succ _)).get hN
          simp [ofNs] at qa go
          simp [turnM_s, l_law_program_2, bgD, h3, gr, go, hol, hrl, gn2, hp1, d11, gr2, qa, LINE, d_pt]
        · -- a row outside
          obtain ⟨r, S4, er, pr4, rn, rs, rp⟩ := row_ok (c / 11) N (S'.set (S.length + 1) (.lst (ofNs (outer ++ [rows.length])))) l ((pr.set (Nat.le_succ _)).get hN) hl h0
          have gr2 : ∀ X, (S'.set (S.length + 1) X)[S.length]? = some (.lst (rows.map Row.d)) := fun X => by rw [set_ne (by omega)]; exact gr
          have gr4 : S4[S.length]? = some (.lst (rows.map Row.d)) := pr4.get (gr2 _)
          have go4 : S4[S.length + 1]? = some (.lst (ofNs (outer ++ [rows.length]))) := pr4.get (set_get go)
          have gc4 : S4[S2.length]? = some (.lst ((cells ++ ex).map .int)) := pr4.get (by rw [set_ne (by omega)]; exact gc)
          refine ⟨[some (.ref C), some (.ref N), some (.int more), some (.ref S.length), some (.ref (S.length + 1)), some .non, some (.int c), none], S4.set S.length (.lst ((rows ++ [r]).map Row.d)), .inl ?_, rows ++ [r], outer ++ [rows.length], none, _, rfl, ((pr.set (Nat.le_succ _)).trans pr4).set (Nat.le_refl _), by rw [set_ne (by omega)]; exact gc4, set_get gr4, by rw [set_ne (by omega)]; exact go4, bd.add rn rs rp (.inl ⟨rfl, rfl⟩), by rw [List.length_append, List.length_singleton]; omega, by rw [List.length_append, List.length_singleton]; omega⟩
          simp [ofNs] at er go
          by_cases h2 : c % 11 < 3
          · simp [turnM_s, l_law_program_2, bgD, h3, h2, gr, go, hol, hrl, d11, er, gr4, LINE]
          · simp [turnM_s, l_law_program_2, bgD, h3, h2, gr, go, hol, hrl, d11, er, gr4, LINE]
      | some b =>
        obtain ⟨hbo, a, hb⟩ := bd.bgn b rfl
        have ho0 : 0 < outer.length := List.length_pos_iff.mpr (List.ne_nil_of_mem hbo)
        by_cases h2 : c % 11 < 3
        · obtain ⟨r, hr, es⟩ := shut_ok S.length (S.length + 1) b (c / 11) rows outer a S' gr go hb ho0 (by omega)
          refine ⟨[some (.ref C), some (.ref N), some (.int more), some (.ref S.length), some (.ref (S.length + 1)), some .non, some (.int c), none], _, .inl ?_, (rows ++ [r]).set b (.pt a ((rows.length + 1 : Nat) : Int)), outer, none, _, rfl, pr.set (Nat.le_refl _), by rw [set_ne (by omega)]; exact gc, set_get gr, by rw [set_ne (by omega)]; exact go, bd.closed hb hr, by simp; omega, by omega⟩
          have h3 : ¬ c % 11 = 3 := by omega
          simp at es
          simp [turnM_s, l_law_program_2, bgD, h3, h2, d11, es]
        · obtain ⟨r, S4, er, pr4, rn, rs, rp⟩ := row_ok (c / 11) N S' l gn hl h0
          refine ⟨[some (.ref C), some (.ref N), some (.int more), some (.ref S.length), some (.ref (S.length + 1)), some (.int b), some (.int c), none], S4.set S.length (.lst ((rows ++ [r]).map Row.d)), .inl ?_, rows ++ [r], outer, some b, _, rfl, (pr.trans pr4).set (Nat.le_refl _), by rw [set_ne (by omega)]; exact pr4.get gc, set_get (pr4.get gr), by rw [set_ne (by omega)]; exact pr4.get go, bd.add rn rs rp (.inr ⟨by simp, rfl⟩), by rw [List.length_append, List.length_singleton]; omega, by omega⟩
          have gr4 := pr4.get gr
          by_cases h3 : c % 11 = 3
          · simp [turnM_s, l_law_program_2, bgD, h3, hrl, d11, gr, er, gr4, LINE]
          · simp [turnM_s, l_law_program_2, bgD, h3, h2, hrl, d11, gr, er, gr4, LINE])
  obtain ⟨fr', S4, e4, rows, outer, bg, x, rfl, p4, _, gr, go, bd, hri, hoi⟩ := key
  rw [List.length_map, Nat.zero_add] at hri hoi
  have hif : ∃ (rows2 : List Row) (S5 : Store), ifK (sExp (mCall m_law_shut (aCons (mVar 3) (aCons (mVar 5) (aCons (mC (.int 0)) (aCons (mVar 4) aNil)))))) sNx [some (.ref C), some (.ref N), some (.int more), some (.ref S.length), some (.ref (S.length + 1)), some (bgD bg), x, none] (.ok (!isN (bgD bg)) S4) = .ok (.nx [some (.ref C), some (.ref N), some (.int more), some (.ref S.length), some (.ref (S.length + 1)), some (bgD bg), x, none]) S5 ∧ Pre S S5 ∧ S5[S.length]? = some (.lst (rows2.map Row.d)) ∧ Bld l rows2 outer none ∧ rows2.length ≤ 161 := by
    cases bg with
    | none => exact ⟨rows, S4, rfl, p4, gr, bd, by omega⟩
    | some b =>
      obtain ⟨hbo, a, hb⟩ := bd.bgn b rfl
      have ho0 : 0 < outer.length := List.length_pos_iff.mpr (List.ne_nil_of_mem hbo)
      obtain ⟨r, hr, es⟩ := shut_ok S.length (S.length + 1) b 0 rows outer a S4 gr go hb ho0 (by omega)
      exact ⟨(rows ++ [r]).set b (.pt a ((rows.length + 1 : Nat) : Int)), _, by
        simp at es
        simp [bgD, es], p4.set (Nat.le_refl _), set_get gr, bd.closed hb hr, by simp; omega⟩
  obtain ⟨rows2, S5, e5, p5, gr5, bd5, hr5⟩ := hif
  obtain ⟨S6, e6⟩ : ∃ S6 : Store, S6 = S5 ++ [.lst [.tup [.str w_en]], .lst ((rows2 ++ [Row.en]).map Row.d)] := ⟨_, rfl⟩
  have p6 : Pre S5 S6 := by rw [e6]; exact Pre.app _ _
  have g6 : S6[S5.length + 1]? = some (.lst ((rows2 ++ [Row.en]).map Row.d)) := by rw [e6]; simp [get_app]
  obtain ⟨S7, e7, p7, g7⟩ := turned_ok (S5.length + 1) (rows2 ++ [Row.en]) S6 g6 (by rw [List.length_append, List.length_singleton]; omega) (by
    intro n t e _
    rcases get_snoc e with z | ⟨_, z⟩
    · have := (List.getElem?_eq_some_iff.mp z).1
      rw [List.length_append, List.length_singleton]; omega
    · cases z)
  have pg := bd5.prg
  rw [List.length_append, List.length_singleton] at g7
  have tl : (turnAll (rows2.length + 1) 0 (rows2 ++ [Row.en])).length = rows2.length + 1 := by rw [turnAll_len]; simp
  generalize turnAll (rows2.length + 1) 0 (rows2 ++ [Row.en]) = rows3 at *
  have p17 : Pre S S7 := (p5.trans p6).trans p7
  have gC7 := p17.get hC
  have ne7 : oNe (.ref C) (.ref S7.length) (S7 ++ [.lst []]) = .ok (.bl (!decide (cells = []))) (S7 ++ [.lst []]) := by
    rw [oNe_g, eq_ints (B := []) (lst_of (app_get gC7)) (lst_of (S := S7 ++ [.lst []]) (n := S7.length) (l := ([] : List Int).map D.int) (app_new S7 (.lst []) []))]; rfl
  have e1' : S ++ [.lst [], .lst [], .lst []] = S1 := e1.symm
  have gC1 := p1.get hC
  have gC2 := p2.get gC1
  have e3' : S2 ++ [.lst (cells.map D.int ++ ex.map D.int)] = S3 := by rw [e3, List.map_append]
  have e6' : S5 ++ [.lst [.tup [.str w_en]], .lst (rows2.map Row.d ++ [.tup [.str w_en]])] = S6 := by rw [e6, List.map_append]; rfl
  have hce : cells.length + ex.length ≤ 16777216 := by omega
  have hr5' : rows2.length + 1 ≤ 16777216 := by omega
  have d7 : divOk 7 := div_ok (by decide) (by decide)
  have mk : mulOk more (if cells = [] then 0 else 1) := .inl (by unfold small; omega)
  have g3' : S3[S2.length]? = some (.lst (cells.map D.int ++ ex.map D.int)) := by rw [← List.map_append]; exact g3
  simp only [List.map_append] at e4
  have mi : (if cells = [] then 0 else 1 : Int) = if (!decide (cells = [])) = true then 1 else 0 := by by_cases h : cells = [] <;> simp [h]
  simp only [k] at e2 fk
  rw [mi] at e2 fk mk
  have ht : rows3.length < 1000 := by omega
  by_cases hc0 : cells = []
  · refine ⟨S6.length, rows3, S7 ++ [.lst []], ?_, p17.trans (Pre.app _ _), app_get g7, pg, by omega⟩
    simp [m_law_program, b_law_program]
    simp at e2 fk mk ne0 ne7
    rw [e1']
    simp [ne0, mk, fk, e2, gC2, g2, LINE, hce, e3', g3', e4]
    rw [e5]
    simp [gr5, get_app, get_len, hr5', LINE, e6', e7, ne7, hc0]
  · obtain ⟨c0, cs, rfl⟩ := List.exists_cons_of_ne_nil hc0
    by_cases h6 : c0 / 7 % 6 = 1
    · by_cases h59 : rows3.length < 59
      · obtain ⟨q, rfl⟩ := pg.last
        obtain ⟨n0, ls, rfl⟩ := List.exists_cons_of_ne_nil (List.length_pos_iff.mp h0)
        obtain ⟨m, S8, e8, p8, g8⟩ := tested_ok S6.length n0 q (S7 ++ [.lst []]) (app_get g7) (by rw [List.length_append, List.length_singleton] at ht; omega)
        refine ⟨m, tst n0 q, S8, ?_, p17.trans ((Pre.app _ _).trans p8), g8, pg.tested (by simp), by rw [List.length_append, List.length_singleton] at h59; simp [tst]; omega⟩
        have gN7 := p17.get hN
        have h59' : (q.length : Int) + 1 < 59 := by rw [List.length_append, List.length_singleton] at h59; omega
        have gN7' := app_get (G := [.lst []]) gN7
        have gC7' := app_get (G := [.lst []]) gC7
        have g7' := app_get (G := [.lst []]) g7
        simp [m_law_program, b_law_program]
        simp at e2 fk mk ne0 ne7 h59
        rw [e1']
        simp at gC2 hce e3' g3' e4 gC7' gN7' g7'
        simp [ne0, mk, fk, e2, gC2, g2, LINE, hce, e3', g3', e4]
        rw [e5]
        simp [gr5, get_app, get_len, hr5', LINE, e6', e7, ne7, gC7', d7, h6, g7', h59', gN7', e8]
      · refine ⟨S6.length, rows3, S7 ++ [.lst []], ?_, p17.trans (Pre.app _ _), app_get g7, pg, by omega⟩
        have h59' : ¬ ((rows3.length : Int) < 59) := by omega
        have gC7' := app_get (G := [.lst []]) gC7
        have g7' := app_get (G := [.lst []]) g7
        simp [m_law_program, b_law_program]
        simp at e2 fk mk ne0 ne7
        rw [e1']
        simp at gC2 hce e3' g3' e4 gC7'
        simp [ne0, mk, fk, e2, gC2, g2, LINE, hce, e3', g3', e4]
        rw [e5]
        simp [gr5, get_app, get_len, hr5', LINE, e6', e7, ne7, gC7', d7, h6, g7', h59']
    · refine ⟨S6.length, rows3, S7 ++ [.lst []], ?_, p17.trans (Pre.app _ _), app_get g7, pg, by omega⟩
      have gC7' := app_get (G := [.lst []]) gC7
      simp [m_law_program, b_law_program]
      simp at e2 fk mk ne0 ne7
      rw [e1']
      simp at gC2 hce e3' g3' e4 gC7'
      simp [ne0, mk, fk, e2, gC2, g2, LINE, hce, e3', g3', e4]
      rw [e5]
      simp [gr5, get_app, get_len, hr5', LINE, e6', e7, ne7, gC7', d7, h6]
end Lk22

set_option Elab.async false
set_option linter.all false
set_option maxHeartbeats 1000000
namespace Lk22
open Mi
/-- no part leads to the next row -/
def NoNx (rows : List Row) : Prop := ∀ (n : Nat) (a : Ky) (t : Int), rows[n]? = some (.pt a t) → t ≠ (n : Int) + 1
structure Gd (l : List Tx) (rows : List Row) : Prop where
  nm : ∀ r ∈ rows, RowN l r
  lst : ∃ q r, rows = q ++ [r] ∧ (r = .en ∨ ∃ t, r = .go t)
  go : ∀ (n : Nat) (t : Int), rows[n]? = some (.go t) → 0 ≤ t ∧ t < rows.length
  pt : ∀ (n : Nat) (a : Ky) (t : Int), rows[n]? = some (.pt a t) → 0 ≤ t ∧ t < rows.length
  nn : NoNx rows
theorem Gd.pos {l : List Tx} {rows : List Row} (h : Gd l rows) : 0 < rows.length := by
  obtain ⟨q, r, rfl, _⟩ := h.lst
  simp
theorem Gd.nx {l : List Tx} {rows : List Row} (h : Gd l rows) {n : Nat} {r : Row} (e : rows[n]? = some r) (ne : r ≠ .en) (ng : ∀ t, r ≠ .go t) : n + 1 < rows.length := by
  obtain ⟨q, z, rfl, hz⟩ := h.lst
  rcases get_snoc e with k | ⟨_, k⟩
  · have := (List.getElem?_eq_some_iff.mp k).1
    rw [List.length_append, List.length_singleton]; omega
  · subst k
    rcases hz with k | ⟨t, k⟩
    · exact absurd k ne
    · exact absurd k (ng t)
theorem Gd.fol_in {l : List Tx} {rows : List Row} (h : Gd l rows) {n : Nat} {r : Row} {m : Int} (e : rows[n]? = some r) (f : m ∈ fol n r) : 0 ≤ m ∧ m < rows.length := by
  cases r with
  | go t => have := h.go n t e; simp only [fol, List.mem_singleton] at f; omega
  | pt a t =>
    have := h.pt n a t e
    have := h.nx e (by simp) (by simp)
    simp only [fol, List.mem_cons, List.not_mem_nil, or_false] at f
    rcases f with f | f <;> omega
  | en => cases f
  | rk _ _ _ _ => have := h.nx e (by simp) (by simp); simp only [fol, List.mem_singleton] at f; omega
  | cp _ _ => have := h.nx e (by simp) (by simp); simp only [fol, List.mem_singleton] at f; omega
  | sy _ => have := h.nx e (by simp) (by simp); simp only [fol, List.mem_singleton] at f; omega
def nD (n : Nat) : D := .int (n : Int)
theorem Prg.gd {l : List Tx} {rows : List Row} (h : Prg l rows) : Gd l rows := ⟨h.nm, by obtain ⟨q, e⟩ := h.last; exact ⟨q, _, e, .inl rfl⟩, h.go, fun n a t e => ⟨(h.pt n a t e).1, (h.pt n a t e).2.1⟩, fun n a t e => (h.pt n a t e).2.2⟩
theorem dPut_nd {ws : Ws} {k : Ky} {v : Int} (h : (ws.map Prod.fst).Nodup) : ((dPut ws k v).map Prod.fst).Nodup := by
  unfold dPut
  split
  · rw [List.map_map]
    have : (Prod.fst ∘ fun kv : Ky × Int => if kv.1 = k then (kv.1, v) else kv) = Prod.fst := by
      funext kv
      simp only [Function.comp]
      split <;> rfl
    rw [this]; exact h
  · rename_i hn
    rw [List.map_append, List.map_cons, List.map_nil]
    refine List.nodup_append.mpr ⟨h, by simp, fun a ha b hb e => ?_⟩
    rw [List.mem_singleton] at hb
    obtain ⟨p, hp, hpa⟩ := List.mem_map.mp ha
    apply hn
    rw [List.any_eq_true]
    exact ⟨p, hp, by simp [hpa, e, hb]⟩
theorem get_of {ws : Ws} (h : (ws.map Prod.fst).Nodup) {p : Ky × Int} (hp : p ∈ ws) : dGet ws p.1 = some p.2 := by
  induction ws with
  | nil => cases hp
  | cons q r ih =>
    rw [List.map_cons, List.nodup_cons] at h
    unfold dGet
    rcases List.mem_cons.mp hp with rfl | z
    · simp
    · have hne : q.1 ≠ p.1 := fun e => h.1 (e ▸ List.mem_map.mpr ⟨p, z, rfl⟩)
      have := ih h.2 z
      unfold dGet at this
      simp [hne] at this ⊢
      exact this
theorem ws_same {ws : Ws} (h : (ws.map Prod.fst).Nodup) : dSame (wsD ws) (wsD ws) = true := by
  unfold dSame
  simp only [decide_true, Bool.true_and]
  rw [List.all_eq_true]
  intro p hp
  unfold wsD at hp
  obtain ⟨q, hq, rfl⟩ := List.mem_map.mp hp
  rw [wsD_get]
  dsimp only
  rw [get_of h hq]
  simp [flatD, scq]
/-! ### what two worths come to -/
def rkn (s : Tx) (a b : Int) : Int :=
  if s = [43] then (a + b) % 18446744073709551616 else if s = [45] then (a - b) % 18446744073709551616 else if s = [42] then a * b % 18446744073709551616
  else if s = [38] then ((a.toNat &&& b.toNat : Nat) : Int) else if s = [124] then ((a.toNat ||| b.toNat : Nat) : Int) else if s = [94] then ((a.toNat ^^^ b.toNat : Nat) : Int)
  else if s = [60] then (if a < b then 1 else 0) else (if a = b then 1 else 0)
theorem reckoned_ok (s : Tx) (a b : Int) (S : Store) (ha : WOk a) (hb : WOk b) : m_reckoned [.str s, .int a, .int b] S = .ok (.int (rkn s a b)) S := by
  have ha1 := ha.1
  have ha2 := ha.2
  have hb1 := hb.1
  have h1 : mulOk a b := .inl (by unfold small; constructor <;> omega)
  have h2 : 0 ≤ a ∧ 0 ≤ b := ⟨ha.1, hb.1⟩
  simp [rkn, m_reckoned, b_reckoned]
  by_cases e1 : s = [43]
  · simp [e1]
  · simp [e1]
    by_cases e2 : s = [45]
    · simp [e2]
    · simp [e2]
      by_cases e3 : s = [42]
      · simp [e3, h1]
      · simp [e3]
        by_cases e4 : s = [38]
        · simp [e4, h2]
        · simp [e4]
          by_cases e5 : s = [124]
          · simp [e5, h2]
          · simp [e5]
            by_cases e6 : s = [94]
            · simp [e6, h2]
            · simp [e6]
              by_cases e7 : s = [60]
              · simp [e7]
              · simp [e7]
theorem two_pow64 : (2 : Nat) ^ 64 = 18446744073709551616 := by decide
theorem bits_wo {n : Nat} (h : n < 2 ^ 64) : WOk (n : Int) := by
  rw [two_pow64] at h
  refine ⟨by omega, ?_⟩
  omega
theorem to_lt {a : Int} (h : WOk a) : a.toNat < 2 ^ 64 := by
  have h1 : 0 ≤ a := h.1
  have h2 : a < 18446744073709551616 := h.2
  rw [two_pow64]
  omega
theorem mod_wo (a : Int) : WOk (a % 18446744073709551616) := ⟨Int.emod_nonneg _ (by decide), Int.emod_lt_of_pos _ (by decide)⟩
theorem rkn_wo (s : Tx) {a b : Int} (ha : WOk a) (hb : WOk b) : WOk (rkn s a b) := by
  unfold rkn
  repeat' split
  all_goals first
    | exact mod_wo _
    | exact bits_wo (Nat.and_lt_two_pow _ (to_lt hb))
    | exact bits_wo (Nat.or_lt_two_pow (to_lt ha) (to_lt hb))
    | exact bits_wo (Nat.xor_lt_two_pow (to_lt ha) (to_lt hb))
    | exact ⟨by decide, by decide⟩
/-! ### a run -/
def runO (w s y : Nat) (a : Int) : O := .ins "Run" [(t_worths, .ref w), (t_said, .ref s), (t_way, .ref y), (t_at, .int a)]
structure RunI (S0 S : Store) (n w s y : Nat) (ws : Ws) (sd : List Int) (W : List Nat) (a : Nat) : Prop where
  pre : Pre S0 S
  lo : S0.length ≤ n ∧ n < w ∧ w < s ∧ s < y
  ins : S[n]? = some (runO w s y a)
  gw : S[w]? = some (.dK (wsD ws))
  gs : S[s]? = some (.lst (sd.map .int))
  gy : S[y]? = some (.lst (W.map nD))
  ok : WsOk ws
  wl : ws.length ≤ 100 + W.length
  sl : sd.length ≤ W.length
  nd : (ws.map Prod.fst).Nodup
section
variable {S0 S : Store} {n w s y a : Nat} {ws : Ws} {sd : List Int} {W : List Nat}
theorem RunI.f1 (I : RunI S0 S n w s y ws sd W a) : fldK "Run" t_worths (.ok (.ref n) S) = .ok (.ref w) S := fldK_of I.ins rfl
theorem RunI.f2 (I : RunI S0 S n w s y ws sd W a) : fldK "Run" t_said (.ok (.ref n) S) = .ok (.ref s) S := fldK_of I.ins rfl
theorem RunI.f3 (I : RunI S0 S n w s y ws sd W a) : fldK "Run" t_way (.ok (.ref n) S) = .ok (.ref y) S := fldK_of I.ins rfl
theorem RunI.f4 (I : RunI S0 S n w s y ws sd W a) : fldK "Run" t_at (.ok (.ref n) S) = .ok (.int (a : Int)) S := fldK_of I.ins rfl
theorem RunI.m (I : RunI S0 S n w s y ws sd W a) (mn : Tx) (hm : lkF [(t_worths, D.ref w), (t_said, .ref s), (t_way, .ref y), (t_at, .int (a : Int))] mn = none) (g : Fn) (as : AM) (fr : Fr) : mtK1 "Run" mn g as fr (.ok (.ref n) S) = mtK2 g (.ref n) (as fr S) := mtK1_of I.ins hm
theorem RunI.mono {S' : Store} (I : RunI S0 S n w s y ws sd W a) (p : Pre S S') : RunI S0 S' n w s y ws sd W a := ⟨I.pre.trans p, I.lo, p.get I.ins, p.get I.gw, p.get I.gs, p.get I.gy, I.ok, I.wl, I.sl, I.nd⟩
/-- where it goes on -/
theorem RunI.to (I : RunI S0 S n w s y ws sd W a) (b : Nat) : RunI S0 (S.set n (runO w s y b)) n w s y ws sd W b := by
  have := I.lo
  exact ⟨I.pre.set I.lo.1, I.lo, set_get I.ins, by rw [set_ne (by omega)]; exact I.gw, by rw [set_ne (by omega)]; exact I.gs, by rw [set_ne (by omega)]; exact I.gy, I.ok, I.wl, I.sl, I.nd⟩
theorem RunI.put (I : RunI S0 S n w s y ws sd W a) (k : Ky) {v : Int} (hv : WOk v) (hl : (dPut ws k v).length ≤ 100 + W.length) : RunI S0 (S.set w (.dK (wsD (dPut ws k v)))) n w s y (dPut ws k v) sd W a := by
  have := I.lo
  exact ⟨I.pre.set (by omega), I.lo, by rw [set_ne (by omega)]; exact I.ins, set_get I.gw, by rw [set_ne (by omega)]; exact I.gs, by rw [set_ne (by omega)]; exact I.gy, I.ok.put hv, hl, I.sl, dPut_nd I.nd⟩
theorem RunI.say (I : RunI S0 S n w s y ws sd W a) (v : Int) (hl : sd.length + 1 ≤ W.length) : RunI S0 (S.set s (.lst ((sd ++ [v]).map .int))) n w s y ws (sd ++ [v]) W a := by
  have := I.lo
  exact ⟨I.pre.set (by omega), I.lo, by rw [set_ne (by omega)]; exact I.ins, by rw [set_ne (by omega)]; exact I.gw, set_get I.gs, by rw [set_ne (by omega)]; exact I.gy, I.ok, I.wl, by rw [List.length_append, List.length_singleton]; exact hl, I.nd⟩
theorem RunI.go (I : RunI S0 S n w s y ws sd W a) (b : Nat) : RunI S0 (S.set y (.lst ((W ++ [b]).map nD))) n w s y ws sd (W ++ [b]) a := by
  have := I.lo
  have := I.wl
  have := I.sl
  exact ⟨I.pre.set (by omega), I.lo, by rw [set_ne (by omega)]; exact I.ins, by rw [set_ne (by omega)]; exact I.gw, by rw [set_ne (by omega)]; exact I.gs, set_get I.gy, I.ok, by rw [List.length_append, List.length_singleton]; omega, by rw [List.length_append, List.length_singleton]; omega, I.nd⟩
theorem worth_ok (I : RunI S0 S n w s y ws sd W a) (k : Ky) : m_Run_worth [.ref n, kyD k] S = .ok (.int (rv ws k)) S := by
  have f1 := I.f1
  cases k with
  | inl i => simp [m_Run_worth, b_Run_worth, kyD, rv]
  | inr t =>
    have gw := I.gw
    have gg : dGetM (.ref w) [.str t, .int 0] S = .ok (.int (rv ws (.inr t))) S := by
      unfold dGetM dLook
      dsimp only
      rw [gw]
      dsimp only
      rw [show kyOf (.str t) = some (.inr t) from rfl, Option.map_some]
      dsimp only
      rw [wsD_get]
      show _ = Res.ok (D.int ((dGet ws (.inr t)).getD 0)) S
      generalize dGet ws (.inr t) = o
      cases o <;> rfl
    simp [m_Run_worth, b_Run_worth, kyD, f1, gw, gg]
/-- a row done: the worths, and where it goes on -/
def stepP (ws : Ws) (a : Nat) : Row → Ws × Nat
  | .rk n s b c => (dPut ws (.inr n) (rkn s (rv ws b) (rv ws c)), a + 1)
  | .cp n b => (dPut ws (.inr n) (rv ws b), a + 1)
  | .sy _ => (ws, a + 1)
  | .go t => (ws, t.toNat)
  | .pt b t => (ws, if rv ws b = 0 then a + 1 else t.toNat)
  | .en => (ws, a + 1)
def saidP (ws : Ws) (sd : List Int) : Row → List Int
  | .sy b => sd ++ [rv ws b]
  | _ => sd
theorem step_ok {l : List Tx} {r : Row} (I : RunI S0 S n w s y ws sd W a) (hr : RowN l r) (ne : r ≠ .en) (ht : ∀ t, r = .go t ∨ (∃ b, r = .pt b t) → 0 ≤ t) (hlw : ws.length + 1 ≤ 100 + W.length) (hls : sd.length + 1 ≤ W.length) (hW : W.length ≤ 2000) :
    ∃ (S' : Store), m_Run_step [.ref n, r.d] S = .ok .non S' ∧ RunI S0 S' n w s y (stepP ws a r).1 (saidP ws sd r) W (stepP ws a r).2 := by
  have f4 := I.f4
  have I1 := I.to (a + 1)
  obtain ⟨S1, hS1⟩ : ∃ S1, S.set n (runO w s y ((a + 1 : Nat) : Int)) = S1 := ⟨_, rfl⟩
  rw [hS1] at I1
  have e1 : ∀ fr : Fr, sfK2 "Run" t_at (.int ((a : Int) + 1)) fr (.ok (.ref n) S) = .ok (.nx fr) S1 := fun fr => by
    rw [sfK2_of I.ins (show 4 < 1000 by decide), ← hS1]
    rfl
  have g1 := I1.f1
  have g2 := I1.f2
  have gw := I1.gw
  have gs := I1.gs
  have wl : (wsD ws).length < 16777216 := by unfold wsD; rw [List.length_map]; omega
  have sl : sd.length < 16777216 := by omega
  have mw := fun g as fr => I1.m t_worth rfl g as fr
  have pl := fun (k : Ky) (v : Int) => dPut_len ws k v
  cases r with
  | rk nm sg b c =>
    obtain ⟨_, _, hb, hc⟩ := hr
    have wb := rv_ok I1.ok hb
    have wc := rv_ok I1.ok hc
    have q1 := worth_ok I1 b
    have q2 := worth_ok I1 c
    have q3 := reckoned_ok sg _ _ S1 wb wc
    have I2 := I1.put (.inr nm) (rkn_wo sg wb wc) (Nat.le_trans (pl _ _) hlw)
    refine ⟨_, ?_, I2⟩
    rw [← wsD_put]
    simp [m_Run_step, b_Run_step, Row.d, Row.ks, kt, kyD] at q1 q2 ⊢
    simp [f4, e1, mw, q1, q2, q3, g1, gw, wl, LINE]
  | cp nm b =>
    obtain ⟨_, hb⟩ := hr
    have wb := rv_ok I1.ok hb
    have q1 := worth_ok I1 b
    have I2 := I1.put (.inr nm) wb (Nat.le_trans (pl _ _) hlw)
    refine ⟨_, ?_, I2⟩
    rw [← wsD_put]
    rw [d_cp]
    simp [m_Run_step, b_Run_step, f4, e1, mw, q1, g1, gw, wl, LINE]
  | sy b =>
    have q1 := worth_ok I1 b
    have I2 := I1.say (rv ws b) hls
    refine ⟨_, ?_, I2⟩
    rw [d_sy, List.map_append]
    simp [m_Run_step, b_Run_step, f4, e1, mw, q1, g2, gs, sl, LINE]
  | go t =>
    have h0 := ht t (.inl rfl)
    obtain ⟨t', rfl⟩ : ∃ t' : Nat, t = (t' : Int) := ⟨t.toNat, by omega⟩
    have I2 := I1.to t'
    have e2 : ∀ fr : Fr, sfK2 "Run" t_at (.int (t' : Int)) fr (.ok (.ref n) S1) = .ok (.nx fr) (S1.set n (runO w s y (t' : Int))) := fun fr => by
      rw [sfK2_of I1.ins (show 4 < 1000 by decide)]
      rfl
    have es : stepP ws a (.go (t' : Int)) = (ws, t') := by
      show (ws, ((t' : Int)).toNat) = _
      rw [Int.toNat_natCast]
    refine ⟨_, ?_, by rw [es]; exact I2⟩
    rw [d_go]
    simp [m_Run_step, b_Run_step, f4, e1, e2]
  | pt b t =>
    have h0 := ht t (.inr ⟨b, rfl⟩)
    obtain ⟨t', rfl⟩ : ∃ t' : Nat, t = (t' : Int) := ⟨t.toNat, by omega⟩
    have q1 := worth_ok I1 b
    by_cases hz : rv ws b = 0
    · have es : stepP ws a (.pt b (t' : Int)) = (ws, a + 1) := by
        show (ws, if rv ws b = 0 then a + 1 else ((t' : Int)).toNat) = _
        rw [if_pos hz]
      refine ⟨S1, ?_, by rw [es]; exact I1⟩
      rw [d_pt]
      rw [hz] at q1
      simp [m_Run_step, b_Run_step, f4, e1, mw, q1]
    · have I2 := I1.to t'
      have e2 : ∀ fr : Fr, sfK2 "Run" t_at (.int (t' : Int)) fr (.ok (.ref n) S1) = .ok (.nx fr) (S1.set n (runO w s y (t' : Int))) := fun fr => by
        rw [sfK2_of I1.ins (show 4 < 1000 by decide)]
        rfl
      have es : stepP ws a (.pt b (t' : Int)) = (ws, t') := by
        show (ws, if rv ws b = 0 then a + 1 else ((t' : Int)).toNat) = _
        rw [if_neg hz, Int.toNat_natCast]
      refine ⟨_, ?_, by rw [es]; exact I2⟩
      rw [d_pt]
      simp [m_Run_step, b_Run_step, f4, e1, mw, q1, hz, e2]
  | en => exact absurd rfl ne
end
end Lk22

set_option Elab.async false
set_option linter.all false
set_option maxHeartbeats 1000000
namespace Lk22
open Mi
def nz (ws : Ws) : Ws := ws.filter fun p => !decide (p.2 = 0)
theorem wsD_snoc (T : Ws) (k : Ky) (v : Int) (h : k ∉ T.map Prod.fst) : dPut (wsD T) k (.int v) = wsD (T ++ [(k, v)]) := by
  rw [wsD_put]
  congr 1
  unfold dPut
  rw [if_neg]
  intro hh
  rw [List.any_eq_true] at hh
  obtain ⟨p, hp, e⟩ := hh
  exact h (List.mem_map.mpr ⟨p, hp, by simpa using e⟩)
section
variable {S0 S : Store} {n w s y a : Nat} {ws : Ws} {sd : List Int} {W : List Nat}
theorem told_ok (I : RunI S0 S n w s y ws sd W a) (t : Tx) (hW : W.length ≤ 2000) : ∃ (q : Nat) (S' : Store), m_Run_told [.ref n, .str t] S = .ok (.tup [.str t, .ref s, .ref q, .ref y]) S' ∧ RunI S0 S' n w s y ws sd W a ∧ y < q ∧ S'[q]? = some (.dK (wsD (nz ws))) := by
  have lo := I.lo
  have wl := I.wl
  have nd := I.nd
  have lS : y < S.length := (List.getElem?_eq_some_iff.mp I.gy).1
  obtain ⟨S1, hS1⟩ : ∃ S1 : Store, S ++ [.dK []] = S1 := ⟨_, rfl⟩
  have p1 : Pre S S1 := by rw [← hS1]; exact Pre.app _ _
  have g1 : S1[S.length]? = some (.dK (wsD [])) := by rw [← hS1]; exact app_new _ _ _
  have I1 := I.mono p1
  have hin : (S1.set w (.zK (wsD ws)))[n]? = some (runO w s y a) := by rw [set_ne (by omega)]; exact I1.ins
  obtain ⟨fr', S', e, y3, y4, rfl, gz, gq, keep⟩ := forD_itm (e := mFld "Run" t_worths (mVar 0)) (g := gTup 2 (gCons (gName 3) (gCons (gName 4) gNil))) (b := l_Run_told_1) (fr := [some (.ref n), some (.str t), some (.ref S.length), none, none]) (S := S1) (n := w) (k := wsD ws) I1.gw (by simp [I1.f1]) (by
      have := fldK_of (f := t_worths) (d := .ref w) hin rfl
      simp [this])
    (fun i fr S' => ∃ (y3 y4 : Option D), fr = [some (.ref n), some (.str t), some (.ref S.length), y3, y4] ∧ S'[w]? = some (.zK (wsD ws)) ∧ S'[S.length]? = some (.dK (wsD (nz (ws.take i)))) ∧ ∀ m o, m ≠ w → m ≠ S.length → S1[m]? = some o → S'[m]? = some o)
    ⟨none, none, rfl, set_get I1.gw, by rw [set_ne (by omega)]; exact g1, fun m o h1 _ h => by rw [set_ne (fun z => h1 z.symm)]; exact h⟩
    (by rintro i fr S' ⟨_, _, _, h, _⟩; exact h)
    (by
      rintro i p fr S' hp ⟨y3, y4, rfl, gz, gq, keep⟩
      unfold wsD at hp
      rw [List.getElem?_map] at hp
      obtain ⟨⟨k, v⟩, hk, rfl⟩ := Option.map_eq_some_iff.mp hp
      have hi := (List.getElem?_eq_some_iff.mp hk).1
      have tk : ws.take (i + 1) = ws.take i ++ [(k, v)] := by rw [List.take_succ, hk]; rfl
      have tl : (wsD (nz (ws.take i))).length < 16777216 := by
        unfold wsD nz
        rw [List.length_map]
        exact Nat.lt_of_le_of_lt (Nat.le_trans (List.length_filter_le _ _) (by rw [List.length_take]; exact Nat.min_le_right _ _)) (by omega)
      have kk : kyOf (kyD k) = some k := by cases k <;> rfl
      by_cases hv : v = 0
      · refine ⟨[some (.ref n), some (.str t), some (.ref S.length), some (kyD k), some (.int v)], S', ?_, _, _, rfl, gz, ?_, keep⟩
        · simp [turnM_s, l_Run_told_1, hv]
        · rw [tk]; unfold nz; rw [List.filter_append]
          rw [gq]
          simp [hv, nz]
      · have hnk : k ∉ (nz (ws.take i)).map Prod.fst := by
          intro hm
          obtain ⟨q, hq, e⟩ := List.mem_map.mp hm
          have hq := (List.mem_filter.mp hq).1
          obtain ⟨j, hj, ej⟩ := List.mem_take_iff_getElem.mp hq
          have h1 : (ws.map Prod.fst)[j]? = some k := by rw [List.getElem?_map, List.getElem?_eq_getElem (by omega)]; simp [ej, e]
          have h2 : (ws.map Prod.fst)[i]? = some k := by rw [List.getElem?_map, hk]; rfl
          have hji : j < i := by omega
          have := (List.getElem?_inj (by rw [List.length_map]; omega) nd).mp (h1.trans h2.symm)
          omega
        refine ⟨[some (.ref n), some (.str t), some (.ref S.length), some (kyD k), some (.int v)], S'.set S.length (.dK (wsD (nz (ws.take (i + 1))))), ?_, _, _, rfl, by rw [set_ne (by omega)]; exact gz, set_get gq, fun m o h1 h2 h => by rw [set_ne (fun z => h2 z.symm)]; exact keep m o h1 h2 h⟩
        have en : nz (ws.take (i + 1)) = nz (ws.take i) ++ [(k, v)] := by
          rw [tk]; unfold nz; rw [List.filter_append]; simp [hv]
        rw [en, ← wsD_snoc _ _ _ hnk]
        simp [turnM_s, l_Run_told_1, hv, gq, kk, tl, LINE])
  rw [show (wsD ws).length = ws.length from List.length_map .., List.take_length] at gq
  have gw' : (S'.set w (.dK (wsD ws)))[w]? = some (.dK (wsD ws)) := set_get gz
  have kp : ∀ m o, m ≠ w → m ≠ S.length → S1[m]? = some o → (S'.set w (.dK (wsD ws)))[m]? = some o := fun m o h1 h2 h => by rw [set_ne (fun z => h1 z.symm)]; exact keep m o h1 h2 h
  have preS : Pre S0 (S'.set w (.dK (wsD ws))) := by
    have hl0 : S0.length ≤ S1.length := I1.pre.len
    have : ∀ m, m < S0.length → (S'.set w (.dK (wsD ws)))[m]? = S0[m]? := fun m hm => by
      have h0 : S0[m]? = some S0[m] := List.getElem?_eq_getElem hm
      rw [h0]
      exact kp m _ (by omega) (by omega) (I1.pre.get h0)
    refine ⟨(S'.set w (.dK (wsD ws))).drop S0.length, ?_⟩
    apply List.ext_getElem?
    intro m
    by_cases hm : m < S0.length
    · rw [List.getElem?_append_left hm]
      exact this m hm
    · rw [List.getElem?_append_right (by omega), List.getElem?_drop]
      congr 1
      omega
  have I2 : RunI S0 (S'.set w (.dK (wsD ws))) n w s y ws sd W a := ⟨preS, lo, kp _ _ (by omega) (by omega) I1.ins, gw', kp _ _ (by omega) (by omega) I1.gs, kp _ _ (by omega) (by omega) I1.gy, I.ok, I.wl, I.sl, I.nd⟩
  refine ⟨S.length, _, ?_, I2, lS, by rw [set_ne (by omega)]; exact gq⟩
  have f2 := I2.f2
  have f3 := I2.f3
  simp [m_Run_told, b_Run_told, hS1]
  rw [e]
  simp [f2, f3, LINE]
theorem init_ok (G : Nat) (S : Store) (ws : Ws) (hG : S[G]? = some (.dK (wsD ws))) (ok : WsOk ws) (hl : ws.length ≤ 100) (nd : (ws.map Prod.fst).Nodup) : ∃ S', m_Run__init [.ref S.length, .ref G] (S ++ [.ins "Run" []]) = .ok .non S' ∧ RunI S S' S.length (S.length + 1) (S.length + 2) (S.length + 3) ws [] [] 0 := by
  have hlt := (List.getElem?_eq_some_iff.mp hG).1
  have bd : ∀ T : Store, T[G]? = some (.dK (wsD ws)) → bDict [.ref G] T = .ok (.ref T.length) (T ++ [.dK (wsD ws)]) := fun T h => by
    unfold bDict
    dsimp only
    rw [h]
    rfl
  have b1 := bd (S ++ [.ins "Run" []]) (app_get hG)
  have s1 : (S ++ [O.ins "Run" []] ++ [O.dK (wsD ws)]) = S ++ [.ins "Run" [], .dK (wsD ws)] := by rw [List.append_assoc]; rfl
  have st : ∀ (f g : List (Tx × D)) (R : Store), (S ++ O.ins "Run" f :: R).set S.length (.ins "Run" g) = S ++ O.ins "Run" g :: R := fun f g R => by
    rw [List.set_append_right _ _ (Nat.le_refl _), Nat.sub_self]
    rfl
  have sf : ∀ (f : Tx) (v : D) (fr : Fr) (fs : List (Tx × D)) (R : Store), fs.length < 1000 → sfK2 "Run" f v fr (.ok (.ref S.length) (S ++ O.ins "Run" fs :: R)) = .ok (.nx fr) (S ++ O.ins "Run" (fPut f v fs) :: R) := fun f v fr fs R h => by
    rw [sfK2_of (app_new _ _ _) h, st]
  have e1 := sf t_worths (.ref (S.length + 1)) [some (.ref S.length), some (.ref G)] [] [.dK (wsD ws)] (by decide)
  have e2 := sf t_said (.ref (S.length + 2)) [some (.ref S.length), some (.ref G)] [(t_worths, .ref (S.length + 1))] [.dK (wsD ws), .lst []] (show 1 < 1000 by decide)
  have e3 := sf t_way (.ref (S.length + 3)) [some (.ref S.length), some (.ref G)] [(t_worths, .ref (S.length + 1)), (t_said, .ref (S.length + 2))] [.dK (wsD ws), .lst [], .lst []] (show 2 < 1000 by decide)
  have e4 := sf t_at (.int 0) [some (.ref S.length), some (.ref G)] [(t_worths, .ref (S.length + 1)), (t_said, .ref (S.length + 2)), (t_way, .ref (S.length + 3))] [.dK (wsD ws), .lst [], .lst []] (show 3 < 1000 by decide)
  have q1 : fPut t_worths (.ref (S.length + 1)) [] = [(t_worths, D.ref (S.length + 1))] := rfl
  have q2 : fPut t_said (.ref (S.length + 2)) [(t_worths, D.ref (S.length + 1))] = [(t_worths, D.ref (S.length + 1)), (t_said, .ref (S.length + 2))] := rfl
  have q3 : fPut t_way (.ref (S.length + 3)) [(t_worths, D.ref (S.length + 1)), (t_said, .ref (S.length + 2))] = [(t_worths, D.ref (S.length + 1)), (t_said, .ref (S.length + 2)), (t_way, .ref (S.length + 3))] := rfl
  rw [q1] at e1
  rw [q2] at e2
  rw [q3] at e3
  refine ⟨S ++ runO (S.length + 1) (S.length + 2) (S.length + 3) ((0 : Nat) : Int) :: [.dK (wsD ws), .lst [], .lst []], ?_, ⟨Pre.app _ _, ⟨Nat.le_refl _, by omega, by omega, by omega⟩, app_new _ _ _, by simp [get_app], by simp [get_app], by simp [get_app], ok, by simpa using hl, Nat.le_refl _, nd⟩⟩
  rw [List.length_append, List.length_singleton, s1] at b1
  simp [m_Run__init, b_Run__init, b1, e1, LINE, get_len]
  simp [e2, LINE, get_len, List.append_assoc]
  simp [e3, e4]
  rfl
/-- the state behind so many rows: worths, said, the next row -/
structure Stt where
  ws : Ws
  sd : List Int
  a : Nat
def stN (rows : List Row) (z : Stt) : Stt := match rows[z.a]? with
  | some .en => z
  | some r => ⟨(stepP z.ws z.a r).1, saidP z.ws z.sd r, (stepP z.ws z.a r).2⟩
  | none => z
def st (rows : List Row) (ws : Ws) : Nat → Stt
  | 0 => ⟨ws, [], 0⟩
  | i + 1 => stN rows (st rows ws i)
def way (rows : List Row) (ws : Ws) (L : Nat) : List Nat := (List.range L).map fun i => (st rows ws i).a
theorem way_len (rows : List Row) (ws : Ws) (L : Nat) : (way rows ws L).length = L := by unfold way; rw [List.length_map, List.length_range]
theorem way_succ (rows : List Row) (ws : Ws) (L : Nat) : way rows ws (L + 1) = way rows ws L ++ [(st rows ws L).a] := by unfold way; rw [List.range_succ, List.map_append]; rfl
theorem stN_en {rows : List Row} {z : Stt} (h : rows[z.a]? = some .en) : stN rows z = z := by
  unfold stN
  rw [h]
theorem stN_go {rows : List Row} {z : Stt} {r : Row} (h : rows[z.a]? = some r) (ne : r ≠ .en) : stN rows z = ⟨(stepP z.ws z.a r).1, saidP z.ws z.sd r, (stepP z.ws z.a r).2⟩ := by
  unfold stN
  rw [h]
  cases r <;> first | rfl | exact absurd rfl ne
theorem step_fol {l : List Tx} {rows : List Row} {a : Nat} {ws : Ws} {r : Row} (gd : Gd l rows) (h : rows[a]? = some r) (ne : r ≠ .en) : (((stepP ws a r).2 : Nat) : Int) ∈ fol a r := by
  cases r with
  | go t =>
    have := gd.go a t h
    show ((t.toNat : Nat) : Int) ∈ [t]
    rw [List.mem_singleton]; omega
  | pt b t =>
    have := gd.pt a b t h
    show (((if rv ws b = 0 then a + 1 else t.toNat) : Nat) : Int) ∈ [(a : Int) + 1, t]
    split
    · simp
    · simp; right; omega
  | en => exact absurd rfl ne
  | _ => show ((a + 1 : Nat) : Int) ∈ [(a : Int) + 1]; simp
theorem st_in {l : List Tx} {rows : List Row} (gd : Gd l rows) (ws : Ws) : ∀ i, (st rows ws i).a < rows.length := by
  intro i
  induction i with
  | zero => exact gd.pos
  | succ i ih =>
    have hr : rows[(st rows ws i).a]? = some rows[(st rows ws i).a] := List.getElem?_eq_getElem ih
    show (stN rows (st rows ws i)).a < _
    by_cases he : rows[(st rows ws i).a] = .en
    · rw [he] at hr
      rw [stN_en hr]; exact ih
    · rw [stN_go hr he]
      have := gd.fol_in hr (step_fol (ws := (st rows ws i).ws) gd hr he)
      dsimp only
      omega
/-- how a run of at most so many rows ends: L rows done; e: whether the last one is an end -/
structure RunE (rows : List Row) (ws : Ws) (most L : Nat) (e : Bool) : Prop where
  le : L ≤ most
  mid : ∀ i, i + 1 < L → rows[(st rows ws i).a]? ≠ some .en
  fin : e = true → ∃ i, L = i + 1 ∧ rows[(st rows ws i).a]? = some .en
  spent : e = false → L = most ∧ ∀ i, i < L → rows[(st rows ws i).a]? ≠ some .en
theorem run_while (P : Nat) (G : D) (l : List Tx) (rows : List Row) (S0 : Store) (n w s y most : Nat) (ws : Ws) (gd : Gd l rows) (hm : most ≤ 2000) (hws : ws.length ≤ 100) (hP : S0[P]? = some (.lst (rows.map Row.d))) :
    ∀ (f : Nat) (x4 : Option D) (i : Nat) (S : Store), i + f = most → (∀ j, j < i → rows[(st rows ws j).a]? ≠ some .en) → RunI S0 S n w s y (st rows ws i).ws (st rows ws i).sd (way rows ws i) (st rows ws i).a →
    (∃ (L q a' : Nat) (S' : Store), sWhile c_run_2 l_run_1 [some (.ref P), some G, some (.int (most : Int)), some (.ref n), x4] S = .ok (.rt (.tup [.str t_end, .ref s, .ref q, .ref y])) S' ∧ RunI S0 S' n w s y (st rows ws L).ws (st rows ws L).sd (way rows ws L) a' ∧ y < q ∧ S'[q]? = some (.dK (wsD (nz (st rows ws L).ws))) ∧ RunE rows ws most L true) ∨
    (∃ (y4 : Option D) (a' : Nat) (S' : Store), sWhile c_run_2 l_run_1 [some (.ref P), some G, some (.int (most : Int)), some (.ref n), x4] S = .ok (.nx [some (.ref P), some G, some (.int (most : Int)), some (.ref n), y4]) S' ∧ RunI S0 S' n w s y (st rows ws most).ws (st rows ws most).sd (way rows ws most) a' ∧ RunE rows ws most most false) := by
  intro f
  induction f with
  | zero =>
    intro x4 i S hf hb I
    right
    obtain rfl : i = most := by omega
    refine ⟨x4, _, S, ?_, I, ⟨Nat.le_refl _, fun j hj => hb j (by omega), fun h => (by cases h), fun _ => ⟨rfl, hb⟩⟩⟩
    have hl := way_len rows ws i
    rw [while_s]
    simp [c_run_2, I.f3, I.gy, hl]
  | succ f ih =>
    intro x4 i S hf hb I
    have ha := st_in gd ws i
    have hr : rows[(st rows ws i).a]? = some rows[(st rows ws i).a] := List.getElem?_eq_getElem ha
    generalize rows[(st rows ws i).a] = r at hr
    have er : atI (rows.map Row.d) ((st rows ws i).a : Int) = some r.d := at_of (by rw [List.getElem?_map, hr]; rfl)
    have hPS := I.pre.get hP
    have I1 := I.go (st rows ws i).a
    have hPS1 := I1.pre.get hP
    have hl := way_len rows ws i
    have wl : (way rows ws i).length < 16777216 := by omega
    have lt1 : (way rows ws i).length < most := by omega
    have lt2 : ((way rows ws i).length : Int) < (most : Int) := by omega
    have hl1 : (way rows ws i ++ [(st rows ws i).a]).length = i + 1 := by rw [List.length_append, hl]; rfl
    have hmap : (way rows ws i ++ [(st rows ws i).a]).map nD = (way rows ws i).map nD ++ [D.int ((st rows ws i).a : Int)] := by rw [List.map_append]; rfl
    by_cases he : r = .en
    · subst he
      left
      obtain ⟨q, S2, e2, I2, hq, g2⟩ := told_ok I1 t_end (by omega)
      have es : st rows ws (i + 1) = st rows ws i := stN_en hr
      refine ⟨i + 1, q, (st rows ws i).a, S2, ?_, by rw [es, way_succ]; exact I2, hq, by rw [es]; exact g2, ⟨by omega, fun j hj => hb j (by omega), fun _ => ⟨i, rfl, hr⟩, fun h => by cases h⟩⟩
      rw [d_en] at er
      rw [while_s]
      have e2' := e2
      have mt := fun g as fr => I1.m t_told rfl g as fr
      simp only [hmap] at mt e2'
      simp [c_run_2, I.f3, I.f4, I.gy, lt1, lt2, l_run_1, hPS, er, wl, LINE, mt, e2']
    · have hwl : (st rows ws i).ws.length + 1 ≤ 100 + (way rows ws i ++ [(st rows ws i).a]).length := by have := I.wl; omega
      obtain ⟨S2, e2, I2⟩ := step_ok I1 (gd.nm r (List.mem_of_getElem? hr)) he (fun t h => by
        rcases h with rfl | ⟨b, rfl⟩
        · exact (gd.go _ t hr).1
        · exact (gd.pt _ b t hr).1) hwl (by have := I.sl; omega) (by omega)
      have es : st rows ws (i + 1) = ⟨(stepP (st rows ws i).ws (st rows ws i).a r).1, saidP (st rows ws i).ws (st rows ws i).sd r, (stepP (st rows ws i).ws (st rows ws i).a r).2⟩ := stN_go hr he
      obtain ⟨q, w', kd0, ne⟩ : ∃ q w', r.d = .tup (.str w' :: q) ∧ ∀ S, oEq (.str w') (.str t_end) S = .ok (.bl false) S := by
        cases r <;> first | (exact absurd rfl he) | (refine ⟨_, _, rfl, fun S => ?_⟩; simp)
      have body : l_run_1 [some (.ref P), some G, some (.int (most : Int)), some (.ref n), x4] S = .ok (.nx [some (.ref P), some G, some (.int (most : Int)), some (.ref n), some r.d]) S2 := by
        have mt := fun g as fr => I1.m t_step rfl g as fr
        have ne' := ne (S.set y (.lst ((way rows ws i ++ [(st rows ws i).a]).map nD)))
        rw [kd0] at er e2 ⊢
        simp only [hmap] at e2 mt ne'
        simp at ne'
        simp [l_run_1, I.f3, I.f4, I.gy, hPS, er, wl, LINE, ne', mt, e2]
      have rest := ih (some r.d) (i + 1) S2 (by omega) (fun j hj => by
        rcases Nat.lt_or_ge j i with h | h
        · exact hb j h
        · rw [show j = i by omega, hr]; intro z; exact he (Option.some.inj z)) (by rw [es, way_succ]; exact I2)
      have sh : sWhile c_run_2 l_run_1 [some (.ref P), some G, some (.int (most : Int)), some (.ref n), x4] S = sWhile c_run_2 l_run_1 [some (.ref P), some G, some (.int (most : Int)), some (.ref n), some r.d] S2 := by
        conv => lhs; rw [while_s]
        simp [c_run_2, I.f3, I.gy, lt1, lt2, body]
      rw [sh]
      exact rest
theorem run_ok (P G most : Nat) (l : List Tx) (rows : List Row) (S : Store) (ws : Ws) (gd : Gd l rows) (hm : most ≤ 2000) (hP : S[P]? = some (.lst (rows.map Row.d))) (hG : S[G]? = some (.dK (wsD ws))) (ok : WsOk ws) (hl : ws.length ≤ 100) (nd : (ws.map Prod.fst).Nodup) :
    ∃ (L : Nat) (e : Bool) (s q y : Nat) (S' : Store), m_run [.ref P, .ref G, .int (most : Int)] S = .ok (.tup [.str (if e = true then t_end else t_spent), .ref s, .ref q, .ref y]) S' ∧ Pre S S' ∧ RunE rows ws most L e ∧ S.length ≤ s ∧ s < y ∧ y < q ∧ S'[s]? = some (.lst ((st rows ws L).sd.map .int)) ∧ S'[q]? = some (.dK (wsD (nz (st rows ws L).ws))) ∧ S'[y]? = some (.lst ((way rows ws L).map nD)) ∧ WsOk (st rows ws L).ws ∧ ((st rows ws L).ws.map Prod.fst).Nodup ∧ (st rows ws L).ws.length ≤ 100 + L ∧ (st rows ws L).sd.length ≤ L := by
  obtain ⟨S1, e1, I1⟩ := init_ok G S ws hG ok hl nd
  rcases run_while P (.ref G) l rows S S.length (S.length + 1) (S.length + 2) (S.length + 3) most ws gd hm hl hP most none 0 S1 (by omega) (fun j hj => by omega) I1 with ⟨L, q, a', S2, e2, I2, hq, g2, re⟩ | ⟨y4, a', S2, e2, I2, re⟩
  · refine ⟨L, true, S.length + 2, q, S.length + 3, S2, ?_, I2.pre, re, by omega, by omega, hq, I2.gs, g2, I2.gy, I2.ok, I2.nd, by have := I2.wl; rw [way_len] at this; exact this, by have := I2.sl; rw [way_len] at this; exact this⟩
    rw [if_pos rfl]
    simp [m_run, b_run, e1]
    rw [e2]
    simp
  · obtain ⟨q, S3, e3, I3, hq, g3⟩ := told_ok I2 t_spent (by rw [way_len]; omega)
    refine ⟨most, false, S.length + 2, q, S.length + 3, S3, ?_, I3.pre, re, by omega, by omega, hq, I3.gs, g3, I3.gy, I3.ok, I3.nd, by have := I3.wl; rw [way_len] at this; exact this, by have := I3.sl; rw [way_len] at this; exact this⟩
    rw [if_neg (by decide)]
    have mt := fun g as fr => I2.m t_told rfl g as fr
    simp [m_run, b_run, e1]
    rw [e2]
    simp [mt, e3]
end
end Lk22

set_option Elab.async false
set_option linter.all false
set_option maxHeartbeats 1000000
namespace Lk22
open Mi
/-! ### runs of alike worths -/
theorem get_mem {ws : Ws} {k : Ky} {v : Int} (h : dGet ws k = some v) : (k, v) ∈ ws := by
  unfold dGet at h
  obtain ⟨p, hp, e⟩ := Option.map_eq_some_iff.mp h
  have h1 := List.mem_of_find?_eq_some hp
  have h2 := List.find?_some hp
  obtain ⟨a, b⟩ := p
  have h3 : a = k := by simpa using h2
  have h4 : b = v := e
  rw [← h3, ← h4]
  exact h1
def gv (ws : Ws) (k : Ky) : Int := (dGet ws k).getD 0
theorem gv_put (ws : Ws) (k k' : Ky) (v : Int) : gv (dPut ws k v) k' = if k = k' then v else gv ws k' := by
  unfold gv
  rw [dPut_get]
  split <;> rfl
theorem rv_gv {ws ws' : Ws} (h : ∀ k, gv ws k = gv ws' k) (k : Ky) : rv ws k = rv ws' k := by
  cases k with
  | inl i => rfl
  | inr t => exact h (.inr t)
structure StE (z z' : Stt) : Prop where
  w : ∀ k, gv z.ws k = gv z'.ws k
  s : z.sd = z'.sd
  a : z.a = z'.a
theorem st_e {rows : List Row} {ws ws' : Ws} (h : ∀ k, gv ws k = gv ws' k) : ∀ i, StE (st rows ws i) (st rows ws' i) := by
  intro i
  induction i with
  | zero => exact ⟨h, rfl, rfl⟩
  | succ i ih =>
    show StE (stN rows (st rows ws i)) (stN rows (st rows ws' i))
    generalize st rows ws i = z at *
    generalize st rows ws' i = z' at *
    obtain ⟨zw, zs, za⟩ := z
    obtain ⟨zw', zs', za'⟩ := z'
    obtain ⟨hw, hs, ha⟩ := ih
    dsimp only at hw hs ha
    subst hs
    subst ha
    have hr := rv_gv hw
    cases hrow : rows[za]? with
    | none =>
      unfold stN
      dsimp only
      rw [hrow]
      exact ⟨hw, rfl, rfl⟩
    | some r =>
      by_cases he : r = .en
      · subst he
        rw [stN_en hrow, stN_en hrow]
        exact ⟨hw, rfl, rfl⟩
      · rw [stN_go hrow he, stN_go hrow he]
        cases r with
        | rk nm sg b c =>
          refine ⟨fun k => ?_, rfl, rfl⟩
          show gv (dPut zw (.inr nm) (rkn sg (rv zw b) (rv zw c))) k = gv (dPut zw' (.inr nm) (rkn sg (rv zw' b) (rv zw' c))) k
          rw [gv_put, gv_put, hr b, hr c, hw k]
        | cp nm b =>
          refine ⟨fun k => ?_, rfl, rfl⟩
          show gv (dPut zw (.inr nm) (rv zw b)) k = gv (dPut zw' (.inr nm) (rv zw' b)) k
          rw [gv_put, gv_put, hr b, hw k]
        | sy b => exact ⟨hw, by show zs ++ [rv zw b] = zs ++ [rv zw' b]; rw [hr b], rfl⟩
        | go d => exact ⟨hw, rfl, rfl⟩
        | pt b d => exact ⟨hw, rfl, by show (if rv zw b = 0 then za + 1 else d.toNat) = (if rv zw' b = 0 then za + 1 else d.toNat); rw [hr b]⟩
        | en => exact absurd rfl he
theorem nz_get {ws : Ws} (nd : (ws.map Prod.fst).Nodup) {k : Ky} {v : Int} : (k, v) ∈ nz ws ↔ gv ws k = v ∧ v ≠ 0 := by
  unfold nz gv
  rw [List.mem_filter]
  constructor
  · rintro ⟨h1, h2⟩
    rw [get_of nd h1]
    exact ⟨rfl, by simpa using h2⟩
  · rintro ⟨h1, h2⟩
    cases hg : dGet ws k with
    | none => rw [hg] at h1; exact absurd h1.symm h2
    | some u =>
      rw [hg] at h1
      have e : u = v := h1
      subst e
      exact ⟨get_mem hg, by simpa using h2⟩
theorem nd_le {α : Type} [DecidableEq α] : ∀ {a b : List α}, a.Nodup → (∀ x ∈ a, x ∈ b) → a.length ≤ b.length
  | [], _, _, _ => Nat.zero_le _
  | x :: a, b, nd, h => by
    rw [List.nodup_cons] at nd
    have hx := h x (by simp)
    have := nd_le (b := b.erase x) nd.2 (fun y hy => (List.mem_erase_of_ne (fun e => nd.1 (by rw [← e]; exact hy))).mpr (h y (by simp [hy])))
    rw [List.length_erase_of_mem hx] at this
    have : 0 < b.length := List.length_pos_of_mem hx
    rw [List.length_cons]
    omega
theorem nz_nd {ws : Ws} (nd : (ws.map Prod.fst).Nodup) : ((nz ws).map Prod.fst).Nodup := by
  unfold nz
  exact (List.filter_sublist.map _).nodup nd
theorem nd_of {ws : Ws} (nd : (ws.map Prod.fst).Nodup) : ws.Nodup := by
  induction ws with
  | nil => exact List.nodup_nil
  | cons p r ih =>
    rw [List.map_cons, List.nodup_cons] at nd
    rw [List.nodup_cons]
    exact ⟨fun h => nd.1 (List.mem_map.mpr ⟨p, h, rfl⟩), ih nd.2⟩
theorem nz_alike {ws ws' : Ws} (nd : (ws.map Prod.fst).Nodup) (nd' : (ws'.map Prod.fst).Nodup) (h : ∀ k, gv ws k = gv ws' k) : dSame (wsD (nz ws)) (wsD (nz ws')) = true := by
  have s1 : ∀ p ∈ nz ws, p ∈ nz ws' := fun p hp => (nz_get nd').mpr (by rw [← h p.1]; exact (nz_get nd).mp hp)
  have s2 : ∀ p ∈ nz ws', p ∈ nz ws := fun p hp => (nz_get nd).mpr (by rw [h p.1]; exact (nz_get nd').mp hp)
  have l1 := nd_le (nd_of (nz_nd nd)) s1
  have l2 := nd_le (nd_of (nz_nd nd')) s2
  unfold dSame
  rw [Bool.and_eq_true]
  refine ⟨by unfold wsD; simp only [List.length_map, decide_eq_true_eq]; omega, ?_⟩
  rw [List.all_eq_true]
  intro p hp
  unfold wsD at hp
  obtain ⟨q, hq, rfl⟩ := List.mem_map.mp hp
  rw [wsD_get]
  dsimp only
  rw [get_of (nz_nd nd') (s1 q hq)]
  simp [flatD, scq]
/-- two runs of alike worths -/
theorem run_e {rows : List Row} {ws ws' : Ws} {m m' L L' : Nat} {e e' : Bool} (h : ∀ k, gv ws k = gv ws' k) (hm : m ≤ m') (r : RunE rows ws m L e) (r' : RunE rows ws' m' L' e') : (e = true → L = L' ∧ e' = true) ∧ (e = false → L = m ∧ L ≤ L') := by
  have se := fun i => (st_e (rows := rows) h i).a
  constructor
  · intro he
    obtain ⟨i, hi, hen⟩ := r.fin he
    cases e' with
    | true =>
      obtain ⟨j, hj, hen'⟩ := r'.fin rfl
      refine ⟨?_, rfl⟩
      rcases Nat.lt_trichotomy i j with z | z | z
      · exact absurd (by rw [← se i]; exact hen) (r'.mid i (by omega))
      · omega
      · exact absurd (by rw [se j]; exact hen') (r.mid j (by omega))
    | false =>
      obtain ⟨h1, h2⟩ := r'.spent rfl
      have := r.le
      exact absurd (by rw [← se i]; exact hen) (h2 i (by omega))
  · intro he
    obtain ⟨h1, h2⟩ := r.spent he
    refine ⟨h1, ?_⟩
    cases e' with
    | true =>
      obtain ⟨j, hj, hen'⟩ := r'.fin rfl
      apply Nat.le_of_not_lt
      intro z
      exact absurd (by rw [se j]; exact hen') (h2 j (by omega))
    | false =>
      obtain ⟨h3, _⟩ := r'.spent rfl
      omega
end Lk22

set_option Elab.async false
set_option linter.all false
set_option maxHeartbeats 1000000
namespace Lk22
open Mi
theorem way_take {rows : List Row} {ws : Ws} {L L' : Nat} (h : L ≤ L') : (way rows ws L').take L = way rows ws L := by
  unfold way
  rw [← List.map_take, List.take_range, Nat.min_eq_left h]
theorem sd_pre {rows : List Row} {ws : Ws} {L : Nat} : ∀ k, ∃ t, (st rows ws (L + k)).sd = (st rows ws L).sd ++ t := by
  intro k
  induction k with
  | zero => exact ⟨[], by simp⟩
  | succ k ih =>
    obtain ⟨t, ht⟩ := ih
    rw [← Nat.add_assoc]
    show ∃ t, (stN rows (st rows ws (L + k))).sd = _
    generalize st rows ws (L + k) = z at *
    unfold stN
    split
    · exact ⟨t, ht⟩
    · rename_i r hr _
      show ∃ t, saidP z.ws z.sd _ = _
      rename_i r _
      cases r <;> first | exact ⟨t, ht⟩ | exact ⟨t ++ [_], by show z.sd ++ [_] = _; rw [ht, List.append_assoc]⟩
    · exact ⟨t, ht⟩
theorem sd_take {rows : List Row} {ws : Ws} {L L' : Nat} (h : L ≤ L') : (st rows ws L').sd.take (st rows ws L).sd.length = (st rows ws L).sd := by
  obtain ⟨t, ht⟩ := sd_pre (rows := rows) (ws := ws) (L := L) (L' - L)
  rw [show L + (L' - L) = L' by omega] at ht
  rw [ht, List.take_left]
def sayB (rows : List Row) (n : Nat) : Bool := match rows[n]? with
  | some (.sy _) => true
  | _ => false
theorem sd_len (rows : List Row) (ws : Ws) : ∀ L, (st rows ws L).sd.length = ((way rows ws L).filter (sayB rows)).length := by
  intro L
  induction L with
  | zero => rfl
  | succ i ih =>
    rw [way_succ, List.filter_append, List.length_append, ← ih]
    show (stN rows (st rows ws i)).sd.length = _
    generalize st rows ws i = z
    unfold stN sayB
    cases hr : rows[z.a]? with
    | none => simp [hr]
    | some r => cases r <;> simp [hr, saidP]
theorem way_int (rows : List Row) (ws : Ws) (L : Nat) : (way rows ws L).map nD = ((way rows ws L).map fun n : Nat => (n : Int)).map .int := by
  rw [List.map_map]; rfl
end Lk22

set_option Elab.async false
set_option linter.all false
set_option maxHeartbeats 1000000
namespace Lk22
open Mi
/-! ### followers -/
theorem followers_ok (P n : Nat) (rows : List Row) (r : Row) (S : Store) (hP : S[P]? = some (.lst (rows.map Row.d))) (hr : rows[n]? = some r) : m_followers [.ref P, .int n] S = .ok (.ref S.length) (S ++ [.lst ((fol n r).map .int)]) := by
  have e : atI (rows.map Row.d) (n : Int) = some r.d := at_of (by rw [List.getElem?_map, hr]; rfl)
  cases r <;> simp [m_followers, b_followers, hP, e, d_rk, d_cp, d_sy, d_go, d_pt, d_en, LINE, fol]
theorem is_end_ok (P : Nat) (rows : List Row) (n : Nat) (r : Row) (S : Store) (hP : S[P]? = some (.lst (rows.map Row.d))) (hr : rows[n]? = some r) : m_is_end [.ref P, .int n] S = .ok (.bl (dec (r = .en))) S := by
  have e : atI (rows.map Row.d) (n : Int) = some r.d := at_of (by rw [List.getElem?_map, hr]; rfl)
  have d1 : dec (Row.en = Row.en) = true := dec_true rfl
  have d0 : dec False = false := dec_false id
  have d2 : dec True = true := dec_true trivial
  cases r <;> simp [m_is_end, b_is_end, hP, e, d_rk, d_cp, d_sy, d_go, d_pt, d_en, d0, d1, d2]
/-! ### ways -/
theorem is_way_ok (P W : Nat) (rows : List Row) (w : List Int) (S : Store) (hP : S[P]? = some (.lst (rows.map Row.d))) (hW : S[W]? = some (.lst (w.map .int))) : ∃ S', m_is_way [.ref P, .ref W] S = .ok (.bl (dec (IsWay rows w))) S' ∧ Pre S S' := by
  by_cases h0 : w = []
  · have : dec (IsWay rows w) = false := dec_false fun h => h.1 h0
    exact ⟨S, by rw [this]; simp [m_is_way, b_is_way, hW, h0], Pre.refl _⟩
  · have key := loop_ret (hs := [(W, w.map D.int)]) (turn := turnM (gTup 2 (gCons (gName 2) (gCons (gName 3) gNil))) l_is_way_1)
      (fun i fr S' => ∃ (x y : Option D), fr = [some (.ref P), some (.ref W), x, y] ∧ Pre S S' ∧ ∀ j, j < i → At rows w j)
      (fun x S' => x = .bl false ∧ Pre S S' ∧ ∃ j, j < w.length ∧ ¬ At rows w j)
      (prs 0 (w.map D.int)) 0 [some (.ref P), some (.ref W), none, none] S ⟨none, none, rfl, Pre.refl _, fun j hj => by omega⟩
      (by
        rintro i fr S' ⟨x, y, rfl, pr, _⟩
        exact stands_one (lst_of (pr.get hW)))
      (by
        rintro i d fr S' hd ⟨x, y, rfl, pr, hall⟩
        rw [prs_get, List.getElem?_map, Option.map_map] at hd
        obtain ⟨n, hn, rfl⟩ := Option.map_eq_some_iff.mp hd
        have hi : i < w.length := (List.getElem?_eq_some_iff.mp hn).1
        rw [show 0 + i = i by omega] at *
        by_cases hr : 0 ≤ n ∧ n < rows.length
        · have more : At rows w i → ∀ j, j < i + 1 → At rows w j := fun a j hj => by
            by_cases h : j = i
            · exact h ▸ a
            · exact hall j (by omega)
          by_cases hz : i = 0
          · subst hz
            left
            refine ⟨[some (.ref P), some (.ref W), some (.int 0), some (.int n)], S', .inl ?_, ⟨_, _, rfl, pr, more ⟨n, hn, hr.1, hr.2, fun z => absurd z (by decide)⟩⟩⟩
            simp [turnM_s, l_is_way_1, hr.1, hr.2, pr.get hP]
          · obtain ⟨a, ha, a0, a1, _⟩ := hall (i - 1) (by omega)
            have hal : a.toNat < rows.length := by omega
            have hra : rows[a.toNat]? = some rows[a.toNat] := List.getElem?_eq_getElem hal
            generalize rows[a.toNat] = r at hra
            have f := followers_ok P a.toNat rows r S' (pr.get hP) hra
            rw [Int.toNat_of_nonneg a0] at f
            have ea : atI (w.map D.int) ((i : Int) - 1) = some (.int a) := by
              have := at_of (l := w.map D.int) (k := i - 1) (d := .int a) (by rw [List.getElem?_map, ha]; rfl)
              rw [show ((i - 1 : Nat) : Int) = (i : Int) - 1 by omega] at this
              exact this
            have hp : 0 < i := by omega
            have inn := in_ints n (fol a.toNat r) (S' ++ [.lst ((fol a.toNat r).map .int)])
            by_cases hin : n ∈ fol a.toNat r
            · left
              rw [dec_true hin] at inn
              refine ⟨[some (.ref P), some (.ref W), some (.int i), some (.int n)], S' ++ [.lst ((fol a.toNat r).map .int)], .inl ?_, ⟨_, _, rfl, pr.trans (Pre.app _ _), more ⟨n, hn, hr.1, hr.2, fun _ => ⟨a, r, ha, hra, hin⟩⟩⟩⟩
              simp [turnM_s, l_is_way_1, hr.1, hr.2, pr.get hP, hp, pr.get hW, ea, f, get_len, inn]
            · right
              rw [dec_false hin] at inn
              refine ⟨.bl false, S' ++ [.lst ((fol a.toNat r).map .int)], ?_, rfl, pr.trans (Pre.app _ _), i, hi, ?_⟩
              · simp [turnM_s, l_is_way_1, hr.1, hr.2, pr.get hP, hp, pr.get hW, ea, f, get_len, inn]
              · rintro ⟨n', hn', _, _, q⟩
                obtain ⟨a', r', ha', hr', hm⟩ := q (by omega)
                rw [hn] at hn'
                rw [ha] at ha'
                obtain rfl := Option.some.inj hn'
                obtain rfl := Option.some.inj ha'
                rw [hra] at hr'
                obtain rfl := Option.some.inj hr'
                exact hin hm
        · right
          refine ⟨.bl false, S', ?_, rfl, pr, i, hi, ?_⟩
          · by_cases h1 : 0 ≤ n
            · have h2 : ¬ n < (rows.length : Int) := fun z => hr ⟨h1, z⟩
              simp [turnM_s, l_is_way_1, h1, h2, pr.get hP]
            · simp [turnM_s, l_is_way_1, h1, pr.get hP]
          · rintro ⟨n', hn', q1, q2, _⟩
            rw [hn] at hn'
            obtain rfl := Option.some.inj hn'
            exact hr ⟨q1, q2⟩)
    rcases key with ⟨fr', S', e, x, y, rfl, pr, hall⟩ | ⟨x, S', e, rfl, pr, j, hj, hno⟩
    · rw [prs_len, List.length_map, Nat.zero_add] at hall
      have : dec (IsWay rows w) = true := dec_true ⟨h0, hall⟩
      refine ⟨S', ?_, pr⟩
      rw [this]
      have hl : ¬ ((w.length : Int) = 0) := by have := List.length_pos_iff.mpr h0; omega
      simp [m_is_way, b_is_way, hW, h0, hl]
      rw [e]
      simp
    · have : dec (IsWay rows w) = false := dec_false fun h => hno (h.2 j hj)
      refine ⟨S', ?_, pr⟩
      rw [this]
      have hl : ¬ ((w.length : Int) = 0) := by have := List.length_pos_iff.mpr h0; omega
      simp [m_is_way, b_is_way, hW, h0, hl]
      rw [e]
      simp
theorem is_whole_ok (P W : Nat) (rows : List Row) (w : List Int) (S : Store) (hP : S[P]? = some (.lst (rows.map Row.d))) (hW : S[W]? = some (.lst (w.map .int))) : ∃ S', m_is_whole [.ref P, .ref W] S = .ok (.bl (dec (IsWay rows w ∧ IsEnd rows w))) S' ∧ Pre S S' := by
  obtain ⟨S', e, pr⟩ := is_way_ok P W rows w S hP hW
  by_cases h : IsWay rows w
  · rw [dec_true h] at e
    obtain ⟨n0, hn0, _⟩ := h.2 0 (List.length_pos_iff.mpr h.1)
    have e0 : atI (w.map D.int) 0 = some (.int n0) := at_of (k := 0) (by rw [List.getElem?_map, hn0]; rfl)
    obtain ⟨n, hn, n0', n1, _⟩ := h.2 (w.length - 1) (by have := List.length_pos_iff.mpr h.1; omega)
    have en : atI (w.map D.int) (-1) = some (.int n) := by
      rw [at_m1 (by simpa using h.1), List.getElem?_map, List.length_map, hn]; rfl
    have hnl : n.toNat < rows.length := by omega
    have hra : rows[n.toNat]? = some rows[n.toNat] := List.getElem?_eq_getElem hnl
    generalize rows[n.toNat] = r at hra
    have q := is_end_ok P rows n.toNat r S' (pr.get hP) hra
    rw [Int.toNat_of_nonneg n0'] at q
    refine ⟨S', ?_, pr⟩
    by_cases h0 : n0 = 0
    · subst h0
      have : dec (IsWay rows w ∧ IsEnd rows w) = dec (r = .en) := by
        congr 1
        refine propext ⟨fun z => ?_, fun z => ⟨h, hn0, n, hn, by rw [hra, z]⟩⟩
        obtain ⟨_, _, n', hn', z⟩ := z
        rw [hn] at hn'
        obtain rfl := Option.some.inj hn'
        rw [hra] at z
        exact Option.some.inj z
      rw [this]
      simp [m_is_whole, b_is_whole, e, pr.get hW, e0, en, q]
    · have : dec (IsWay rows w ∧ IsEnd rows w) = false := dec_false fun z => by
        have := z.2.1
        rw [hn0] at this
        exact h0 (Option.some.inj this)
      rw [this]
      simp [m_is_whole, b_is_whole, e, pr.get hW, e0, h0]
  · rw [dec_false h] at e
    have : dec (IsWay rows w ∧ IsEnd rows w) = false := dec_false fun z => h z.1
    exact ⟨S', by rw [this]; simp [m_is_whole, b_is_whole, e], pr⟩
end Lk22

set_option Elab.async false
set_option linter.all false
set_option maxHeartbeats 1000000
namespace Lk22
open Mi
abbrev wayI (rows : List Row) (ws : Ws) (L : Nat) : List Int := (way rows ws L).map fun n : Nat => (n : Int)
theorem wayI_at (rows : List Row) (ws : Ws) {L i : Nat} (h : i < L) : (wayI rows ws L)[i]? = some ((st rows ws i).a : Int) := by
  unfold wayI way
  rw [List.getElem?_map, List.getElem?_map, List.getElem?_range h]
  rfl
theorem wayI_len (rows : List Row) (ws : Ws) (L : Nat) : (wayI rows ws L).length = L := by unfold wayI; rw [List.length_map, way_len]
theorem way_is {l : List Tx} {rows : List Row} {ws : Ws} {m L : Nat} {e : Bool} (gd : Gd l rows) (re : RunE rows ws m L e) (h : 0 < L) : IsWay rows (wayI rows ws L) := by
  refine ⟨fun z => ?_, fun j hj => ?_⟩
  · have := wayI_len rows ws L
    rw [z] at this
    simp at this
    omega
  · rw [wayI_len] at hj
    have hin := st_in gd ws j
    refine ⟨_, wayI_at rows ws hj, by omega, by omega, fun h0 => ?_⟩
    obtain ⟨i, rfl⟩ : ∃ i, j = i + 1 := ⟨j - 1, by omega⟩
    have hr : rows[(st rows ws i).a]? = some (rows[(st rows ws i).a]'(st_in gd ws i)) := List.getElem?_eq_getElem (st_in gd ws i)
    have ne : rows[(st rows ws i).a]'(st_in gd ws i) ≠ .en := fun z => re.mid i hj (by rw [hr, z])
    generalize rows[(st rows ws i).a]'(st_in gd ws i) = r at hr ne
    refine ⟨_, r, wayI_at rows ws (show i + 1 - 1 < L by omega), by rw [Nat.add_sub_cancel, Int.toNat_natCast]; exact hr, ?_⟩
    rw [Nat.add_sub_cancel, Int.toNat_natCast]
    show (((stN rows (st rows ws i)).a : Nat) : Int) ∈ _
    rw [stN_go hr ne]
    exact step_fol gd hr ne
theorem way_end {l : List Tx} {rows : List Row} {ws : Ws} {m L : Nat} {e : Bool} (gd : Gd l rows) (re : RunE rows ws m L e) : dec (IsWay rows (wayI rows ws L) ∧ IsEnd rows (wayI rows ws L)) = e := by
  have hlen := wayI_len rows ws L
  cases e with
  | true =>
    obtain ⟨i, rfl, hen⟩ := re.fin rfl
    refine dec_true ⟨way_is gd re (by omega), wayI_at rows ws (show 0 < i + 1 by omega), ((st rows ws i).a : Int), ?_, ?_⟩
    · rw [hlen]; exact wayI_at rows ws (show i + 1 - 1 < i + 1 by omega)
    · rw [Int.toNat_natCast]; exact hen
  | false =>
    refine dec_false fun ⟨h1, h2, n, h3, h4⟩ => ?_
    rcases Nat.eq_zero_or_pos L with z | z
    · have : (wayI rows ws L) = [] := List.length_eq_zero_iff.mp (by omega)
      exact h1.1 this
    · obtain ⟨i, rfl⟩ : ∃ i, L = i + 1 := ⟨L - 1, by omega⟩
      rw [hlen, wayI_at rows ws (show i + 1 - 1 < i + 1 by omega)] at h3
      obtain rfl := Option.some.inj h3
      rw [Int.toNat_natCast] at h4
      exact (re.spent rfl).2 i (by omega) h4
def sayR : Row → Bool
  | .sy _ => true
  | _ => false
theorem say_is (r : Row) : ∃ q w', r.d = .tup (.str w' :: q) ∧ decide (w' = t_say) = sayR r := by
  cases r <;> exact ⟨_, _, rfl, rfl⟩
end Lk22

set_option Elab.async false
set_option linter.all false
set_option maxHeartbeats 1000000
namespace Lk22
open Mi
theorem cut_tk {α : Type} (l : List α) (n : Nat) : cut l none (some (n : Int)) = l.take n := by
  unfold cut sIx
  simp only [List.drop_zero, Nat.sub_zero]
  have h : ¬ ((n : Int) < 0) := by omega
  rw [if_neg h, Int.toNat_natCast]
  rcases Nat.le_total n l.length with z | z
  · rw [Nat.min_eq_left z]
  · rw [Nat.min_eq_right z, List.take_length, List.take_of_length_le z]
theorem eqI_l {a b : Nat} {l : List Int} {S : Store} (h1 : S[a]? = some (.lst (l.map .int))) (h2 : S[b]? = some (.lst (l.map .int))) : eqI (.ref a) (.ref b) S = true := by
  unfold eqI
  dsimp only
  rw [lst_of h1, lst_of h2]
  simp [ints_map]
theorem eqI_d {a b : Nat} {k l : List (Ky × D)} {S : Store} (h1 : S[a]? = some (.dK k)) (h2 : S[b]? = some (.dK l)) (h : dSame k l = true) : eqI (.ref a) (.ref b) S = true := by
  unfold eqI
  dsimp only
  rw [h1, h2]
  simp [h]
theorem eqI_s (t : Tx) (S : Store) : eqI (.str t) (.str t) S = true := by
  unfold eqI
  simp [flatD, scq]
theorem tups_eq {s1 q1 y1 s2 q2 y2 : Nat} {t : Tx} {sd W : List Int} {k l : List (Ky × D)} {S : Store} (a1 : S[s1]? = some (.lst (sd.map .int))) (a2 : S[s2]? = some (.lst (sd.map .int))) (b1 : S[q1]? = some (.dK k)) (b2 : S[q2]? = some (.dK l)) (b : dSame k l = true) (c1 : S[y1]? = some (.lst (W.map .int))) (c2 : S[y2]? = some (.lst (W.map .int))) : oTup (.tup [.str t, .ref s1, .ref q1, .ref y1]) (.tup [.str t, .ref s2, .ref q2, .ref y2]) S = true := by
  unfold oTup
  simp [eqIs, eqI_s, eqI_l a1 a2, eqI_d b1 b2 b, eqI_l c1 c2]
theorem good_turn (P s q y m L : Nat) (e : Bool) (l : List Tx) (rows : List Row) (ws : Ws) (S : Store) (gd : Gd l rows) (re : RunE rows ws m L e) (hm : m ≤ 2000) (hP : S[P]? = some (.lst (rows.map Row.d))) (hy : S[y]? = some (.lst ((wayI rows ws L).map .int))) (a1 a2 a3 a4 a5 a7 a8 : Option D) :
    ∃ S', l_law_good_1 [some (.ref P), a1, a2, a3, a4, a5, some (.tup [.str (if e = true then t_end else t_spent), .ref s, .ref q, .ref y]), a7, a8] S = .ok (.nx [some (.ref P), a1, a2, a3, a4, a5, some (.tup [.str (if e = true then t_end else t_spent), .ref s, .ref q, .ref y]), a7, a8]) S' ∧ Pre S S' := by
  have lL := re.le
  have hlen : ((wayI rows ws L).map D.int).length = L := by rw [List.length_map, wayI_len]
  rcases Nat.eq_zero_or_pos L with z | z
  · obtain ⟨S1, e1, p1⟩ := is_whole_ok P y rows (wayI rows ws L) S hP hy
    rw [way_end gd re] at e1
    refine ⟨S1, ?_, p1⟩
    have nz1 : ¬ (0 < L) := by omega
    have nz2 : ¬ ((0 : Int) < (L : Int)) := by omega
    generalize (wayI rows ws L).map D.int = W at *
    cases e with
    | true => simp [l_law_good_1, LINE, hy, hlen, nz1, nz2, e1]
    | false => simp [l_law_good_1, LINE, hy, hlen, nz1, nz2, e1]
  · obtain ⟨S1, e1, p1⟩ := is_way_ok P y rows (wayI rows ws L) S hP hy
    rw [dec_true (way_is gd re z)] at e1
    have hy1 := p1.get hy
    obtain ⟨S2, e2, p2⟩ := is_whole_ok P y rows (wayI rows ws L) S1 (p1.get hP) hy1
    rw [way_end gd re] at e2
    refine ⟨S2, ?_, p1.trans p2⟩
    have z2 : ((0 : Int) < (L : Int)) := by omega
    have a0 : atI ((wayI rows ws L).map D.int) 0 = some (.int 0) := at_of (k := 0) (by rw [List.getElem?_map, wayI_at rows ws z]; rfl)
    generalize (wayI rows ws L).map D.int = W at *
    cases e with
    | true => simp [l_law_good_1, LINE, hy, hlen, z, z2, e1, e2, a0, hy1]
    | false => simp [l_law_good_1, LINE, hy, hlen, z, z2, e1, e2, a0, hy1]
end Lk22

set_option Elab.async false
set_option linter.all false
set_option maxHeartbeats 1000000
namespace Lk22
open Mi
theorem prs_at {l : List D} : ∀ {i j : Nat} {d : D}, (prs i l)[j]? = some d → ∃ x, l[j]? = some x ∧ d = .tup [.int ((i + j : Nat) : Int), x] := by
  induction l with
  | nil => intro i j d h; simp [prs] at h
  | cons a q ih =>
    intro i j d h
    cases j with
    | zero => simp [prs] at h; exact ⟨a, rfl, by rw [← h]; simp⟩
    | succ j =>
      simp only [prs, List.getElem?_cons_succ] at h
      obtain ⟨x, hx, e⟩ := ih h
      exact ⟨x, by simpa using hx, by rw [e, show i + 1 + j = i + (j + 1) by omega]⟩
theorem say_c (P n : Nat) (rows : List Row) (r : Row) (S : Store) (hr : rows[n]? = some r) (hP : S[P]? = some (.lst (rows.map Row.d))) (a1 a2 a3 a4 a5 a6 a7 : Option D) : c_law_good_2 [some (.ref P), a1, a2, a3, a4, a5, a6, a7, some (nD n)] S = .ok (sayB rows n) S := by
  have er : atI (rows.map Row.d) (n : Int) = some r.d := at_of (by rw [List.getElem?_map, hr]; rfl)
  have e : sayB rows n = sayR r := by
    unfold sayB
    rw [hr]
    cases r <;> rfl
  obtain ⟨q, w', kd, hd⟩ := say_is r
  rw [e, ← hd]
  rw [kd] at er
  generalize rows.map Row.d = A at *
  by_cases h : w' = t_say
  · have h' : w' = [115, 97, 121] := h
    simp [c_law_good_2, nD, hP, er, h']
  · have h' : ¬ w' = [115, 97, 121] := h
    simp [c_law_good_2, nD, hP, er, h, h']
theorem good_ok (P G f m : Nat) (l : List Tx) (rows : List Row) (ws : Ws) (S : Store) (gd : Gd l rows) (hfm : f ≤ m) (hm : m ≤ 2000) (hP : S[P]? = some (.lst (rows.map Row.d))) (hG : S[G]? = some (.dK (wsD ws))) (ok : WsOk ws) (hl : ws.length ≤ 100) (nd : (ws.map Prod.fst).Nodup) :
    ∃ S', m_law_good [.ref P, .ref G, .int (f : Int), .int (m : Int)] S = .ok (.bl true) S' ∧ Pre S S' := by
  obtain ⟨L1, e1, s1, q1, y1, S1, r1, p1, re1, _, _, _, gs1, gq1, gy1, _, nd1, _, sl1⟩ := run_ok P G f l rows S ws gd (by omega) hP hG ok hl nd
  obtain ⟨L2, e2, s2, q2, y2, S2, r2, p2, re2, _, _, _, gs2, gq2, gy2, _, nd2, _, sl2⟩ := run_ok P G m l rows S1 ws gd hm (p1.get hP) (p1.get hG) ok hl nd
  have rr := run_e (fun _ => rfl) hfm re1 re2
  have lL1 := re1.le
  have lL2 := re2.le
  have L12 : L1 ≤ L2 := by
    cases e1 with
    | true => exact Nat.le_of_eq (rr.1 rfl).1
    | false => exact (rr.2 rfl).2
  rw [way_int] at gy1 gy2
  have gy1 : S1[y1]? = some (.lst ((wayI rows ws L1).map .int)) := gy1
  have gy2 : S2[y2]? = some (.lst ((wayI rows ws L2).map .int)) := gy2
  have l1 : ((wayI rows ws L1).map D.int).length = L1 := by rw [List.length_map, wayI_len]
  have p02 := p1.trans p2
  obtain ⟨F1, hF1⟩ : ∃ F1 : D, D.tup [.str (if e1 = true then t_end else t_spent), .ref s1, .ref q1, .ref y1] = F1 := ⟨_, rfl⟩
  obtain ⟨F2, hF2⟩ : ∃ F2 : D, D.tup [.str (if e2 = true then t_end else t_spent), .ref s2, .ref q2, .ref y2] = F2 := ⟨_, rfl⟩
  obtain ⟨S3, hS3⟩ : ∃ S3 : Store, S2 ++ [.lst [F1, F2]] = S3 := ⟨_, rfl⟩
  have p3 : Pre S2 S3 := by rw [← hS3]; exact Pre.app _ _
  have g3 : S3[S2.length]? = some (.lst [F1, F2]) := by rw [← hS3]; exact app_new _ _ _
  have p03 := p02.trans p3
  have key := loop_inv (hs := [(S2.length, [F1, F2])]) (turn := turnM (gName 6) l_law_good_1)
    (fun i fr S' => ∃ (y6 : Option D), fr = [some (.ref P), some (.ref G), some (.int (f : Int)), some (.int (m : Int)), some F1, some F2, y6, none, none] ∧ Pre S3 S')
    [F1, F2] 0 [some (.ref P), some (.ref G), some (.int (f : Int)), some (.int (m : Int)), some F1, some F2, none, none, none] S3
    ⟨none, rfl, Pre.refl _⟩
    (by
      rintro i fr S' ⟨y6, rfl, pr⟩
      exact stands_one (lst_of (pr.get g3)))
    (by
      rintro i d fr S' hd ⟨y6, rfl, pr⟩
      have hP' := pr.get (p03.get hP)
      have c : (i = 0 ∧ d = F1) ∨ (i = 1 ∧ d = F2) := by
        match i, hd with
        | 0, hd => exact .inl ⟨rfl, (Option.some.inj hd).symm⟩
        | 1, hd => exact .inr ⟨rfl, (Option.some.inj hd).symm⟩
        | i + 2, hd => exact absurd hd (by simp)
      rcases c with ⟨_, hdF⟩ | ⟨_, hdF⟩ <;> rw [hdF]
      · obtain ⟨S4, e4, p4⟩ := good_turn P s1 q1 y1 f L1 e1 l rows ws S' gd re1 (by omega) hP' (pr.get (p3.get (p2.get gy1))) (some (.ref G)) (some (.int (f : Int))) (some (.int (m : Int))) (some F1) (some F2) none none
        rw [hF1] at e4
        refine ⟨[some (.ref P), some (.ref G), some (.int (f : Int)), some (.int (m : Int)), some F1, some F2, some F1, none, none], S4, .inl ?_, _, rfl, pr.trans p4⟩
        simp [turnM_s, e4]
      · obtain ⟨S4, e4, p4⟩ := good_turn P s2 q2 y2 m L2 e2 l rows ws S' gd re2 hm hP' (pr.get (p3.get gy2)) (some (.ref G)) (some (.int (f : Int))) (some (.int (m : Int))) (some F1) (some F2) none none
        rw [hF2] at e4
        refine ⟨[some (.ref P), some (.ref G), some (.int (f : Int)), some (.int (m : Int)), some F1, some F2, some F2, none, none], S4, .inl ?_, _, rfl, pr.trans p4⟩
        simp [turnM_s, e4])
  obtain ⟨fr', S4, e4, y6, rfl, p4⟩ := key
  have p14 := (p2.trans p3).trans p4
  have p24 := p3.trans p4
  have hy1 := p14.get gy1
  have hy2 := p24.get gy2
  have hs1 := p14.get gs1
  have hs2 := p24.get gs2
  have hq1 := p14.get gq1
  have hq2 := p24.get gq2
  -- the first part of the way
  have wt : (wayI rows ws L2).take f = wayI rows ws L1 := by
    unfold wayI
    rw [← List.map_take]
    congr 1
    cases e1 with
    | true =>
      obtain rfl := (rr.1 rfl).1
      exact List.take_of_length_le (by rw [way_len]; exact lL1)
    | false =>
      obtain rfl := (rr.2 rfl).1
      exact way_take L12
  have cw : cut ((wayI rows ws L2).map D.int) none (some (f : Int)) = (wayI rows ws L1).map .int := by
    rw [cut_tk, ← List.map_take, wt]
  have cs : cut ((st rows ws L2).sd.map D.int) none (some ((st rows ws L1).sd.length : Int)) = (st rows ws L1).sd.map .int := by
    rw [cut_tk, ← List.map_take, sd_take L12]
  obtain ⟨S5, hS5⟩ : ∃ S5 : Store, S4 ++ [.lst ((wayI rows ws L1).map .int)] = S5 := ⟨_, rfl⟩
  have p5 : Pre S4 S5 := by rw [← hS5]; exact Pre.app _ _
  have g5 : S5[S4.length]? = some (.lst ((wayI rows ws L1).map .int)) := by rw [← hS5]; exact app_new _ _ _
  have ne5 : oNe (.ref y1) (.ref S4.length) S5 = .ok (.bl false) S5 := by
    rw [oNe_g, eq_ints (lst_of (p5.get hy1)) (lst_of g5)]
    simp
  have hs15 := p5.get hs1
  have hs25 := p5.get hs2
  obtain ⟨S6, hS6⟩ : ∃ S6 : Store, S5 ++ [.lst ((st rows ws L1).sd.map .int)] = S6 := ⟨_, rfl⟩
  have p6 : Pre S5 S6 := by rw [← hS6]; exact Pre.app _ _
  have g6 : S6[S5.length]? = some (.lst ((st rows ws L1).sd.map .int)) := by rw [← hS6]; exact app_new _ _ _
  have ne6 : oNe (.ref s1) (.ref S5.length) S6 = .ok (.bl false) S6 := by
    rw [oNe_g, eq_ints (lst_of (p6.get hs15)) (lst_of g6)]
    simp
  have p46 := p5.trans p6
  have p06 := (p03.trans p4).trans p46
  have sdl : ((st rows ws L1).sd.map D.int).length = (st rows ws L1).sd.length := List.length_map ..
  cases e1 with
  | true =>
    obtain ⟨hL, he2⟩ := rr.1 rfl
    subst hL
    subst he2
    have te := tups_eq (t := t_end) (p46.get hs1) (p46.get hs2) (p46.get hq1) (p46.get hq2) (nz_alike nd1 nd2 fun _ => rfl) (p46.get hy1) (p46.get hy2)
    have oe : oEqT (.tup [.str t_end, .ref s1, .ref q1, .ref y1]) (.tup [.str t_end, .ref s2, .ref q2, .ref y2]) S6 = .ok (.bl true) S6 := by
      unfold oEqT
      rw [if_pos te]
    refine ⟨S6, ?_, p06⟩
    simp only [if_true] at hF1 hF2 r1 r2
    generalize (wayI rows ws L1).map D.int = W at *
    generalize hA : (st rows ws L1).sd.map D.int = A at *
    simp [m_law_good, b_law_good, r1, r2, LINE, hF1, hF2, hS3, g3]
    rw [e4]
    subst hF1
    subst hF2
    simp [hy1, hy2, cw, hS5, ne5, hs15, hs25, sdl, cs, hS6, ne6, oe]
  | false =>
    obtain ⟨hL, _⟩ := rr.2 rfl
    have hP6 := p06.get hP
    have hy16 := p46.get hy1
    have hw : (wayI rows ws L1).map D.int = (way rows ws L1).map nD := (way_int rows ws L1).symm
    obtain ⟨S7, e7, p7, g7⟩ := lc_fil (vs := [8]) (g := gName 8) (t := c_law_good_2) (e := e_law_good_3) (fr := [some (.ref P), some (.ref G), some (.int (f : Int)), some (.int (m : Int)), some F1, some F2, y6, none, none]) (l := (wayI rows ws L1).map D.int) (hs := [(y1, (wayI rows ws L1).map D.int)]) (S := S6) (way rows ws L1) nD nD (sayB rows) hw (stand_one (lst_of hy16)) (Nat.le_trans (show _ ≤ 2000 by rw [way_len]; omega) (by decide)) (by
      intro n hn S' pr
      unfold way at hn
      obtain ⟨i, _, rfl⟩ := List.mem_map.mp hn
      have hr : rows[(st rows ws i).a]? = some (rows[(st rows ws i).a]'(st_in gd ws i)) := List.getElem?_eq_getElem (st_in gd ws i)
      exact ⟨[some (.ref P), some (.ref G), some (.int (f : Int)), some (.int (m : Int)), some F1, some F2, y6, none, some (nD (st rows ws i).a)], S', by simp [unset], say_c P _ rows _ S' hr (pr.get hP6) _ _ _ _ _ _ _, Pre.refl _, fun _ => ⟨S', by simp [e_law_good_3], Pre.refl _⟩⟩)
    have fl : (((way rows ws L1).filter (sayB rows)).map nD).length = (st rows ws L1).sd.length := by rw [List.length_map, sd_len]
    refine ⟨S7, ?_, p06.trans p7⟩
    have hy17 := p7.get hy16
    have hs17 := p7.get (p46.get hs1)
    have hLf : (L1 : Int) = (f : Int) := by rw [hL]
    have iff : ¬ ((false : Bool) = true) := by decide
    rw [if_neg iff] at hF1 r1
    generalize hB : ((way rows ws L1).filter (sayB rows)).map nD = B at *
    generalize (wayI rows ws L1).map D.int = W at *
    generalize (wayI rows ws L2).map D.int = W2 at *
    generalize (st rows ws L2).sd.map D.int = A2 at *
    generalize hA : (st rows ws L1).sd.map D.int = A at *
    simp [m_law_good, b_law_good, r1, r2, LINE, hF1, hF2, hS3, g3]
    rw [e4]
    subst hF1
    subst hF2
    simp [hy1, hy2, cw, hS5, ne5, hs15, hs25, sdl, cs, hS6, ne6, hy16]
    rw [e7]
    simp [g7, fl, hy17, hs17, l1, sdl, hLf]
end Lk22

set_option Elab.async false
set_option linter.all false
set_option maxHeartbeats 1000000
namespace Lk22
open Mi
theorem operand_int (dg c : Int) (p : Nat) (S : Store) (l : List Tx) (h : S[p]? = some (.lst (l.map .str))) (hd : (l.length : Int) ≤ dg) : ∃ v : Int, m_law_operand [.int dg, .int c, .ref p] S = .ok (.int v) S ∧ WOk v := by
  obtain ⟨j, rfl⟩ : ∃ j : Nat, dg = (j : Int) := ⟨dg.toNat, by omega⟩
  have h1 : ¬ j < l.length := by omega
  by_cases h2 : j = l.length
  · exact ⟨c % 3, by simp [m_law_operand, b_law_operand, h, h2], by omega, by omega⟩
  · have d3 : divOk 3 := div_ok (by decide) (by decide)
    have mo : mulOk c 48271 := mul_r (by decide)
    have h2' : ¬ ((j : Int) = (l.length : Int)) := by omega
    by_cases h3 : c % 3 = 0
    · exact ⟨18446744073709551615 - c / 3 % 9, by simp [m_law_operand, b_law_operand, h, h1, h2, h2', h3, d3], by omega, by omega⟩
    · exact ⟨c * 48271 % 18446744073709551616, by simp [m_law_operand, b_law_operand, h, h1, h2, h2', h3, mo], by omega, by omega⟩
theorem put_mem {ws : Ws} {k : Ky} {v : Int} {p : Ky × Int} (h : p ∈ dPut ws k v) : p ∈ ws ∨ p = (k, v) := by
  unfold dPut at h
  split at h
  · obtain ⟨q, hq, e⟩ := List.mem_map.mp h
    split at e
    · rename_i z
      right
      rw [← e, z]
    · left
      rw [← e]; exact hq
  · rcases List.mem_append.mp h with z | z
    · exact .inl z
    · exact .inr (List.mem_singleton.mp z)
theorem mo_e {rows : List Row} {ws ws' : Ws} {m L L' : Nat} {e e' : Bool} (h : ∀ k, gv ws k = gv ws' k) (r : RunE rows ws m L e) (r' : RunE rows ws' m L' e') : L = L' ∧ e = e' := by
  have a := run_e h (Nat.le_refl _) r r'
  have b := run_e (fun k => (h k).symm) (Nat.le_refl _) r' r
  cases e with
  | true => exact ⟨(a.1 rfl).1, (a.1 rfl).2.symm⟩
  | false =>
    cases e' with
    | true => exact absurd (b.1 rfl).2 (by decide)
    | false => exact ⟨by rw [(a.2 rfl).1, (b.2 rfl).1], rfl⟩
theorem oTup_ne {x y : D} {S : Store} (h : oTup x y S = true) : oNeT x y S = .ok (.bl false) S := by
  unfold oNeT
  rw [if_pos h]
theorem oTup_eq {x y : D} {S : Store} (h : oTup x y S = true) : oEqT x y S = .ok (.bl true) S := by
  unfold oEqT
  rw [if_pos h]
theorem law_pure (ns : List Int) (hn : ns.length ≤ 63) : ∃ S, m_law [.ref 0] [.fls (ns.map .int)] = .ok (.bl true) S := by
  obtain ⟨S0, e0⟩ : ∃ S : Store, S = [.fls (ns.map .int)] := ⟨_, rfl⟩
  have s00 : S0[0]? = some (.fls (ns.map .int)) := by rw [e0]; rfl
  rw [← e0]
  obtain ⟨v0, c0⟩ := cell_ok s00 0
  have c0' : m_law_cell [.ref 0, .int 0] S0 = .ok (.int v0) S0 := c0
  obtain ⟨l, m, S1, en, p1, hm, gm, hl4, hnm⟩ := names_ok v0 4 S0 (by decide)
  have en' : m_law_names [.int v0, .int 4] S0 = .ok (.ref m) S1 := en
  have s10 := p1.get s00
  have cut_map : ∀ (ns : List Int) (a b : Option Int), cut (ns.map D.int) a b = (cut ns a b).map D.int := fun ns a b => by
    unfold cut
    rw [List.length_map, ← List.map_drop, ← List.map_take]
  obtain ⟨S2, e2⟩ : ∃ S : Store, S = S1 ++ [.lst ((cut ns (some 4) (some 44)).map .int)] := ⟨_, rfl⟩
  have p2 : Pre S1 S2 := by rw [e2]; exact Pre.app _ _
  have g2 : S2[S1.length]? = some (.lst ((cut ns (some 4) (some 44)).map .int)) := by rw [e2]; exact app_new _ _ _
  have gm2 := p2.get gm
  obtain ⟨v1, c1⟩ := cell_ok (p2.get s10) 1
  have c1' : m_law_cell [.ref 0, .int 1] S2 = .ok (.int v1) S2 := c1
  have hcl : (cut ns (some 4) (some 44)).length ≤ 60 := by
    unfold cut
    rw [List.length_take]
    simp [sIx]
    omega
  obtain ⟨P, rows, S4, e4, p4, gP, pg, hrl⟩ := program_ok S1.length m (v1 % 19) (cut ns (some 4) (some 44)) l S2 g2 gm2 (by omega) (by omega) (by omega) hcl
  have gd : Gd l rows := Prg.gd pg
  have p14 := p2.trans p4
  -- the numbers of rows
  obtain ⟨S5, hS5⟩ : ∃ S5 : Store, S4 ++ [.lst [.int 150, .int 2001]] = S5 := ⟨_, rfl⟩
  have p5 : Pre S4 S5 := by rw [← hS5]; exact Pre.app _ _
  have g5 : S5[S4.length]? = some (.lst [.int 150, .int 2001]) := by rw [← hS5]; exact app_new _ _ _
  have s5 := p5.get (p14.get s10)
  obtain ⟨v2, c2⟩ := cell_ok s5 2
  have c2' : m_law_cell [.ref 0, .int 2] S5 = .ok (.int v2) S5 := c2
  have d1 : divOk 22500 := div_ok (by decide) (by decide)
  have d2 : divOk 150 := div_ok (by decide) (by decide)
  obtain ⟨M, hM, hM0, hMl⟩ : ∃ M : Int, atI [D.int 150, .int 2001] (if v2 / 22500 % 32 = 1 then 1 else 0) = some (.int M) ∧ 0 < M ∧ M ≤ 2001 := by
    by_cases h : v2 / 22500 % 32 = 1
    · exact ⟨2001, by rw [if_pos h]; rfl, by decide, by decide⟩
    · exact ⟨150, by rw [if_neg h]; rfl, by decide, by decide⟩
  have dM : divOk M := div_ok hM0 (by omega)
  have a0 := Int.emod_nonneg v2 (show (150 : Int) ≠ 0 by decide)
  have a1 := Int.emod_lt_of_pos v2 (show (0 : Int) < 150 by decide)
  have b0 := Int.emod_nonneg (v2 / 150) (show M ≠ 0 by omega)
  have b1 := Int.emod_lt_of_pos (v2 / 150) hM0
  obtain ⟨S6, hS6⟩ : ∃ S6 : Store, S5 ++ [.lst [.int (v2 % 150), .int (v2 / 150 % M)]] = S6 := ⟨_, rfl⟩
  have p6 : Pre S5 S6 := by rw [← hS6]; exact Pre.app _ _
  have g6 : S6[S5.length]? = some (.lst [.int (v2 % 150), .int (v2 / 150 % M)]) := by rw [← hS6]; exact app_new _ _ _
  obtain ⟨f, mm, hfm, hmm, hso⟩ : ∃ f mm : Nat, f ≤ mm ∧ mm ≤ 2000 ∧ (if v2 % 150 ≤ v2 / 150 % M then [D.int (v2 % 150), .int (v2 / 150 % M)] else [.int (v2 / 150 % M), .int (v2 % 150)]) = [.int (f : Int), .int (mm : Int)] := by
    by_cases h : v2 % 150 ≤ v2 / 150 % M
    · refine ⟨(v2 % 150).toNat, (v2 / 150 % M).toNat, by omega, by omega, ?_⟩
      rw [if_pos h, Int.toNat_of_nonneg a0, Int.toNat_of_nonneg b0]
    · refine ⟨(v2 / 150 % M).toNat, (v2 % 150).toNat, by omega, by omega, ?_⟩
      rw [if_neg h, Int.toNat_of_nonneg a0, Int.toNat_of_nonneg b0]
  have so : bSort2 [.ref S5.length] S6 = .ok (.ref S6.length) (S6 ++ [.lst [.int (f : Int), .int (mm : Int)]]) := by
    unfold bSort2
    dsimp only
    rw [lst_of g6]
    dsimp only
    rw [hso]
    rfl
  obtain ⟨S7, hS7⟩ : ∃ S7 : Store, S6 ++ [.lst [.int (f : Int), .int (mm : Int)]] = S7 := ⟨_, rfl⟩
  have p7 : Pre S6 S7 := by rw [← hS7]; exact Pre.app _ _
  have g7 : S7[S6.length]? = some (.lst [.int (f : Int), .int (mm : Int)]) := by rw [← hS7]; exact app_new _ _ _
  rw [hS7] at so
  have p47 := (p5.trans p6).trans p7
  have s7 := p47.get (p14.get s10)
  have gm7 := p47.get (p14.get gm)
  obtain ⟨S8, hS8⟩ : ∃ S8 : Store, S7 ++ [.dK []] = S8 := ⟨_, rfl⟩
  have p8 : Pre S7 S8 := by rw [← hS8]; exact Pre.app _ _
  have g8 : S8[S7.length]? = some (.dK (wsD [])) := by rw [← hS8]; exact app_new _ _ _
  have gN8 := p8.get gm7
  have key := loop_inv (hs := [(m, l.map D.str)]) (turn := turnM (gTup 2 (gCons (gName 6) (gCons (gName 7) gNil))) l_law_1)
    (fun i fr S' => ∃ (y6 y7 : Option D) (ws : Ws), fr = [some (.ref 0), some (.ref m), some (.ref P), some (.int M), some (.ref S6.length), some (.ref S7.length), y6, y7, none] ∧ Pre S7 S' ∧ S'[S7.length]? = some (.dK (wsD ws)) ∧ WsOk ws ∧ ws.length ≤ i ∧ (ws.map Prod.fst).Nodup ∧ (∀ p ∈ ws, ∃ t ∈ l, p.1 = .inr t) ∧ ∀ j t, j < i → l[j]? = some t → ∃ v, dGet ws (.inr t) = some v)
    (prs 0 (l.map D.str)) 0 [some (.ref 0), some (.ref m), some (.ref P), some (.int M), some (.ref S6.length), some (.ref S7.length), none, none, none] S8
    ⟨none, none, [], rfl, p8, g8, (fun p hp => by cases hp), Nat.le_refl _, List.nodup_nil, (fun p hp => by cases hp), fun j t hj => by omega⟩
    (by
      rintro i fr S' ⟨y6, y7, ws, rfl, pr, _⟩
      exact stands_one (lst_of (pr.get gm7)))
    (by
      rintro i d fr S' hd ⟨y6, y7, ws, rfl, pr, g, ok, lw, nd, kin, has⟩
      obtain ⟨t, ht, rfl⟩ := prs_at hd
      rw [List.getElem?_map] at ht
      obtain ⟨tt, htt, rfl⟩ := Option.map_eq_some_iff.mp ht
      have hi := (List.getElem?_eq_some_iff.mp htt).1
      rw [show 0 + i = i by omega] at *
      obtain ⟨a3, cb⟩ := cell_ok (pr.get s7) 3
      have cb : m_law_cell [.ref 0, .int 3] S' = .ok (.int a3) S' := cb
      have dk : divOk ((i : Int) + 1) := div_ok (by omega) (by omega)
      have d5 : divOk 5 := div_ok (by decide) (by decide)
      have gN := pr.get gm7
      have m0 := Int.emod_nonneg (a3 / ((i : Int) + 1)) (show (2 : Int) ≠ 0 by decide)
      obtain ⟨v, ev, wv⟩ := operand_int (4 + a3 / ((i : Int) + 1) % 2) (a3 / 5 + i) m S' l gN (by rw [hl4]; omega)
      have wl : (wsD ws).length < 16777216 := by unfold wsD; rw [List.length_map]; omega
      have kk : kyOf (.str tt) = some (.inr tt) := rfl
      refine ⟨[some (.ref 0), some (.ref m), some (.ref P), some (.int M), some (.ref S6.length), some (.ref S7.length), some (.int (i : Int)), some (.str tt), none], S'.set S7.length (.dK (wsD (dPut ws (.inr tt) v))), .inl ?_, _, _, dPut ws (.inr tt) v, rfl, pr.set (Nat.le_refl _), set_get g, ok.put wv, Nat.le_trans (dPut_len _ _ _) (by omega), dPut_nd nd, ?_, ?_⟩
      · rw [← wsD_put]
        simp [turnM_s, l_law_1, cb, dk, d5, ev, g, kk, wl, LINE]
      · intro p hp
        rcases put_mem hp with z | z
        · exact kin p z
        · exact ⟨tt, List.mem_of_getElem? htt, by rw [z]⟩
      · intro j t hj htj
        rw [dPut_get]
        by_cases hk : (Sum.inr tt : Ky) = .inr t
        · rw [if_pos hk]; exact ⟨v, rfl⟩
        · rw [if_neg hk]
          rcases Nat.lt_or_ge j i with z | z
          · exact has j t z htj
          · have hji : j = i := by omega
            rw [hji, htt] at htj
            exact absurd (congrArg Sum.inr (Option.some.inj htj)) hk)
  obtain ⟨fr', S9, e9, y6, y7, ws, rfl, p9, g9, ok, lw, nd, kin, has⟩ := key
  rw [prs_len, List.length_map, hl4] at lw
  rw [prs_len, List.length_map] at has
  -- those that are not 0
  obtain ⟨S10, hS10⟩ : ∃ S10 : Store, S9 ++ [.dK []] = S10 := ⟨_, rfl⟩
  have p10 : Pre S9 S10 := by rw [← hS10]; exact Pre.app _ _
  have g10 : S10[S9.length]? = some (.dK (wsD [])) := by rw [← hS10]; exact app_new _ _ _
  have gN9 := p9.get gm7
  have gN10 := p10.get gN9
  have key2 := loop_inv (hs := [(m, l.map D.str)]) (turn := turnM (gName 7) l_law_2)
    (fun i fr S' => ∃ (y7 : Option D) (wl : Ws), fr = [some (.ref 0), some (.ref m), some (.ref P), some (.int M), some (.ref S6.length), some (.ref S7.length), y6, y7, some (.ref S9.length)] ∧ Pre S9 S' ∧ S'[S9.length]? = some (.dK (wsD wl)) ∧ WsOk wl ∧ wl.length ≤ i ∧ (wl.map Prod.fst).Nodup ∧ (∀ p ∈ wl, p.2 ≠ 0) ∧ (∀ k, gv wl k = 0 ∨ gv wl k = gv ws k) ∧ ∀ j t, j < i → l[j]? = some t → gv wl (.inr t) = gv ws (.inr t))
    (l.map D.str) 0 [some (.ref 0), some (.ref m), some (.ref P), some (.int M), some (.ref S6.length), some (.ref S7.length), y6, y7, some (.ref S9.length)] S10
    ⟨y7, [], rfl, p10, g10, (fun p hp => by cases hp), Nat.le_refl _, List.nodup_nil, (fun p hp => by cases hp), (fun k => .inl rfl), fun j t hj => by omega⟩
    (by
      rintro i fr S' ⟨y7, wl, rfl, pr, _⟩
      exact stands_one (lst_of (pr.get gN9)))
    (by
      rintro i d fr S' hd ⟨y7, wl, rfl, pr, g, okl, lwl, ndl, nzl, gvl, hasl⟩
      rw [List.getElem?_map] at hd
      obtain ⟨tt, htt, rfl⟩ := Option.map_eq_some_iff.mp hd
      have hi := (List.getElem?_eq_some_iff.mp htt).1
      rw [show 0 + i = i by omega] at *
      obtain ⟨v, hv⟩ := has i tt (by omega) htt
      have gG := pr.get g9
      have hvg : gv ws (.inr tt) = v := by unfold gv; rw [hv]; rfl
      have wv : WOk v := ok _ (get_mem hv)
      have gl : dGet (wsD ws) (.inr tt) = some (.int v) := by rw [wsD_get, hv]; rfl
      have dl : oIx (.ref S7.length) (.str tt) S' = .ok (.int v) S' := by
        unfold oIx dLook
        dsimp only
        rw [gG]
        dsimp only
        rw [show kyOf (.str tt) = some (.inr tt) from rfl, Option.map_some, gl]
      have wll : (wsD wl).length < 16777216 := by unfold wsD; rw [List.length_map]; omega
      have kk : kyOf (.str tt) = some (.inr tt) := rfl
      by_cases hz : v = 0
      · refine ⟨[some (.ref 0), some (.ref m), some (.ref P), some (.int M), some (.ref S6.length), some (.ref S7.length), y6, some (.str tt), some (.ref S9.length)], S', .inl ?_, _, wl, rfl, pr, g, okl, by omega, ndl, nzl, gvl, ?_⟩
        · simp [turnM_s, l_law_2, dl, hz]
        · intro j t hj ht
          rcases Nat.lt_or_ge j i with z | z
          · exact hasl j t z ht
          · have : j = i := by omega
            subst this
            rw [htt] at ht
            obtain rfl := Option.some.inj ht
            rcases gvl (.inr tt) with z | z
            · rw [z, hvg, hz]
            · exact z
      · refine ⟨[some (.ref 0), some (.ref m), some (.ref P), some (.int M), some (.ref S6.length), some (.ref S7.length), y6, some (.str tt), some (.ref S9.length)], S'.set S9.length (.dK (wsD (dPut wl (.inr tt) v))), .inl ?_, _, dPut wl (.inr tt) v, rfl, pr.set (Nat.le_refl _), set_get g, okl.put wv, Nat.le_trans (dPut_len _ _ _) (by omega), dPut_nd ndl, ?_, ?_, ?_⟩
        · rw [← wsD_put]
          simp [turnM_s, l_law_2, dl, hz, g, kk, wll, LINE]
        · intro p hp
          rcases put_mem hp with z | z
          · exact nzl p z
          · rw [z]; exact hz
        · intro k
          rw [gv_put]
          split
          · rename_i z
            right
            rw [← z, hvg]
          · exact gvl k
        · intro j t hj ht
          rw [gv_put]
          split
          · rename_i z
            rw [← z, hvg]
          · rename_i z
            rcases Nat.lt_or_ge j i with zz | zz
            · exact hasl j t zz ht
            · have : j = i := by omega
              subst this
              rw [htt] at ht
              exact absurd (congrArg Sum.inr (Option.some.inj ht)) z)
  obtain ⟨fr', S11, e11, y7', wl, rfl, p11, g11, okl, lwl, ndl, nzl, gvl, hasl⟩ := key2
  rw [List.length_map, hl4] at lwl
  rw [List.length_map] at hasl
  have alike : ∀ k, gv ws k = gv wl k := by
    intro k
    cases hk : dGet ws k with
    | none =>
      have e : gv ws k = 0 := by unfold gv; rw [hk]; rfl
      rcases gvl k with z | z
      · rw [e, z]
      · rw [z]
    | some v =>
      obtain ⟨t, ht, e⟩ := kin _ (get_mem hk)
      dsimp only at e
      subst e
      obtain ⟨j, hj, ej⟩ := List.getElem_of_mem ht
      exact (hasl j t (by omega) (by rw [List.getElem?_eq_getElem hj, ej])).symm
  have nzw : nz wl = wl := by
    unfold nz
    rw [List.filter_eq_self]
    intro p hp
    simp [nzl p hp]
  have gP11 := p11.get (p9.get (p47.get gP))
  have gH11 := p11.get g9
  have g7' := p11.get (p9.get g7)
  obtain ⟨S12, e12, p12⟩ := good_ok P S7.length f mm l rows ws S11 gd hfm hmm gP11 gH11 ok (by omega) nd
  obtain ⟨S13, e13, p13⟩ := good_ok P S9.length f mm l rows wl S12 gd hfm hmm (p12.get gP11) (p12.get g11) okl (by omega) ndl
  have p1113 := p12.trans p13
  obtain ⟨L1, b1', s1, q1, w1, S14, r1, p14', re1, _, _, _, gs1, gq1, gy1, _, nd1, _, _⟩ := run_ok P S7.length mm l rows S13 ws gd hmm (p1113.get gP11) (p1113.get gH11) ok (by omega) nd
  have p1114 := p1113.trans p14'
  obtain ⟨L2, b2', s2, q2, w2, S15, r2, p15, re2, _, _, _, gs2, gq2, gy2, _, nd2, _, _⟩ := run_ok P S9.length mm l rows S14 wl gd hmm (p1114.get gP11) (p1114.get g11) okl (by omega) ndl
  obtain ⟨hL, hb⟩ := mo_e alike re1 re2
  subst hL
  subst hb
  have se := st_e (rows := rows) alike
  have ww : way rows wl L1 = way rows ws L1 := by
    unfold way
    apply List.map_congr_left
    intro i _
    exact (se i).a.symm
  rw [way_int] at gy1 gy2
  rw [ww] at gy2
  rw [← (se L1).s] at gs2
  have te := tups_eq (t := if b1' = true then t_end else t_spent) (p15.get gs1) gs2 (p15.get gq1) gq2 (nz_alike nd1 nd2 (se L1).w) (p15.get gy1) gy2
  have one := oTup_ne te
  have p1115 := p1114.trans p15
  obtain ⟨L3, b3, s3, q3, w3, S16, r3, p16, re3, _, _, _, gs3, gq3, gy3, _, nd3, _, _⟩ := run_ok P S7.length 0 l rows S15 ws gd (by decide) (p1115.get gP11) (p1115.get gH11) ok (by omega) nd
  have h30 : L3 = 0 := Nat.le_zero.mp re3.le
  subst h30
  have hb3 : b3 = false := by
    cases b3 with
    | false => rfl
    | true => obtain ⟨i, hi, _⟩ := re3.fin rfl; omega
  subst hb3
  obtain ⟨S17, hS17⟩ : ∃ S17 : Store, S16 ++ [.lst []] = S17 := ⟨_, rfl⟩
  have p17 : Pre S16 S17 := by rw [← hS17]; exact Pre.app _ _
  have g17 : S17[S16.length]? = some (.lst (([] : List Int).map .int)) := by rw [← hS17]; exact app_new _ _ _
  obtain ⟨S18, hS18⟩ : ∃ S18 : Store, S17 ++ [.lst []] = S18 := ⟨_, rfl⟩
  have p18 : Pre S17 S18 := by rw [← hS18]; exact Pre.app _ _
  have g18 : S18[S17.length]? = some (.lst (([] : List Int).map .int)) := by rw [← hS18]; exact app_new _ _ _
  have p1618 := p17.trans p18
  have da : dSame (wsD (nz (st rows ws 0).ws)) (wsD wl) = true := by
    have := nz_alike (ws := ws) (ws' := wl) nd ndl alike
    rw [nzw] at this
    exact this
  have te3 := tups_eq (t := t_spent) (sd := []) (W := []) (p1618.get gs3) (p18.get g17) (p1618.get gq3) (p1618.get (p16.get (p1115.get g11))) da (p1618.get gy3) g18
  have oe := oTup_eq te3
  rw [if_neg (by decide)] at r3
  have r3' : m_run [.ref P, .ref S7.length, .int 0] S15 = _ := r3
  have x0 : atI [D.int (f : Int), .int (mm : Int)] 0 = some (.int (f : Int)) := by simp
  have x1 : atI [D.int (f : Int), .int (mm : Int)] 1 = some (.int (mm : Int)) := by simp
  have g712 := p12.get g7'
  have g713 := p13.get g712
  have g714 := p14'.get g713
  refine ⟨S18, ?_⟩
  generalize (if b1' = true then t_end else t_spent) = wd at *
  simp [m_law, b_law, c0', en', s10, cut_map, ← e2, gm2, c1', e4, LINE, hS5, g5, c2', d1, d2, hM, hM0, dM, hS6, so, hS8, gN8]
  rw [e9]
  simp [hS10, gN9, gN10]
  rw [e11]
  simp [g7', e12, g712, e13, g713, r1, g714, r2, one, r3', hS17, hS18, LINE, oe]
end Lk22

set_option Elab.async false
set_option linter.all false
set_option maxRecDepth 100000
set_option maxHeartbeats 4000000
/-! that the text is these steps (printed by gen.py) -/
namespace Lk22
open PySem PySem.Spec PyProof.Rows L2 Mi Sm
def topS (i : Nat) : Stmt := PySem.Challenge.pw_lazyhoist_k22_runs_are_ways.main.body.getD i (.Pass ⟨0, 0, 0, 0⟩)
theorem q_x0_ : ("+" : Str) = sOf t_x0_ := by decide +kernel
theorem q_x1_ : ("-" : Str) = sOf t_x1_ := by decide +kernel
theorem q_x2_ : ("*" : Str) = sOf t_x2_ := by decide +kernel
theorem q_x3_ : ("&" : Str) = sOf t_x3_ := by decide +kernel
theorem q_x4_ : ("|" : Str) = sOf t_x4_ := by decide +kernel
theorem q_x5_ : ("^" : Str) = sOf t_x5_ := by decide +kernel
theorem q_x6_ : ("<" : Str) = sOf t_x6_ := by decide +kernel
theorem q_way : ("way" : Str) = sOf t_way := by decide +kernel
theorem q_at : ("at" : Str) = sOf t_at := by decide +kernel
theorem q_end : ("end" : Str) = sOf t_end := by decide +kernel
theorem q_told : ("told" : Str) = sOf t_told := by decide +kernel
theorem q_step : ("step" : Str) = sOf t_step := by decide +kernel
theorem q_spent : ("spent" : Str) = sOf t_spent := by decide +kernel
theorem q_go : ("go" : Str) = sOf t_go := by decide +kernel
theorem q_part : ("part" : Str) = sOf t_part := by decide +kernel
theorem q_x15_abcdefghijkl : ("abcdefghijklmnopqrstuvwxyz0123456789" : Str) = sOf t_x15_abcdefghijkl := by decide +kernel
theorem q_x16_ : ("" : Str) = sOf t_x16_ := by decide +kernel
theorem q_say : ("say" : Str) = sOf t_say := by decide +kernel
theorem q_x18_0 : ("0" : Str) = sOf t_x18_0 := by decide +kernel
theorem q_x19_ : ("+-*&|^<=" : Str) = sOf t_x19_ := by decide +kernel
theorem q_reckon : ("reckon" : Str) = sOf t_reckon := by decide +kernel
theorem q_copy : ("copy" : Str) = sOf t_copy := by decide +kernel
theorem q_worths : ("worths" : Str) = sOf t_worths := by decide +kernel
theorem q_said : ("said" : Str) = sOf t_said := by decide +kernel
theorem q_worth : ("worth" : Str) = sOf t_worth := by decide +kernel
abbrev s_law_cell : Stmt := topS 13
abbrev n_law_cell : List Str := ["_law_script", "_law_k", "_law_many"]
theorem sc_law_cell : FnScope n_law_cell ["_law_script", "_law_k"] (defScope s_law_cell) := ⟨rfl, rfl, rfl, by decide +kernel, rfl, by decide +kernel, by decide +kernel⟩
abbrev s_followers : Stmt := topS 7
abbrev n_followers : List Str := ["program", "n", "row"]
theorem sc_followers : FnScope n_followers ["program", "n"] (defScope s_followers) := ⟨rfl, rfl, rfl, by decide +kernel, rfl, by decide +kernel, by decide +kernel⟩
abbrev s_is_way : Stmt := topS 9
abbrev n_is_way : List Str := ["program", "way", "at", "n"]
theorem sc_is_way : FnScope n_is_way ["program", "way"] (defScope s_is_way) := ⟨rfl, rfl, rfl, by decide +kernel, rfl, by decide +kernel, by decide +kernel⟩
abbrev s_is_end : Stmt := topS 10
abbrev n_is_end : List Str := ["program", "n"]
theorem sc_is_end : FnScope n_is_end ["program", "n"] (defScope s_is_end) := ⟨rfl, rfl, rfl, by decide +kernel, rfl, by decide +kernel, by decide +kernel⟩
abbrev s_is_whole : Stmt := topS 11
abbrev n_is_whole : List Str := ["program", "way"]
theorem sc_is_whole : FnScope n_is_whole ["program", "way"] (defScope s_is_whole) := ⟨rfl, rfl, rfl, by decide +kernel, rfl, by decide +kernel, by decide +kernel⟩
abbrev s_Run__init : Stmt := (clsBody (topS 4)).getD 0 (.Pass ⟨0, 0, 0, 0⟩)
abbrev n_Run__init : List Str := ["self", "names"]
theorem sc_Run__init : FnScope n_Run__init ["self", "names"] (defScope s_Run__init) := ⟨rfl, rfl, rfl, by decide +kernel, rfl, by decide +kernel, by decide +kernel⟩
abbrev s_Run_worth : Stmt := (clsBody (topS 4)).getD 1 (.Pass ⟨0, 0, 0, 0⟩)
abbrev n_Run_worth : List Str := ["self", "operand"]
theorem sc_Run_worth : FnScope n_Run_worth ["self", "operand"] (defScope s_Run_worth) := ⟨rfl, rfl, rfl, by decide +kernel, rfl, by decide +kernel, by decide +kernel⟩
abbrev s_reckoned : Stmt := topS 2
abbrev n_reckoned : List Str := ["s", "a", "b"]
theorem sc_reckoned : FnScope n_reckoned ["s", "a", "b"] (defScope s_reckoned) := ⟨rfl, rfl, rfl, by decide +kernel, rfl, by decide +kernel, by decide +kernel⟩
abbrev s_Run_step : Stmt := (clsBody (topS 4)).getD 2 (.Pass ⟨0, 0, 0, 0⟩)
abbrev n_Run_step : List Str := ["self", "row", "kind"]
theorem sc_Run_step : FnScope n_Run_step ["self", "row"] (defScope s_Run_step) := ⟨rfl, rfl, rfl, by decide +kernel, rfl, by decide +kernel, by decide +kernel⟩
abbrev s_Run_told : Stmt := (clsBody (topS 4)).getD 3 (.Pass ⟨0, 0, 0, 0⟩)
abbrev n_Run_told : List Str := ["self", "word", "worths", "name", "worth"]
theorem sc_Run_told : FnScope n_Run_told ["self", "word"] (defScope s_Run_told) := ⟨rfl, rfl, rfl, by decide +kernel, rfl, by decide +kernel, by decide +kernel⟩
abbrev s_run : Stmt := topS 5
abbrev n_run : List Str := ["program", "names", "most", "doing", "row"]
theorem sc_run : FnScope n_run ["program", "names", "most"] (defScope s_run) := ⟨rfl, rfl, rfl, by decide +kernel, rfl, by decide +kernel, by decide +kernel⟩
abbrev s_law_good : Stmt := topS 22
abbrev n_law_good : List Str := ["_law_program_here", "_law_handed", "_law_fewer", "_law_more", "_law_first", "_law_other", "_law_found", "_law_says", "_law_n"]
theorem sc_law_good : FnScope n_law_good ["_law_program_here", "_law_handed", "_law_fewer", "_law_more"] (defScope s_law_good) := ⟨rfl, rfl, rfl, by decide +kernel, rfl, by decide +kernel, by decide +kernel⟩
abbrev s_law_names : Stmt := topS 14
abbrev n_law_names : List Str := ["_law_cell_here", "_law_many", "_law_signs", "_law_size", "_law_spot", "_law_some", "_law_j", "_law_found", "_law_k", "_law_name"]
theorem sc_law_names : FnScope n_law_names ["_law_cell_here", "_law_many"] (defScope s_law_names) := ⟨rfl, rfl, rfl, by decide +kernel, rfl, by decide +kernel, by decide +kernel⟩
abbrev s_law_operand : Stmt := topS 16
abbrev n_law_operand : List Str := ["_law_digit", "_law_cell_here", "_law_names_here"]
theorem sc_law_operand : FnScope n_law_operand ["_law_digit", "_law_cell_here", "_law_names_here"] (defScope s_law_operand) := ⟨rfl, rfl, rfl, by decide +kernel, rfl, by decide +kernel, by decide +kernel⟩
abbrev s_law_digits : Stmt := topS 15
abbrev n_law_digits : List Str := ["_law_cell_here", "_law_sizes", "_law_number", "_law_found", "_law_size"]
theorem sc_law_digits : FnScope n_law_digits ["_law_cell_here", "_law_sizes"] (defScope s_law_digits) := ⟨rfl, rfl, rfl, by decide +kernel, rfl, by decide +kernel, by decide +kernel⟩
abbrev s_law_row : Stmt := topS 17
abbrev n_law_row : List Str := ["_law_cell_here", "_law_names_here", "_law_wide", "_law_kind", "_law_x", "_law_s", "_law_one", "_law_other"]
theorem sc_law_row : FnScope n_law_row ["_law_cell_here", "_law_names_here"] (defScope s_law_row) := ⟨rfl, rfl, rfl, by decide +kernel, rfl, by decide +kernel, by decide +kernel⟩
abbrev s_law_shut : Stmt := topS 18
abbrev n_law_shut : List Str := ["_law_rows", "_law_begin", "_law_cell_here", "_law_outer"]
theorem sc_law_shut : FnScope n_law_shut ["_law_rows", "_law_begin", "_law_cell_here", "_law_outer"] (defScope s_law_shut) := ⟨rfl, rfl, rfl, by decide +kernel, rfl, by decide +kernel, by decide +kernel⟩
abbrev s_law_tested : Stmt := topS 20
abbrev n_law_tested : List Str := ["_law_rows", "_law_name", "_law_many", "_law_found", "_law_row_here"]
theorem sc_law_tested : FnScope n_law_tested ["_law_rows", "_law_name"] (defScope s_law_tested) := ⟨rfl, rfl, rfl, by decide +kernel, rfl, by decide +kernel, by decide +kernel⟩
abbrev s_law_turned_to : Stmt := topS 19
abbrev n_law_turned_to : List Str := ["_law_rows", "_law_many", "_law_found", "_law_n", "_law_row_here", "_law_to"]
theorem sc_law_turned_to : FnScope n_law_turned_to ["_law_rows"] (defScope s_law_turned_to) := ⟨rfl, rfl, rfl, by decide +kernel, rfl, by decide +kernel, by decide +kernel⟩
abbrev s_law_program : Stmt := topS 21
abbrev n_law_program : List Str := ["_law_cells", "_law_names_here", "_law_more", "_law_rows", "_law_outer", "_law_begin", "_law_cell_here", "_law_k"]
theorem sc_law_program : FnScope n_law_program ["_law_cells", "_law_names_here", "_law_more"] (defScope s_law_program) := ⟨rfl, rfl, rfl, by decide +kernel, rfl, by decide +kernel, by decide +kernel⟩
abbrev s_law : Stmt := topS 23
abbrev n_law : List Str := ["_law_script", "_law_names_here", "_law_program_here", "_law_more", "_law_some", "_law_handed", "_law_k", "_law_name", "_law_less"]
theorem sc_law : FnScope n_law ["_law_script"] (defScope s_law) := ⟨rfl, rfl, rfl, by decide +kernel, rfl, by decide +kernel, by decide +kernel⟩
theorem bo_abs : bootBuiltins "abs" = some (.builtin "abs") := by decide +kernel
theorem bo_dict : bootBuiltins "dict" = some (.type "dict") := by decide +kernel
theorem bo_enumerate : bootBuiltins "enumerate" = some (.type "enumerate") := by decide +kernel
theorem bo_int : bootBuiltins "int" = some (.type "int") := by decide +kernel
theorem bo_isinstance : bootBuiltins "isinstance" = some (.builtin "isinstance") := by decide +kernel
theorem bo_len : bootBuiltins "len" = some (.builtin "len") := by decide +kernel
theorem bo_range : bootBuiltins "range" = some (.type "range") := by decide +kernel
theorem bo_sorted : bootBuiltins "sorted" = some (.builtin "sorted") := by decide +kernel
theorem bo_str : bootBuiltins "str" = some (.type "str") := by decide +kernel
structure Txt (K : PySem.W.Frag) (mg : Str → Option Value) where
  f_law_cell : Addr
  fd_law_cell : FuncData
  F_law_cell : Fun K "_law_cell" "_law_cell" s_law_cell f_law_cell fd_law_cell
  g_law_cell : mg "_law_cell" = some (.ref f_law_cell)
  b_law_cell : Binds K fd_law_cell ["_law_script", "_law_k"] []
  f_followers : Addr
  fd_followers : FuncData
  F_followers : Fun K "followers" "followers" s_followers f_followers fd_followers
  g_followers : mg "followers" = some (.ref f_followers)
  b_followers : Binds K fd_followers ["program", "n"] []
  f_is_way : Addr
  fd_is_way : FuncData
  F_is_way : Fun K "is_way" "is_way" s_is_way f_is_way fd_is_way
  g_is_way : mg "is_way" = some (.ref f_is_way)
  b_is_way : Binds K fd_is_way ["program", "way"] []
  f_is_end : Addr
  fd_is_end : FuncData
  F_is_end : Fun K "is_end" "is_end" s_is_end f_is_end fd_is_end
  g_is_end : mg "is_end" = some (.ref f_is_end)
  b_is_end : Binds K fd_is_end ["program", "n"] []
  f_is_whole : Addr
  fd_is_whole : FuncData
  F_is_whole : Fun K "is_whole" "is_whole" s_is_whole f_is_whole fd_is_whole
  g_is_whole : mg "is_whole" = some (.ref f_is_whole)
  b_is_whole : Binds K fd_is_whole ["program", "way"] []
  f_Run__init : Addr
  fd_Run__init : FuncData
  F_Run__init : Fun K "__init__" "Run.__init__" s_Run__init f_Run__init fd_Run__init
  b_Run__init : Binds K fd_Run__init ["self", "names"] []
  f_Run_worth : Addr
  fd_Run_worth : FuncData
  F_Run_worth : Fun K "worth" "Run.worth" s_Run_worth f_Run_worth fd_Run_worth
  b_Run_worth : Binds K fd_Run_worth ["self", "operand"] []
  f_reckoned : Addr
  fd_reckoned : FuncData
  F_reckoned : Fun K "reckoned" "reckoned" s_reckoned f_reckoned fd_reckoned
  g_reckoned : mg "reckoned" = some (.ref f_reckoned)
  b_reckoned : Binds K fd_reckoned ["s", "a", "b"] []
  f_Run_step : Addr
  fd_Run_step : FuncData
  F_Run_step : Fun K "step" "Run.step" s_Run_step f_Run_step fd_Run_step
  b_Run_step : Binds K fd_Run_step ["self", "row"] []
  f_Run_told : Addr
  fd_Run_told : FuncData
  F_Run_told : Fun K "told" "Run.told" s_Run_told f_Run_told fd_Run_told
  b_Run_told : Binds K fd_Run_told ["self", "word"] []
  f_run : Addr
  fd_run : FuncData
  F_run : FunD K "run" "run" (defArgs s_run) (defBody s_run) (defScope s_run) [V.int 1000] [] f_run fd_run
  g_run : mg "run" = some (.ref f_run)
  b_run : Binds K fd_run ["program", "names", "most"] []
  c_run : ∃ ds, Vals [V.int 1000] ds ∧ Binds K fd_run ["program", "names", "most"] ds
  f_law_good : Addr
  fd_law_good : FuncData
  F_law_good : Fun K "_law_good" "_law_good" s_law_good f_law_good fd_law_good
  g_law_good : mg "_law_good" = some (.ref f_law_good)
  b_law_good : Binds K fd_law_good ["_law_program_here", "_law_handed", "_law_fewer", "_law_more"] []
  f_law_names : Addr
  fd_law_names : FuncData
  F_law_names : Fun K "_law_names" "_law_names" s_law_names f_law_names fd_law_names
  g_law_names : mg "_law_names" = some (.ref f_law_names)
  b_law_names : Binds K fd_law_names ["_law_cell_here", "_law_many"] []
  f_law_operand : Addr
  fd_law_operand : FuncData
  F_law_operand : Fun K "_law_operand" "_law_operand" s_law_operand f_law_operand fd_law_operand
  g_law_operand : mg "_law_operand" = some (.ref f_law_operand)
  b_law_operand : Binds K fd_law_operand ["_law_digit", "_law_cell_here", "_law_names_here"] []
  f_law_digits : Addr
  fd_law_digits : FuncData
  F_law_digits : Fun K "_law_digits" "_law_digits" s_law_digits f_law_digits fd_law_digits
  g_law_digits : mg "_law_digits" = some (.ref f_law_digits)
  b_law_digits : Binds K fd_law_digits ["_law_cell_here", "_law_sizes"] []
  f_law_row : Addr
  fd_law_row : FuncData
  F_law_row : Fun K "_law_row" "_law_row" s_law_row f_law_row fd_law_row
  g_law_row : mg "_law_row" = some (.ref f_law_row)
  b_law_row : Binds K fd_law_row ["_law_cell_here", "_law_names_here"] []
  f_law_shut : Addr
  fd_law_shut : FuncData
  F_law_shut : Fun K "_law_shut" "_law_shut" s_law_shut f_law_shut fd_law_shut
  g_law_shut : mg "_law_shut" = some (.ref f_law_shut)
  b_law_shut : Binds K fd_law_shut ["_law_rows", "_law_begin", "_law_cell_here", "_law_outer"] []
  f_law_tested : Addr
  fd_law_tested : FuncData
  F_law_tested : Fun K "_law_tested" "_law_tested" s_law_tested f_law_tested fd_law_tested
  g_law_tested : mg "_law_tested" = some (.ref f_law_tested)
  b_law_tested : Binds K fd_law_tested ["_law_rows", "_law_name"] []
  f_law_turned_to : Addr
  fd_law_turned_to : FuncData
  F_law_turned_to : Fun K "_law_turned_to" "_law_turned_to" s_law_turned_to f_law_turned_to fd_law_turned_to
  g_law_turned_to : mg "_law_turned_to" = some (.ref f_law_turned_to)
  b_law_turned_to : Binds K fd_law_turned_to ["_law_rows"] []
  f_law_program : Addr
  fd_law_program : FuncData
  F_law_program : Fun K "_law_program" "_law_program" s_law_program f_law_program fd_law_program
  g_law_program : mg "_law_program" = some (.ref f_law_program)
  b_law_program : Binds K fd_law_program ["_law_cells", "_law_names_here", "_law_more"] []
  f_law : Addr
  fd_law : FuncData
  F_law : Fun K "law" "law" s_law f_law fd_law
  g_law : mg "law" = some (.ref f_law)
  b_law : Binds K fd_law ["_law_script"] []
  C_Run : Addr
  xg_Run : mg "Run" = some (.ref C_Run)
  cl_Run : Cls K C_Run
  mk_Run : Mk K C_Run f_Run__init
  mt_Run_worth : Meth K C_Run "worth" f_Run_worth
  mt_Run_step : Meth K C_Run "step" f_Run_step
  mt_Run_told : Meth K C_Run "told" f_Run_told
  na_Run_at : NoAttr K C_Run "at"
  na_Run_said : NoAttr K C_Run "said"
  na_Run_way : NoAttr K C_Run "way"
  na_Run_worths : NoAttr K C_Run "worths"
  z_abs : mg "abs" = none
  z_dict : mg "dict" = none
  z_enumerate : mg "enumerate" = none
  z_int : mg "int" = none
  z_isinstance : mg "isinstance" = none
  z_len : mg "len" = none
  z_range : mg "range" = none
  z_sorted : mg "sorted" = none
  z_str : mg "str" = none
  tk_WORTHS : Tok
  g_WORTHS : mg "WORTHS" = some (.int 18446744073709551616 tk_WORTHS)
section
variable {P : Program} {w : World} {K : PySem.W.Frag} {mg : Str → Option Value} {base : Heap}
theorem ok_law_cell (T : Txt K mg) : FnOk P w K mg base CX0 1 T.f_law_cell T.fd_law_cell ["_law_script", "_law_k"] (spM ⟨K, mg⟩ m_law_cell) :=
  fn_ok (N := n_law_cell) (b := b_law_cell) T.F_law_cell sc_law_cell fun cdv A outer s H E hr =>
    (sss_cons (ss_if (st_cmp om_lt (se_var 1) (se_callB cm_len (by rfl) T.z_len bo_len (sa_cons (se_var 0) sa_nil)) (nomark _)) (sss_one (ss_ret (se_ix (im_ix (hu65 hr)) (se_var 0) (se_var 1) (fun _ _ => rfl)))) sss_nil) (sss_cons (ss_set (i := 2) sc_law_cell.nd rfl (by first | exact Or.inl rfl | exact Or.inr rfl) (se_callB cm_len (by rfl) T.z_len bo_len (sa_cons (se_var 0) sa_nil))) (sss_cons (ss_if (st_cmp (om_eq (hu65 hr)) (se_var 2) se_int (nomark _)) (sss_one (ss_ret (se_op om_mul (se_var 1) se_int))) sss_nil) (sss_one (ss_ret (se_op om_add (se_op om_mul (se_op om_mod (se_callB cm_abs (by rfl) T.z_abs bo_abs (sa_cons (se_ix (im_ix (hu65 hr)) (se_var 0) (se_op om_mod (se_var 1) (se_var 2)) (fun _ _ => rfl)) sa_nil)) se_int) (se_op om_add (se_var 1) se_int)) (se_op om_mul (se_var 1) se_int)))))))
theorem ok_followers (T : Txt K mg) : FnOk P w K mg base CX0 1 T.f_followers T.fd_followers ["program", "n"] (spM ⟨K, mg⟩ m_followers) :=
  fn_ok (N := n_followers) (b := b_followers) T.F_followers sc_followers fun cdv A outer s H E hr =>
    (sss_cons (ss_set (i := 2) sc_followers.nd rfl (by first | exact Or.inl rfl | exact Or.inr rfl) (se_ix (im_ix (hu65 hr)) (se_var 0) (se_var 1) (fun _ _ => rfl))) (sss_cons (ss_if (st_cmp (om_eq (hu65 hr)) (se_ix (im_ix (hu65 hr)) (se_var 2) se_int (fun _ _ => rfl)) (se_str q_go) (nomark _)) (sss_one (ss_ret (se_lst (sa_cons (se_ix (im_ix (hu65 hr)) (se_var 2) se_int (fun _ _ => rfl)) sa_nil)))) sss_nil) (sss_cons (ss_if (st_cmp (om_eq (hu65 hr)) (se_ix (im_ix (hu65 hr)) (se_var 2) se_int (fun _ _ => rfl)) (se_str q_part) (nomark _)) (sss_one (ss_ret (se_lst (sa_cons (se_op om_add (se_var 1) se_int) (sa_cons (se_ix (im_ix (hu65 hr)) (se_var 2) se_int (fun _ _ => rfl)) sa_nil))))) sss_nil) (sss_cons (ss_if (st_cmp (om_eq (hu65 hr)) (se_ix (im_ix (hu65 hr)) (se_var 2) se_int (fun _ _ => rfl)) (se_str q_end) (nomark _)) (sss_one (ss_ret (se_lst sa_nil))) sss_nil) (sss_one (ss_ret (se_lst (sa_cons (se_op om_add (se_var 1) se_int) sa_nil))))))))
theorem ok_is_way (T : Txt K mg) : FnOk P w K mg base CX0 2 T.f_is_way T.fd_is_way ["program", "way"] (spM ⟨K, mg⟩ m_is_way) :=
  fn_ok (N := n_is_way) (b := b_is_way) T.F_is_way sc_is_way fun cdv A outer s H E hr =>
    (sss_cons (ss_if (st_cmp (om_eq (hu65 hr)) (se_callB cm_len (by rfl) T.z_len bo_len (sa_cons (se_var 1) sa_nil)) se_int (nomark _)) (sss_one (ss_ret se_bl)) sss_nil) (sss_cons (ss_for PassesOwn.never rfl (si_enum (by rfl) T.z_enumerate (sa_cons (se_var 1) sa_nil)) (sg_tup rfl (sgs_cons (sg_name (i := 2) sc_is_way.nd rfl (by first | exact Or.inl rfl | exact Or.inr rfl)) (sgs_cons (sg_name (i := 3) sc_is_way.nd rfl (by first | exact Or.inl rfl | exact Or.inr rfl)) sgs_nil))) (sss_cons (ss_if (st_not (st_chain om_le om_lt se_int (se_var 3) (se_callB cm_len (by rfl) T.z_len bo_len (sa_cons (se_var 0) sa_nil)))) (sss_one (ss_ret se_bl)) sss_nil) (sss_one (ss_if (st_w (sw_and (st_cmp om_gt (se_var 2) se_int (nomark _)) (sw_and1 (st_cmp (om_notin (hu65 hr)) (se_var 3) (se_call (ok_followers T) (hr.mono (by decide)) (by rfl) T.g_followers T.F_followers.kp T.b_followers pass0 (sa_cons (se_var 0) (sa_cons (se_ix (im_ix (hu65 hr)) (se_var 1) (se_op om_sub (se_var 2) se_int) (fun _ _ => rfl)) sa_nil))) rfl)))) (sss_one (ss_ret se_bl)) sss_nil)))) (sss_one (ss_ret se_bl))))
theorem ok_is_end (T : Txt K mg) : FnOk P w K mg base CX0 1 T.f_is_end T.fd_is_end ["program", "n"] (spM ⟨K, mg⟩ m_is_end) :=
  fn_ok (N := n_is_end) (b := b_is_end) T.F_is_end sc_is_end fun cdv A outer s H E hr =>
    (sss_one (ss_ret (se_cmp (om_eq (hu65 hr)) (se_ix (im_ix (hu65 hr)) (se_ix (im_ix (hu65 hr)) (se_var 0) (se_var 1) (fun _ _ => rfl)) se_int (fun _ _ => rfl)) (se_str q_end) (nomark _))))
theorem ok_is_whole (T : Txt K mg) : FnOk P w K mg base CX0 3 T.f_is_whole T.fd_is_whole ["program", "way"] (spM ⟨K, mg⟩ m_is_whole) :=
  fn_ok (N := n_is_whole) (b := b_is_whole) T.F_is_whole sc_is_whole fun cdv A outer s H E hr =>
    (sss_one (ss_ret (se_and (se_call (ok_is_way T) (hr.mono (by decide)) (by rfl) T.g_is_way T.F_is_way.kp T.b_is_way pass0 (sa_cons (se_var 0) (sa_cons (se_var 1) sa_nil))) (se_and (se_cmp (om_eq (hu65 hr)) (se_ix (im_ix (hu65 hr)) (se_var 1) se_int (fun _ _ => rfl)) se_int (nomark _)) (se_one (se_call (ok_is_end T) (hr.mono (by decide)) (by rfl) T.g_is_end T.F_is_end.kp T.b_is_end pass0 (sa_cons (se_var 0) (sa_cons (se_ix (im_ix (hu65 hr)) (se_var 1) (se_neg se_int) (fun _ _ => rfl)) sa_nil))))))))
theorem ok_Run__init (T : Txt K mg) : FnOk P w K mg base CX0 1 T.f_Run__init T.fd_Run__init ["self", "names"] (spM ⟨K, mg⟩ m_Run__init) :=
  fn_ok (N := n_Run__init) (b := b_Run__init) T.F_Run__init sc_Run__init fun cdv A outer s H E hr =>
    (sss_cons (ss_fld T.xg_Run T.cl_Run T.na_Run_worths q_worths (se_callTy (cm_dict rfl) (by rfl) T.z_dict bo_dict (sa_cons (se_var 1) sa_nil)) (se_var 0)) (sss_cons (ss_fld T.xg_Run T.cl_Run T.na_Run_said q_said (se_lst sa_nil) (se_var 0)) (sss_cons (ss_fld T.xg_Run T.cl_Run T.na_Run_way q_way (se_lst sa_nil) (se_var 0)) (sss_one (ss_fld T.xg_Run T.cl_Run T.na_Run_at q_at se_int (se_var 0))))))
theorem ok_Run_worth (T : Txt K mg) : FnOk P w K mg base CX0 1 T.f_Run_worth T.fd_Run_worth ["self", "operand"] (spM ⟨K, mg⟩ m_Run_worth) :=
  fn_ok (N := n_Run_worth) (b := b_Run_worth) T.F_Run_worth sc_Run_worth fun cdv A outer s H E hr =>
    (sss_cons (ss_if (st_tru (se_isi .str (by rfl) T.z_isinstance (by rfl) T.z_str PyProof.Rows.boot_str (se_var 1))) (sss_one (ss_ret (se_mt PySem.F.plainAttrs_dict PySem.F.slot_dict_get PySem.F.type_dict_get (mm_dget (Nat.lt_of_le_of_lt (Nat.add_le_add_left (by decide : 1 ≤ 65) _) (hu65 hr))) ty_dict (se_fld T.xg_Run T.cl_Run T.na_Run_worths q_worths (se_var 0)) (sa_cons (se_var 1) (sa_cons se_int sa_nil))))) sss_nil) (sss_one (ss_ret (se_var 1))))
theorem ok_reckoned (T : Txt K mg) : FnOk P w K mg base CX0 1 T.f_reckoned T.fd_reckoned ["s", "a", "b"] (spM ⟨K, mg⟩ m_reckoned) :=
  fn_ok (N := n_reckoned) (b := b_reckoned) T.F_reckoned sc_reckoned fun cdv A outer s H E hr =>
    (sss_cons (ss_if (st_cmp (om_eq (hu65 hr)) (se_var 0) (se_str q_x0_) (nomark _)) (sss_one (ss_ret (se_op om_mod (se_op om_add (se_var 1) (se_var 2)) (se_gint (by rfl) T.g_WORTHS)))) sss_nil) (sss_cons (ss_if (st_cmp (om_eq (hu65 hr)) (se_var 0) (se_str q_x1_) (nomark _)) (sss_one (ss_ret (se_op om_mod (se_op om_sub (se_var 1) (se_var 2)) (se_gint (by rfl) T.g_WORTHS)))) sss_nil) (sss_cons (ss_if (st_cmp (om_eq (hu65 hr)) (se_var 0) (se_str q_x2_) (nomark _)) (sss_one (ss_ret (se_op om_mod (se_op om_mul (se_var 1) (se_var 2)) (se_gint (by rfl) T.g_WORTHS)))) sss_nil) (sss_cons (ss_if (st_cmp (om_eq (hu65 hr)) (se_var 0) (se_str q_x3_) (nomark _)) (sss_one (ss_ret (se_op om_and (se_var 1) (se_var 2)))) sss_nil) (sss_cons (ss_if (st_cmp (om_eq (hu65 hr)) (se_var 0) (se_str q_x4_) (nomark _)) (sss_one (ss_ret (se_op om_or (se_var 1) (se_var 2)))) sss_nil) (sss_cons (ss_if (st_cmp (om_eq (hu65 hr)) (se_var 0) (se_str q_x5_) (nomark _)) (sss_one (ss_ret (se_op om_xor (se_var 1) (se_var 2)))) sss_nil) (sss_cons (ss_if (st_cmp (om_eq (hu65 hr)) (se_var 0) (se_str q_x6_) (nomark _)) (sss_one (ss_ret (se_callTy cm_int (by rfl) T.z_int bo_int (sa_cons (se_cmp om_lt (se_var 1) (se_var 2) (nomark _)) sa_nil)))) sss_nil) (sss_one (ss_ret (se_callTy cm_int (by rfl) T.z_int bo_int (sa_cons (se_cmp (om_eq (hu65 hr)) (se_var 1) (se_var 2) (nomark _)) sa_nil)))))))))))
theorem ok_Run_step (T : Txt K mg) : FnOk P w K mg base CX0 2 T.f_Run_step T.fd_Run_step ["self", "row"] (spM ⟨K, mg⟩ m_Run_step) :=
  fn_ok (N := n_Run_step) (b := b_Run_step) T.F_Run_step sc_Run_step fun cdv A outer s H E hr =>
    (sss_cons (ss_set (i := 2) sc_Run_step.nd rfl (by first | exact Or.inl rfl | exact Or.inr rfl) (se_ix (im_ix (hu65 hr)) (se_var 1) se_int (fun _ _ => rfl))) (sss_cons (ss_fld T.xg_Run T.cl_Run T.na_Run_at q_at (se_op om_add (se_fld T.xg_Run T.cl_Run T.na_Run_at q_at (se_var 0)) se_int) (se_var 0)) (sss_one (ss_if (st_cmp (om_eq (hu65 hr)) (se_var 2) (se_str q_reckon) (nomark _)) (sss_one (ss_asg (se_call (ok_reckoned T) (hr.mono (by decide)) (by rfl) T.g_reckoned T.F_reckoned.kp T.b_reckoned pass0 (sa_cons (se_ix (im_ix (hu65 hr)) (se_var 1) se_int (fun _ _ => rfl)) (sa_cons (se_meth T.xg_Run T.cl_Run T.mt_Run_worth q_worth (ok_Run_worth T) (hr.mono (by decide)) T.b_Run_worth pass0 (se_var 0) (sa_cons (se_ix (im_ix (hu65 hr)) (se_var 1) se_int (fun _ _ => rfl)) sa_nil)) (sa_cons (se_meth T.xg_Run T.cl_Run T.mt_Run_worth q_worth (ok_Run_worth T) (hr.mono (by decide)) T.b_Run_worth pass0 (se_var 0) (sa_cons (se_ix (im_ix (hu65 hr)) (se_var 1) se_int (fun _ _ => rfl)) sa_nil)) sa_nil)))) (sg_sub (hu65 hr) (se_fld T.xg_Run T.cl_Run T.na_Run_worths q_worths (se_var 0)) (se_ix (im_ix (hu65 hr)) (se_var 1) se_int (fun _ _ => rfl))))) (sss_one (ss_if (st_cmp (om_eq (hu65 hr)) (se_var 2) (se_str q_copy) (nomark _)) (sss_one (ss_asg (se_meth T.xg_Run T.cl_Run T.mt_Run_worth q_worth (ok_Run_worth T) (hr.mono (by decide)) T.b_Run_worth pass0 (se_var 0) (sa_cons (se_ix (im_ix (hu65 hr)) (se_var 1) se_int (fun _ _ => rfl)) sa_nil)) (sg_sub (hu65 hr) (se_fld T.xg_Run T.cl_Run T.na_Run_worths q_worths (se_var 0)) (se_ix (im_ix (hu65 hr)) (se_var 1) se_int (fun _ _ => rfl))))) (sss_one (ss_if (st_cmp (om_eq (hu65 hr)) (se_var 2) (se_str q_say) (nomark _)) (sss_one (ss_expr (se_mt PySem.F.plainAttrs_list PySem.F.slot_list_append PySem.F.type_list_append mm_append ty_list (se_fld T.xg_Run T.cl_Run T.na_Run_said q_said (se_var 0)) (sa_cons (se_meth T.xg_Run T.cl_Run T.mt_Run_worth q_worth (ok_Run_worth T) (hr.mono (by decide)) T.b_Run_worth pass0 (se_var 0) (sa_cons (se_ix (im_ix (hu65 hr)) (se_var 1) se_int (fun _ _ => rfl)) sa_nil)) sa_nil)))) (sss_one (ss_if (st_w (sw_or (st_cmp (om_eq (hu65 hr)) (se_var 2) (se_str q_go) (nomark _)) (sw_or1 (st_cmp (om_ne (hu65 hr)) (se_meth T.xg_Run T.cl_Run T.mt_Run_worth q_worth (ok_Run_worth T) (hr.mono (by decide)) T.b_Run_worth pass0 (se_var 0) (sa_cons (se_ix (im_ix (hu65 hr)) (se_var 1) se_int (fun _ _ => rfl)) sa_nil)) se_int (nomark _))))) (sss_one (ss_fld T.xg_Run T.cl_Run T.na_Run_at q_at (se_ix (im_ix (hu65 hr)) (se_var 1) (se_neg se_int) (fun _ _ => rfl)) (se_var 0))) sss_nil))))))))))
theorem ok_Run_told (T : Txt K mg) : FnOk P w K mg base CX0 1 T.f_Run_told T.fd_Run_told ["self", "word"] (spM ⟨K, mg⟩ m_Run_told) :=
  fn_ok (N := n_Run_told) (b := b_Run_told) T.F_Run_told sc_Run_told fun cdv A outer s H E hr =>
    (sss_cons (ss_set (i := 2) sc_Run_told.nd rfl (by first | exact Or.inl rfl | exact Or.inr rfl) se_newK) (sss_cons (ss_forD (w := .itm) PassesOwn.never rfl (zi_itm (se_fld T.xg_Run T.cl_Run T.na_Run_worths q_worths (se_var 0))) (sg_tup rfl (sgs_cons (sg_name (i := 3) sc_Run_told.nd rfl (by first | exact Or.inl rfl | exact Or.inr rfl)) (sgs_cons (sg_name (i := 4) sc_Run_told.nd rfl (by first | exact Or.inl rfl | exact Or.inr rfl)) sgs_nil))) (sss_one (ss_if (st_cmp (om_ne (hu65 hr)) (se_var 4) se_int (nomark _)) (sss_one (ss_asg (se_var 4) (sg_sub (hu65 hr) (se_var 2) (se_var 3)))) sss_nil))) (sss_one (ss_ret (se_tup (sa_cons (se_var 1) (sa_cons (se_fld T.xg_Run T.cl_Run T.na_Run_said q_said (se_var 0)) (sa_cons (se_var 2) (sa_cons (se_fld T.xg_Run T.cl_Run T.na_Run_way q_way (se_var 0)) sa_nil)))))))))
theorem ok_run (T : Txt K mg) : FnOk P w K mg base CX0 3 T.f_run T.fd_run ["program", "names", "most"] (spM ⟨K, mg⟩ m_run) :=
  fn_okD (N := n_run) (b := b_run) T.F_run sc_run fun cdv A outer s H E hr =>
    (sss_cons (ss_set (i := 3) sc_run.nd rfl (by first | exact Or.inl rfl | exact Or.inr rfl) (se_make T.mk_Run (ok_Run__init T) (hr.mono (by decide)) (by rfl) rfl T.xg_Run T.b_Run__init pass0 (sa_cons (se_var 1) sa_nil))) (sss_cons (ss_while PassesOwn.never (st_cmp om_lt (se_callB cm_len (by rfl) T.z_len bo_len (sa_cons (se_fld T.xg_Run T.cl_Run T.na_Run_way q_way (se_var 3)) sa_nil)) (se_var 2) (nomark _)) (sss_cons (ss_set (i := 4) sc_run.nd rfl (by first | exact Or.inl rfl | exact Or.inr rfl) (se_ix (im_ix (hu65 hr)) (se_var 0) (se_fld T.xg_Run T.cl_Run T.na_Run_at q_at (se_var 3)) (fun _ _ => rfl))) (sss_cons (ss_expr (se_mt PySem.F.plainAttrs_list PySem.F.slot_list_append PySem.F.type_list_append mm_append ty_list (se_fld T.xg_Run T.cl_Run T.na_Run_way q_way (se_var 3)) (sa_cons (se_fld T.xg_Run T.cl_Run T.na_Run_at q_at (se_var 3)) sa_nil))) (sss_cons (ss_if (st_cmp (om_eq (hu65 hr)) (se_ix (im_ix (hu65 hr)) (se_var 4) se_int (fun _ _ => rfl)) (se_str q_end) (nomark _)) (sss_one (ss_ret (se_meth T.xg_Run T.cl_Run T.mt_Run_told q_told (ok_Run_told T) (hr.mono (by decide)) T.b_Run_told pass0 (se_var 3) (sa_cons (se_str q_end) sa_nil)))) sss_nil) (sss_one (ss_expr (se_meth T.xg_Run T.cl_Run T.mt_Run_step q_step (ok_Run_step T) (hr.mono (by decide)) T.b_Run_step pass0 (se_var 3) (sa_cons (se_var 4) sa_nil)))))))) (sss_one (ss_ret (se_meth T.xg_Run T.cl_Run T.mt_Run_told q_told (ok_Run_told T) (hr.mono (by decide)) T.b_Run_told pass0 (se_var 3) (sa_cons (se_str q_spent) sa_nil))))))
theorem ok_law_good (T : Txt K mg) : FnOk P w K mg base CX0 4 T.f_law_good T.fd_law_good ["_law_program_here", "_law_handed", "_law_fewer", "_law_more"] (spM ⟨K, mg⟩ m_law_good) :=
  fn_ok (N := n_law_good) (b := b_law_good) T.F_law_good sc_law_good fun cdv A outer s H E hr =>
    (sss_cons (ss_set (i := 4) sc_law_good.nd rfl (by first | exact Or.inl rfl | exact Or.inr rfl) (se_call (ok_run T) (hr.mono (by decide)) (by rfl) T.g_run T.F_run.kp T.b_run pass0 (sa_cons (se_var 0) (sa_cons (se_var 1) (sa_cons (se_var 2) sa_nil))))) (sss_cons (ss_set (i := 5) sc_law_good.nd rfl (by first | exact Or.inl rfl | exact Or.inr rfl) (se_call (ok_run T) (hr.mono (by decide)) (by rfl) T.g_run T.F_run.kp T.b_run pass0 (sa_cons (se_var 0) (sa_cons (se_var 1) (sa_cons (se_var 3) sa_nil))))) (sss_cons (ss_for PassesOwn.never rfl (si_seq (se_lst (sa_cons (se_var 4) (sa_cons (se_var 5) sa_nil)))) (sg_name (i := 6) sc_law_good.nd rfl (by first | exact Or.inl rfl | exact Or.inr rfl)) (sss_cons (ss_if (st_w (sw_and (st_cmp om_gt (se_callB cm_len (by rfl) T.z_len bo_len (sa_cons (se_ix (im_ix (hu65 hr)) (se_var 6) se_int (fun _ _ => rfl)) sa_nil)) se_int (nomark _)) (sw_and1 (st_w (sw_or (st_not (st_tru (se_call (ok_is_way T) (hr.mono (by decide)) (by rfl) T.g_is_way T.F_is_way.kp T.b_is_way pass0 (sa_cons (se_var 0) (sa_cons (se_ix (im_ix (hu65 hr)) (se_var 6) se_int (fun _ _ => rfl)) sa_nil))))) (sw_or1 (st_cmp (om_ne (hu65 hr)) (se_ix (im_ix (hu65 hr)) (se_ix (im_ix (hu65 hr)) (se_var 6) se_int (fun _ _ => rfl)) se_int (fun _ _ => rfl)) se_int (nomark _)))))))) (sss_one (ss_ret se_bl)) sss_nil) (sss_one (ss_if (st_w (sw_or (st_cmp (om_ne (hu65 hr)) (se_call (ok_is_whole T) (hr.mono (by decide)) (by rfl) T.g_is_whole T.F_is_whole.kp T.b_is_whole pass0 (sa_cons (se_var 0) (sa_cons (se_ix (im_ix (hu65 hr)) (se_var 6) se_int (fun _ _ => rfl)) sa_nil))) (se_cmp (om_eq (hu65 hr)) (se_ix (im_ix (hu65 hr)) (se_var 6) se_int (fun _ _ => rfl)) (se_str q_end) (nomark _)) (nomark _)) (sw_or1 (st_cmp (om_notin (hu65 hr)) (se_ix (im_ix (hu65 hr)) (se_var 6) se_int (fun _ _ => rfl)) (se_tup (sa_cons (se_str q_end) (sa_cons (se_str q_spent) sa_nil))) rfl)))) (sss_one (ss_ret se_bl)) sss_nil)))) (sss_cons (ss_if (st_w (sw_or (st_cmp (om_ne (hu65 hr)) (se_ix (im_ix (hu65 hr)) (se_var 4) se_int (fun _ _ => rfl)) (se_sl slm (se_ix (im_ix (hu65 hr)) (se_var 5) se_int (fun _ _ => rfl)) so_none (so_some (se_var 2))) (nomark _)) (sw_or1 (st_cmp (om_ne (hu65 hr)) (se_ix (im_ix (hu65 hr)) (se_var 4) se_int (fun _ _ => rfl)) (se_sl slm (se_ix (im_ix (hu65 hr)) (se_var 5) se_int (fun _ _ => rfl)) so_none (so_some (se_callB cm_len (by rfl) T.z_len bo_len (sa_cons (se_ix (im_ix (hu65 hr)) (se_var 4) se_int (fun _ _ => rfl)) sa_nil)))) (nomark _))))) (sss_one (ss_ret se_bl)) sss_nil) (sss_cons (ss_if (st_cmp (om_eq (hu65 hr)) (se_ix (im_ix (hu65 hr)) (se_var 4) se_int (fun _ _ => rfl)) (se_str q_end) (nomark _)) (sss_one (ss_ret (se_cmp (om_eqT (hu65 hr)) (se_var 4) (se_var 5) (nomark _)))) sss_nil) (sss_cons (ss_set (i := 7) sc_law_good.nd rfl (by first | exact Or.inl rfl | exact Or.inr rfl) (se_callB cm_len (by rfl) T.z_len bo_len (sa_cons (se_lc (own := [("_law_n", 8)]) rfl sc_law_good.nd (si_seq (se_ix (im_ix (hu65 hr)) (se_var 4) se_int (fun _ _ => rfl))) (blkOk_by (own := [("_law_n", 8)]) (N := n_law_good) (sc := defScope s_law_good) (by decide +kernel)) (gonly_name (by decide)) (fun _ _ _ _ _ => pg_name (i := 8) sc_law_good.nd rfl (by first | exact Or.inl rfl | exact Or.inr rfl)) (fun _ _ _ _ _ => sts_one (st_cmp (om_eq (hu65 hr)) (se_ix (im_ix (hu65 hr)) (se_ix (im_ix (hu65 hr)) (se_var 0) (se_var 8) (fun _ _ => rfl)) se_int (fun _ _ => rfl)) (se_str q_say) (nomark _))) (fun _ _ _ _ _ => (se_var 8))) sa_nil))) (sss_one (ss_ret (se_and (se_cmp (om_eq (hu65 hr)) (se_callB cm_len (by rfl) T.z_len bo_len (sa_cons (se_ix (im_ix (hu65 hr)) (se_var 4) se_int (fun _ _ => rfl)) sa_nil)) (se_var 2) (nomark _)) (se_one (se_cmp (om_eq (hu65 hr)) (se_callB cm_len (by rfl) T.z_len bo_len (sa_cons (se_ix (im_ix (hu65 hr)) (se_var 4) se_int (fun _ _ => rfl)) sa_nil)) (se_var 7) (nomark _))))))))))))
theorem ok_law_names (T : Txt K mg) : FnOk P w K mg base CX0 1 T.f_law_names T.fd_law_names ["_law_cell_here", "_law_many"] (spM ⟨K, mg⟩ m_law_names) :=
  fn_ok (N := n_law_names) (b := b_law_names) T.F_law_names sc_law_names fun cdv A outer s H E hr =>
    (sss_cons (ss_set (i := 2) sc_law_names.nd rfl (by first | exact Or.inl rfl | exact Or.inr rfl) (se_str q_x15_abcdefghijkl)) (sss_cons (ss_set (i := 3) sc_law_names.nd rfl (by first | exact Or.inl rfl | exact Or.inr rfl) (se_op om_add se_int (se_op om_mod (se_var 0) se_int))) (sss_cons (ss_set (i := 4) sc_law_names.nd rfl (by first | exact Or.inl rfl | exact Or.inr rfl) (se_op om_mod (se_op om_div (se_var 0) se_int) (se_var 3))) (sss_cons (ss_setLc (i := 5) (own := [("_law_j", 6)]) rfl sc_law_names.nd rfl rfl (sw_true rfl rfl rfl (by decide +kernel)) (si_rng1 (by rfl) T.z_range (sa_cons (se_var 3) sa_nil)) (blkOk_by (own := [("_law_j", 6)]) (N := n_law_names) (sc := defScope s_law_names) (by decide +kernel)) (gonly_name (by decide)) (fun _ _ _ _ _ => pg_name (i := 6) sc_law_names.nd rfl (by first | exact Or.inl rfl | exact Or.inr rfl)) (fun _ _ _ _ _ => sts_nil) (fun _ _ _ _ _ => (se_ix (im_ix (hu65 hr)) (se_var 2) (se_op om_mod (se_op om_div (se_var 0) (se_op om_add se_int (se_op om_mul se_int (se_var 6)))) (se_ix (im_ix (hu65 hr)) (se_lst (sa_cons se_int (sa_cons se_int sa_nil))) (se_callTy cm_int (by rfl) T.z_int bo_int (sa_cons (se_cmp om_gt (se_var 6) se_int (nomark _)) sa_nil)) (fun _ _ => rfl))) (fun _ _ => rfl)))) (sss_cons (ss_set (i := 7) sc_law_names.nd rfl (by first | exact Or.inl rfl | exact Or.inr rfl) (se_lst sa_nil)) (sss_cons (ss_for PassesOwn.never rfl (si_rng1 (by rfl) T.z_range (sa_cons (se_var 1) sa_nil)) (sg_name (i := 8) sc_law_names.nd rfl (by first | exact Or.inl rfl | exact Or.inr rfl)) (sss_cons (ss_asg (se_ix (im_ix (hu65 hr)) (se_var 2) (se_op om_mod (se_op om_add (se_op om_div (se_var 0) se_int) (se_var 8)) se_int) (fun _ _ => rfl)) (sg_sub (hu65 hr) (se_var 5) (se_var 4))) (sss_cons (ss_set (i := 9) sc_law_names.nd rfl (by first | exact Or.inl rfl | exact Or.inr rfl) (se_mt PySem.F.plainAttrs_str PySem.F.slot_str_join PySem.F.type_str_join mm_join ty_str (se_str q_x16_) (sa_cons (se_var 5) sa_nil))) (sss_cons (ss_if (st_cmp (om_in (hu65 hr)) (se_var 9) (se_tup (sa_cons (se_str q_say) (sa_cons (se_str q_go) (sa_cons (se_str q_part) (sa_cons (se_str q_end) sa_nil))))) rfl) (sss_one (ss_set (i := 9) sc_law_names.nd rfl (by first | exact Or.inl rfl | exact Or.inr rfl) (se_op om_add (se_var 9) (se_str q_x18_0)))) sss_nil) (sss_one (ss_expr (se_mt PySem.F.plainAttrs_list PySem.F.slot_list_append PySem.F.type_list_append mm_append ty_list (se_var 7) (sa_cons (se_var 9) sa_nil)))))))) (sss_one (ss_ret (se_var 7)))))))))
theorem ok_law_operand (T : Txt K mg) : FnOk P w K mg base CX0 1 T.f_law_operand T.fd_law_operand ["_law_digit", "_law_cell_here", "_law_names_here"] (spM ⟨K, mg⟩ m_law_operand) :=
  fn_ok (N := n_law_operand) (b := b_law_operand) T.F_law_operand sc_law_operand fun cdv A outer s H E hr =>
    (sss_cons (ss_if (st_cmp om_lt (se_var 0) (se_callB cm_len (by rfl) T.z_len bo_len (sa_cons (se_var 2) sa_nil)) (nomark _)) (sss_one (ss_ret (se_ix (im_ix (hu65 hr)) (se_var 2) (se_var 0) (fun _ _ => rfl)))) sss_nil) (sss_cons (ss_if (st_cmp (om_eq (hu65 hr)) (se_var 0) (se_callB cm_len (by rfl) T.z_len bo_len (sa_cons (se_var 2) sa_nil)) (nomark _)) (sss_one (ss_ret (se_op om_mod (se_var 1) se_int))) sss_nil) (sss_cons (ss_if (st_cmp (om_eq (hu65 hr)) (se_op om_mod (se_var 1) se_int) se_int (nomark _)) (sss_one (ss_ret (se_op om_sub se_int (se_op om_mod (se_op om_div (se_var 1) se_int) se_int)))) sss_nil) (sss_one (ss_ret (se_op om_mod (se_op om_mul (se_var 1) se_int) se_int))))))
theorem ok_law_digits (T : Txt K mg) : FnOk P w K mg base CX0 1 T.f_law_digits T.fd_law_digits ["_law_cell_here", "_law_sizes"] (spM ⟨K, mg⟩ m_law_digits) :=
  fn_ok (N := n_law_digits) (b := b_law_digits) T.F_law_digits sc_law_digits fun cdv A outer s H E hr =>
    (sss_cons (ss_set (i := 2) sc_law_digits.nd rfl (by first | exact Or.inl rfl | exact Or.inr rfl) (se_op om_mod (se_op om_mul (se_var 0) se_int) se_int)) (sss_cons (ss_set (i := 3) sc_law_digits.nd rfl (by first | exact Or.inl rfl | exact Or.inr rfl) (se_lst sa_nil)) (sss_cons (ss_for PassesOwn.never rfl (si_seq (se_var 1)) (sg_name (i := 4) sc_law_digits.nd rfl (by first | exact Or.inl rfl | exact Or.inr rfl)) (sss_cons (ss_expr (se_mt PySem.F.plainAttrs_list PySem.F.slot_list_append PySem.F.type_list_append mm_append ty_list (se_var 3) (sa_cons (se_op om_mod (se_var 2) (se_var 4)) sa_nil))) (sss_one (ss_set (i := 2) sc_law_digits.nd rfl (by first | exact Or.inl rfl | exact Or.inr rfl) (se_op om_div (se_var 2) (se_var 4)))))) (sss_one (ss_ret (se_var 3))))))
theorem ok_law_row (T : Txt K mg) : FnOk P w K mg base CX0 2 T.f_law_row T.fd_law_row ["_law_cell_here", "_law_names_here"] (spM ⟨K, mg⟩ m_law_row) :=
  fn_ok (N := n_law_row) (b := b_law_row) T.F_law_row sc_law_row fun cdv A outer s H E hr =>
    (sss_cons (ss_set (i := 2) sc_law_row.nd rfl (by first | exact Or.inl rfl | exact Or.inr rfl) (se_op om_add (se_callB cm_len (by rfl) T.z_len bo_len (sa_cons (se_var 1) sa_nil)) se_int)) (sss_cons (ss_asg (se_call (ok_law_digits T) (hr.mono (by decide)) (by rfl) T.g_law_digits T.F_law_digits.kp T.b_law_digits pass0 (sa_cons (se_var 0) (sa_cons (se_lst (sa_cons se_int (sa_cons (se_callB cm_len (by rfl) T.z_len bo_len (sa_cons (se_var 1) sa_nil)) (sa_cons se_int (sa_cons (se_var 2) (sa_cons (se_var 2) sa_nil)))))) sa_nil))) (sg_tup rfl (sgs_cons (sg_name (i := 3) sc_law_row.nd rfl (by first | exact Or.inl rfl | exact Or.inr rfl)) (sgs_cons (sg_name (i := 4) sc_law_row.nd rfl (by first | exact Or.inl rfl | exact Or.inr rfl)) (sgs_cons (sg_name (i := 5) sc_law_row.nd rfl (by first | exact Or.inl rfl | exact Or.inr rfl)) (sgs_cons (sg_name (i := 6) sc_law_row.nd rfl (by first | exact Or.inl rfl | exact Or.inr rfl)) (sgs_cons (sg_name (i := 7) sc_law_row.nd rfl (by first | exact Or.inl rfl | exact Or.inr rfl)) sgs_nil))))))) (sss_cons (ss_set (i := 6) sc_law_row.nd rfl (by first | exact Or.inl rfl | exact Or.inr rfl) (se_call (ok_law_operand T) (hr.mono (by decide)) (by rfl) T.g_law_operand T.F_law_operand.kp T.b_law_operand pass0 (sa_cons (se_var 6) (sa_cons (se_var 0) (sa_cons (se_var 1) sa_nil))))) (sss_cons (ss_if (st_cmp om_lt (se_var 3) se_int (nomark _)) (sss_one (ss_ret (se_tup (sa_cons (se_str q_reckon) (sa_cons (se_ix (im_ix (hu65 hr)) (se_var 1) (se_var 4) (fun _ _ => rfl)) (sa_cons (se_ix (im_ix (hu65 hr)) (se_str q_x19_) (se_var 5) (fun _ _ => rfl)) (sa_cons (se_var 6) (sa_cons (se_call (ok_law_operand T) (hr.mono (by decide)) (by rfl) T.g_law_operand T.F_law_operand.kp T.b_law_operand pass0 (sa_cons (se_var 7) (sa_cons (se_op om_div (se_var 0) se_int) (sa_cons (se_var 1) sa_nil)))) sa_nil)))))))) sss_nil) (sss_cons (ss_if (st_cmp om_lt (se_var 3) se_int (nomark _)) (sss_one (ss_ret (se_tup (sa_cons (se_str q_copy) (sa_cons (se_ix (im_ix (hu65 hr)) (se_var 1) (se_var 4) (fun _ _ => rfl)) (sa_cons (se_var 6) sa_nil)))))) sss_nil) (sss_cons (ss_if (st_cmp (om_eq (hu65 hr)) (se_var 3) se_int (nomark _)) (sss_one (ss_ret (se_tup (sa_cons (se_str q_say) (sa_cons (se_var 6) sa_nil))))) sss_nil) (sss_one (ss_ret (se_tup (sa_cons (se_str q_part) (sa_cons (se_var 6) (sa_cons (se_op om_mod (se_op om_div (se_var 0) se_int) se_int) sa_nil))))))))))))
theorem ok_law_shut (T : Txt K mg) : FnOk P w K mg base CX0 1 T.f_law_shut T.fd_law_shut ["_law_rows", "_law_begin", "_law_cell_here", "_law_outer"] (spM ⟨K, mg⟩ m_law_shut) :=
  fn_ok (N := n_law_shut) (b := b_law_shut) T.F_law_shut sc_law_shut fun cdv A outer s H E hr =>
    (sss_cons (ss_if (st_cmp (om_eq (hu65 hr)) (se_op om_mod (se_op om_div (se_var 2) se_int) se_int) se_int (nomark _)) (sss_one (ss_expr (se_mt PySem.F.plainAttrs_list PySem.F.slot_list_append PySem.F.type_list_append mm_append ty_list (se_var 0) (sa_cons (se_tup (sa_cons (se_str q_end) sa_nil)) sa_nil)))) (sss_one (ss_if (st_cmp (om_eq (hu65 hr)) (se_op om_mod (se_op om_div (se_var 2) se_int) se_int) se_int (nomark _)) (sss_one (ss_expr (se_mt PySem.F.plainAttrs_list PySem.F.slot_list_append PySem.F.type_list_append mm_append ty_list (se_var 0) (sa_cons (se_tup (sa_cons (se_str q_go) (sa_cons (se_ix (im_ix (hu65 hr)) (se_var 3) (se_op om_mod (se_op om_div (se_var 2) se_int) (se_callB cm_len (by rfl) T.z_len bo_len (sa_cons (se_var 3) sa_nil))) (fun _ _ => rfl)) sa_nil))) sa_nil)))) (sss_one (ss_expr (se_mt PySem.F.plainAttrs_list PySem.F.slot_list_append PySem.F.type_list_append mm_append ty_list (se_var 0) (sa_cons (se_tup (sa_cons (se_str q_go) (sa_cons (se_op om_sub (se_neg se_int) (se_op om_mod (se_op om_div (se_var 2) se_int) se_int)) sa_nil))) sa_nil))))))) (sss_one (ss_asg (se_tup (sa_cons (se_str q_part) (sa_cons (se_ix (im_ix (hu65 hr)) (se_ix (im_ix (hu65 hr)) (se_var 0) (se_var 1) (fun _ _ => rfl)) se_int (fun _ _ => rfl)) (sa_cons (se_callB cm_len (by rfl) T.z_len bo_len (sa_cons (se_var 0) sa_nil)) sa_nil)))) (sg_sub (hu65 hr) (se_var 0) (se_var 1)))))
theorem ok_law_tested (T : Txt K mg) : FnOk P w K mg base CX0 1 T.f_law_tested T.fd_law_tested ["_law_rows", "_law_name"] (spM ⟨K, mg⟩ m_law_tested) :=
  fn_ok (N := n_law_tested) (b := b_law_tested) T.F_law_tested sc_law_tested fun cdv A outer s H E hr =>
    (sss_cons (ss_set (i := 2) sc_law_tested.nd rfl (by first | exact Or.inl rfl | exact Or.inr rfl) (se_callB cm_len (by rfl) T.z_len bo_len (sa_cons (se_var 0) sa_nil))) (sss_cons (ss_set (i := 3) sc_law_tested.nd rfl (by first | exact Or.inl rfl | exact Or.inr rfl) (se_lst (sa_cons (se_tup (sa_cons (se_str q_go) (sa_cons (se_var 2) sa_nil))) sa_nil))) (sss_cons (ss_for PassesOwn.never rfl (si_seq (se_sl slm (se_var 0) so_none (so_some (se_neg se_int)))) (sg_name (i := 4) sc_law_tested.nd rfl (by first | exact Or.inl rfl | exact Or.inr rfl)) (sss_cons (ss_if (st_cmp (om_in (hu65 hr)) (se_ix (im_ix (hu65 hr)) (se_var 4) se_int (fun _ _ => rfl)) (se_tup (sa_cons (se_str q_go) (sa_cons (se_str q_part) sa_nil))) rfl) (sss_one (ss_set (i := 4) sc_law_tested.nd rfl (by first | exact Or.inl rfl | exact Or.inr rfl) (se_op om_add (se_sl slm (se_var 4) so_none (so_some (se_neg se_int))) (se_tup (sa_cons (se_op om_add (se_ix (im_ix (hu65 hr)) (se_var 4) (se_neg se_int) (fun _ _ => rfl)) se_int) sa_nil))))) sss_nil) (sss_one (ss_expr (se_mt PySem.F.plainAttrs_list PySem.F.slot_list_append PySem.F.type_list_append mm_append ty_list (se_var 3) (sa_cons (se_var 4) sa_nil)))))) (sss_one (ss_ret (se_op om_add (se_var 3) (se_lst (sa_cons (se_tup (sa_cons (se_str q_part) (sa_cons (se_var 1) (sa_cons se_int sa_nil)))) (sa_cons (se_tup (sa_cons (se_str q_end) sa_nil)) sa_nil)))))))))
theorem ok_law_turned_to (T : Txt K mg) : FnOk P w K mg base CX0 1 T.f_law_turned_to T.fd_law_turned_to ["_law_rows"] (spM ⟨K, mg⟩ m_law_turned_to) :=
  fn_ok (N := n_law_turned_to) (b := b_law_turned_to) T.F_law_turned_to sc_law_turned_to fun cdv A outer s H E hr =>
    (sss_cons (ss_set (i := 1) sc_law_turned_to.nd rfl (by first | exact Or.inl rfl | exact Or.inr rfl) (se_callB cm_len (by rfl) T.z_len bo_len (sa_cons (se_var 0) sa_nil))) (sss_cons (ss_set (i := 2) sc_law_turned_to.nd rfl (by first | exact Or.inl rfl | exact Or.inr rfl) (se_lst sa_nil)) (sss_cons (ss_for PassesOwn.never rfl (si_enum (by rfl) T.z_enumerate (sa_cons (se_var 0) sa_nil)) (sg_tup rfl (sgs_cons (sg_name (i := 3) sc_law_turned_to.nd rfl (by first | exact Or.inl rfl | exact Or.inr rfl)) (sgs_cons (sg_name (i := 4) sc_law_turned_to.nd rfl (by first | exact Or.inl rfl | exact Or.inr rfl)) sgs_nil))) (sss_cons (ss_if (st_w (sw_and (st_cmp (om_eq (hu65 hr)) (se_ix (im_ix (hu65 hr)) (se_var 4) se_int (fun _ _ => rfl)) (se_str q_go) (nomark _)) (sw_and1 (st_cmp om_lt (se_ix (im_ix (hu65 hr)) (se_var 4) se_int (fun _ _ => rfl)) se_int (nomark _))))) (sss_one (ss_set (i := 4) sc_law_turned_to.nd rfl (by first | exact Or.inl rfl | exact Or.inr rfl) (se_tup (sa_cons (se_str q_go) (sa_cons (se_op om_add (se_op om_add (se_var 3) se_int) (se_op om_mod (se_op om_sub (se_neg se_int) (se_ix (im_ix (hu65 hr)) (se_var 4) se_int (fun _ _ => rfl))) (se_op om_sub (se_op om_sub (se_var 1) (se_var 3)) se_int))) sa_nil))))) (sss_one (ss_if (st_cmp (om_eq (hu65 hr)) (se_ix (im_ix (hu65 hr)) (se_var 4) se_int (fun _ _ => rfl)) (se_str q_part) (nomark _)) (sss_cons (ss_set (i := 5) sc_law_turned_to.nd rfl (by first | exact Or.inl rfl | exact Or.inr rfl) (se_op om_mod (se_ix (im_ix (hu65 hr)) (se_var 4) se_int (fun _ _ => rfl)) (se_var 1))) (sss_one (ss_set (i := 4) sc_law_turned_to.nd rfl (by first | exact Or.inl rfl | exact Or.inr rfl) (se_tup (sa_cons (se_str q_part) (sa_cons (se_ix (im_ix (hu65 hr)) (se_var 4) se_int (fun _ _ => rfl)) (sa_cons (se_ix (im_ix (hu65 hr)) (se_lst (sa_cons (se_var 5) (sa_cons (se_var 3) sa_nil))) (se_callTy cm_int (by rfl) T.z_int bo_int (sa_cons (se_cmp (om_eq (hu65 hr)) (se_var 5) (se_op om_add (se_var 3) se_int) (nomark _)) sa_nil)) (fun _ _ => rfl)) sa_nil))))))) sss_nil))) (sss_one (ss_expr (se_mt PySem.F.plainAttrs_list PySem.F.slot_list_append PySem.F.type_list_append mm_append ty_list (se_var 2) (sa_cons (se_var 4) sa_nil)))))) (sss_one (ss_ret (se_var 2))))))
theorem ok_law_program (T : Txt K mg) : FnOk P w K mg base CX0 3 T.f_law_program T.fd_law_program ["_law_cells", "_law_names_here", "_law_more"] (spM ⟨K, mg⟩ m_law_program) :=
  fn_ok (N := n_law_program) (b := b_law_program) T.F_law_program sc_law_program fun cdv A outer s H E hr =>
    (sss_cons (ss_set (i := 3) sc_law_program.nd rfl (by first | exact Or.inl rfl | exact Or.inr rfl) (se_lst sa_nil)) (sss_cons (ss_set (i := 4) sc_law_program.nd rfl (by first | exact Or.inl rfl | exact Or.inr rfl) (se_lst sa_nil)) (sss_cons (ss_set (i := 5) sc_law_program.nd rfl (by first | exact Or.inl rfl | exact Or.inr rfl) se_non) (sss_cons (ss_for PassesOwn.never rfl (si_seq (se_op om_add (se_var 0) (se_lc (own := [("_law_k", 7)]) rfl sc_law_program.nd (si_rng1 (by rfl) T.z_range (sa_cons (se_op om_mul (se_var 2) (se_callTy cm_int (by rfl) T.z_int bo_int (sa_cons (se_cmp (om_ne (hu65 hr)) (se_var 0) (se_lst sa_nil) (nomark _)) sa_nil))) sa_nil)) (blkOk_by (own := [("_law_k", 7)]) (N := n_law_program) (sc := defScope s_law_program) (by decide +kernel)) (gonly_name (by decide)) (fun _ _ _ _ _ => pg_name (i := 7) sc_law_program.nd rfl (by first | exact Or.inl rfl | exact Or.inr rfl)) (fun _ _ _ _ _ => sts_nil) (fun _ _ _ _ _ => (se_op om_add (se_ix (im_ix (hu65 hr)) (se_var 0) (se_op om_mod (se_var 7) (se_callB cm_len (by rfl) T.z_len bo_len (sa_cons (se_var 0) sa_nil))) (fun _ _ => rfl)) (se_op om_mul se_int (se_var 7))))))) (sg_name (i := 6) sc_law_program.nd rfl (by first | exact Or.inl rfl | exact Or.inr rfl)) (sss_one (ss_if (st_w (sw_and (st_cmp (om_eq (hu65 hr)) (se_op om_mod (se_var 6) se_int) se_int (nomark _)) (sw_and1 (st_cmp om_is (se_var 5) se_non (nomark _))))) (sss_cons (ss_set (i := 5) sc_law_program.nd rfl (by first | exact Or.inl rfl | exact Or.inr rfl) (se_callB cm_len (by rfl) T.z_len bo_len (sa_cons (se_var 3) sa_nil))) (sss_cons (ss_expr (se_mt PySem.F.plainAttrs_list PySem.F.slot_list_append PySem.F.type_list_append mm_append ty_list (se_var 4) (sa_cons (se_var 5) sa_nil))) (sss_one (ss_expr (se_mt PySem.F.plainAttrs_list PySem.F.slot_list_append PySem.F.type_list_append mm_append ty_list (se_var 3) (sa_cons (se_tup (sa_cons (se_str q_part) (sa_cons (se_call (ok_law_operand T) (hr.mono (by decide)) (by rfl) T.g_law_operand T.F_law_operand.kp T.b_law_operand pass0 (sa_cons (se_op om_mod (se_op om_div (se_var 6) se_int) (se_op om_add (se_callB cm_len (by rfl) T.z_len bo_len (sa_cons (se_var 1) sa_nil)) se_int)) (sa_cons (se_var 6) (sa_cons (se_var 1) sa_nil)))) (sa_cons se_int sa_nil)))) sa_nil)))))) (sss_one (ss_if (st_w (sw_and (st_cmp om_lt (se_op om_mod (se_var 6) se_int) se_int (nomark _)) (sw_and1 (st_cmp om_isnot (se_var 5) se_non (nomark _))))) (sss_cons (ss_expr (se_call (ok_law_shut T) (hr.mono (by decide)) (by rfl) T.g_law_shut T.F_law_shut.kp T.b_law_shut pass0 (sa_cons (se_var 3) (sa_cons (se_var 5) (sa_cons (se_op om_div (se_var 6) se_int) (sa_cons (se_var 4) sa_nil)))))) (sss_one (ss_set (i := 5) sc_law_program.nd rfl (by first | exact Or.inl rfl | exact Or.inr rfl) se_non))) (sss_cons (ss_if (st_cmp om_is (se_var 5) se_non (nomark _)) (sss_one (ss_expr (se_mt PySem.F.plainAttrs_list PySem.F.slot_list_append PySem.F.type_list_append mm_append ty_list (se_var 4) (sa_cons (se_callB cm_len (by rfl) T.z_len bo_len (sa_cons (se_var 3) sa_nil)) sa_nil)))) sss_nil) (sss_one (ss_expr (se_mt PySem.F.plainAttrs_list PySem.F.slot_list_append PySem.F.type_list_append mm_append ty_list (se_var 3) (sa_cons (se_call (ok_law_row T) (hr.mono (by decide)) (by rfl) T.g_law_row T.F_law_row.kp T.b_law_row pass0 (sa_cons (se_op om_div (se_var 6) se_int) (sa_cons (se_var 1) sa_nil))) sa_nil)))))))))) (sss_cons (ss_if (st_cmp om_isnot (se_var 5) se_non (nomark _)) (sss_one (ss_expr (se_call (ok_law_shut T) (hr.mono (by decide)) (by rfl) T.g_law_shut T.F_law_shut.kp T.b_law_shut pass0 (sa_cons (se_var 3) (sa_cons (se_var 5) (sa_cons se_int (sa_cons (se_var 4) sa_nil))))))) sss_nil) (sss_cons (ss_set (i := 3) sc_law_program.nd rfl (by first | exact Or.inl rfl | exact Or.inr rfl) (se_call (ok_law_turned_to T) (hr.mono (by decide)) (by rfl) T.g_law_turned_to T.F_law_turned_to.kp T.b_law_turned_to pass0 (sa_cons (se_op om_add (se_var 3) (se_lst (sa_cons (se_tup (sa_cons (se_str q_end) sa_nil)) sa_nil))) sa_nil))) (sss_cons (ss_if (st_w (sw_and (st_cmp (om_ne (hu65 hr)) (se_var 0) (se_lst sa_nil) (nomark _)) (sw_and (st_cmp (om_eq (hu65 hr)) (se_op om_mod (se_op om_div (se_ix (im_ix (hu65 hr)) (se_var 0) se_int (fun _ _ => rfl)) se_int) se_int) se_int (nomark _)) (sw_and1 (st_cmp om_lt (se_callB cm_len (by rfl) T.z_len bo_len (sa_cons (se_var 3) sa_nil)) se_int (nomark _)))))) (sss_one (ss_set (i := 3) sc_law_program.nd rfl (by first | exact Or.inl rfl | exact Or.inr rfl) (se_call (ok_law_tested T) (hr.mono (by decide)) (by rfl) T.g_law_tested T.F_law_tested.kp T.b_law_tested pass0 (sa_cons (se_var 3) (sa_cons (se_ix (im_ix (hu65 hr)) (se_var 1) se_int (fun _ _ => rfl)) sa_nil))))) sss_nil) (sss_one (ss_ret (se_var 3))))))))))
theorem ok_law (T : Txt K mg) : FnOk P w K mg base CX0 5 T.f_law T.fd_law ["_law_script"] (spM ⟨K, mg⟩ m_law) :=
  fn_ok (N := n_law) (b := b_law) T.F_law sc_law fun cdv A outer s H E hr =>
    (sss_cons (ss_set (i := 1) sc_law.nd rfl (by first | exact Or.inl rfl | exact Or.inr rfl) (se_call (ok_law_names T) (hr.mono (by decide)) (by rfl) T.g_law_names T.F_law_names.kp T.b_law_names pass0 (sa_cons (se_call (ok_law_cell T) (hr.mono (by decide)) (by rfl) T.g_law_cell T.F_law_cell.kp T.b_law_cell pass0 (sa_cons (se_var 0) (sa_cons se_int sa_nil))) (sa_cons se_int sa_nil)))) (sss_cons (ss_set (i := 2) sc_law.nd rfl (by first | exact Or.inl rfl | exact Or.inr rfl) (se_call (ok_law_program T) (hr.mono (by decide)) (by rfl) T.g_law_program T.F_law_program.kp T.b_law_program pass0 (sa_cons (se_sl slm (se_var 0) (so_some se_int) (so_some se_int)) (sa_cons (se_var 1) (sa_cons (se_op om_mod (se_call (ok_law_cell T) (hr.mono (by decide)) (by rfl) T.g_law_cell T.F_law_cell.kp T.b_law_cell pass0 (sa_cons (se_var 0) (sa_cons se_int sa_nil))) se_int) sa_nil))))) (sss_cons (ss_set (i := 3) sc_law.nd rfl (by first | exact Or.inl rfl | exact Or.inr rfl) (se_ix (im_ix (hu65 hr)) (se_lst (sa_cons se_int (sa_cons se_int sa_nil))) (se_callTy cm_int (by rfl) T.z_int bo_int (sa_cons (se_cmp (om_eq (hu65 hr)) (se_op om_mod (se_op om_div (se_call (ok_law_cell T) (hr.mono (by decide)) (by rfl) T.g_law_cell T.F_law_cell.kp T.b_law_cell pass0 (sa_cons (se_var 0) (sa_cons se_int sa_nil))) se_int) se_int) se_int (nomark _)) sa_nil)) (fun _ _ => rfl))) (sss_cons (ss_set (i := 4) sc_law.nd rfl (by first | exact Or.inl rfl | exact Or.inr rfl) (se_callB cm_sort2 (by rfl) T.z_sorted bo_sorted (sa_cons (se_lst (sa_cons (se_op om_mod (se_call (ok_law_cell T) (hr.mono (by decide)) (by rfl) T.g_law_cell T.F_law_cell.kp T.b_law_cell pass0 (sa_cons (se_var 0) (sa_cons se_int sa_nil))) se_int) (sa_cons (se_op om_mod (se_op om_div (se_call (ok_law_cell T) (hr.mono (by decide)) (by rfl) T.g_law_cell T.F_law_cell.kp T.b_law_cell pass0 (sa_cons (se_var 0) (sa_cons se_int sa_nil))) se_int) (se_var 3)) sa_nil))) sa_nil))) (sss_cons (ss_set (i := 5) sc_law.nd rfl (by first | exact Or.inl rfl | exact Or.inr rfl) se_newK) (sss_cons (ss_for PassesOwn.never rfl (si_enum (by rfl) T.z_enumerate (sa_cons (se_var 1) sa_nil)) (sg_tup rfl (sgs_cons (sg_name (i := 6) sc_law.nd rfl (by first | exact Or.inl rfl | exact Or.inr rfl)) (sgs_cons (sg_name (i := 7) sc_law.nd rfl (by first | exact Or.inl rfl | exact Or.inr rfl)) sgs_nil))) (sss_one (ss_asg (se_call (ok_law_operand T) (hr.mono (by decide)) (by rfl) T.g_law_operand T.F_law_operand.kp T.b_law_operand pass0 (sa_cons (se_op om_add se_int (se_op om_mod (se_op om_div (se_call (ok_law_cell T) (hr.mono (by decide)) (by rfl) T.g_law_cell T.F_law_cell.kp T.b_law_cell pass0 (sa_cons (se_var 0) (sa_cons se_int sa_nil))) (se_op om_add (se_var 6) se_int)) se_int)) (sa_cons (se_op om_add (se_op om_div (se_call (ok_law_cell T) (hr.mono (by decide)) (by rfl) T.g_law_cell T.F_law_cell.kp T.b_law_cell pass0 (sa_cons (se_var 0) (sa_cons se_int sa_nil))) se_int) (se_var 6)) (sa_cons (se_var 1) sa_nil)))) (sg_sub (hu65 hr) (se_var 5) (se_var 7))))) (sss_cons (ss_set (i := 8) sc_law.nd rfl (by first | exact Or.inl rfl | exact Or.inr rfl) se_newK) (sss_cons (ss_for PassesOwn.never rfl (si_seq (se_var 1)) (sg_name (i := 7) sc_law.nd rfl (by first | exact Or.inl rfl | exact Or.inr rfl)) (sss_one (ss_if (st_cmp (om_ne (hu65 hr)) (se_ix (im_ix (hu65 hr)) (se_var 5) (se_var 7) (fun _ _ => rfl)) se_int (nomark _)) (sss_one (ss_asg (se_ix (im_ix (hu65 hr)) (se_var 5) (se_var 7) (fun _ _ => rfl)) (sg_sub (hu65 hr) (se_var 8) (se_var 7)))) sss_nil))) (sss_cons (ss_if (st_w (sw_or (st_not (st_tru (se_call (ok_law_good T) (hr.mono (by decide)) (by rfl) T.g_law_good T.F_law_good.kp T.b_law_good pass0 (sa_cons (se_var 2) (sa_cons (se_var 5) (sa_cons (se_ix (im_ix (hu65 hr)) (se_var 4) se_int (fun _ _ => rfl)) (sa_cons (se_ix (im_ix (hu65 hr)) (se_var 4) se_int (fun _ _ => rfl)) sa_nil))))))) (sw_or1 (st_not (st_tru (se_call (ok_law_good T) (hr.mono (by decide)) (by rfl) T.g_law_good T.F_law_good.kp T.b_law_good pass0 (sa_cons (se_var 2) (sa_cons (se_var 8) (sa_cons (se_ix (im_ix (hu65 hr)) (se_var 4) se_int (fun _ _ => rfl)) (sa_cons (se_ix (im_ix (hu65 hr)) (se_var 4) se_int (fun _ _ => rfl)) sa_nil)))))))))) (sss_one (ss_ret se_bl)) sss_nil) (sss_cons (ss_if (st_cmp (om_neT (hu65 hr)) (se_call (ok_run T) (hr.mono (by decide)) (by rfl) T.g_run T.F_run.kp T.b_run pass0 (sa_cons (se_var 2) (sa_cons (se_var 5) (sa_cons (se_ix (im_ix (hu65 hr)) (se_var 4) se_int (fun _ _ => rfl)) sa_nil)))) (se_call (ok_run T) (hr.mono (by decide)) (by rfl) T.g_run T.F_run.kp T.b_run pass0 (sa_cons (se_var 2) (sa_cons (se_var 8) (sa_cons (se_ix (im_ix (hu65 hr)) (se_var 4) se_int (fun _ _ => rfl)) sa_nil)))) (nomark _)) (sss_one (ss_ret se_bl)) sss_nil) (sss_one (ss_ret (se_cmp (om_eqT (hu65 hr)) (se_call (ok_run T) (hr.mono (by decide)) (by rfl) T.g_run T.F_run.kp T.b_run pass0 (sa_cons (se_var 2) (sa_cons (se_var 5) (sa_cons se_int sa_nil)))) (se_tup (sa_cons (se_str q_spent) (sa_cons (se_lst sa_nil) (sa_cons (se_var 8) (sa_cons (se_lst sa_nil) sa_nil))))) (nomark _))))))))))))))
end
theorem all_mk {P : Program} {w : World} {K : PySem.W.Frag} {h : Heap} {mg : Str → Option Value} {fa : Addr} (X : K.In h) (G : h.Ns mainGlobals mg) (hfa : mg "law" = some (.ref fa))
    {cC1 : Addr}
    {od1 an1 : Option Addr} {sl1 : Array (Option Value)} {oc1 kV1 dc1 pm1 cd1 ct1 : Value} {f1 : Addr}
    {od2 an2 : Option Addr} {sl2 : Array (Option Value)} {oc2 kV2 dc2 pm2 cd2 ct2 : Value} {f2 : Addr}
    {od3 an3 : Option Addr} {sl3 : Array (Option Value)} {oc3 kV3 dc3 pm3 cd3 ct3 : Value} {f3 : Addr}
    {od4 an4 : Option Addr} {sl4 : Array (Option Value)} {oc4 kV4 dc4 pm4 cd4 ct4 : Value} {f4 : Addr}
    {od5 an5 : Option Addr} {sl5 : Array (Option Value)} {oc5 kV5 dc5 pm5 cd5 ct5 : Value} {f5 : Addr}
    {od6 an6 : Option Addr} {sl6 : Array (Option Value)} {oc6 kV6 dc6 pm6 cd6 ct6 : Value} {f6 : Addr}
    {od7 an7 : Option Addr} {sl7 : Array (Option Value)} {oc7 kV7 dc7 pm7 cd7 ct7 : Value} {f7 : Addr}
    {od8 an8 : Option Addr} {sl8 : Array (Option Value)} {oc8 kV8 dc8 pm8 cd8 ct8 : Value} {f8 : Addr}
    {od9 an9 : Option Addr} {sl9 : Array (Option Value)} {oc9 kV9 dc9 pm9 cd9 ct9 : Value} {f9 : Addr}
    {od10 an10 : Option Addr} {sl10 : Array (Option Value)} {oc10 kV10 dc10 pm10 cd10 ct10 : Value} {f10 : Addr}
    {dT11 : Addr} {dd11 : Option Addr} {ds11 : Array (Option Value)} {dn11 : Nat} {dk11_0 : Tok}
    {od11 an11 : Option Addr} {sl11 : Array (Option Value)} {oc11 kV11 dc11 pm11 cd11 ct11 : Value} {f11 : Addr}
    {od12 an12 : Option Addr} {sl12 : Array (Option Value)} {oc12 kV12 dc12 pm12 cd12 ct12 : Value} {f12 : Addr}
    {od13 an13 : Option Addr} {sl13 : Array (Option Value)} {oc13 kV13 dc13 pm13 cd13 ct13 : Value} {f13 : Addr}
    {od14 an14 : Option Addr} {sl14 : Array (Option Value)} {oc14 kV14 dc14 pm14 cd14 ct14 : Value} {f14 : Addr}
    {od15 an15 : Option Addr} {sl15 : Array (Option Value)} {oc15 kV15 dc15 pm15 cd15 ct15 : Value} {f15 : Addr}
    {od16 an16 : Option Addr} {sl16 : Array (Option Value)} {oc16 kV16 dc16 pm16 cd16 ct16 : Value} {f16 : Addr}
    {od17 an17 : Option Addr} {sl17 : Array (Option Value)} {oc17 kV17 dc17 pm17 cd17 ct17 : Value} {f17 : Addr}
    {od18 an18 : Option Addr} {sl18 : Array (Option Value)} {oc18 kV18 dc18 pm18 cd18 ct18 : Value} {f18 : Addr}
    {od19 an19 : Option Addr} {sl19 : Array (Option Value)} {oc19 kV19 dc19 pm19 cd19 ct19 : Value} {f19 : Addr}
    {od20 an20 : Option Addr} {sl20 : Array (Option Value)} {oc20 kV20 dc20 pm20 cd20 ct20 : Value} {f20 : Addr}
    {od21 an21 : Option Addr} {sl21 : Array (Option Value)} {oc21 kV21 dc21 pm21 cd21 ct21 : Value} {f21 : Addr}
    {tk1 : Tok}
    (cg1 : PySem.W.nsIn K mainGlobals "Run" = some (some (.ref cC1))) (cp1 : PySem.W.plainGet K cC1 Str.empty = true) (ch1 : PySem.W.hasDictIn K cC1 = true) (co1 : PySem.W.plainOver K cC1 = true) (cs1 : PySem.W.findIn K (.ref cC1) "__setattr__" = some (some (.builtin "object.__setattr__"))) (cm1 : PySem.W.makesIn K cC1 = true) (ck1 : PySem.W.keepIn K (.ref cC1) = true)
    (cf6 : PySem.W.findIn K (.ref cC1) "__init__" = some (some (.ref f6))) (ci6 : PySem.W.isFn K (.ref f6) = true)
    (cf7 : PySem.W.findIn K (.ref cC1) "worth" = some (some (.ref f7))) (ci7 : PySem.W.isFn K (.ref f7) = true)
    (cf9 : PySem.W.findIn K (.ref cC1) "step" = some (some (.ref f9))) (ci9 : PySem.W.isFn K (.ref f9) = true)
    (cf10 : PySem.W.findIn K (.ref cC1) "told" = some (some (.ref f10))) (ci10 : PySem.W.isFn K (.ref f10) = true)
    (ca1_at : PySem.W.findIn K (.ref cC1) "at" = some none)
    (ca1_said : PySem.W.findIn K (.ref cC1) "said" = some none)
    (ca1_way : PySem.W.findIn K (.ref cC1) "way" = some none)
    (ca1_worths : PySem.W.findIn K (.ref cC1) "worths" = some none)
    (a1 : PySem.W.nsIn K mainGlobals "_law_cell" = some (some (.ref f1))) (l1 : K.lookup f1 = some ⟨oc1, od1, .func (PySem.W.fnOf "_law_cell" "_law_cell" (defArgs s_law_cell) (defBody s_law_cell) (defScope s_law_cell) .none kV1 dc1 pm1 an1 cd1 ct1), sl1⟩) (c1 : PySem.W.codeIn K cd1 "_law_cell" = true) (k1 : PySem.W.keepIn K (.ref f1) = true)
    (a2 : PySem.W.nsIn K mainGlobals "followers" = some (some (.ref f2))) (l2 : K.lookup f2 = some ⟨oc2, od2, .func (PySem.W.fnOf "followers" "followers" (defArgs s_followers) (defBody s_followers) (defScope s_followers) .none kV2 dc2 pm2 an2 cd2 ct2), sl2⟩) (c2 : PySem.W.codeIn K cd2 "followers" = true) (k2 : PySem.W.keepIn K (.ref f2) = true)
    (a3 : PySem.W.nsIn K mainGlobals "is_way" = some (some (.ref f3))) (l3 : K.lookup f3 = some ⟨oc3, od3, .func (PySem.W.fnOf "is_way" "is_way" (defArgs s_is_way) (defBody s_is_way) (defScope s_is_way) .none kV3 dc3 pm3 an3 cd3 ct3), sl3⟩) (c3 : PySem.W.codeIn K cd3 "is_way" = true) (k3 : PySem.W.keepIn K (.ref f3) = true)
    (a4 : PySem.W.nsIn K mainGlobals "is_end" = some (some (.ref f4))) (l4 : K.lookup f4 = some ⟨oc4, od4, .func (PySem.W.fnOf "is_end" "is_end" (defArgs s_is_end) (defBody s_is_end) (defScope s_is_end) .none kV4 dc4 pm4 an4 cd4 ct4), sl4⟩) (c4 : PySem.W.codeIn K cd4 "is_end" = true) (k4 : PySem.W.keepIn K (.ref f4) = true)
    (a5 : PySem.W.nsIn K mainGlobals "is_whole" = some (some (.ref f5))) (l5 : K.lookup f5 = some ⟨oc5, od5, .func (PySem.W.fnOf "is_whole" "is_whole" (defArgs s_is_whole) (defBody s_is_whole) (defScope s_is_whole) .none kV5 dc5 pm5 an5 cd5 ct5), sl5⟩) (c5 : PySem.W.codeIn K cd5 "is_whole" = true) (k5 : PySem.W.keepIn K (.ref f5) = true)
    (l6 : K.lookup f6 = some ⟨oc6, od6, .func (PySem.W.fnOf "__init__" "Run.__init__" (defArgs s_Run__init) (defBody s_Run__init) (defScope s_Run__init) .none kV6 dc6 pm6 an6 cd6 ct6), sl6⟩) (c6 : PySem.W.codeIn K cd6 "Run.__init__" = true) (k6 : PySem.W.keepIn K (.ref f6) = true)
    (l7 : K.lookup f7 = some ⟨oc7, od7, .func (PySem.W.fnOf "worth" "Run.worth" (defArgs s_Run_worth) (defBody s_Run_worth) (defScope s_Run_worth) .none kV7 dc7 pm7 an7 cd7 ct7), sl7⟩) (c7 : PySem.W.codeIn K cd7 "Run.worth" = true) (k7 : PySem.W.keepIn K (.ref f7) = true)
    (a8 : PySem.W.nsIn K mainGlobals "reckoned" = some (some (.ref f8))) (l8 : K.lookup f8 = some ⟨oc8, od8, .func (PySem.W.fnOf "reckoned" "reckoned" (defArgs s_reckoned) (defBody s_reckoned) (defScope s_reckoned) .none kV8 dc8 pm8 an8 cd8 ct8), sl8⟩) (c8 : PySem.W.codeIn K cd8 "reckoned" = true) (k8 : PySem.W.keepIn K (.ref f8) = true)
    (l9 : K.lookup f9 = some ⟨oc9, od9, .func (PySem.W.fnOf "step" "Run.step" (defArgs s_Run_step) (defBody s_Run_step) (defScope s_Run_step) .none kV9 dc9 pm9 an9 cd9 ct9), sl9⟩) (c9 : PySem.W.codeIn K cd9 "Run.step" = true) (k9 : PySem.W.keepIn K (.ref f9) = true)
    (l10 : K.lookup f10 = some ⟨oc10, od10, .func (PySem.W.fnOf "told" "Run.told" (defArgs s_Run_told) (defBody s_Run_told) (defScope s_Run_told) .none kV10 dc10 pm10 an10 cd10 ct10), sl10⟩) (c10 : PySem.W.codeIn K cd10 "Run.told" = true) (k10 : PySem.W.keepIn K (.ref f10) = true)
    (a11 : PySem.W.nsIn K mainGlobals "run" = some (some (.ref f11))) (l11 : K.lookup f11 = some ⟨oc11, od11, .func (PySem.W.fnOf "run" "run" (defArgs s_run) (defBody s_run) (defScope s_run) (.ref dT11) kV11 dc11 pm11 an11 cd11 ct11), sl11⟩) (c11 : PySem.W.codeIn K cd11 "run" = true) (k11 : PySem.W.keepIn K (.ref f11) = true)
    (e11 : K.lookup dT11 = some ⟨.type "tuple", dd11, .seq #[.int 1000 dk11_0] dn11, ds11⟩)
    (a12 : PySem.W.nsIn K mainGlobals "_law_good" = some (some (.ref f12))) (l12 : K.lookup f12 = some ⟨oc12, od12, .func (PySem.W.fnOf "_law_good" "_law_good" (defArgs s_law_good) (defBody s_law_good) (defScope s_law_good) .none kV12 dc12 pm12 an12 cd12 ct12), sl12⟩) (c12 : PySem.W.codeIn K cd12 "_law_good" = true) (k12 : PySem.W.keepIn K (.ref f12) = true)
    (a13 : PySem.W.nsIn K mainGlobals "_law_names" = some (some (.ref f13))) (l13 : K.lookup f13 = some ⟨oc13, od13, .func (PySem.W.fnOf "_law_names" "_law_names" (defArgs s_law_names) (defBody s_law_names) (defScope s_law_names) .none kV13 dc13 pm13 an13 cd13 ct13), sl13⟩) (c13 : PySem.W.codeIn K cd13 "_law_names" = true) (k13 : PySem.W.keepIn K (.ref f13) = true)
    (a14 : PySem.W.nsIn K mainGlobals "_law_operand" = some (some (.ref f14))) (l14 : K.lookup f14 = some ⟨oc14, od14, .func (PySem.W.fnOf "_law_operand" "_law_operand" (defArgs s_law_operand) (defBody s_law_operand) (defScope s_law_operand) .none kV14 dc14 pm14 an14 cd14 ct14), sl14⟩) (c14 : PySem.W.codeIn K cd14 "_law_operand" = true) (k14 : PySem.W.keepIn K (.ref f14) = true)
    (a15 : PySem.W.nsIn K mainGlobals "_law_digits" = some (some (.ref f15))) (l15 : K.lookup f15 = some ⟨oc15, od15, .func (PySem.W.fnOf "_law_digits" "_law_digits" (defArgs s_law_digits) (defBody s_law_digits) (defScope s_law_digits) .none kV15 dc15 pm15 an15 cd15 ct15), sl15⟩) (c15 : PySem.W.codeIn K cd15 "_law_digits" = true) (k15 : PySem.W.keepIn K (.ref f15) = true)
    (a16 : PySem.W.nsIn K mainGlobals "_law_row" = some (some (.ref f16))) (l16 : K.lookup f16 = some ⟨oc16, od16, .func (PySem.W.fnOf "_law_row" "_law_row" (defArgs s_law_row) (defBody s_law_row) (defScope s_law_row) .none kV16 dc16 pm16 an16 cd16 ct16), sl16⟩) (c16 : PySem.W.codeIn K cd16 "_law_row" = true) (k16 : PySem.W.keepIn K (.ref f16) = true)
    (a17 : PySem.W.nsIn K mainGlobals "_law_shut" = some (some (.ref f17))) (l17 : K.lookup f17 = some ⟨oc17, od17, .func (PySem.W.fnOf "_law_shut" "_law_shut" (defArgs s_law_shut) (defBody s_law_shut) (defScope s_law_shut) .none kV17 dc17 pm17 an17 cd17 ct17), sl17⟩) (c17 : PySem.W.codeIn K cd17 "_law_shut" = true) (k17 : PySem.W.keepIn K (.ref f17) = true)
    (a18 : PySem.W.nsIn K mainGlobals "_law_tested" = some (some (.ref f18))) (l18 : K.lookup f18 = some ⟨oc18, od18, .func (PySem.W.fnOf "_law_tested" "_law_tested" (defArgs s_law_tested) (defBody s_law_tested) (defScope s_law_tested) .none kV18 dc18 pm18 an18 cd18 ct18), sl18⟩) (c18 : PySem.W.codeIn K cd18 "_law_tested" = true) (k18 : PySem.W.keepIn K (.ref f18) = true)
    (a19 : PySem.W.nsIn K mainGlobals "_law_turned_to" = some (some (.ref f19))) (l19 : K.lookup f19 = some ⟨oc19, od19, .func (PySem.W.fnOf "_law_turned_to" "_law_turned_to" (defArgs s_law_turned_to) (defBody s_law_turned_to) (defScope s_law_turned_to) .none kV19 dc19 pm19 an19 cd19 ct19), sl19⟩) (c19 : PySem.W.codeIn K cd19 "_law_turned_to" = true) (k19 : PySem.W.keepIn K (.ref f19) = true)
    (a20 : PySem.W.nsIn K mainGlobals "_law_program" = some (some (.ref f20))) (l20 : K.lookup f20 = some ⟨oc20, od20, .func (PySem.W.fnOf "_law_program" "_law_program" (defArgs s_law_program) (defBody s_law_program) (defScope s_law_program) .none kV20 dc20 pm20 an20 cd20 ct20), sl20⟩) (c20 : PySem.W.codeIn K cd20 "_law_program" = true) (k20 : PySem.W.keepIn K (.ref f20) = true)
    (a21 : PySem.W.nsIn K mainGlobals "law" = some (some (.ref f21))) (l21 : K.lookup f21 = some ⟨oc21, od21, .func (PySem.W.fnOf "law" "law" (defArgs s_law) (defBody s_law) (defScope s_law) .none kV21 dc21 pm21 an21 cd21 ct21), sl21⟩) (c21 : PySem.W.codeIn K cd21 "law" = true) (k21 : PySem.W.keepIn K (.ref f21) = true)
    (z1 : PySem.W.nsIn K mainGlobals "abs" = some none)
    (z2 : PySem.W.nsIn K mainGlobals "dict" = some none)
    (z3 : PySem.W.nsIn K mainGlobals "enumerate" = some none)
    (z4 : PySem.W.nsIn K mainGlobals "int" = some none)
    (z5 : PySem.W.nsIn K mainGlobals "isinstance" = some none)
    (z6 : PySem.W.nsIn K mainGlobals "len" = some none)
    (z7 : PySem.W.nsIn K mainGlobals "range" = some none)
    (z8 : PySem.W.nsIn K mainGlobals "sorted" = some none)
    (z9 : PySem.W.nsIn K mainGlobals "str" = some none)
    (u1 : PySem.W.nsIn K mainGlobals "WORTHS" = some (some (.int 18446744073709551616 tk1)))
    (pure : ∀ ns : List Int, ns.length ≤ 63 → ∃ S, m_law [.ref 0] [.fls (ns.map .int)] = .ok (.bl true) S) :
    ∃ fd : FuncData, (∀ (s : Shared) (v : Value), BindsTo s fd ⟨[v], []⟩ [("_law_script", v)]) ∧ ∀ base : Heap, K.In base → base.Ns mainGlobals mg → FnOk P w K mg base CX0 5 fa fd ["_law_script"] (spLaw K) := by
  have e := hfa.symm.trans (PySem.W.mg_of X G a21)
  cases e
  have F1 := fun_mk (st := s_law_cell) l1 c1 k1
  have F2 := fun_mk (st := s_followers) l2 c2 k2
  have F3 := fun_mk (st := s_is_way) l3 c3 k3
  have F4 := fun_mk (st := s_is_end) l4 c4 k4
  have F5 := fun_mk (st := s_is_whole) l5 c5 k5
  have F6 := fun_mk (st := s_Run__init) l6 c6 k6
  have F7 := fun_mk (st := s_Run_worth) l7 c7 k7
  have F8 := fun_mk (st := s_reckoned) l8 c8 k8
  have F9 := fun_mk (st := s_Run_step) l9 c9 k9
  have F10 := fun_mk (st := s_Run_told) l10 c10 k10
  have F11 := fnD_mk (st := s_run) (dvs := [V.int 1000]) (its := [.int 1000 dk11_0]) l11 c11 k11 e11 (.cons ⟨_, rfl⟩ (.nil)) (List.cons_ne_nil _ _)
  have F12 := fun_mk (st := s_law_good) l12 c12 k12
  have F13 := fun_mk (st := s_law_names) l13 c13 k13
  have F14 := fun_mk (st := s_law_operand) l14 c14 k14
  have F15 := fun_mk (st := s_law_digits) l15 c15 k15
  have F16 := fun_mk (st := s_law_row) l16 c16 k16
  have F17 := fun_mk (st := s_law_shut) l17 c17 k17
  have F18 := fun_mk (st := s_law_tested) l18 c18 k18
  have F19 := fun_mk (st := s_law_turned_to) l19 c19 k19
  have F20 := fun_mk (st := s_law_program) l20 c20 k20
  have F21 := fun_mk (st := s_law) l21 c21 k21
  let T : Txt K mg := {
    f_law_cell := f1, fd_law_cell := _, F_law_cell := F1, g_law_cell := PySem.W.mg_of X G a1, b_law_cell := F1.binds (ps := ["_law_script", "_law_k"]) fun _ _ _ _ _ _ us hl => match us, hl with | [_, _], _ => rfl,
    f_followers := f2, fd_followers := _, F_followers := F2, g_followers := PySem.W.mg_of X G a2, b_followers := F2.binds (ps := ["program", "n"]) fun _ _ _ _ _ _ us hl => match us, hl with | [_, _], _ => rfl,
    f_is_way := f3, fd_is_way := _, F_is_way := F3, g_is_way := PySem.W.mg_of X G a3, b_is_way := F3.binds (ps := ["program", "way"]) fun _ _ _ _ _ _ us hl => match us, hl with | [_, _], _ => rfl,
    f_is_end := f4, fd_is_end := _, F_is_end := F4, g_is_end := PySem.W.mg_of X G a4, b_is_end := F4.binds (ps := ["program", "n"]) fun _ _ _ _ _ _ us hl => match us, hl with | [_, _], _ => rfl,
    f_is_whole := f5, fd_is_whole := _, F_is_whole := F5, g_is_whole := PySem.W.mg_of X G a5, b_is_whole := F5.binds (ps := ["program", "way"]) fun _ _ _ _ _ _ us hl => match us, hl with | [_, _], _ => rfl,
    f_Run__init := f6, fd_Run__init := _, F_Run__init := F6, b_Run__init := F6.binds (ps := ["self", "names"]) fun _ _ _ _ _ _ us hl => match us, hl with | [_, _], _ => rfl,
    f_Run_worth := f7, fd_Run_worth := _, F_Run_worth := F7, b_Run_worth := F7.binds (ps := ["self", "operand"]) fun _ _ _ _ _ _ us hl => match us, hl with | [_, _], _ => rfl,
    f_reckoned := f8, fd_reckoned := _, F_reckoned := F8, g_reckoned := PySem.W.mg_of X G a8, b_reckoned := F8.binds (ps := ["s", "a", "b"]) fun _ _ _ _ _ _ us hl => match us, hl with | [_, _, _], _ => rfl,
    f_Run_step := f9, fd_Run_step := _, F_Run_step := F9, b_Run_step := F9.binds (ps := ["self", "row"]) fun _ _ _ _ _ _ us hl => match us, hl with | [_, _], _ => rfl,
    f_Run_told := f10, fd_Run_told := _, F_Run_told := F10, b_Run_told := F10.binds (ps := ["self", "word"]) fun _ _ _ _ _ _ us hl => match us, hl with | [_, _], _ => rfl,
    f_run := f11, fd_run := _, F_run := F11, g_run := PySem.W.mg_of X G a11, b_run := fnD_all F11 3 (fun _ _ _ _ _ _ _ us its hl hi => match us, its, hl, hi with | [_, _, _], [_], _, _ => ⟨_, rfl, rfl⟩), c_run := fnD_dfl F11 2 (fun _ _ _ _ _ _ _ us its hl hi => match us, its, hl, hi with | [_, _], [_], _, _ => ⟨_, rfl, rfl⟩),
    f_law_good := f12, fd_law_good := _, F_law_good := F12, g_law_good := PySem.W.mg_of X G a12, b_law_good := F12.binds (ps := ["_law_program_here", "_law_handed", "_law_fewer", "_law_more"]) fun _ _ _ _ _ _ us hl => match us, hl with | [_, _, _, _], _ => rfl,
    f_law_names := f13, fd_law_names := _, F_law_names := F13, g_law_names := PySem.W.mg_of X G a13, b_law_names := F13.binds (ps := ["_law_cell_here", "_law_many"]) fun _ _ _ _ _ _ us hl => match us, hl with | [_, _], _ => rfl,
    f_law_operand := f14, fd_law_operand := _, F_law_operand := F14, g_law_operand := PySem.W.mg_of X G a14, b_law_operand := F14.binds (ps := ["_law_digit", "_law_cell_here", "_law_names_here"]) fun _ _ _ _ _ _ us hl => match us, hl with | [_, _, _], _ => rfl,
    f_law_digits := f15, fd_law_digits := _, F_law_digits := F15, g_law_digits := PySem.W.mg_of X G a15, b_law_digits := F15.binds (ps := ["_law_cell_here", "_law_sizes"]) fun _ _ _ _ _ _ us hl => match us, hl with | [_, _], _ => rfl,
    f_law_row := f16, fd_law_row := _, F_law_row := F16, g_law_row := PySem.W.mg_of X G a16, b_law_row := F16.binds (ps := ["_law_cell_here", "_law_names_here"]) fun _ _ _ _ _ _ us hl => match us, hl with | [_, _], _ => rfl,
    f_law_shut := f17, fd_law_shut := _, F_law_shut := F17, g_law_shut := PySem.W.mg_of X G a17, b_law_shut := F17.binds (ps := ["_law_rows", "_law_begin", "_law_cell_here", "_law_outer"]) fun _ _ _ _ _ _ us hl => match us, hl with | [_, _, _, _], _ => rfl,
    f_law_tested := f18, fd_law_tested := _, F_law_tested := F18, g_law_tested := PySem.W.mg_of X G a18, b_law_tested := F18.binds (ps := ["_law_rows", "_law_name"]) fun _ _ _ _ _ _ us hl => match us, hl with | [_, _], _ => rfl,
    f_law_turned_to := f19, fd_law_turned_to := _, F_law_turned_to := F19, g_law_turned_to := PySem.W.mg_of X G a19, b_law_turned_to := F19.binds (ps := ["_law_rows"]) fun _ _ _ _ _ _ us hl => match us, hl with | [_], _ => rfl,
    f_law_program := f20, fd_law_program := _, F_law_program := F20, g_law_program := PySem.W.mg_of X G a20, b_law_program := F20.binds (ps := ["_law_cells", "_law_names_here", "_law_more"]) fun _ _ _ _ _ _ us hl => match us, hl with | [_, _, _], _ => rfl,
    f_law := fa, fd_law := _, F_law := F21, g_law := PySem.W.mg_of X G a21, b_law := F21.binds (ps := ["_law_script"]) fun _ _ _ _ _ _ us hl => match us, hl with | [_], _ => rfl,
    C_Run := cC1, xg_Run := PySem.W.mg_of X G cg1, cl_Run := ⟨cp1, ch1, co1, cs1⟩, mk_Run := ⟨cm1, cf6, ci6, ck1⟩,
    mt_Run_worth := ⟨cf7, ci7, k7⟩,
    mt_Run_step := ⟨cf9, ci9, k9⟩,
    mt_Run_told := ⟨cf10, ci10, k10⟩,
    na_Run_at := ca1_at,
    na_Run_said := ca1_said,
    na_Run_way := ca1_way,
    na_Run_worths := ca1_worths,
    z_abs := PySem.W.mg_none_of X G z1,
    z_dict := PySem.W.mg_none_of X G z2,
    z_enumerate := PySem.W.mg_none_of X G z3,
    z_int := PySem.W.mg_none_of X G z4,
    z_isinstance := PySem.W.mg_none_of X G z5,
    z_len := PySem.W.mg_none_of X G z6,
    z_range := PySem.W.mg_none_of X G z7,
    z_sorted := PySem.W.mg_none_of X G z8,
    z_str := PySem.W.mg_none_of X G z9,
    tk_WORTHS := tk1, g_WORTHS := PySem.W.mg_of X G u1 }
  exact ⟨T.fd_law, fun s v => .of_eq rfl, fun base _ _ => (ok_law T).imp (law_sp pure)⟩
end Lk22
open PySem PySem.W PyProof.Rows
set_option maxRecDepth 100000 in
set_option maxHeartbeats 0 in
theorem PySem.Challenge.cw_lazyhoist_k22_runs_are_ways_holds : PySem.Challenge.rw_lazyhoist_k22_runs_are_ways.Holds := by
  w_on; o_law; k_head; (case hw => w_witness2)
  k_fill
  refine L2.walk_of (l := PySem.Challenge.rw_lazyhoist_k22_runs_are_ways) (n := 63) (k := 5) (x := "_law_script") (CX := fun _ => L2.CX0) (sp := fun w => Sm.spLaw _) rfl (by decide) rfl ⟨rfl, by decide, by decide⟩ (fun w h Y => PySem.W.kIn_of Y) ?F (fun _ _ a ns hl hO hS => ⟨a, ns, rfl, hS, hO, hl, fun _ => rfl⟩) (fun _ _ _ _ _ h => h)
  case F =>
    intro w mg fa h KX G hmg
    refine' Lk22.all_mk KX G hmg ?cg1 ?cp1 ?ch1 ?co1 ?cs1 ?cm1 ?ck1 ?cf6 ?ci6 ?cf7 ?ci7 ?cf9 ?ci9 ?cf10 ?ci10 ?ca1_at ?ca1_said ?ca1_way ?ca1_worths ?a1 ?l1 ?c1 ?k1 ?a2 ?l2 ?c2 ?k2 ?a3 ?l3 ?c3 ?k3 ?a4 ?l4 ?c4 ?k4 ?a5 ?l5 ?c5 ?k5 ?l6 ?c6 ?k6 ?l7 ?c7 ?k7 ?a8 ?l8 ?c8 ?k8 ?l9 ?c9 ?k9 ?l10 ?c10 ?k10 ?a11 ?l11 ?c11 ?k11 ?e11 ?a12 ?l12 ?c12 ?k12 ?a13 ?l13 ?c13 ?k13 ?a14 ?l14 ?c14 ?k14 ?a15 ?l15 ?c15 ?k15 ?a16 ?l16 ?c16 ?k16 ?a17 ?l17 ?c17 ?k17 ?a18 ?l18 ?c18 ?k18 ?a19 ?l19 ?c19 ?k19 ?a20 ?l20 ?c20 ?k20 ?a21 ?l21 ?c21 ?k21 ?z1 ?z2 ?z3 ?z4 ?z5 ?z6 ?z7 ?z8 ?z9 ?u1 ?pure
    (case cg1 => k_is); (case cp1 => k_is); (case ch1 => k_is); (case co1 => k_is); (case cs1 => k_is); (case cm1 => k_is); (case ck1 => k_is); (case cf6 => k_is)
    (case ci6 => k_is); (case cf7 => k_is); (case ci7 => k_is); (case cf9 => k_is); (case ci9 => k_is); (case cf10 => k_is); (case ci10 => k_is); (case ca1_at => k_is)
    (case ca1_said => k_is); (case ca1_way => k_is); (case ca1_worths => k_is); (case a1 => k_is); (case l1 => k_is); (case c1 => k_is); (case k1 => k_is)
    (case a2 => k_is); (case l2 => k_is); (case c2 => k_is); (case k2 => k_is); (case a3 => k_is); (case l3 => k_is); (case c3 => k_is); (case k3 => k_is)
    (case a4 => k_is); (case l4 => k_is); (case c4 => k_is); (case k4 => k_is); (case a5 => k_is); (case l5 => k_is); (case c5 => k_is); (case k5 => k_is)
    (case l6 => k_is); (case c6 => k_is); (case k6 => k_is); (case l7 => k_is); (case c7 => k_is); (case k7 => k_is); (case a8 => k_is); (case l8 => k_is)
    (case c8 => k_is); (case k8 => k_is); (case l9 => k_is); (case c9 => k_is); (case k9 => k_is); (case l10 => k_is); (case c10 => k_is); (case k10 => k_is)
    (case a11 => k_is); (case l11 => k_is); (case c11 => k_is); (case k11 => k_is); (case e11 => k_is); (case a12 => k_is); (case l12 => k_is); (case c12 => k_is)
    (case k12 => k_is); (case a13 => k_is); (case l13 => k_is); (case c13 => k_is); (case k13 => k_is); (case a14 => k_is); (case l14 => k_is); (case c14 => k_is)
    (case k14 => k_is); (case a15 => k_is); (case l15 => k_is); (case c15 => k_is); (case k15 => k_is); (case a16 => k_is); (case l16 => k_is); (case c16 => k_is)
    (case k16 => k_is); (case a17 => k_is); (case l17 => k_is); (case c17 => k_is); (case k17 => k_is); (case a18 => k_is); (case l18 => k_is); (case c18 => k_is)
    (case k18 => k_is); (case a19 => k_is); (case l19 => k_is); (case c19 => k_is); (case k19 => k_is); (case a20 => k_is); (case l20 => k_is); (case c20 => k_is)
    (case k20 => k_is); (case a21 => k_is); (case l21 => k_is); (case c21 => k_is); (case k21 => k_is); (case z1 => k_is); (case z2 => k_is); (case z3 => k_is)
    (case z4 => k_is); (case z5 => k_is); (case z6 => k_is); (case z7 => k_is); (case z8 => k_is); (case z9 => k_is); (case u1 => k_is)
    (case pure => exact Lk22.law_pure)
