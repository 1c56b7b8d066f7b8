import PyProof.Rows.All
import PyProof.EqLayable
import PySem.Builtin.Str.Common
import Wide.All
import OpenK.AllK
import Wide.FinOn
import HandS.ForMost
import HandS.Wide
import HandS.Deep
import HandS.IsInst
import HandS.Walk
import HandS.TupLen
import HandS.Exc
import HandS.Replace
import HandS.Conv
import HandS.More
import HandS.NoneIn
import HandS.RevRange
import HandS.Text
import HandS.FStr
import HandS.RaiseMore
import KE.KxIndex
import HandS.TupAny
import PyProof.EqAt
import PyProof.EqKinds
import HandS.Iter
import HandS.Dict
import HandS.DictTup
import HandS.DictComp
import HandS.Finally
import KE.KDictWalk
import KE.KDictCopyH
import HandS.Defaults
import KE.KDictPairs
import KE.DataFind
import HandS.ForExc
import HandS.ExcInit
import HandS.ExcField
import HandS.TryOnly
import HandS.WordsExc
import HandS.WideBits
import KE.KDictList
import HandS.ListEq
import HandS.DeepEq
import HandS.Sort
import HandS.SortRule
import HandS.Zip
import KE.KExcIs
import HandS.ExcIs
import HandS.Rev
import HandS.RevTup
import HandS.StrMore
import PySem.Challenge.RW_lazyhoist_k15_texts_refused
set_option Elab.async false
set_option linter.all false
/-! Mi: a small language of values, stores and steps, in plain Lean. -/
namespace Mi
abbrev Tx := List Nat
inductive D where
  | non | bl (b : Bool) | int (i : Int) | str (s : Tx) | tup (l : List D) | wtp (l : List D) | ref (n : Nat)
abbrev Ky := Sum Int Tx
inductive O where
  | lst (l : List D) | fls (l : List D) | dK (k : List (Ky × D)) | dT (k : List (List Ky × D)) | zK (k : List (Ky × D)) | zT (k : List (List Ky × D)) | ins (C : String) (f : List (Tx × D)) | exn (C : String) (f : List (Tx × D))
abbrev Store := List O
structure Exn where
  cls : String
  fs : List (Tx × D)
inductive Res (α : Type) where
  | ok (a : α) (S : Store) | exc (x : Exn) (S : Store) | bad
def Res.bind {α β : Type} : Res α → (α → Store → Res β) → Res β
  | .ok a S, f => f a S
  | .exc x S, _ => .exc x S
  | .bad, _ => .bad
@[simp] theorem bind_ok {α β : Type} (a : α) (S : Store) (f : α → Store → Res β) : (Res.ok a S).bind f = f a S := rfl
@[simp] theorem bind_exc {α β : Type} (x : Exn) (S : Store) (f : α → Store → Res β) : (Res.exc x S).bind f = .exc x S := rfl
@[simp] theorem bind_bad {α β : Type} (f : α → Store → Res β) : (Res.bad : Res α).bind f = .bad := rfl
abbrev Fr := List (Option D)
abbrev EM := Fr → Store → Res D
abbrev TM := Fr → Store → Res Bool
abbrev AM := Fr → Store → Res (List D)
inductive Out where
  | nx (fr : Fr) | rt (d : D) | bk (fr : Fr) | ct (fr : Fr)
abbrev SM := Fr → Store → Res Out
abbrev Op2 := D → D → Store → Res D
abbrev Fn := List D → Store → Res D
abbrev LINE : Nat := 16777216

/-! ### data -/
mutual
def toP (rd : Nat → Option PySem.PyData) : D → Option PySem.PyData
  | .non => some .none
  | .bl b => some (.bool b)
  | .int i => some (.int i)
  | .str s => some (.str ⟨s.toArray⟩)
  | .tup l => (toPs rd l).map .tuple
  | .wtp l => (toPs rd l).map .tuple
  | .ref n => rd n
def toPs (rd : Nat → Option PySem.PyData) : List D → Option (List PySem.PyData)
  | [] => some []
  | d :: l => (toP rd d).bind fun p => (toPs rd l).map fun r => p :: r
end
def lookP : Nat → Store → Nat → Option PySem.PyData
  | 0, _, _ => none
  | k + 1, S, n => match S[n]? with
    | some (.lst l) => (toPs (lookP k S) l).map .list
    | some (.fls l) => (toPs (lookP k S) l).map .list
    | _ => none
def pd (S : Store) (d : D) : Option PySem.PyData := toP (lookP 8 S) d
def shp (p : PySem.PyData) : Bool := PySem.SeqAt.shaped p
/-- == of scalars -/
def scq : D → D → Option Bool
  | .non, .non => some true
  | .non, .int _ => some false | .int _, .non => some false
  | .non, .bl _ => some false | .bl _, .non => some false
  | .non, .str _ => some false | .str _, .non => some false
  | .int i, .int j => some (decide (i = j))
  | .bl a, .bl b => some (decide (a = b))
  | .str a, .str b => some (decide (a = b))
  | .int _, .str _ => some false | .str _, .int _ => some false
  | .bl _, .str _ => some false | .str _, .bl _ => some false
  | _, _ => none
def pyEq (x y : D) (S : Store) : Option Bool := match scq x y with
  | some b => some b
  | none => match pd S x, pd S y with
    | some p, some q => if shp p = true ∧ shp q = true then some (PySem.PyData.eqv p q) else none
    | _, _ => none
def oEq : Op2 := fun x y S => match pyEq x y S with
  | some b => .ok (.bl b) S
  | none => .bad
def oNe : Op2 := fun x y S => match pyEq x y S with
  | some b => .ok (.bl (!b)) S
  | none => .bad
def isN : D → Bool
  | .non => true
  | _ => false
def oIs : Op2 := fun x y S => if isN y then .ok (.bl (isN x)) S else .bad
def oIsNot : Op2 := fun x y S => if isN y then .ok (.bl (!isN x)) S else .bad

/-! ### keys -/
def kyOf : D → Option Ky
  | .int i => some (.inl i)
  | .str s => some (.inr s)
  | _ => none
def kyD : Ky → D
  | .inl i => .int i
  | .inr s => .str s
def kysOf : List D → Option (List Ky)
  | [] => some []
  | d :: l => (kyOf d).bind fun k => (kysOf l).map fun r => k :: r
def ktOf : D → Option (List Ky)
  | .tup l => kysOf l
  | _ => none
def dGet {κ α : Type} [DecidableEq κ] (kvs : List (κ × α)) (k : κ) : Option α := (kvs.find? fun kv => decide (kv.1 = k)).map (·.2)
def dPut {κ α : Type} [DecidableEq κ] (kvs : List (κ × α)) (k : κ) (v : α) : List (κ × α) :=
  if (kvs.any fun kv => decide (kv.1 = k)) = true then kvs.map fun kv => if kv.1 = k then (kv.1, v) else kv else kvs ++ [(k, v)]
/-- what a dict holds at a key: none where it is no dict or no key -/
def dLook (S : Store) (n : Nat) (k : D) : Option (Option D) := match S[n]? with
  | some (.dK kvs) => (kyOf k).map (dGet kvs)
  | some (.dT kvs) => (ktOf k).map (dGet kvs)
  | some (.zK kvs) => (kyOf k).map (dGet kvs)
  | some (.zT kvs) => (ktOf k).map (dGet kvs)
  | _ => none

/-! ### lists and tuples -/
def lstOf (S : Store) (n : Nat) : Option (List D) := match S[n]? with
  | some (.lst l) => some l
  | some (.fls l) => some l
  | _ => none
def seqOf (S : Store) : D → Option (List D)
  | .tup l => some l
  | .wtp l => some l
  | .ref n => lstOf S n
  | _ => none
def ixN (n : Nat) (i : Int) : Option Nat := if 0 ≤ i then (if i < n then some i.toNat else none) else if -(n : Int) ≤ i then some (i + n).toNat else none
def atI {α : Type} (xs : List α) (i : Int) : Option α := (ixN xs.length i).bind fun j => xs[j]?
def sIx (n d : Nat) : Option Int → Nat
  | none => d
  | some v => if v < 0 then (v + (n : Int)).toNat else min v.toNat n
def cut {α : Type} (xs : List α) (lo hi : Option Int) : List α := (xs.drop (sIx xs.length 0 lo)).take (sIx xs.length xs.length hi - sIx xs.length 0 lo)
def new (o : O) (S : Store) : Res D := .ok (.ref S.length) (S ++ [o])

/-! ### operators -/
def small (i : Int) : Prop := -(2 ^ 64) < i ∧ i < 2 ^ 64
instance (i : Int) : Decidable (small i) := by unfold small; infer_instance
def mulOk (i j : Int) : Prop := small i ∨ small j ∨ i.natAbs.log2 + j.natAbs.log2 < 1000000
instance (i j : Int) : Decidable (mulOk i j) := by unfold mulOk; infer_instance
def oAdd : Op2
  | .int i, .int j, S => .ok (.int (i + j)) S
  | .str a, .str b, S => if a.length + b.length ≤ LINE then .ok (.str (a ++ b)) S else .bad
  | .tup a, .tup b, S => if a ≠ [] ∧ a.length + b.length ≤ LINE then .ok (.tup (a ++ b)) S else .bad
  | .ref m, .ref n, S => match S[m]?, S[n]? with
    | some (.lst a), some (.lst b) => if a.length + b.length ≤ LINE then new (.lst (a ++ b)) S else .bad
    | _, _ => .bad
  | _, _, _ => .bad
def oSub : Op2
  | .int i, .int j, S => .ok (.int (i - j)) S
  | _, _, _ => .bad
def oMul : Op2
  | .int i, .int j, S => if mulOk i j then .ok (.int (i * j)) S else .bad
  | .ref m, .int k, S => match S[m]? with
    | some (.lst a) => if -(2 ^ 63) ≤ k ∧ k < 2 ^ 63 ∧ a.length * k.toNat ≤ LINE then new (.lst (List.replicate k.toNat a).flatten) S else .bad
    | _ => .bad
  | _, _, _ => .bad
def divOk (j : Int) : Prop := 0 < j ∧ j.natAbs.log2 < 9000
instance (j : Int) : Decidable (divOk j) := by unfold divOk; infer_instance
def oDiv : Op2
  | .int i, .int j, S => if divOk j then .ok (.int (i / j)) S else .bad
  | _, _, _ => .bad
def oMod : Op2
  | .int i, .int j, S => if 0 < j then .ok (.int (i % j)) S else .bad
  | _, _, _ => .bad
def powOk (i j : Int) : Prop := 0 ≤ j ∧ j ≤ 1000000 ∧ i.natAbs < 2 ^ 64
instance (i j : Int) : Decidable (powOk i j) := by unfold powOk; infer_instance
def oPow : Op2
  | .int i, .int j, S => if powOk i j then .ok (.int (i ^ j.toNat)) S else .bad
  | _, _, _ => .bad
def oShl : Op2
  | .int i, .int j, S => if powOk i j then .ok (.int (i * 2 ^ j.toNat)) S else .bad
  | _, _, _ => .bad
def oShr : Op2
  | .int i, .int j, S => if 0 ≤ j then .ok (.int (i / 2 ^ j.toNat)) S else .bad
  | _, _, _ => .bad
def oBit (f : Nat → Nat → Nat) : Op2
  | .int i, .int j, S => if 0 ≤ i ∧ 0 ≤ j then .ok (.int (f i.toNat j.toNat : Nat)) S else .bad
  | _, _, _ => .bad
def oAnd : Op2 := oBit fun a b => a &&& b
def oOr : Op2 := oBit fun a b => a ||| b
def oXor : Op2 := oBit fun a b => a ^^^ b
def oCmp (p : Int → Int → Bool) : Op2
  | .int i, .int j, S => .ok (.bl (p i j)) S
  | _, _, _ => .bad
def oLt : Op2 := oCmp fun i j => decide (i < j)
def oLe : Op2 := oCmp fun i j => decide (i ≤ j)
def oGt : Op2 := oCmp fun i j => decide (j < i)
def oGe : Op2 := oCmp fun i j => decide (j ≤ i)
/-- x in y: a list or a tuple, a dict, a text (one sign) -/
def flatD : D → Bool
  | .non => true
  | .bl _ => true
  | .int _ => true
  | .str _ => true
  | _ => false
def eqF : D → D → Bool
  | .non, .non => true
  | .bl a, .bl b => a == b
  | .bl a, .int b => (if a then 1 else 0) == b
  | .int a, .bl b => a == (if b then 1 else 0)
  | .int a, .int b => a == b
  | .str a, .str b => a == b
  | _, _ => false
def inSeq (x : D) (l : List D) (S : Store) : Option Bool :=
  if flatD x = true ∧ l.all flatD = true then some (l.any fun y => eqF y x) else
  match pd S x, toPs (lookP 8 S) l with
    | some p, some q => if shp p = true ∧ shp (.list q) = true then some (q.any fun z => PySem.PyData.eqv z p) else none
    | _, _ => none
def isIn (x y : D) (S : Store) : Option Bool := match y with
  | .str z => match x with
    | .str [c] => some (decide (c ∈ z))
    | _ => none
  | .tup l => inSeq x l S
  | .wtp l => inSeq x l S
  | .ref n => match S[n]? with
    | some (.lst l) => inSeq x l S
    | some (.fls l) => inSeq x l S
    | some (.dK kvs) => (kyOf x).map fun k => (dGet kvs k).isSome
    | some (.dT kvs) => (ktOf x).map fun k => (dGet kvs k).isSome
    | _ => none
  | _ => none
def oIn : Op2 := fun x y S => match isIn x y S with
  | some b => .ok (.bl b) S
  | none => .bad
def oNotIn : Op2 := fun x y S => match isIn x y S with
  | some b => .ok (.bl (!b)) S
  | none => .bad
/-- x[y] -/
def oIx : Op2 := fun x y S => match x, y with
  | .str z, .int i => if z.length ≤ LINE then (match atI z i with
    | some c => .ok (.str [c]) S
    | none => .bad) else .bad
  | .tup l, .int i => match atI l i with
    | some v => .ok v S
    | none => .bad
  | .wtp l, .int i => match atI l i with
    | some v => .ok v S
    | none => .bad
  | .ref n, k => match S[n]? with
    | some (.lst l) => (match k with
      | .int i => (match atI l i with
        | some v => .ok v S
        | none => .bad)
      | _ => .bad)
    | some (.fls l) => (match k with
      | .int i => (match atI l i with
        | some v => .ok v S
        | none => .bad)
      | _ => .bad)
    | _ => match dLook S n k with
      | some (some v) => .ok v S
      | _ => .bad
  | _, _ => .bad
/-- x[lo:hi] -/
def oSl (x : D) (lo hi : Option Int) (S : Store) : Res D := match x with
  | .str z => if z.length ≤ LINE then .ok (.str (cut z lo hi)) S else .bad
  | .tup l => if (cut l lo hi).length < l.length then .ok (.tup (cut l lo hi)) S else .bad
  | .ref n => match lstOf S n with
    | some l => new (.lst (cut l lo hi)) S
    | none => .bad
  | _ => .bad
/-- -x -/
def uNeg : D → Store → Res D
  | .int i, S => .ok (.int (-i)) S
  | _, _ => .bad
/-- truth -/
def truth (d : D) (S : Store) : Option Bool := match d with
  | .non => some false
  | .bl b => some b
  | .int i => some (i != 0)
  | .str s => if s.length ≤ LINE then some (s.length != 0) else none
  | .tup l => some (!l.isEmpty)
  | .ref n => match lstOf S n with
    | some l => some (!l.isEmpty)
    | none => none
  | _ => none
end Mi

set_option Elab.async false
set_option linter.all false
/-! Mi: steps. -/
namespace Mi
/-- a decision on any statement -/
noncomputable def dec (p : Prop) : Bool := @decide p (Classical.propDecidable p)
theorem dec_true {p : Prop} (h : p) : dec p = true := @decide_eq_true p (Classical.propDecidable p) h
theorem of_dec {p : Prop} (h : dec p = true) : p := @of_decide_eq_true p (Classical.propDecidable p) h

/-! ### expressions -/
def mVar (i : Nat) : EM := fun fr S => match fr[i]? with
  | some (some d) => .ok d S
  | _ => .bad
def mC (d : D) : EM := fun _ S => .ok d S
def mOp (g : Op2) (a b : EM) : EM := fun fr S => (a fr S).bind fun x S1 => (b fr S1).bind fun y S2 => g x y S2
def mUn (g : D → Store → Res D) (a : EM) : EM := fun fr S => (a fr S).bind fun x S1 => g x S1
def toB (d : D) (S : Store) : Res Bool := match d with
  | .bl b => .ok b S
  | _ => .bad
def mNot (a : EM) : EM := fun fr S => (a fr S).bind fun x S1 => (toB x S1).bind fun b S2 => .ok (.bl (!b)) S2
def mAnd (a b : EM) : EM := fun fr S => (a fr S).bind fun x S1 => (toB x S1).bind fun c S2 => if c then b fr S2 else .ok (.bl false) S2
def mOr (a b : EM) : EM := fun fr S => (a fr S).bind fun x S1 => (toB x S1).bind fun c S2 => if c then .ok (.bl true) S2 else b fr S2
def tTru (a : EM) : TM := fun fr S => (a fr S).bind fun x S1 => match truth x S1 with
  | some b => .ok b S1
  | none => .bad
def tBl (a : EM) : TM := fun fr S => (a fr S).bind fun x S1 => toB x S1
def tAnd (a b : TM) : TM := fun fr S => (a fr S).bind fun c S1 => if c then b fr S1 else .ok false S1
def tOr (a b : TM) : TM := fun fr S => (a fr S).bind fun c S1 => if c then .ok true S1 else b fr S1
def tNot (a : TM) : TM := fun fr S => (a fr S).bind fun c S1 => .ok (!c) S1
def mIfE (t : TM) (a b : EM) : EM := fun fr S => (t fr S).bind fun c S1 => if c then a fr S1 else b fr S1
/-- a < b < c -/
def mChain (g h : Op2) (a b c : EM) : EM := fun fr S => (a fr S).bind fun x S1 => (b fr S1).bind fun y S2 => (g x y S2).bind fun z S3 => (toB z S3).bind fun k S4 =>
  if k then (c fr S4).bind fun w S5 => h y w S5 else .ok (.bl false) S4
def aNil : AM := fun _ S => .ok [] S
def aCons (a : EM) (r : AM) : AM := fun fr S => (a fr S).bind fun x S1 => (r fr S1).bind fun xs S2 => .ok (x :: xs) S2
def mTup (a : AM) : EM := fun fr S => (a fr S).bind fun xs S1 => if xs.length ≤ LINE then .ok (.tup xs) S1 else .bad
def mLst (a : AM) : EM := fun fr S => (a fr S).bind fun xs S1 => if xs.length ≤ LINE then new (.lst xs) S1 else .bad
def mCall (f : Fn) (a : AM) : EM := fun fr S => (a fr S).bind f
/-- o.m(..) of a built-in type: first the type, then the arguments -/
def mMt (T : D → Store → Bool) (f : D → Fn) (o : EM) (a : AM) : EM := fun fr S => (o fr S).bind fun x S1 => if T x S1 then (a fr S1).bind (f x) else .bad
def mNewK : EM := fun _ S => new (.dK []) S
def mNewT : EM := fun _ S => new (.dT []) S
/-- a slice's part -/
abbrev PM := Fr → Store → Res (Option Int)
def pNo : PM := fun _ S => .ok none S
def pSome (a : EM) : PM := fun fr S => (a fr S).bind fun x S1 => match x with
  | .int i => .ok (some i) S1
  | _ => .bad
def mSl (a : EM) (lo hi : PM) : EM := fun fr S => (a fr S).bind fun x S1 => (lo fr S1).bind fun l S2 => (hi fr S2).bind fun h S3 => oSl x l h S3

/-! ### targets -/
abbrev GM := D → Fr → Store → Res Fr
abbrev GMs := List D → Fr → Store → Res Fr
def gName (i : Nat) : GM := fun d fr S => .ok (fr.set i (some d)) S
def gNil : GMs := fun ds fr S => match ds with
  | [] => .ok fr S
  | _ => .bad
def gCons (g : GM) (gs : GMs) : GMs := fun ds fr S => match ds with
  | d :: r => (g d fr S).bind fun fr' S' => gs r fr' S'
  | [] => .bad
/-- a, b, ..: of a tuple of that size -/
def gTup (n : Nat) (g : GMs) : GM := fun d fr S => match seqOf S d with
  | some l => if l.length = n then g l fr S else .bad
  | none => .bad
/-- o[i] = v: a list, a dict -/
def setIx (o i v : D) (S : Store) : Res Unit := match o with
  | .ref n => match S[n]? with
    | some (.lst l) => match i with
      | .int k => match ixN l.length k with
        | some j => .ok () (S.set n (.lst (l.set j v)))
        | none => .bad
      | _ => .bad
    | some (.dK kvs) => match kyOf i with
      | some k => if kvs.length < LINE then .ok () (S.set n (.dK (dPut kvs k v))) else .bad
      | none => .bad
    | some (.dT kvs) => match ktOf i with
      | some k => if kvs.length < LINE then .ok () (S.set n (.dT (dPut kvs k v))) else .bad
      | none => .bad
    | _ => .bad
  | _ => .bad
def gSub (o i : EM) : GM := fun v fr S => (o fr S).bind fun x S1 => (i fr S1).bind fun y S2 => (setIx x y v S2).bind fun _ S3 => .ok fr S3

/-! ### statements -/
def sNx : SM := fun fr S => .ok (.nx fr) S
def sSeq (a b : SM) : SM := fun fr S => (a fr S).bind fun o S1 => match o with
  | .nx fr' => b fr' S1
  | o => .ok o S1
def sAsg (e : EM) (g : GM) : SM := fun fr S => (e fr S).bind fun x S1 => (g x fr S1).bind fun fr' S2 => .ok (.nx fr') S2
def sPar (i j : Nat) (a : AM) : SM := fun fr S => (a fr S).bind fun ds S1 => match ds with
  | [x, y] => .ok (.nx ((fr.set i (some x)).set j (some y))) S1
  | _ => .bad
def oAddI : Op2 := fun x y S => match x, y with
  | .int a, .int b => .ok (.int (a + b)) S
  | _, _ => .bad
def sAug (i : Nat) (g : Op2) (e : EM) : SM := fun fr S => match fr[i]? with
  | some (some x) => (e fr S).bind fun y S1 => (g x y S1).bind fun z S2 => .ok (.nx (fr.set i (some z))) S2
  | _ => .bad
def sExp (e : EM) : SM := fun fr S => (e fr S).bind fun _ S1 => .ok (.nx fr) S1
def sRet (e : EM) : SM := fun fr S => (e fr S).bind fun x S1 => .ok (.rt x) S1
def sRetN : SM := fun _ S => .ok (.rt .non) S
def sBrk : SM := fun fr S => .ok (.bk fr) S
def sCnt : SM := fun fr S => .ok (.ct fr) S
def sBad : SM := fun _ _ => .bad
def sIf (t : TM) (a b : SM) : SM := fun fr S => (t fr S).bind fun c S1 => if c then a fr S1 else b fr S1

/-! ### what is walked -/
structure Its where
  items : List D
  hs : List (Nat × List D)
abbrev IM := Fr → Store → Res Its
def stands (hs : List (Nat × List D)) (S : Store) : Prop := ∀ p, p ∈ hs → lstOf S p.1 = some p.2
def iSeq (e : EM) : IM := fun fr S => (e fr S).bind fun x S1 => match x with
  | .tup l => .ok ⟨l, []⟩ S1
  | .wtp l => .ok ⟨l, []⟩ S1
  | .ref n => match lstOf S1 n with
    | some l => .ok ⟨l, [(n, l)]⟩ S1
    | none => .bad
  | _ => .bad
def iStr (e : EM) : IM := fun fr S => (e fr S).bind fun x S1 => match x with
  | .str z => .ok ⟨z.map fun c => .str [c], []⟩ S1
  | _ => .bad
def rng (lo : Int) (n : Nat) : List D := (List.range n).map fun k => .int (lo + (k : Nat))
def far (i : Int) : Prop := -(2 ^ 62) ≤ i ∧ i < 2 ^ 62
instance (i : Int) : Decidable (far i) := by unfold far; infer_instance
def iRng1 (a : AM) : IM := fun fr S => (a fr S).bind fun ds S1 => match ds with
  | [.int j] => if far j then .ok ⟨rng 0 j.toNat, []⟩ S1 else .bad
  | _ => .bad
def iRng2 (a : AM) : IM := fun fr S => (a fr S).bind fun ds S1 => match ds with
  | [.int i, .int j] => if far i ∧ far j then .ok ⟨rng i (j - i).toNat, []⟩ S1 else .bad
  | _ => .bad
/-- range(a, b, -1) -/
def iRngD (a : AM) : IM := fun fr S => (a fr S).bind fun ds S1 => match ds with
  | [.int i, .int j, .int c] => if far i ∧ far j ∧ c = -1 then .ok ⟨(List.range (i - j).toNat).map fun k => .int (i - (k : Nat)), []⟩ S1 else .bad
  | _ => .bad
/-- enumerate(list): the pairs -/
def prs (i : Nat) : List D → List D
  | [] => []
  | d :: l => .tup [.int (i : Nat), d] :: prs (i + 1) l
def iEnum (a : AM) : IM := fun fr S => (a fr S).bind fun ds S1 => match ds with
  | [.ref n] => match lstOf S1 n with
    | some l => .ok ⟨prs 0 l, [(n, l)]⟩ S1
    | none => .bad
  | _ => .bad
def iZip (a : AM) : IM := fun fr S => (a fr S).bind fun ds S1 => match ds with
  | [.ref m, .ref n] => match lstOf S1 m, lstOf S1 n with
    | some l, some r => .ok ⟨List.zipWith (fun x y => .tup [x, y]) l r, [(m, l), (n, r)]⟩ S1
    | _, _ => .bad
  | _ => .bad
def iRev (a : AM) : IM := fun fr S => (a fr S).bind fun ds S1 => match ds with
  | [.ref n] => match lstOf S1 n with
    | some l => .ok ⟨l.reverse, [(n, l)]⟩ S1
    | none => .bad
  | _ => .bad
/-- behind a turn -/
def goOn (k : SM) : Out → Store → Res Out
  | .nx fr, S => k fr S
  | .ct fr, S => k fr S
  | .bk fr, S => .ok (.nx fr) S
  | .rt x, S => .ok (.rt x) S
noncomputable def loopM (hs : List (Nat × List D)) (turn : D → SM) : List D → SM
  | [], fr, S => if dec (stands hs S) = true then .ok (.nx fr) S else .bad
  | d :: ds, fr, S => if dec (stands hs S) = true then (turn d fr S).bind (goOn (loopM hs turn ds)) else .bad
noncomputable def sFor (i : IM) (g : GM) (b : SM) : SM := fun fr S => (i fr S).bind fun I S1 => loopM I.hs (fun d fr S => (g d fr S).bind fun fr' S' => b fr' S') I.items fr S1
def whileN (t : TM) (b : SM) : Nat → SM
  | 0, _, _ => .bad
  | n + 1, fr, S => (t fr S).bind fun c S1 => if c then (b fr S1).bind (goOn (whileN t b n)) else .ok (.nx fr) S1
open Classical in
noncomputable def sWhile (t : TM) (b : SM) : SM := fun fr S => if h : ∃ n, whileN t b n fr S ≠ .bad then whileN t b (Classical.choose h) fr S else .bad

/-! ### comprehensions -/
def unset : List Nat → Fr → Fr
  | [], fr => fr
  | i :: r, fr => (unset r fr).set i none
noncomputable def lcLoop (hs : List (Nat × List D)) (n : Nat) (g : GM) (t : TM) (e : EM) (fr : Fr) : List D → Store → Res D
  | [], S => if dec (stands hs S) = true then .ok (.ref n) S else .bad
  | d :: ds, S => if dec (stands hs S) = true then (g d fr S).bind fun fr' S1 => (t fr' S1).bind fun c S2 =>
      if c then (e fr' S2).bind fun x S3 => match S3[n]? with
        | some (.lst acc) => if acc.length < LINE then lcLoop hs n g t e fr ds (S3.set n (.lst (acc ++ [x]))) else .bad
        | _ => .bad
      else lcLoop hs n g t e fr ds S2
    else .bad
def tYes : TM := fun _ S => .ok true S
/-- no refusal within -/
def quiet {α : Type} : Res α → Res α
  | .ok a S => .ok a S
  | _ => .bad
noncomputable def mLc (vs : List Nat) (i : IM) (g : GM) (t : TM) (e : EM) : EM := fun fr S => (i fr S).bind fun I S1 =>
  lcLoop I.hs S1.length g (fun fr S => quiet (t fr S)) (fun fr S => quiet (e fr S)) (unset vs fr) I.items (S1 ++ [.lst []])

/-! ### a def -/
def startF (n : Nat) (ds : List D) : Fr := ds.map some ++ List.replicate (n - ds.length) none
def mDefX (np n : Nat) (b : SM) : Fn := fun ds S => if ds.length = np then (b (startF n ds) S).bind fun o S1 => match o with
  | .rt x => .ok x S1
  | .nx _ => .ok .non S1
  | _ => .bad
  else .bad
/-- a def that refuses nothing -/
def mDef (np n : Nat) (b : SM) : Fn := fun ds S => quiet (mDefX np n b ds S)

/-! ### built-ins -/
def bLen : Fn := fun ds S => match ds with
  | [.str s] => if s.length ≤ LINE then .ok (.int (s.length : Nat)) S else .bad
  | [.tup l] => .ok (.int (l.length : Nat)) S
  | [.wtp l] => .ok (.int (l.length : Nat)) S
  | [.ref n] => match S[n]? with
    | some (.lst l) => .ok (.int (l.length : Nat)) S
    | some (.fls l) => .ok (.int (l.length : Nat)) S
    | some (.dK k) => .ok (.int (k.length : Nat)) S
    | some (.dT k) => .ok (.int (k.length : Nat)) S
    | _ => .bad
  | _ => .bad
def bAbs : Fn := fun ds S => match ds with
  | [.int i] => .ok (.int (if i < 0 then -i else i)) S
  | _ => .bad
def bInt : Fn := fun ds S => match ds with
  | [.int i] => .ok (.int i) S
  | [.bl b] => .ok (.int (if b then 1 else 0)) S
  | _ => .bad
def bMax : Fn := fun ds S => match ds with
  | [.int i, .int j] => .ok (.int (if j > i then j else i)) S
  | _ => .bad
def bMin : Fn := fun ds S => match ds with
  | [.int i, .int j] => .ok (.int (if j < i then j else i)) S
  | _ => .bad
def bList : Fn := fun ds S => match ds with
  | [x] => match seqOf S x with
    | some l => new (.lst l) S
    | none => match x with
      | .ref n => match S[n]? with
        | some (.dK k) => new (.lst (k.map fun p => kyD p.1)) S
        | some (.dT k) => new (.lst (k.map fun p => .tup (p.1.map kyD))) S
        | _ => .bad
      | _ => .bad
  | _ => .bad
def bTuple : Fn := fun ds S => match ds with
  | [.tup l] => .ok (.tup l) S
  | [.ref n] => match lstOf S n with
    | some l => .ok (.tup l) S
    | none => .bad
  | _ => .bad
def intsOf : List D → Option (List Int)
  | [] => some []
  | .int i :: r => (intsOf r).map fun l => i :: l
  | _ => none
def bSum : Fn := fun ds S => match ds with
  | [.ref n] => match (lstOf S n).bind intsOf with
    | some l => .ok (.int l.sum) S
    | none => .bad
  | _ => .bad
def blsOf : List D → Option (List Bool)
  | [] => some []
  | .bl i :: r => (blsOf r).map fun l => i :: l
  | _ => none
def bAny : Fn := fun ds S => match ds with
  | [.ref n] => match (lstOf S n).bind blsOf with
    | some l => .ok (.bl (l.any id)) S
    | none => .bad
  | _ => .bad
def bAll : Fn := fun ds S => match ds with
  | [.ref n] => match (lstOf S n).bind blsOf with
    | some l => .ok (.bl (l.all id)) S
    | none => .bad
  | _ => .bad
/-- isinstance(x, T), T one of the built-in types by name -/
inductive Ty where
  | int | bool | str | list | tuple | dict
  deriving DecidableEq
def tyOf (S : Store) : D → Option Ty
  | .bl _ => some .bool
  | .int _ => some .int
  | .str _ => some .str
  | .tup _ => some .tuple
  | .wtp _ => none
  | .non => none
  | .ref n => match S[n]? with
    | some (.lst _) => some .list
    | some (.fls _) => some .list
    | some (.dK _) => some .dict
    | some (.dT _) => some .dict
    | _ => none
def isI (T : Ty) (x : D) (S : Store) : Option Bool := match x with
  | .non => some false
  | x => (tyOf S x).map fun U => decide (U = T) || (decide (U = .bool) && decide (T = .int))
def bIsI (T : Ty) : D → Store → Res D := fun x S => match isI T x S with
  | some b => .ok (.bl b) S
  | none => .bad

/-! ### methods -/
def isLst (d : D) (S : Store) : Bool := match d with
  | .ref n => (lstOf S n).isSome
  | _ => false
def isDct (d : D) (S : Store) : Bool := match d with
  | .ref n => match S[n]? with
    | some (.dK _) => true
    | some (.dT _) => true
    | _ => false
  | _ => false
def isStr (d : D) (_ : Store) : Bool := match d with
  | .str _ => true
  | _ => false
def mutL (d : D) (S : Store) (f : Nat → List D → Res D) : Res D := match d with
  | .ref n => match S[n]? with
    | some (.lst l) => f n l
    | _ => .bad
  | _ => .bad
def lAppend (o : D) : Fn := fun ds S => match ds with
  | [x] => mutL o S fun n l => if l.length < LINE then .ok .non (S.set n (.lst (l ++ [x]))) else .bad
  | _ => .bad
def lPop (o : D) : Fn := fun ds S => match ds with
  | [] => mutL o S fun n l => match l[l.length - 1]? with
    | some y => .ok y (S.set n (.lst l.dropLast))
    | none => .bad
  | [.int i] => mutL o S fun n l => if -(2 ^ 63) ≤ i ∧ i < 2 ^ 63 then (match (ixN l.length i) with
    | some k => (match l[k]? with
      | some y => .ok y (S.set n (.lst (l.eraseIdx k)))
      | none => .bad)
    | none => .bad) else .bad
  | _ => .bad
def lReverse (o : D) : Fn := fun ds S => match ds with
  | [] => mutL o S fun n l => .ok .non (S.set n (.lst l.reverse))
  | _ => .bad
def lClear (o : D) : Fn := fun ds S => match ds with
  | [] => mutL o S fun n l => .ok .non (S.set n (.lst []))
  | _ => .bad
def lExtend (o : D) : Fn := fun ds S => match ds with
  | [.ref m] => mutL o S fun n l => match S[m]? with
    | some (.lst r) => if l.length + r.length ≤ LINE then .ok .non (S.set n (.lst (l ++ r))) else .bad
    | _ => .bad
  | _ => .bad
/-- l.insert(i, x), i from 0 on -/
def lInsert (o : D) : Fn := fun ds S => match ds with
  | [.int i, x] => mutL o S fun n l => if l.length < LINE ∧ 0 ≤ i ∧ i < 2 ^ 63 then .ok .non (S.set n (.lst (l.take i.toNat ++ [x] ++ l.drop i.toNat))) else .bad
  | _ => .bad
/-- where the first equal one stands -/
def firstAt (p : D → Bool) : List D → Nat → Option Nat
  | [], _ => none
  | d :: l, k => if p d then some k else firstAt p l (k + 1)
def lIndexF (o : D) : Fn := fun ds S => match ds with
  | [x] => match o with
    | .ref n => match lstOf S n with
      | some l => if flatD x = true ∧ l.all flatD = true then (match firstAt (fun y => eqF y x) l 0 with
        | some k => .ok (.int (k : Nat)) S
        | none => .bad) else .bad
      | none => .bad
    | _ => .bad
  | _ => .bad
def dGetM (o : D) : Fn := fun ds S => match o with
  | .ref n => match ds with
    | [k] => match dLook S n k with
      | some r => .ok (r.getD .non) S
      | none => .bad
    | [k, x] => match dLook S n k with
      | some r => .ok (r.getD x) S
      | none => .bad
    | _ => .bad
  | _ => .bad
/-- texts of a list -/
def txsOf : List D → Option (List Tx)
  | [] => some []
  | .str s :: r => (txsOf r).map fun l => s :: l
  | _ => none
def joinT (sep : Tx) : List Tx → Tx
  | [] => []
  | [x] => x
  | x :: y :: r => x ++ sep ++ joinT sep (y :: r)
def sJoin (o : D) : Fn := fun ds S => match o with
  | .str a => match ds with
    | [d] => match (seqOf S d).bind txsOf with
      | some ys => if (ys.map List.length).sum + ys.length * a.length ≤ LINE then .ok (.str (joinT a ys)) S else .bad
      | none => .bad
    | _ => .bad
  | _ => .bad
def sIndex (o : D) : Fn := fun ds S => match o with
  | .str a => match ds with
    | [.str b] => match PySem.Builtin.Str.occurrences ⟨a.toArray⟩ ⟨b.toArray⟩ 0 (PySem.Str.mk a.toArray).length 1 with
      | i :: _ => .ok (.int (i : Nat)) S
      | [] => .bad
    | _ => .bad
  | _ => .bad
/-- reversed(range(n)) -/
def iRevR (a : EM) : IM := fun fr S => (a fr S).bind fun x S1 => match x with
  | .int j => if far j then .ok ⟨(List.range j.toNat).map fun k => .int ((j.toNat : Int) - 1 - (k : Nat)), []⟩ S1 else .bad
  | _ => .bad
/-- the i-th place of a sign in a text -/
def findC (c : Nat) : Tx → Nat → Option Nat
  | [], _ => none
  | d :: l, k => if d = c then some k else findC c l (k + 1)
end Mi

set_option Elab.async false
set_option linter.all false
/-! Mi: more steps. -/
namespace Mi
theorem Res.bind_assoc {α β γ : Type} (r : Res α) (f : α → Store → Res β) (g : β → Store → Res γ) : (r.bind f).bind g = r.bind fun a S => (f a S).bind g := by
  cases r <;> rfl
/-- the pairs of a display -/
def mPairs : List (EM × EM) → Fr → Store → Res (List (D × D))
  | [], _, S => .ok [] S
  | (a, b) :: r, fr, S => (a fr S).bind fun x S1 => (b fr S1).bind fun y S2 => (mPairs r fr S2).bind fun ps S3 => .ok ((x, y) :: ps) S3
def kvsM : List (D × D) → Option (List (Ky × D))
  | [] => some []
  | (k, v) :: r => (kyOf k).bind fun q => (kvsM r).map fun l => (q, v) :: l
def putM (l : List (Ky × D)) : List (Ky × D) := l.foldl (fun acc kv => dPut acc kv.1 kv.2) []
def disK (n : Nat) (S : Store) : Option (List (Ky × D)) → Option O → Res D
  | some kvs, some (.dK []) => if kvs.length ≤ 15 then .ok (.ref n) (S.set n (.dK (putM kvs))) else .bad
  | _, _ => .bad
/-- {k: v, ..} -/
def mDis (ps : List (EM × EM)) : EM := fun fr S => (mPairs ps fr (S ++ [.dK []])).bind fun xs S1 => disK S.length S1 (kvsM xs) S1[S.length]?
/-! ### texts -/
/-- cut at each c -/
def spC (c : Nat) : Tx → Tx → List Tx
  | acc, [] => [acc]
  | acc, d :: r => if d = c then acc :: spC c [] r else spC c (acc ++ [d]) r
/-- what stands before the first c, and behind it -/
def paC (c : Nat) : Tx → Tx → Option (Tx × Tx)
  | _, [] => none
  | acc, d :: r => if d = c then some (acc, r) else paC c (acc ++ [d]) r
def sSplit (o : D) : Fn := fun ds S => match o with
  | .str a => match ds with
    | [.str [c]] => if c < 256 ∧ a.length + 2 ≤ LINE then new (.lst ((spC c [] a).map .str)) S else .bad
    | _ => .bad
  | _ => .bad
def sPartition (o : D) : Fn := fun ds S => match o with
  | .str a => match ds with
    | [.str [c]] => if a.length ≤ LINE then (match paC c [] a with
      | some (x, y) => .ok (.tup [.str x, .str [c], .str y]) S
      | none => .ok (.tup [.str a, .str [], .str []]) S) else .bad
    | _ => .bad
  | _ => .bad
/-- a whole number's figures -/
def numT (n : Nat) : Tx := (Nat.toDigits 10 n).map Char.toNat
def bStr : Fn := fun ds S => match ds with
  | [.int i] => if 0 ≤ i ∧ i.natAbs.log2 < 1920 then .ok (.str (numT i.toNat)) S else .bad
  | [.str s] => .ok (.str s) S
  | _ => .bad
def digV (s : Tx) : Nat := s.foldl (fun acc c => acc * 10 + (c - 48)) 0
def isDig (c : Nat) : Bool := decide (48 ≤ c) && decide (c ≤ 57)
/-- int(text) -/
def bIntS : Fn := fun ds S => match ds with
  | [.str s] => if s.all isDig = true ∧ s ≠ [] ∧ s.length ≤ 640 then .ok (.int (digV s : Nat)) S else .bad
  | _ => .bad
def oMulS : Op2 := fun x y S => match x, y with
  | .str a, .int k => if a.length ≤ 16 ∧ 0 ≤ k ∧ k ≤ 1048576 then .ok (.str (List.replicate k.toNat a).flatten) S else .bad
  | _, _ => .bad
/-- {x} -/
def fmtD : D → Store → Res D := fun x S => match x with
  | .str s => if s.length ≤ LINE then .ok (.str s) S else .bad
  | .int i => if 0 ≤ i ∧ i.natAbs.log2 < 1920 then .ok (.str (numT i.toNat)) S else .bad
  | _ => .bad
def mJs : List EM → Tx → EM
  | [], acc, _, S => .ok (.str acc) S
  | e :: r, acc, fr, S => (e fr S).bind fun x S1 => match x with
    | .str y => if (acc ++ y).length ≤ LINE then mJs r (acc ++ y) fr S1 else .bad
    | _ => .bad
/-- f'..' -/
def mFst (l : List EM) : EM := mJs l []
end Mi

set_option Elab.async false
set_option linter.all false
/-! Mi: == where a dict may stand, upper of the six words -/
namespace Mi
def oEqX : Op2 := fun x y S => match x, y with
  | .ref n, .str _ => (match S[n]? with
    | some (.dK _) => .ok (.bl false) S
    | _ => oEq x y S)
  | _, _ => oEq x y S
def sixW : List Tx := [[114, 101, 99, 107, 111, 110], [99, 111, 112, 121], [115, 97, 121], [103, 111], [112, 97, 114, 116], [101, 110, 100]]
def sUpper (o : D) : Fn := fun ds S => match o with
  | .str s => match ds with
    | [] => if s ∈ sixW then .ok (.str (s.map fun c => c - 32)) S else .bad
    | _ => .bad
  | _ => .bad
/-- x + y, tuples of any size -/
def oAddA : Op2 := fun x y S => match x, y with
  | .tup a, .tup b => if a.length + b.length ≤ LINE then .ok (.tup (a ++ b)) S else .bad
  | _, _ => oAdd x y S
/-- x[lo:hi], tuples of any size -/
def oSlA (x : D) (lo hi : Option Int) (S : Store) : Res D := match x with
  | .tup l => .ok (.tup (cut l lo hi)) S
  | _ => oSl x lo hi S
def mSlA (a : EM) (lo hi : PM) : EM := fun fr S => (a fr S).bind fun x S1 => (lo fr S1).bind fun l S2 => (hi fr S2).bind fun h S3 => oSlA x l h S3
end Mi

set_option Elab.async false
set_option linter.all false
/-! Mi: a[::-1] of a list -/
namespace Mi
def oRev (x : D) (S : Store) : Res D := match x with
  | .ref n => (match lstOf S n with
    | some l => new (.lst l.reverse) S
    | none => .bad)
  | _ => .bad
def mRev (a : EM) (st : PM) : EM := fun fr S => (a fr S).bind fun x S1 => (st fr S1).bind fun o S2 => if o = some (-1) then oRev x S2 else .bad
end Mi

set_option Elab.async false
set_option linter.all false
/-! Mi: walks over dicts, == of dicts, clear -/
namespace Mi
/-- the locked dict -/
def zOf : O → Option O
  | .dK k => some (.zK k)
  | .dT k => some (.zT k)
  | _ => none
inductive Wk where
  | key | val | itm
def zItems : Wk → O → Option (List D)
  | .key, .zK k => some (k.map fun p => kyD p.1)
  | .key, .zT k => some (k.map fun p => .tup (p.1.map kyD))
  | .val, .zK k => some (k.map fun p => p.2)
  | .val, .zT k => some (k.map fun p => p.2)
  | .itm, .zK k => some (k.map fun p => .tup [kyD p.1, p.2])
  | _, _ => none
noncomputable def loopZ (n : Nat) (z : O) (turn : D → SM) : List D → SM
  | [], fr, S => if dec (S[n]? = some z) = true then .ok (.nx fr) S else .bad
  | d :: ds, fr, S => if dec (S[n]? = some z) = true then (turn d fr S).bind (goOn (loopZ n z turn ds)) else .bad
noncomputable def runZ (e : EM) (g : GM) (b : SM) (fr : Fr) (S : Store) (n : Nat) (o z : O) (l : List D) : Res Out :=
  (e fr (S.set n z)).bind fun x S1 => match x with
    | .ref n' => if n' = n then (loopZ n z (fun d fr S => (g d fr S).bind fun fr' S' => b fr' S') l fr S1).bind fun out S2 => if dec (S2[n]? = some z) = true then .ok out (S2.set n o) else .bad else .bad
    | _ => .bad
/-- for x in d, d.values(), d.items() -/
noncomputable def sForD (w : Wk) (e : EM) (g : GM) (b : SM) : SM := fun fr S => match e fr S with
  | .ok (.ref n) _ => (match S[n]? with
    | some o => (match zOf o with
      | some z => (match zItems w z with
        | some l => runZ e g b fr S n o z l
        | none => .bad)
      | none => .bad)
    | none => .bad)
  | _ => .bad
/-- the same keys, the same flat values -/
def dSame {κ : Type} [DecidableEq κ] (k l : List (κ × D)) : Bool := decide (k.length = l.length) && k.all fun p => match dGet l p.1 with
  | some v => flatD p.2 && flatD v && decide (scq p.2 v = some true)
  | none => false
def oSame (x y : D) (S : Store) : Bool := match x, y with
  | .ref m, .ref n => (match S[m]?, S[n]? with
    | some (.dK k), some (.dK l) => dSame k l
    | some (.dT k), some (.dT l) => dSame k l
    | _, _ => false)
  | _, _ => false
def oEqD : Op2 := fun x y S => if oSame x y S then .ok (.bl true) S else oEq x y S
def oNeD : Op2 := fun x y S => if oSame x y S then .ok (.bl false) S else oNe x y S
/-- d.clear() -/
def dClear (o : D) : Fn := fun ds S => match o with
  | .ref n => (match ds with
    | [] => (match S[n]? with
      | some (.dK _) => .ok .non (S.set n (.dK []))
      | some (.dT _) => .ok .non (S.set n (.dT []))
      | _ => .bad)
    | _ => .bad)
  | _ => .bad
end Mi

set_option Elab.async false
set_option linter.all false
/-! Mi: defaults; tuples known as they stand; dict(..) -/
namespace Mi
/-- the defaults behind what is written -/
def mDfl (g : Fn) (xs : List D) : Fn := fun ds S => g (ds ++ xs) S
@[simp] theorem mDfl_s (g : Fn) (xs ds : List D) (S : Store) : mDfl g xs ds S = g (ds ++ xs) S := (rfl)
def bTupX : Fn := fun ds S => match ds with
  | [.tup l] => .ok (.tup l) S
  | [.wtp l] => .ok (.wtp l) S
  | [.ref n] => match lstOf S n with
    | some l => .ok (.wtp l) S
    | none => .bad
  | _ => .bad
def prsOf : List D → Option (List (Ky × D))
  | [] => some []
  | .tup [k, v] :: r => (kyOf k).bind fun q => (prsOf r).map fun l => (q, v) :: l
  | _ => none
def bDict : Fn := fun ds S => match ds with
  | [.wtp l] => match prsOf l with
    | some ps => new (.dK (ps.foldl (fun acc p => dPut acc p.1 p.2) [])) S
    | none => .bad
  | [.ref n] => match S[n]? with
    | some (.dK k) => new (.dK k) S
    | _ => .bad
  | _ => .bad
end Mi

set_option Elab.async false
set_option linter.all false
/-! Mi: a[lo::st] of a list -/
namespace Mi
/-- lo, lo + st, .. -/
def stpL {α : Type} (l : List α) (lo st : Nat) : List α := (List.range l.length).filterMap fun k => l[lo + st * k]?
def oStp (x : D) (lo st : Nat) (S : Store) : Res D := match x with
  | .ref n => (match lstOf S n with
    | some l => new (.lst (stpL l lo st)) S
    | none => .bad)
  | _ => .bad
def stpI (x : D) (S : Store) : Option Int → Option Int → Res D
  | some lo, some st => if 0 ≤ lo ∧ 1 ≤ st then oStp x lo.toNat st.toNat S else .bad
  | _, _ => .bad
def mStp (a : EM) (lo st : PM) : EM := fun fr S => (a fr S).bind fun x S1 => (lo fr S1).bind fun l S2 => (st fr S2).bind fun o S3 => stpI x S3 l o
end Mi

set_option Elab.async false
set_option linter.all false
/-! Mi: list + list, either side a fixed list -/
namespace Mi
def oAddL : Op2 := fun x y S => match x, y with
  | .ref m, .ref n => (match lstOf S m, lstOf S n with
    | some a, some b => if a.length + b.length ≤ LINE then new (.lst (a ++ b)) S else .bad
    | _, _ => .bad)
  | _, _ => .bad
end Mi

set_option Elab.async false
set_option linter.all false
/-! Mi: l.remove(x) of data; o[i] += x -/
namespace Mi
def placeD (ps : List PySem.PyData) (d : PySem.PyData) : Option Nat := ps.findIdx? fun z => PySem.PyData.eqv z d
def lRemove (o : D) : Fn := fun ds S => match ds with
  | [x] => mutL o S fun n l => match pd S x, toPs (lookP 8 S) l with
    | some d, some ps => if shp d = true ∧ shp (.list ps) = true then (match placeD ps d with
      | some j => .ok .non (S.set n (.lst (l.eraseIdx j)))
      | none => .bad) else .bad
    | _, _ => .bad
  | _ => .bad
end Mi

set_option Elab.async false
set_option linter.all false
/-! Mi: own exceptions raised and caught -/
namespace Mi
/-- raise C(..): its fields, in the order in which they are set -/
def sRaise (cn : String) (fs : List Tx) (a : AM) : SM := fun fr S => (a fr S).bind fun ds S1 => if ds.length = fs.length then .exc ⟨cn, (fs.zip ds).reverse⟩ S1 else .bad
def tryK (sub : String → Option Bool) (h : Exn → Store → Res Out) : Res Out → Res Out
  | .ok o S => .ok o S
  | .exc x S => (match sub x.cls with
    | some true => quiet (h x S)
    | some false => .exc x S
    | none => .bad)
  | .bad => .bad
/-- try: b / except C: h, where b stores nothing before it raises -/
def sTry (sub : String → Option Bool) (b : SM) (h : Exn → SM) : SM := fun fr S => tryK sub (fun x => h x fr) (b fr S)
def offI (i : Nat) : Out → Out
  | .nx fr => .nx (fr.set i none)
  | .rt d => .rt d
  | .bk fr => .bk (fr.set i none)
  | .ct fr => .ct (fr.set i none)
/-- try: b / except C as n: h, n in slot i -/
def sTryA (sub : String → Option Bool) (i : Nat) (b : SM) (h : Exn → SM) : SM := fun fr S =>
  tryK sub (fun x S' => if i < fr.length then (h x (fr.set i none) S').bind fun o S2 => .ok (offI i o) S2 else .bad) (b fr S)
def lkF (l : List (Tx × D)) (f : Tx) : Option D := (l.find? fun p => decide (p.1 = f)).map (·.2)
/-- e.f of a caught C -/
def mXf (cn : String) (x : Exn) (f : Tx) : EM := fun _ S => if x.cls = cn then (match lkF x.fs f with
  | some d => .ok d S
  | none => .bad) else .bad
end Mi

set_option Elab.async false
set_option linter.all false
/-! Mi: l.index(x) of data; o[i] += e of a list -/
namespace Mi
def lIndexD (o : D) : Fn := fun ds S => match ds with
  | [x] => match pd S o, pd S x with
    | some (.list ps), some d => if shp d = true ∧ shp (.list ps) = true then (match placeD ps d with
      | some j => .ok (.int (j : Nat)) S
      | none => .bad) else .bad
    | _, _ => .bad
  | _ => .bad
def getL (x y : D) (S : Store) : Res D := match x, y with
  | .ref n, .int i => if 0 ≤ i ∧ i < 2 ^ 63 then (match lstOf S n with
    | some l => match l[i.toNat]? with
      | some v => .ok v S
      | none => .bad
    | none => .bad) else .bad
  | _, _ => .bad
/-- o[i] += e -/
def sAugS (o i e : EM) : SM := fun fr S => (o fr S).bind fun x S1 => (i fr S1).bind fun y S2 => (getL x y S2).bind fun z S3 => (e fr S3).bind fun w S4 => (oAddI z w S4).bind fun u S5 => (setIx x y u S5).bind fun _ S6 => .ok (.nx fr) S6
end Mi

set_option Elab.async false
set_option linter.all false
/-! Mi: calls with keywords -/
namespace Mi
/-- n values written, then k by keyword -/
def aKw (n k : Nat) (f f2 : AM) : AM := fun fr S => (f fr S).bind fun ds S1 => (f2 fr S1).bind fun es S2 => if ds.length = n ∧ es.length = k then .ok (ds ++ es) S2 else .bad
theorem aKw_bind {α : Type} {n k : Nat} {f f2 : AM} {fr : Fr} {S : Store} {g : List D → Store → Res α} : (aKw n k f f2 fr S).bind g = (f fr S).bind fun ds S1 => (f2 fr S1).bind fun es S2 => if ds.length = n ∧ es.length = k then g (ds ++ es) S2 else .bad := by
  unfold aKw
  cases f fr S with
  | exc x S1 => rfl
  | bad => rfl
  | ok ds S1 =>
    simp only [bind_ok]
    cases f2 fr S1 with
    | exc x S1 => rfl
    | bad => rfl
    | ok es S2 =>
      simp only [bind_ok]
      split <;> rfl
/-- i & 1 of any i -/
def oAnd1 : Op2
  | .int i, .int j, S => if j = 1 then .ok (.int (i % 2)) S else .bad
  | _, _, _ => .bad
end Mi

set_option Elab.async false
set_option linter.all false
/-! Mi: displays, slices and sums of tuples known as they stand -/
namespace Mi
def mTupX (a : AM) : EM := fun fr S => (a fr S).bind fun xs S1 => if xs.length ≤ LINE then .ok (.wtp xs) S1 else .bad
def oAddW : Op2
  | .wtp a, .wtp b, S => if a.length + b.length ≤ LINE then .ok (.wtp (a ++ b)) S else .bad
  | _, _, _ => .bad
def oSlW (x : D) (lo hi : Option Int) (S : Store) : Res D := match x with
  | .wtp l => .ok (.wtp (cut l lo hi)) S
  | _ => .bad
def mSlW (a : EM) (lo hi : PM) : EM := fun fr S => (a fr S).bind fun x S1 => (lo fr S1).bind fun l S2 => (hi fr S2).bind fun h S3 => oSlW x l h S3
end Mi

set_option Elab.async false
set_option linter.all false
/-! Mi: instances of own classes -/
namespace Mi
/-- an instance's fields: f put -/
def fPut (f : Tx) (d : D) : List (Tx × D) → List (Tx × D)
  | [] => [(f, d)]
  | (g, x) :: r => if g = f then (g, d) :: r else (g, x) :: fPut f d r
/-- the fields of an instance of cn -/
def insOf (cn : String) (S : Store) : D → Option (Nat × List (Tx × D))
  | .ref n => match S[n]? with
    | some (.ins C fs) => if C = cn then some (n, fs) else none
    | _ => none
  | _ => none
/-- e.f -/
def mFld (cn : String) (f : Tx) (a : EM) : EM := fun fr S => (a fr S).bind fun x S1 => match insOf cn S1 x with
  | some (_, fs) => (match lkF fs f with
    | some d => .ok d S1
    | none => .bad)
  | none => .bad
/-- e.f = v -/
def sFldM (cn : String) (f : Tx) (v a : EM) : SM := fun fr S => (v fr S).bind fun y S1 => (a fr S1).bind fun x S2 => match insOf cn S2 x with
  | some (n, fs) => if fs.length < 1000 then .ok (.nx fr) (S2.set n (.ins cn (fPut f y fs))) else .bad
  | none => .bad
/-- e.m(..) -/
def mMeth (cn : String) (mn : Tx) (g : Fn) (a : EM) (as : AM) : EM := fun fr S => (a fr S).bind fun x S1 => match insOf cn S1 x with
  | some (_, fs) => if lkF fs mn = none then (as fr S1).bind fun ds S2 => g (x :: ds) S2 else .bad
  | none => .bad
/-- C(..) -/
def mMake (cn : String) (g : Fn) (as : AM) : EM := fun fr S => (as fr S).bind fun ds S1 => (g (.ref S1.length :: ds) (S1 ++ [.ins cn []])).bind fun d S2 => if isN d then .ok (.ref S1.length) S2 else .bad
end Mi

set_option Elab.async false
set_option linter.all false
/-! Mi: s.isalpha() of one sign -/
namespace Mi
def alpC (c : Nat) : Bool := (decide (65 ≤ c) && decide (c ≤ 90)) || (decide (97 ≤ c) && decide (c ≤ 122))
def sAlpha (x : D) : Fn := fun ds S => match x with
  | .str [c] => (match ds with
    | [] => if c < 128 then .ok (.bl (alpC c)) S else .bad
    | _ => .bad)
  | _ => .bad
end Mi

set_option Elab.async false
set_option linter.all false
/-! Mi: list(d.values()), sorted([i, j]) -/
namespace Mi
def uVals : D → Store → Res D := fun x S => match x with
  | .ref n => (match S[n]? with
    | some (.dK k) => new (.lst (k.map fun p => p.2)) S
    | _ => .bad)
  | _ => .bad
def mValL (e : EM) : EM := mUn uVals e
end Mi

set_option Elab.async false
set_option linter.all false
/-! Mi: sorted([i, j]); == of tuples of equal items, dicts among them -/
namespace Mi
/-- sorted of a list of two numbers -/
def bSort2 : Fn := fun ds S => match ds with
  | [.ref n] => (match lstOf S n with
    | some [.int i, .int j] => new (.lst (if i ≤ j then [.int i, .int j] else [.int j, .int i])) S
    | _ => .bad)
  | _ => .bad
/-- equal items: flat ones, lists of numbers, dicts -/
def eqI (x y : D) (S : Store) : Bool := match x, y with
  | .ref m, .ref n => (match S[m]?, S[n]? with
    | some (.dK k), some (.dK l) => dSame k l
    | _, _ => false) || (match lstOf S m, lstOf S n with
    | some a, some b => (match intsOf a, intsOf b with
      | some u, some v => decide (u = v)
      | _, _ => false)
    | _, _ => false)
  | x, y => flatD x && flatD y && decide (scq x y = some true)
def eqIs : List D → List D → Store → Bool
  | [], [], _ => true
  | x :: a, y :: b, S => eqI x y S && eqIs a b S
  | _, _, _ => false
def oTup (x y : D) (S : Store) : Bool := match x, y with
  | .tup a, .tup b => eqIs a b S
  | _, _ => false
def oEqT : Op2 := fun x y S => if oTup x y S then .ok (.bl true) S else oEq x y S
def oNeT : Op2 := fun x y S => if oTup x y S then .ok (.bl false) S else oNe x y S
end Mi

set_option Elab.async false
set_option linter.all false
/-! Mi: len(set(l)); sorted of pairs of numbers, in a list or as the keys of a dict -/
namespace Mi
/-- len(set(l)): numbers, none twice -/
def mLenSet (a : EM) : EM := fun fr S => (a fr S).bind fun x S1 => match x with
  | .ref n => (match (lstOf S1 n).bind intsOf with
    | some ns => if ns.Nodup ∧ ns.length ≤ 4000 then .ok (.int (ns.length : Nat)) S1 else .bad
    | none => .bad)
  | _ => .bad
def prOf : D → Option (Int × Int)
  | .tup [.int i, .int j] => some (i, j)
  | _ => none
def pairsD : List D → Option (List (Int × Int))
  | [] => some []
  | d :: r => (prOf d).bind fun p => (pairsD r).map fun l => p :: l
def leP (p q : Int × Int) : Bool := decide (p.1 < q.1 ∨ (p.1 = q.1 ∧ p.2 ≤ q.2))
def prD (p : Int × Int) : D := .tup [.int p.1, .int p.2]
def sortP (l : List (Int × Int)) : List D := (l.mergeSort leP).map prD
def bSortP : Fn := fun ds S => match ds with
  | [.ref n] => (match S[n]? with
    | some (.dT k) => (match pairsD (k.map fun p => .tup (p.1.map kyD)) with
      | some l => new (.lst (sortP l)) S
      | none => .bad)
    | _ => match (lstOf S n).bind pairsD with
      | some l => new (.lst (sortP l)) S
      | none => .bad)
  | _ => .bad
end Mi

set_option Elab.async false
set_option linter.all false
/-! Mi: list(range(..)) -/
namespace Mi
def mLstRg1 (a : EM) : EM := fun fr S => (a fr S).bind fun x S1 => match x with
  | .int j => if 0 ≤ j ∧ j ≤ 16777216 then new (.lst (rng 0 j.toNat)) S1 else .bad
  | _ => .bad
def mLstRg2 (a b : EM) : EM := fun fr S => (a fr S).bind fun x S1 => (b fr S1).bind fun y S2 => match x, y with
  | .int i, .int j => if 0 ≤ i ∧ i ≤ 16777216 ∧ 0 ≤ j ∧ j ≤ 16777216 then new (.lst (rng i (j - i).toNat)) S2 else .bad
  | _, _ => .bad
end Mi

set_option Elab.async false
set_option linter.all false
/-! Mi: a caught exception handed on as a value -/
namespace Mi
/-- try: b / except C as e: y = e, e in slot i, y in slot j -/
def sTryK (sub : String → Option Bool) (i j : Nat) (b : SM) : SM := fun fr S =>
  tryK sub (fun x S' => if i < fr.length then .ok (.nx ((fr.set i none).set j (some (.ref S'.length)))) (S' ++ [.exn x.cls x.fs]) else .bad) (b fr S)
/-- .. y = (s, e) -/
def sTryT (sub : String → Option Bool) (i j : Nat) (s : Tx) (b : SM) : SM := fun fr S =>
  tryK sub (fun x S' => if i < fr.length then .ok (.nx ((fr.set i none).set j (some (.tup [.str s, .ref S'.length])))) (S' ++ [.exn x.cls x.fs]) else .bad) (b fr S)
/-- a call from where nothing may be raised -/
def mQt (g : Fn) : Fn := fun ds S => quiet (g ds S)
def exnOf (S : Store) : D → Option (String × List (Tx × D))
  | .ref n => (match S[n]? with
    | some (.exn C f) => some (C, f)
    | _ => none)
  | _ => none
/-- isinstance(x, C), x an exception; sub: of its class by name -/
def uIsX (sub : String → Option Bool) : D → Store → Res D := fun x S => match exnOf S x with
  | some (C, _) => (match sub C with
    | some b => .ok (.bl b) S
    | none => .bad)
  | none => .bad
/-- x.f, x an exception of the class cn -/
def uXv (cn : String) (f : Tx) : D → Store → Res D := fun x S => match exnOf S x with
  | some (C, fs) => if C = cn then (match lkF fs f with
    | some d => .ok d S
    | none => .bad) else .bad
  | none => .bad
end Mi

set_option Elab.async false
set_option linter.all false
/-! Mi: list(reversed(l)); isinstance of the exception that a suite holds -/
namespace Mi
def uLstRev : D → Store → Res D := fun x S => match x with
  | .ref n => (match lstOf S n with
    | some l => new (.lst l.reverse) S
    | none => .bad)
  | _ => .bad
/-- isinstance(e, C) in the suite -/
def mXi (x : Exn) (sub : String → Option Bool) : EM := fun _ S => match sub x.cls with
  | some b => .ok (.bl b) S
  | none => .bad
end Mi

set_option Elab.async false
set_option linter.all false
/-! Mi: x is True -/
namespace Mi
def oIsTr : Op2 := fun x y S => match y with
  | .bl true => (match x with
    | .bl b => .ok (.bl b) S
    | .non => .ok (.bl false) S
    | .int _ => .ok (.bl false) S
    | .str _ => .ok (.bl false) S
    | _ => .bad)
  | _ => .bad
end Mi

set_option Elab.async false
set_option linter.all false
/-! Mi: s.strip(c) -/
namespace Mi
def stLo (c : Nat) (a : Tx) : Nat := (a.takeWhile fun d => d == c).length
def stHi (c : Nat) (a : Tx) (lo : Nat) : Nat := a.length - ((a.drop lo).reverse.takeWhile fun d => d == c).length
/-- a text without c at its ends -/
def stripT (c : Nat) (a : Tx) : Tx := (a.drop (stLo c a)).take (stHi c a (stLo c a) - stLo c a)
def sStrip (o : D) : Fn := fun ds S => match o with
  | .str a => match ds with
    | [.str [c]] => if a.length ≤ LINE then .ok (.str (stripT c a)) S else .bad
    | _ => .bad
  | _ => .bad
end Mi

set_option Elab.async false
set_option linter.all false
set_option maxRecDepth 100000
set_option maxHeartbeats 2000000
/-! the small language against the layer -/
namespace Sm
open PySem PySem.Spec PyProof.Rows L2 Mi

/-- what the written part is, what the module's names stand for -/
structure Ct where
  K : PySem.W.Frag
  mg : Str → Option Value
def sOf (s : Tx) : Str := ⟨s.toArray⟩
theorem sOf_inj {a b : Tx} (h : sOf a = sOf b) : a = b := by
  have e : a.toArray = b.toArray := congrArg Str.cps h
  simpa using e
theorem sOf_eq {a b : Tx} : decide (sOf a = sOf b) = decide (a = b) := by
  by_cases h : a = b
  · subst h; simp
  · have q : ¬ sOf a = sOf b := fun z => h (sOf_inj z)
    rw [decide_eq_false h, decide_eq_false q]
theorem sOf_len (a : Tx) : (sOf a).length = a.length := by
  show a.toArray.size = a.length
  simp
def H0 : Hp := fun _ => none
/-- a tuple known as it stands: no dict of its own -/
def Wt (K : PySem.W.Frag) (H : Hp) (a : Addr) (xs : List V) : Prop := (∃ o : Obj, H a = some (.frz o (.tup xs)) ∧ o.dict = none) ∨ (SqT K H0 a xs ∧ ∃ o : Obj, K.lookup a = some o ∧ o.dict = none)
mutual
inductive RelD (K : PySem.W.Frag) (H : Hp) (m : List Addr) : D → V → Prop
  | non : RelD K H m .non .non
  | bl (b : Bool) : RelD K H m (.bl b) (.bl b)
  | int (i : Int) : RelD K H m (.int i) (.int i)
  | str (s : Tx) : RelD K H m (.str s) (.str (sOf s))
  | tup {l : List D} {a : Addr} {xs : List V} (h : H a = some (.tup xs)) (r : RelL K H m l xs) : RelD K H m (.tup l) (.ref a)
  | wtp {l : List D} {a : Addr} {xs : List V} (h : Wt K H a xs) (r : RelL K H m l xs) : RelD K H m (.wtp l) (.ref a)
  | ref {n : Nat} {a : Addr} (h : m[n]? = some a) : RelD K H m (.ref n) (.ref a)
inductive RelL (K : PySem.W.Frag) (H : Hp) (m : List Addr) : List D → List V → Prop
  | nil : RelL K H m [] []
  | cons {d : D} {l : List D} {v : V} {r : List V} (h : RelD K H m d v) (t : RelL K H m l r) : RelL K H m (d :: l) (v :: r)
end
def tupO (u : HO) : Prop := (∃ xs, u = .tup xs) ∨ (∃ o xs, u = .frz o (.tup xs)) ∨ ∃ fs, u = .xd fs
def TStay (H H' : Hp) : Prop := ∀ a u, tupO u → H a = some u → H' a = some u
theorem Wt.mono {K : PySem.W.Frag} {H H' : Hp} {a : Addr} {xs : List V} (t : TStay H H') (h : Wt K H a xs) : Wt K H' a xs := by
  rcases h with ⟨o, h, e⟩ | h
  · exact .inl ⟨o, t _ _ (.inr (.inl ⟨o, xs, rfl⟩)) h, e⟩
  · exact .inr h
theorem Wt.sq {K : PySem.W.Frag} {H : Hp} {a : Addr} {xs : List V} (h : Wt K H a xs) : SqT K H a xs := by
  rcases h with ⟨o, h, _⟩ | ⟨h, _⟩
  · exact .inl (.inr ⟨o, h⟩)
  · rcases h with h | h
    · rcases h with h | ⟨o, h⟩ <;> cases h
    · exact .inr h
def MExt (m m' : List Addr) : Prop := ∀ (n : Nat) (a : Addr), m[n]? = some a → m'[n]? = some a
structure Ex0 (m : List Addr) (H : Hp) (m' : List Addr) (H' : Hp) : Prop where
  mx : MExt m m'
  ts : TStay H H'
structure Ext (m : List Addr) (H : Hp) (m' : List Addr) (H' : Hp) : Prop extends Ex0 m H m' H' where
  fz : ∀ a o u, H a = some (.frz o u) → H' a = some (.frz o u)
theorem Ext.refl (m : List Addr) (H : Hp) : Ext m H m H := ⟨⟨fun _ _ h => h, fun _ _ _ h => h⟩, fun _ _ _ h => h⟩
theorem Ext.trans {m m1 m2 : List Addr} {H H1 H2 : Hp} (a : Ext m H m1 H1) (b : Ext m1 H1 m2 H2) : Ext m H m2 H2 :=
  ⟨⟨fun n x h => b.mx n x (a.mx n x h), fun x u t h => b.ts x u t (a.ts x u t h)⟩, fun x o u h => b.fz x o u (a.fz x o u h)⟩
section
variable {K : PySem.W.Frag} {H H' : Hp} {m m' : List Addr}
mutual
theorem RelD.mono0 (e : Ex0 m H m' H') : ∀ {d : D} {v : V}, RelD K H m d v → RelD K H' m' d v
  | _, _, .non => .non
  | _, _, .bl b => .bl b
  | _, _, .int i => .int i
  | _, _, .str s => .str s
  | _, _, .tup h r => .tup (e.ts _ _ (.inl ⟨_, rfl⟩) h) (RelL.mono0 e r)
  | _, _, .wtp h r => .wtp (h.mono e.ts) (RelL.mono0 e r)
  | _, _, .ref h => .ref (e.mx _ _ h)
theorem RelL.mono0 (e : Ex0 m H m' H') : ∀ {d : List D} {v : List V}, RelL K H m d v → RelL K H' m' d v
  | _, _, .nil => .nil
  | _, _, .cons h t => .cons (RelD.mono0 e h) (RelL.mono0 e t)
end
theorem RelD.mono (e : Ext m H m' H') {d : D} {v : V} (h : RelD K H m d v) : RelD K H' m' d v := h.mono0 e.toEx0
theorem RelL.mono (e : Ext m H m' H') {d : List D} {v : List V} (h : RelL K H m d v) : RelL K H' m' d v := h.mono0 e.toEx0
theorem RelL.len : ∀ {l : List D} {xs : List V}, RelL K H m l xs → l.length = xs.length
  | _, _, .nil => rfl
  | _, _, .cons _ t => by rw [List.length_cons, List.length_cons, RelL.len t]
theorem RelL.ix : ∀ {l : List D} {xs : List V} {i : Nat} {d : D}, RelL K H m l xs → l[i]? = some d → ∃ v, xs[i]? = some v ∧ RelD K H m d v
  | _, _, 0, _, .cons h _, e => by
    have e' := Option.some.inj e
    subst e'
    exact ⟨_, rfl, h⟩
  | _, _, i + 1, _, .cons _ t, e => RelL.ix (i := i) t e
  | _, _, _, _, .nil, e => by cases e
theorem RelL.back : ∀ {l : List D} {xs : List V} {i : Nat} {v : V}, RelL K H m l xs → xs[i]? = some v → ∃ d, l[i]? = some d ∧ RelD K H m d v
  | _, _, 0, _, .cons h _, e => by
    have e' := Option.some.inj e
    subst e'
    exact ⟨_, rfl, h⟩
  | _, _, i + 1, _, .cons _ t, e => RelL.back (i := i) t e
  | _, _, _, _, .nil, e => by cases e
theorem RelL.app : ∀ {l r : List D} {xs ys : List V}, RelL K H m l xs → RelL K H m r ys → RelL K H m (l ++ r) (xs ++ ys)
  | _, _, _, _, .nil, h => h
  | _, _, _, _, .cons h t, h2 => .cons h (RelL.app t h2)
theorem RelL.one {d : D} {v : V} (h : RelD K H m d v) : RelL K H m [d] [v] := .cons h .nil
theorem RelL.take : ∀ {l : List D} {xs : List V} (n : Nat), RelL K H m l xs → RelL K H m (l.take n) (xs.take n)
  | _, _, 0, _ => .nil
  | _, _, _ + 1, .nil => .nil
  | _, _, n + 1, .cons h t => .cons h (RelL.take n t)
theorem RelL.drop : ∀ {l : List D} {xs : List V} (n : Nat), RelL K H m l xs → RelL K H m (l.drop n) (xs.drop n)
  | _, _, 0, h => h
  | _, _, _ + 1, .nil => .nil
  | _, _, n + 1, .cons _ t => RelL.drop n t
theorem RelL.set {d : D} {v : V} (h : RelD K H m d v) : ∀ {l : List D} {xs : List V} (i : Nat), RelL K H m l xs → RelL K H m (l.set i d) (xs.set i v)
  | _, _, _, .nil => .nil
  | _, _, 0, .cons _ t => .cons h t
  | _, _, i + 1, .cons q t => .cons q (RelL.set h i t)
theorem RelL.rev {l : List D} {xs : List V} (h : RelL K H m l xs) : RelL K H m l.reverse xs.reverse := by
  induction h using RelL.rec (motive_1 := fun _ _ _ => True) with
  | nil => exact .nil
  | cons h t _ ih =>
    rw [List.reverse_cons, List.reverse_cons]
    exact ih.app (.one h)
  | _ => trivial
theorem RelL.erase : ∀ {l : List D} {xs : List V} (i : Nat), RelL K H m l xs → RelL K H m (l.eraseIdx i) (xs.eraseIdx i)
  | _, _, _, .nil => .nil
  | _, _, 0, .cons _ t => t
  | _, _, i + 1, .cons q t => .cons q (RelL.erase i t)
theorem RelL.dropLast {l : List D} {xs : List V} (h : RelL K H m l xs) : RelL K H m l.dropLast xs.dropLast := by
  rw [List.dropLast_eq_take, List.dropLast_eq_take, h.len]
  exact h.take _
end
/-! ### keys -/
def kyK : Ky → Key
  | .inl i => .inl i
  | .inr s => .inr (sOf s)
theorem kyK_inj {a b : Ky} (h : kyK a = kyK b) : a = b := by
  cases a with
  | inl i => cases b with
    | inl j => cases (Sum.inl.inj h); rfl
    | inr s => cases h
  | inr s => cases b with
    | inl j => cases h
    | inr t => rw [sOf_inj (Sum.inr.inj h)]
theorem kysK_inj {a b : List Ky} (h : a.map kyK = b.map kyK) : a = b := by
  induction a generalizing b with
  | nil => cases b with
    | nil => rfl
    | cons => cases h
  | cons x a ih => cases b with
    | nil => cases h
    | cons y b =>
      rw [List.map_cons, List.map_cons] at h
      obtain ⟨h1, h2⟩ := List.cons.inj h
      rw [kyK_inj h1, ih h2]
section
variable {K : PySem.W.Frag} {H H' : Hp} {m m' : List Addr}
abbrev RelK (K : PySem.W.Frag) (H : Hp) (m : List Addr) {κ κ' : Type} (f : κ → κ') : List (κ × D) → List (κ' × V) → Prop := Paired fun p q => f p.1 = q.1 ∧ RelD K H m p.2 q.2
theorem RelK.mono0 {κ κ' : Type} {f : κ → κ'} (e : Ex0 m H m' H') {k : List (κ × D)} {kv : List (κ' × V)} (h : RelK K H m f k kv) : RelK K H' m' f k kv := Paired.mapP h fun _ _ z => ⟨z.1, z.2.mono0 e⟩
theorem RelK.mono {κ κ' : Type} {f : κ → κ'} (e : Ext m H m' H') {k : List (κ × D)} {kv : List (κ' × V)} (h : RelK K H m f k kv) : RelK K H' m' f k kv := RelK.mono0 e.toEx0 h
end
/-- an exception's object, of that class and with that dict -/
def XO (cls : Value) (d : Option Addr) (a : Addr) : HO := .ext fun h => ∃ (ob : Obj) (ws : Array Value), h.get? a = some ob ∧ Zc cls d ob ∧ ob.data = .fields ws
/-- what stands at an address -/
def RelO (c : Ct) (H : Hp) (m : List Addr) (a : Addr) : O → Prop
  | .lst l => ∃ xs, H a = some (.lst xs) ∧ RelL c.K H m l xs
  | .fls l => ∃ xs, ((∃ o, H a = some (.frz o (.lst xs))) ∨ SqL c.K H0 a xs) ∧ RelL c.K H m l xs
  | .dK k => ∃ kv, H a = some (.dK kv) ∧ RelK c.K H m kyK k kv
  | .dT k => ∃ kv, H a = some (.dT kv) ∧ RelK c.K H m (fun x => x.map kyK) k kv
  | .zK k => ∃ od kv, H a = some (.frz od (.dK kv)) ∧ RelK c.K H m kyK k kv
  | .zT k => ∃ od kv, H a = some (.frz od (.dT kv)) ∧ RelK c.K H m (fun x => x.map kyK) k kv
  | .ins C f => ∃ Ca dx fs, c.mg (C : Str) = some (.ref Ca) ∧ H a = some (.ins Ca dx fs) ∧ RelK c.K H m sOf f fs
  | .exn C f => ∃ Ca da fs, c.mg (C : Str) = some (.ref Ca) ∧ H a = some (XO (.ref Ca) (some da) a) ∧ H da = some (.xd fs) ∧ RelK c.K H m sOf f fs
def liv : O → Prop
  | .fls _ => False
  | .zK _ => False
  | .zT _ => False
  | _ => True
def own : O → Prop
  | .fls _ => False
  | _ => True
theorem liv.own {o : O} (h : liv o) : own o := by cases o <;> trivial
structure RS (c : Ct) (m : List Addr) (S : Store) (H : Hp) : Prop where
  len : m.length = S.length
  ob : ∀ (n : Nat) (a : Addr) (o : O), m[n]? = some a → S[n]? = some o → RelO c H m a o
  inj : ∀ (n n' : Nat) (a : Addr) (o o' : O), m[n]? = some a → m[n']? = some a → S[n]? = some o → S[n']? = some o' → own o → own o' → n = n'
structure RF (K : PySem.W.Frag) (H : Hp) (m : List Addr) (fr : Fr) (σ : L2.St) : Prop where
  len : fr.length = σ.length
  get : ∀ (i : Nat) (d : D), fr[i]? = some (some d) → ∃ v, σ[i]? = some (some v) ∧ RelD K H m d v
section
variable {c : Ct} {H H' : Hp} {m m' : List Addr} {S : Store}
theorem RF.mono {fr : Fr} {σ : L2.St} (e : Ext m H m' H') (h : RF c.K H m fr σ) : RF c.K H' m' fr σ := ⟨h.len, fun i d q => let ⟨v, h1, h2⟩ := h.get i d q; ⟨v, h1, h2.mono e⟩⟩
theorem RF.set {fr : Fr} {σ : L2.St} {d : D} {v : V} (h : RF c.K H m fr σ) (r : RelD c.K H m d v) (i : Nat) : RF c.K H m (fr.set i (some d)) (σ.set i (some v)) := by
  refine ⟨by rw [List.length_set, List.length_set]; exact h.len, fun j d' q => ?_⟩
  by_cases e : i = j
  · subst e
    have hi : i < fr.length := by
      have := (List.getElem?_eq_some_iff.mp q).1
      rwa [List.length_set] at this
    rw [List.getElem?_set_self hi] at q
    cases q
    exact ⟨v, by rw [List.getElem?_set_self (by rw [← h.len]; exact hi)], r⟩
  · rw [List.getElem?_set_ne e] at q
    rw [List.getElem?_set_ne e]
    exact h.get j d' q
theorem RF.none {fr : Fr} {σ : L2.St} (h : RF c.K H m fr σ) (i : Nat) : RF c.K H m (fr.set i none) (σ.set i none) := by
  refine ⟨by rw [List.length_set, List.length_set]; exact h.len, fun j d' q => ?_⟩
  by_cases e : i = j
  · subst e
    have hi : i < fr.length := by
      have := (List.getElem?_eq_some_iff.mp q).1
      rwa [List.length_set] at this
    rw [List.getElem?_set_self hi] at q
    cases q
  · rw [List.getElem?_set_ne e] at q
    rw [List.getElem?_set_ne e]
    exact h.get j d' q
theorem RF.unset {fr : Fr} {σ : L2.St} (h : RF c.K H m fr σ) : ∀ vs : List Nat, RF c.K H m (unset vs fr) (wipe σ vs)
  | [] => h
  | i :: r => (RF.unset h r).none i
theorem RelO.mono0 {a : Addr} {o : O} (e : Ex0 m H m' H') (hk : liv o → ∀ u, H a = some u → H' a = some u) (hf : ∀ ob u, H a = some (.frz ob u) → H' a = some (.frz ob u)) (h : RelO c H m a o) : RelO c H' m' a o := by
  cases o with
  | lst l => obtain ⟨xs, h1, h2⟩ := h; exact ⟨xs, hk trivial _ h1, h2.mono0 e⟩
  | fls l =>
    obtain ⟨xs, h1, h2⟩ := h
    refine ⟨xs, ?_, h2.mono0 e⟩
    rcases h1 with ⟨ob, h1⟩ | h1
    · exact .inl ⟨ob, hf _ _ h1⟩
    · exact .inr h1
  | dK k => obtain ⟨xs, h1, h2⟩ := h; exact ⟨xs, hk trivial _ h1, RelK.mono0 e h2⟩
  | dT k => obtain ⟨xs, h1, h2⟩ := h; exact ⟨xs, hk trivial _ h1, RelK.mono0 e h2⟩
  | zK k => obtain ⟨od, xs, h1, h2⟩ := h; exact ⟨od, xs, hf _ _ h1, RelK.mono0 e h2⟩
  | zT k => obtain ⟨od, xs, h1, h2⟩ := h; exact ⟨od, xs, hf _ _ h1, RelK.mono0 e h2⟩
  | ins C f => obtain ⟨Ca, dx, fs, h0, h1, h2⟩ := h; exact ⟨Ca, dx, fs, h0, hk trivial _ h1, RelK.mono0 e h2⟩
  | exn C f => obtain ⟨Ca, da, fs, h0, h1, h2, h3⟩ := h; exact ⟨Ca, da, fs, h0, hk trivial _ h1, e.ts _ _ (.inr (.inr ⟨_, rfl⟩)) h2, RelK.mono0 e h3⟩
theorem RelO.mono {a : Addr} {o : O} (e : Ext m H m' H') (hk : liv o → ∀ u, H a = some u → H' a = some u) (hf : ∀ ob u, H a = some (.frz ob u) → H' a = some (.frz ob u)) (h : RelO c H m a o) : RelO c H' m' a o := h.mono0 e.toEx0 hk hf
/-- a live object is tracked, and may be changed -/
theorem RelO.mut {a : Addr} {o : O} (h : RelO c H m a o) (l : liv o) : Mut (H a) := by
  cases o with
  | lst l => obtain ⟨xs, h1, _⟩ := h; rw [h1]; trivial
  | fls l => exact l.elim
  | dK k => obtain ⟨xs, h1, _⟩ := h; rw [h1]; trivial
  | dT k => obtain ⟨xs, h1, _⟩ := h; rw [h1]; trivial
  | zK k => exact l.elim
  | zT k => exact l.elim
  | ins C f => obtain ⟨Ca, dx, fs, h0, h1, _⟩ := h; rw [h1]; trivial
  | exn C f => obtain ⟨Ca, da, fs, h0, h1, _⟩ := h; rw [h1]; trivial
/-- an own object stands -/
theorem RelO.stands {a : Addr} {o : O} (h : RelO c H m a o) (l : own o) : H a ≠ none := by
  cases o with
  | lst l => obtain ⟨xs, h1, _⟩ := h; rw [h1]; simp
  | fls l => exact l.elim
  | dK k => obtain ⟨xs, h1, _⟩ := h; rw [h1]; simp
  | dT k => obtain ⟨xs, h1, _⟩ := h; rw [h1]; simp
  | zK k => obtain ⟨od, xs, h1, _⟩ := h; rw [h1]; simp
  | zT k => obtain ⟨od, xs, h1, _⟩ := h; rw [h1]; simp
  | ins C f => obtain ⟨Ca, dx, fs, h0, h1, _⟩ := h; rw [h1]; simp
  | exn C f => obtain ⟨Ca, da, fs, h0, h1, _⟩ := h; rw [h1]; simp
theorem tstay_new {p : Addr} {o : HO} (h : H p = none) : TStay H (upd H p o) := fun a u _ e => by rw [upd_ne (ne_of_none e h)]; exact e
theorem tstay_mut {p : Addr} {o : HO} (h : Mut (H p)) : TStay H (upd H p o) := fun a u t e => by
  have ne : a ≠ p := fun z => by
    subst z; rw [e] at h
    rcases t with ⟨xs, rfl⟩ | ⟨o, xs, rfl⟩ | ⟨fs, rfl⟩ <;> exact h
  rw [upd_ne ne]; exact e
theorem fstay_new {p : Addr} {o : HO} (h : H p = none) : ∀ a ob u, H a = some (.frz ob u) → upd H p o a = some (.frz ob u) := fun a ob u e => by rw [upd_ne (ne_of_none e h)]; exact e
theorem fstay_mut {p : Addr} {o : HO} (h : Mut (H p)) : ∀ a ob u, H a = some (.frz ob u) → upd H p o a = some (.frz ob u) := fun a ob u e => by
  have ne : a ≠ p := fun z => by subst z; rw [e] at h; exact h
  rw [upd_ne ne]; exact e
theorem mext_push (m : List Addr) (p : Addr) : MExt m (m ++ [p]) := fun n a h => by
  rw [List.getElem?_append_left (List.getElem?_eq_some_iff.mp h).1]; exact h
/-- a new object -/
theorem RS.push {p : Addr} {o : O} {u : HO} (r : RS c m S H) (h : H p = none) (ho : RelO c (upd H p u) (m ++ [p]) p o) : RS c (m ++ [p]) (S ++ [o]) (upd H p u) ∧ Ext m H (m ++ [p]) (upd H p u) := by
  have e : Ext m H (m ++ [p]) (upd H p u) := ⟨⟨mext_push m p, tstay_new h⟩, fstay_new h⟩
  have old : ∀ (n : Nat) (a : Addr), n < m.length → (m ++ [p])[n]? = some a → m[n]? = some a := fun n a hn q => by rwa [List.getElem?_append_left hn] at q
  have oldS : ∀ (n : Nat) (x : O), n < m.length → (S ++ [o])[n]? = some x → S[n]? = some x := fun n x hn q => by rwa [List.getElem?_append_left (by rw [← r.len]; exact hn)] at q
  have last : ∀ (n : Nat) (a : Addr), ¬ n < m.length → (m ++ [p])[n]? = some a → n = m.length ∧ a = p := fun n a hn q => by
    have h1 := (List.getElem?_eq_some_iff.mp q).1
    rw [List.length_append] at h1
    have h2 : n = m.length := by simp at h1; omega
    subst h2
    rw [List.getElem?_append_right (Nat.le_refl _), Nat.sub_self] at q
    exact ⟨rfl, (Option.some.inj q).symm⟩
  have lastS : ∀ (n : Nat) (x : O), n = m.length → (S ++ [o])[n]? = some x → x = o := fun n x hn q => by
    rw [hn, r.len, List.getElem?_append_right (Nat.le_refl _), Nat.sub_self] at q
    exact (Option.some.inj q).symm
  refine ⟨⟨by rw [List.length_append, List.length_append, r.len] <;> rfl, fun n a x q1 q2 => ?_, fun n n' a x x' q1 q2 q3 q4 l1 l2 => ?_⟩, e⟩
  · by_cases hn : n < m.length
    · have k1 := old n a hn q1
      have k2 := r.ob n a x k1 (oldS n x hn q2)
      exact k2.mono e (fun _ u' z => by rw [upd_ne (ne_of_none z h)]; exact z) fun ob u' z => by rw [upd_ne (ne_of_none z h)]; exact z
    · obtain ⟨e1, e2⟩ := last n a hn q1
      have e3 := lastS n x e1 q2
      subst e2 e3
      exact ho
  · have nl : ∀ (n : Nat) (a : Addr) (x : O), n < m.length → (m ++ [p])[n]? = some a → (S ++ [o])[n]? = some x → own x → a ≠ p := fun n a x hn q1 q3 l => by
      have k := (r.ob n a x (old n a hn q1) (oldS n x hn q3)).stands l
      intro z
      subst z
      exact k h
    by_cases hn : n < m.length
    · by_cases hn' : n' < m.length
      · exact r.inj n n' a x x' (old n a hn q1) (old n' a hn' q2) (oldS n x hn q3) (oldS n' x' hn' q4) l1 l2
      · exact absurd (last n' a hn' q2).2 (nl n a x hn q1 q3 l1)
    · by_cases hn' : n' < m.length
      · exact absurd (last n a hn q1).2 (nl n' a x' hn' q2 q4 l2)
      · rw [(last n a hn q1).1, (last n' a hn' q2).1]
/-- a fresh thing that is not in the store -/
theorem RS.fresh {p : Addr} {u : HO} (r : RS c m S H) (h : H p = none) : RS c m S (upd H p u) := by
  have e : Ext m H m (upd H p u) := ⟨⟨fun _ _ z => z, tstay_new h⟩, fstay_new h⟩
  exact ⟨r.len, fun n a x q1 q2 => (r.ob n a x q1 q2).mono e (fun _ u' z => by rw [upd_ne (ne_of_none z h)]; exact z) fun ob u' z => by rw [upd_ne (ne_of_none z h)]; exact z, r.inj⟩
/-- an object changed -/
theorem RS.set {n : Nat} {a : Addr} {o o' : O} {u : HO} (r : RS c m S H) (ha : m[n]? = some a) (hs : S[n]? = some o) (l : liv o) (l' : liv o') (ho : Ext m H m (upd H a u) → RelO c (upd H a u) m a o') : RS c m (S.set n o') (upd H a u) ∧ Ext m H m (upd H a u) := by
  have mu := (r.ob n a o ha hs).mut l
  have e : Ext m H m (upd H a u) := ⟨⟨fun _ _ z => z, tstay_mut mu⟩, fstay_mut mu⟩
  refine ⟨⟨by rw [List.length_set]; exact r.len, fun k b x q1 q2 => ?_, fun k k' b x x' q1 q2 q3 q4 l1 l2 => ?_⟩, e⟩
  · by_cases hk : n = k
    · subst hk
      rw [ha] at q1
      cases q1
      have hn := (List.getElem?_eq_some_iff.mp hs).1
      rw [List.getElem?_set_self hn] at q2
      cases q2
      exact ho e
    · rw [List.getElem?_set_ne hk] at q2
      have k2 := r.ob k b x q1 q2
      refine k2.mono e (fun lx u' z => ?_) fun ob u' z => ?_
      · have ne : b ≠ a := fun w => hk (r.inj n k a o x ha (by rw [← w]; exact q1) hs q2 l.own lx.own)
        rw [upd_ne ne]; exact z
      · have ne : b ≠ a := fun w => by subst w; rw [z] at mu; exact mu
        rw [upd_ne ne]; exact z
  · have at_ : ∀ (k : Nat) (x : O), (S.set n o')[k]? = some x → own x → ∃ x0, S[k]? = some x0 ∧ own x0 := fun k x q lx => by
      by_cases hk : n = k
      · subst hk; exact ⟨o, hs, l.own⟩
      · rw [List.getElem?_set_ne hk] at q; exact ⟨x, q, lx⟩
    obtain ⟨y, z1, z2⟩ := at_ k x q3 l1
    obtain ⟨y', z1', z2'⟩ := at_ k' x' q4 l2
    exact r.inj k k' b y y' q1 q2 z1 z1' z2 z2'
/-- an object locked -/
theorem RS.lockz {n : Nat} {a : Addr} {o z : O} {u : HO} (r : RS c m S H) (ha : m[n]? = some a) (hs : S[n]? = some o) (l : liv o) (ho : Ext m H m (upd H a u) → RelO c (upd H a u) m a z) : RS c m (S.set n z) (upd H a u) ∧ Ext m H m (upd H a u) := by
  have mu := (r.ob n a o ha hs).mut l
  have e : Ext m H m (upd H a u) := ⟨⟨fun _ _ z => z, tstay_mut mu⟩, fstay_mut mu⟩
  refine ⟨⟨by rw [List.length_set]; exact r.len, fun k b x q1 q2 => ?_, fun k k' b x x' q1 q2 q3 q4 l1 l2 => ?_⟩, e⟩
  · by_cases hk : n = k
    · subst hk
      rw [ha] at q1
      cases q1
      have hn := (List.getElem?_eq_some_iff.mp hs).1
      rw [List.getElem?_set_self hn] at q2
      cases q2
      exact ho e
    · rw [List.getElem?_set_ne hk] at q2
      have k2 := r.ob k b x q1 q2
      refine k2.mono e (fun lx u' z => ?_) fun ob u' z => ?_
      · have ne : b ≠ a := fun w => hk (r.inj n k a o x ha (by rw [← w]; exact q1) hs q2 l.own lx.own)
        rw [upd_ne ne]; exact z
      · have ne : b ≠ a := fun w => by subst w; rw [z] at mu; exact mu
        rw [upd_ne ne]; exact z
  · have at_ : ∀ (k : Nat) (x : O), (S.set n z)[k]? = some x → own x → ∃ x0, S[k]? = some x0 ∧ own x0 := fun k x q lx => by
      by_cases hk : n = k
      · subst hk; exact ⟨o, hs, l.own⟩
      · rw [List.getElem?_set_ne hk] at q; exact ⟨x, q, lx⟩
    obtain ⟨y, z1, z2⟩ := at_ k x q3 l1
    obtain ⟨y', z1', z2'⟩ := at_ k' x' q4 l2
    exact r.inj k k' b y y' q1 q2 z1 z1' z2 z2'
/-- and set free again -/
theorem RS.unlockz {n : Nat} {a : Addr} {o z : O} {u v : HO} {od : Obj} (r : RS c m S H) (ha : m[n]? = some a) (hs : S[n]? = some z) (l : own z) (l' : own o) (hz : H a = some (.frz od v)) (hv : ∀ xs, v ≠ .lst xs) (hvt : ∀ xs, v ≠ .tup xs) (ho : Ex0 m H m (upd H a u) → RelO c (upd H a u) m a o) : RS c m (S.set n o) (upd H a u) := by
  have e : Ex0 m H m (upd H a u) := ⟨fun _ _ z => z, fun b u t q => by
    have ne : b ≠ a := fun w => by
      subst w; rw [hz] at q
      rcases t with ⟨xs, rfl⟩ | ⟨o, xs, rfl⟩ | ⟨fs, rfl⟩
      · cases q
      · injection q with q; injection q with _ q; exact hvt xs q
      · cases q
    rw [upd_ne ne]; exact q⟩
  refine ⟨by rw [List.length_set]; exact r.len, fun k b x q1 q2 => ?_, fun k k' b x x' q1 q2 q3 q4 l1 l2 => ?_⟩
  · by_cases hk : n = k
    · subst hk
      rw [ha] at q1
      cases q1
      have hn := (List.getElem?_eq_some_iff.mp hs).1
      rw [List.getElem?_set_self hn] at q2
      cases q2
      exact ho e
    · rw [List.getElem?_set_ne hk] at q2
      have k2 := r.ob k b x q1 q2
      have ne : own x → b ≠ a := fun lx w => hk (r.inj n k a z x ha (by rw [← w]; exact q1) hs q2 l lx)
      cases x with
      | fls l =>
        obtain ⟨xs, h1, h2⟩ := k2
        refine ⟨xs, ?_, h2.mono0 e⟩
        rcases h1 with ⟨ob, h1⟩ | h1
        · have ne : b ≠ a := fun w => by subst w; rw [hz] at h1; injection h1 with h1; injection h1 with _ h1; exact hv xs h1
          exact .inl ⟨ob, by rw [upd_ne ne]; exact h1⟩
        · exact .inr h1
      | _ =>
        have ne' := ne trivial
        exact k2.mono0 e (fun lx u' z => by rw [upd_ne ne']; exact z) fun ob u' z => by rw [upd_ne ne']; exact z
  · have at_ : ∀ (k : Nat) (x : O), (S.set n o)[k]? = some x → own x → ∃ x0, S[k]? = some x0 ∧ own x0 := fun k x q lx => by
      by_cases hk : n = k
      · subst hk; exact ⟨z, hs, l⟩
      · rw [List.getElem?_set_ne hk] at q; exact ⟨x, q, lx⟩
    obtain ⟨y, z1, z2⟩ := at_ k x q3 l1
    obtain ⟨y', z1', z2'⟩ := at_ k' x' q4 l2
    exact r.inj k k' b y y' q1 q2 z1 z1' z2 z2'
theorem RS.get {n : Nat} {a : Addr} (r : RS c m S H) (h : m[n]? = some a) : ∃ o, S[n]? = some o := by
  have h1 := (List.getElem?_eq_some_iff.mp h).1
  rw [r.len] at h1
  exact ⟨S[n], List.getElem?_eq_getElem h1⟩
theorem RS.adr {n : Nat} {o : O} (r : RS c m S H) (h : S[n]? = some o) : ∃ a, m[n]? = some a := by
  have h1 := (List.getElem?_eq_some_iff.mp h).1
  rw [← r.len] at h1
  exact ⟨m[n], List.getElem?_eq_getElem h1⟩
/-- a list may be read -/
theorem sql0 {K : PySem.W.Frag} {H : Hp} {a : Addr} {xs : List V} (h : SqL K H0 a xs) : SqL K H a xs := by
  rcases h with h | h
  · rcases h with h | ⟨o, h⟩ <;> cases h
  · exact .inr h
theorem sqt0 {K : PySem.W.Frag} {H : Hp} {a : Addr} {xs : List V} (h : SqT K H0 a xs) : SqT K H a xs := by
  rcases h with h | h
  · rcases h with h | ⟨o, h⟩ <;> cases h
  · exact .inr h
theorem RS.lst {n : Nat} {a : Addr} {l : List D} (r : RS c m S H) (ha : m[n]? = some a) (hl : lstOf S n = some l) : ∃ xs, SqL c.K H a xs ∧ RelL c.K H m l xs := by
  unfold lstOf at hl
  split at hl
  · rename_i l' e
    cases hl
    obtain ⟨xs, h1, h2⟩ := r.ob n a _ ha e
    exact ⟨xs, .inl (.inl h1), h2⟩
  · rename_i l' e
    cases hl
    obtain ⟨xs, h1, h2⟩ := r.ob n a _ ha e
    refine ⟨xs, ?_, h2⟩
    rcases h1 with ⟨ob, h1⟩ | h1
    · exact .inl (.inr ⟨ob, h1⟩)
    · exact sql0 h1
  · cases hl
end
end Sm

set_option Elab.async false
set_option linter.all false
set_option maxRecDepth 100000
set_option maxHeartbeats 2000000
/-! readings by the small language: expressions -/
namespace Sm
open PySem PySem.Spec PyProof.Rows L2 Mi

/-- an exception as the layer bears it -/
def RelX (c : Ct) (H : Hp) (m : List Addr) (x : Exn) (cls : Value) (da : Option Addr) : Prop :=
  ∃ C : Addr, c.mg (x.cls : Str) = some (.ref C) ∧ cls = .ref C ∧ ∃ d fs, da = some d ∧ H d = some (.xd fs) ∧ RelK c.K H m sOf x.fs fs
def Post {α : Type} (c : Ct) (E : XK) (m : List Addr) (H : Hp) (r : Res α) (k : α → Store → List Addr → Hp → Prop) : Prop := match r with
  | .ok a S => ∀ m' H', Ext m H m' H' → RS c m' S H' → k a S m' H'
  | .exc x S => ∀ m' H', Ext m H m' H' → RS c m' S H' → ∀ cls da, RelX c H' m' x cls da → E cls da H'
  | .bad => False
section
variable {α β : Type} {c : Ct} {E : XK} {m m' : List Addr} {H H' : Hp} {r : Res α} {k k' : α → Store → List Addr → Hp → Prop}
theorem Post.ext (p : Post c E m H r k) (e : Ext m H m' H') : Post c E m' H' r k := by
  cases r with
  | ok a S => exact fun m2 H2 e2 r2 => p m2 H2 (e.trans e2) r2
  | exc x S => exact fun m2 H2 e2 r2 => p m2 H2 (e.trans e2) r2
  | bad => exact p
theorem Post.imp (p : Post c E m H r k) (f : ∀ a S m' H', Ext m H m' H' → RS c m' S H' → k a S m' H' → k' a S m' H') : Post c E m H r k' := by
  cases r with
  | ok a S => exact fun m2 H2 e2 r2 => f a S m2 H2 e2 r2 (p m2 H2 e2 r2)
  | exc x S => exact p
  | bad => exact p
theorem post_bind {f : α → Store → Res β} {k : β → Store → List Addr → Hp → Prop} (p : Post c E m H (r.bind f) k) : Post c E m H r fun a S m1 H1 => Post c E m1 H1 (f a S) k := by
  cases r with
  | ok a S => exact fun m2 H2 e2 _ => Post.ext (r := f a S) p e2
  | exc x S => exact p
  | bad => exact p
theorem post_quiet {E' : XK} (p : Post c E m H (quiet r) k) : Post c E' m H r k := by
  cases r with
  | ok a S => exact p
  | exc x S => exact p.elim
  | bad => exact p
theorem Post.here {a : α} {S : Store} (p : Post c E m H (.ok a S) k) (r : RS c m S H) : k a S m H := p m H (Ext.refl m H) r
end

/-! ### readings -/
abbrev cx (X : Cx) : Ct := ⟨X.K, X.mg⟩
abbrev kE (c : Ct) (Q : VK) : D → Store → List Addr → Hp → Prop := fun d _ m H => ∀ v, RelD c.K H m d v → Q v H
def rdE (c : Ct) (E : XK) (f : EM) : TE := fun σ H Q => ∃ fr S m, RF c.K H m fr σ ∧ RS c m S H ∧ Post c E m H (f fr S) (kE c Q)
def rdT (c : Ct) (E : XK) (f : TM) : TT := fun σ H Q => ∃ fr S m, RF c.K H m fr σ ∧ RS c m S H ∧ Post c E m H (f fr S) fun b _ _ H => Q b H
def rdA (c : Ct) (E : XK) (f : AM) : TA := fun σ H Q => ∃ fr S m, RF c.K H m fr σ ∧ RS c m S H ∧ Post c E m H (f fr S) fun ds _ m H => ∀ vs, RelL c.K H m ds vs → Q vs H
def rdP (c : Ct) (E : XK) (f : PM) : TO := fun σ H Q => ∃ fr S m, RF c.K H m fr σ ∧ RS c m S H ∧ Post c E m H (f fr S) fun o _ _ H => Q o H
def rdG (c : Ct) (E : XK) (g : GM) : TG := fun v σ H Q => ∃ d fr S m, RelD c.K H m d v ∧ RF c.K H m fr σ ∧ RS c m S H ∧ Post c E m H (g d fr S) fun fr' _ m H => ∀ σ', RF c.K H m fr' σ' → Q σ' H
def rdGs (c : Ct) (E : XK) (g : GMs) : TGs := fun vs σ H Q => ∃ ds fr S m, RelL c.K H m ds vs ∧ RF c.K H m fr σ ∧ RS c m S H ∧ Post c E m H (g ds fr S) fun fr' _ m H => ∀ σ', RF c.K H m fr' σ' → Q σ' H
def kS (c : Ct) (D : Ends) : Out → Store → List Addr → Hp → Prop := fun o _ m H => match o with
  | .nx fr => ∀ σ, RF c.K H m fr σ → D.nx σ H
  | .rt d => ∀ v, RelD c.K H m d v → D.rt v H
  | .bk fr => ∀ σ, RF c.K H m fr σ → D.bk σ H
  | .ct fr => ∀ σ, RF c.K H m fr σ → D.ct σ H
def rdS (c : Ct) (E : XK) (g : SM) : TS := fun D σ H => ∃ fr S m, RF c.K H m fr σ ∧ RS c m S H ∧ Post c E m H (g fr S) (kS c D)
abbrev SE (X : Cx) (E : XK) (e : Expr) (f : EM) : Prop := PE X e (rdE (cx X) E f)
abbrev STt (X : Cx) (E : XK) (e : Expr) (f : TM) : Prop := PT X e (rdT (cx X) E f)
abbrev SW (X : Cx) (E : XK) (e : Expr) (f : TM) : Prop := PW X e (rdT (cx X) E f)
abbrev SA (X : Cx) (E : XK) (es : List Expr) (f : AM) : Prop := PA X es (rdA (cx X) E f)
abbrev SO (X : Cx) (E : XK) (e : Option Expr) (f : PM) : Prop := PO X e (rdP (cx X) E f)
abbrev SG (X : Cx) (E : XK) (e : Expr) (g : GM) : Prop := PG X e (rdG (cx X) E g)
abbrev SGs (X : Cx) (E : XK) (e : List Expr) (g : GMs) : Prop := PGs X e (rdGs (cx X) E g)
abbrev SS (X : Cx) (E : XK) (st : Stmt) (g : SM) : Prop := PS X st (rdS (cx X) E g)
abbrev SSs (X : Cx) (E : XK) (st : List Stmt) (g : SM) : Prop := PSs X st (rdS (cx X) E g)
section
variable {X : Cx}
theorem PE.mono {e : Expr} {t t' : TE} (h : PE X e t) (f : ∀ σ H Q, t' σ H Q → t σ H Q) : PE X e t' := ⟨fun pins s σ H Q I q => h.run pins s σ H Q I (f σ H Q q)⟩
theorem PT.mono {e : Expr} {t t' : TT} (h : PT X e t) (f : ∀ σ H Q, t' σ H Q → t σ H Q) : PT X e t' := ⟨fun pins s σ H Q I q => h.run pins s σ H Q I (f σ H Q q)⟩
theorem PW.mono {e : Expr} {t t' : TT} (h : PW X e t) (f : ∀ σ H Q, t' σ H Q → t σ H Q) : PW X e t' := ⟨fun wh pins s σ H Q I q => h.run wh pins s σ H Q I (f σ H Q q)⟩
theorem PA.mono {e : List Expr} {t t' : TA} (h : PA X e t) (f : ∀ σ H Q, t' σ H Q → t σ H Q) : PA X e t' := ⟨fun pos pins s σ H Q I q => h.run pos pins s σ H Q I (f σ H Q q)⟩
theorem PS.mono {e : Stmt} {t t' : TS} (h : PS X e t) (f : ∀ D σ H, t' D σ H → t D σ H) : PS X e t' := ⟨fun pins s σ H D I q => h.run pins s σ H D I (f D σ H q)⟩
theorem PSs.mono {e : List Stmt} {t t' : TS} (h : PSs X e t) (f : ∀ D σ H, t' D σ H → t D σ H) : PSs X e t' := ⟨fun pins s σ H D I q => h.run pins s σ H D I (f D σ H q)⟩
end
section
variable {X : Cx} {E : XK} {a b e : Expr} {fa fb : EM} {pos : Pos}
/-- the reading of a part, from a bind -/
theorem rd_bind {f : EM} {fr : Fr} {S : Store} {m : List Addr} {σ : L2.St} {H : Hp} {Q : VK} {c : Ct} {α : Type} {h : D → Store → Res α} {kk : α → Store → List Addr → Hp → Prop}
    (rf : RF c.K H m fr σ) (rs : RS c m S H) (p : Post c E m H ((f fr S).bind h) kk)
    (n : ∀ d S1 m1 H1, Ext m H m1 H1 → RF c.K H1 m1 fr σ → RS c m1 S1 H1 → Post c E m1 H1 (h d S1) kk → ∀ v, RelD c.K H1 m1 d v → Q v H1) : rdE c E f σ H Q :=
  ⟨fr, S, m, rf, rs, (post_bind p).imp fun d S1 m1 H1 e1 rs1 p1 => n d S1 m1 H1 e1 (rf.mono e1) rs1 p1⟩
theorem rdT_bind {f : TM} {fr : Fr} {S : Store} {m : List Addr} {σ : L2.St} {H : Hp} {Q : Bool → Hp → Prop} {c : Ct} {α : Type} {h : Bool → Store → Res α} {kk : α → Store → List Addr → Hp → Prop}
    (rf : RF c.K H m fr σ) (rs : RS c m S H) (p : Post c E m H ((f fr S).bind h) kk)
    (n : ∀ d S1 m1 H1, Ext m H m1 H1 → RF c.K H1 m1 fr σ → RS c m1 S1 H1 → Post c E m1 H1 (h d S1) kk → Q d H1) : rdT c E f σ H Q :=
  ⟨fr, S, m, rf, rs, (post_bind p).imp fun d S1 m1 H1 e1 rs1 p1 => n d S1 m1 H1 e1 (rf.mono e1) rs1 p1⟩
theorem rdA_bind {f : AM} {fr : Fr} {S : Store} {m : List Addr} {σ : L2.St} {H : Hp} {Q : List V → Hp → Prop} {c : Ct} {α : Type} {h : List D → Store → Res α} {kk : α → Store → List Addr → Hp → Prop}
    (rf : RF c.K H m fr σ) (rs : RS c m S H) (p : Post c E m H ((f fr S).bind h) kk)
    (n : ∀ d S1 m1 H1, Ext m H m1 H1 → RF c.K H1 m1 fr σ → RS c m1 S1 H1 → Post c E m1 H1 (h d S1) kk → ∀ v, RelL c.K H1 m1 d v → Q v H1) : rdA c E f σ H Q :=
  ⟨fr, S, m, rf, rs, (post_bind p).imp fun d S1 m1 H1 e1 rs1 p1 => n d S1 m1 H1 e1 (rf.mono e1) rs1 p1⟩
theorem rdP_bind {f : PM} {fr : Fr} {S : Store} {m : List Addr} {σ : L2.St} {H : Hp} {Q : Option Int → Hp → Prop} {c : Ct} {α : Type} {h : Option Int → Store → Res α} {kk : α → Store → List Addr → Hp → Prop}
    (rf : RF c.K H m fr σ) (rs : RS c m S H) (p : Post c E m H ((f fr S).bind h) kk)
    (n : ∀ d S1 m1 H1, Ext m H m1 H1 → RF c.K H1 m1 fr σ → RS c m1 S1 H1 → Post c E m1 H1 (h d S1) kk → Q d H1) : rdP c E f σ H Q :=
  ⟨fr, S, m, rf, rs, (post_bind p).imp fun d S1 m1 H1 e1 rs1 p1 => n d S1 m1 H1 e1 (rf.mono e1) rs1 p1⟩

/-! ### names and constants -/
theorem se_var (i : Nat) {x : Str} {pos : Pos} (hN : X.N[i]? = some x := by rfl) (hv : Vis X.env.scope x := by first | exact Or.inl rfl | exact Or.inr (Or.inl rfl) | exact Or.inr (Or.inr rfl)) (hd : (x == ("__debug__" : Str)) = false := by decide)
    (hcd : (x == ("__classdict__" : Str)) = false := by decide) : SE X E (.Name x pos) (mVar i) := by
  refine PE.mono (pe_var hN hv hd hcd) fun σ H Q ⟨fr, S, m, rf, rs, p⟩ => ?_
  unfold mVar at p
  split at p
  · rename_i d e
    obtain ⟨v, h1, h2⟩ := rf.get i d e
    exact ⟨v, h1, p.here rs v h2⟩
  · exact p.elim
theorem se_c {d : D} {v : V} {e : Expr} (h : PE X e (tC v)) (r : ∀ H m, RelD X.K H m d v) : SE X E e (mC d) :=
  PE.mono h fun σ H Q ⟨fr, S, m, rf, rs, p⟩ => p.here rs v (r H m)
theorem se_int {i : Int} {j pos} : SE X E (.Constant (.int i) j pos) (mC (.int i)) := se_c pe_int fun _ _ => .int i
theorem se_bl {i : Bool} {j pos} : SE X E (.Constant (.bool i) j pos) (mC (.bl i)) := se_c pe_bl fun _ _ => .bl i
theorem se_non {j pos} : SE X E (.Constant .none j pos) (mC .non) := se_c pe_non fun _ _ => .non
theorem se_str {x : Str} {s : Tx} {j pos} (h : x = sOf s) : SE X E (.Constant (.str x) j pos) (mC (.str s)) := by
  subst h
  exact se_c pe_str fun _ _ => .str s
/-- a number of the module's top -/
theorem se_gint {x : Str} {i : Int} {t : Tok} {pos : Pos} (hg : Gl X x) (hm : X.mg x = some (.int i t)) (hd : (x == ("__debug__" : Str)) = false := by decide) : SE X E (.Name x pos) (mC (.int i)) := se_c (pe_glob hg hm (v := .int i) ⟨t, rfl⟩ hd) fun _ _ => .int i
theorem se_gstr {x : Str} {y : Str} {s : Tx} {t : Tok} {pos : Pos} (hg : Gl X x) (hm : X.mg x = some (.str y t)) (h : y = sOf s) (hd : (x == ("__debug__" : Str)) = false := by decide) : SE X E (.Name x pos) (mC (.str s)) := by
  subst h
  exact se_c (pe_glob hg hm (v := .str (sOf s)) ⟨t, rfl⟩ hd) fun _ _ => .str s
/-- a tuple of the module's top -/
theorem se_gtup {x : Str} {l : List D} {a : Addr} {xs : List V} {pos : Pos} (hg : Gl X x) (hm : X.mg x = some (.ref a)) (h : SqT X.K H0 a xs ∧ ∃ o : Obj, X.K.lookup a = some o ∧ o.dict = none) (r : RelL X.K H0 [] l xs) (hd : (x == ("__debug__" : Str)) = false := by decide) : SE X E (.Name x pos) (mC (.wtp l)) :=
  se_c (pe_glob hg hm (v := .ref a) rfl hd) fun H m => .wtp (.inr h) (r.mono ⟨⟨fun _ _ z => by simp at z, fun _ _ _ z => by cases z⟩, fun _ _ _ z => by cases z⟩)

/-! ### operators -/
def OpM (X : Cx) (E : XK) (f : Value → Value → Sem Value) (g : Op2) : Prop := ∃ r : R2, OpR X f r ∧
  ∀ x y v w S m H Q, RS (cx X) m S H → RelD X.K H m x v → RelD X.K H m y w → Post (cx X) E m H (g x y S) (kE (cx X) Q) → r v w H Q
theorem opr_or {f : Value → Value → Sem Value} {r r' : R2} (h : OpR X f r) (h' : OpR X f r') : OpR X f fun x y H Q => r x y H Q ∨ r' x y H Q := by
  intro pins s σ H x y v u Q I rx ry q
  rcases q with q | q
  · exact h pins s σ H x y v u Q I rx ry q
  · exact h' pins s σ H x y v u Q I rx ry q
theorem se_op {op : Operator} {g : Op2} (o : OpM X E (binaryOp op) g) (ha : SE X E a fa) (hb : SE X E b fb) : SE X E (.BinOp a op b pos) (mOp g fa fb) := by
  obtain ⟨r, ho, hr⟩ := o
  refine PE.mono (pe_op ho ha hb) fun σ H Q ⟨fr, S, m, rf, rs, p⟩ => ?_
  refine rd_bind rf rs p fun x S1 m1 H1 e1 rf1 rs1 p1 v hv => ?_
  refine rd_bind rf1 rs1 p1 fun y S2 m2 H2 e2 rf2 rs2 p2 w hw => ?_
  exact hr x y v w S2 m2 H2 Q rs2 (hv.mono e2) hw p2
theorem se_cmp {op : CmpOp} {g : Op2} (o : OpM X E (compareOp op) g) (ha : SE X E a fa) (hb : SE X E b fb) (hm : behindInMarks op b = false) : SE X E (.Compare a [op] [b] pos) (mOp g fa fb) := by
  obtain ⟨r, ho, hr⟩ := o
  refine PE.mono (pe_cmpR ho ha hb hm) fun σ H Q ⟨fr, S, m, rf, rs, p⟩ => ?_
  refine rd_bind rf rs p fun x S1 m1 H1 e1 rf1 rs1 p1 v hv => ?_
  refine rd_bind rf1 rs1 p1 fun y S2 m2 H2 e2 rf2 rs2 p2 w hw => ?_
  exact hr x y v w S2 m2 H2 Q rs2 (hv.mono e2) hw p2
/-- a Bool of a value -/
theorem of_toB {c : Ct} {x : D} {S : Store} {m : List Addr} {H : Hp} {k : Bool → Store → List Addr → Hp → Prop} {v : V} (rs : RS c m S H) (hv : RelD c.K H m x v) (p : Post c E m H (toB x S) k) : ∃ b, v = .bl b ∧ k b S m H := by
  cases hv with
  | bl b => exact ⟨b, rfl, p.here rs⟩
  | _ => exact p.elim
theorem st_cmp {op : CmpOp} {g : Op2} (o : OpM X E (compareOp op) g) (ha : SE X E a fa) (hb : SE X E b fb) (hm : behindInMarks op b = false) : STt X E (.Compare a [op] [b] pos) (tBl (mOp g fa fb)) := by
  obtain ⟨r, ho, hr⟩ := o
  refine PT.mono (pt_cmpR ho ha hb hm) fun σ H Q ⟨fr, S, m, rf, rs, p⟩ => ?_
  have p' := post_bind p
  refine rd_bind rf rs p' fun x S1 m1 H1 e1 rf1 rs1 p1 v hv => ?_
  refine rd_bind rf1 rs1 p1 fun y S2 m2 H2 e2 rf2 rs2 p2 w hw => ?_
  refine hr x y v w S2 m2 H2 _ rs2 (hv.mono e2) hw (p2.imp fun d S3 m3 H3 e3 rs3 p3 z hz => ?_)
  exact of_toB rs3 hz p3
/-- a < b < c -/
theorem se_chain {op op' : CmpOp} {g h : Op2} {d : Expr} {fd : EM} (o : OpM X E (compareOp op) g) (o' : OpM X E (compareOp op') h) (ha : SE X E a fa) (hb : SE X E b fb) (hd : SE X E d fd)
    (hm : lastMarks [op, op'] [b, d] = false := by with_unfolding_all rfl) : SE X E (.Compare a [op, op'] [b, d] pos) (mChain g h fa fb fd) := by
  obtain ⟨r, ho, hr⟩ := o
  obtain ⟨r', ho', hr'⟩ := o'
  refine PE.mono (pe_chain ho ho' ha hb hd hm) fun σ H Q ⟨fr, S, m, rf, rs, p⟩ => ?_
  refine rd_bind rf rs p fun x S1 m1 H1 e1 rf1 rs1 p1 v hv => ?_
  refine rd_bind rf1 rs1 p1 fun y S2 m2 H2 e2 rf2 rs2 p2 w hw => ?_
  refine hr x y v w S2 m2 H2 _ rs2 (hv.mono e2) hw ((post_bind p2).imp fun z S3 m3 H3 e3 rs3 p3 zv hz => ?_)
  obtain ⟨k, ek, q⟩ := of_toB rs3 hz (post_bind p3)
  refine ⟨k, ek, ?_⟩
  cases k with
  | true =>
    refine rd_bind (rf2.mono e3) rs3 q fun u S4 m4 H4 e4 rf4 rs4 p4 uv hu => ?_
    exact hr' y u w uv S4 m4 H4 Q rs4 ((hw.mono e3).mono e4) hu p4
  | false => exact q.here rs3 _ (.bl _)
theorem st_chain {op op' : CmpOp} {g h : Op2} {d : Expr} {fd : EM} (o : OpM X E (compareOp op) g) (o' : OpM X E (compareOp op') h) (ha : SE X E a fa) (hb : SE X E b fb) (hd : SE X E d fd)
    (hm : lastMarks [op, op'] [b, d] = false := by with_unfolding_all rfl) : STt X E (.Compare a [op, op'] [b, d] pos) (tBl (mChain g h fa fb fd)) := by
  obtain ⟨r, ho, hr⟩ := o
  obtain ⟨r', ho', hr'⟩ := o'
  refine PT.mono (pt_chain ho ho' ha hb hd hm) fun σ H Q ⟨fr, S, m, rf, rs, p⟩ => ?_
  refine rd_bind rf rs (post_bind p) fun x S1 m1 H1 e1 rf1 rs1 p1 v hv => ?_
  refine rd_bind rf1 rs1 p1 fun y S2 m2 H2 e2 rf2 rs2 p2 w hw => ?_
  refine hr x y v w S2 m2 H2 _ rs2 (hv.mono e2) hw ((post_bind p2).imp fun z S3 m3 H3 e3 rs3 p3 zv hz => ?_)
  obtain ⟨k, ek, q⟩ := of_toB rs3 hz (post_bind p3)
  refine ⟨k, ek, ?_⟩
  cases k with
  | true =>
    refine rd_bind (rf2.mono e3) rs3 q fun u S4 m4 H4 e4 rf4 rs4 p4 uv hu => ?_
    exact hr' y u w uv S4 m4 H4 _ rs4 ((hw.mono e3).mono e4) hu (p4.imp fun d S5 m5 H5 e5 rs5 p5 z5 hz5 => of_toB rs5 hz5 p5)
  | false => exact ⟨false, rfl, (q.here rs3).here rs3⟩
theorem st_val (h : SE X E e fa) (he : ∀ whole, isTrue e X.env whole = (do let v ← whole; standAt e.pos; holding [v] (truthy v)) := by intro _; rfl) : STt X E e (tBl fa) := by
  refine PT.mono (pt_val h he) fun σ H Q ⟨fr, S, m, rf, rs, p⟩ => ?_
  exact rd_bind rf rs p fun x S1 m1 H1 e1 rf1 rs1 p1 v hv => of_toB rs1 hv p1
theorem st_tru (h : SE X E e fa) (he : ∀ whole, isTrue e X.env whole = (do let v ← whole; standAt e.pos; holding [v] (truthy v)) := by intro _; rfl) : STt X E e (tTru fa) := by
  refine PT.mono (pt_truth h he) fun σ H Q ⟨fr, S, m, rf, rs, p⟩ => ?_
  refine rd_bind rf rs p fun x S1 m1 H1 e1 rf1 rs1 p1 v hv => ?_
  split at p1
  · rename_i b hb
    refine ⟨b, ?_, p1.here rs1⟩
    cases hv with
    | non => cases hb; exact rfl
    | bl k => cases hb; exact rfl
    | int i => cases hb; exact rfl
    | str s =>
      unfold truth at hb
      dsimp only at hb
      split at hb
      · rename_i hl
        cases hb
        refine ⟨by rw [sOf_len, sizeLine_eq]; exact hl, ?_⟩
        rw [sOf_len]
        cases s with
        | nil => rfl
        | cons => simp; omega
      · cases hb
    | @tup l a xs ha r =>
      cases hb
      refine .inr (.inl ⟨xs, .inl (.inl ha), ?_⟩)
      have := r.len
      cases r <;> rfl
    | wtp => cases hb
    | @ref n ad ha =>
      unfold truth at hb
      dsimp only at hb
      split at hb
      · rename_i l hl
        cases hb
        obtain ⟨xs, h1, h2⟩ := rs1.lst ha hl
        refine .inl ⟨xs, h1, ?_⟩
        cases h2 <;> rfl
      · cases hb
  · exact p1.elim
theorem se_not (ha : SE X E a fa) : SE X E (.UnaryOp .Not a pos) (mNot fa) := by
  refine PE.mono (pe_not ha) fun σ H Q ⟨fr, S, m, rf, rs, p⟩ => ?_
  refine rd_bind rf rs p fun x S1 m1 H1 e1 rf1 rs1 p1 v hv => ?_
  obtain ⟨k, e, q⟩ := of_toB rs1 hv (post_bind p1)
  exact ⟨k, e, q.here rs1 _ (.bl _)⟩
theorem se_one {op} (h : SE X E a fa) : SE X E (.BoolOp op [a] pos) fa := pe_one h
theorem se_and {rest : List Expr} (ha : SE X E a fa) (hb : SE X E (.BoolOp .And (b :: rest) pos) fb) : SE X E (.BoolOp .And (a :: b :: rest) pos) (mAnd fa fb) := by
  refine PE.mono (pe_and ha hb) fun σ H Q ⟨fr, S, m, rf, rs, p⟩ => ?_
  refine rd_bind rf rs p fun x S1 m1 H1 e1 rf1 rs1 p1 v hv => ?_
  obtain ⟨k, e, q⟩ := of_toB rs1 hv (post_bind p1)
  refine ⟨k, e, ?_⟩
  cases k with
  | true => exact ⟨fr, S1, m1, rf1, rs1, q⟩
  | false => exact q.here rs1 _ (.bl _)
theorem se_or {rest : List Expr} (ha : SE X E a fa) (hb : SE X E (.BoolOp .Or (b :: rest) pos) fb) : SE X E (.BoolOp .Or (a :: b :: rest) pos) (mOr fa fb) := by
  refine PE.mono (pe_or ha hb) fun σ H Q ⟨fr, S, m, rf, rs, p⟩ => ?_
  refine rd_bind rf rs p fun x S1 m1 H1 e1 rf1 rs1 p1 v hv => ?_
  obtain ⟨k, e, q⟩ := of_toB rs1 hv (post_bind p1)
  refine ⟨k, e, ?_⟩
  cases k with
  | true => exact q.here rs1 _ (.bl _)
  | false => exact ⟨fr, S1, m1, rf1, rs1, q⟩
/-- tests -/
theorem sw_and1 {ft : TM} (ha : STt X E a ft) : SW X E (.BoolOp .And [a] pos) ft := pw_and1 ha
theorem sw_or1 {ft : TM} (ha : STt X E a ft) : SW X E (.BoolOp .Or [a] pos) ft := pw_or1 ha
theorem sw_and {rest : List Expr} {ft fu : TM} (ha : STt X E a ft) (hb : SW X E (.BoolOp .And (b :: rest) pos) fu) : SW X E (.BoolOp .And (a :: b :: rest) pos) (tAnd ft fu) := by
  refine PW.mono (pw_and ha hb) fun σ H Q ⟨fr, S, m, rf, rs, p⟩ => ?_
  refine rdT_bind rf rs p fun k S1 m1 H1 e1 rf1 rs1 p1 => ?_
  cases k with
  | true => exact ⟨fr, S1, m1, rf1, rs1, p1⟩
  | false => exact p1.here rs1
theorem sw_or {rest : List Expr} {ft fu : TM} (ha : STt X E a ft) (hb : SW X E (.BoolOp .Or (b :: rest) pos) fu) : SW X E (.BoolOp .Or (a :: b :: rest) pos) (tOr ft fu) := by
  refine PW.mono (pw_or ha hb) fun σ H Q ⟨fr, S, m, rf, rs, p⟩ => ?_
  refine rdT_bind rf rs p fun k S1 m1 H1 e1 rf1 rs1 p1 => ?_
  cases k with
  | true => exact p1.here rs1
  | false => exact ⟨fr, S1, m1, rf1, rs1, p1⟩
theorem st_w {ft : TM} (h : SW X E e ft) : STt X E e ft := PW.pt h
theorem st_not {ft : TM} (ha : STt X E a ft) : STt X E (.UnaryOp .Not a pos) (tNot ft) := by
  refine PT.mono (pt_not ha) fun σ H Q ⟨fr, S, m, rf, rs, p⟩ => ?_
  exact rdT_bind rf rs p fun k S1 m1 H1 e1 rf1 rs1 p1 => p1.here rs1
theorem se_ife {ft : TM} {t : Expr} (ht : STt X E t ft) (ha : SE X E a fa) (hb : SE X E b fb) : SE X E (.IfExp t a b pos) (mIfE ft fa fb) := by
  refine PE.mono (pe_ifExp ht ha hb) fun σ H Q ⟨fr, S, m, rf, rs, p⟩ => ?_
  refine rdT_bind rf rs p fun k S1 m1 H1 e1 rf1 rs1 p1 => ?_
  cases k with
  | true => exact ⟨fr, S1, m1, rf1, rs1, p1⟩
  | false => exact ⟨fr, S1, m1, rf1, rs1, p1⟩

/-! ### arguments, displays -/
theorem sa_nil : SA X E [] aNil := PA.mono pa_nil fun σ H Q ⟨fr, S, m, rf, rs, p⟩ => p.here rs [] .nil
theorem sa_cons {es : List Expr} {fs : AM} (ha : SE X E e fa) (hr : SA X E es fs) (hs : starEach (e :: es) X.env = (false, eval e X.env) :: starEach es X.env := by rfl) : SA X E (e :: es) (aCons fa fs) := by
  refine PA.mono (pa_cons ha hr hs) fun σ H Q ⟨fr, S, m, rf, rs, p⟩ => ?_
  refine rd_bind rf rs p fun x S1 m1 H1 e1 rf1 rs1 p1 v hv => ?_
  refine rdA_bind rf1 rs1 p1 fun xs S2 m2 H2 e2 rf2 rs2 p2 vs hvs => ?_
  exact p2.here rs2 _ (.cons (hv.mono e2) hvs)
theorem line_eq : sizeLine = LINE := sizeLine_eq
/-- a new object: its reference -/
theorem post_new {c : Ct} {m : List Addr} {S : Store} {H : Hp} {o : O} {Q : VK} {p : Addr} {u : HO} (rs : RS c m S H) (q : Post c E m H (new o S) (kE c Q)) (hp : H p = none) (ho : Ext m H (m ++ [p]) (upd H p u) → RelO c (upd H p u) (m ++ [p]) p o) : Q (.ref p) (upd H p u) := by
  have e0 : Ext m H (m ++ [p]) (upd H p u) := ⟨⟨mext_push m p, tstay_new hp⟩, fstay_new hp⟩
  obtain ⟨rs', e⟩ := rs.push hp (ho e0)
  refine q _ _ e rs' _ (.ref ?_)
  rw [← rs.len, List.getElem?_append_right (Nat.le_refl _), Nat.sub_self]
  rfl
theorem post_tup {c : Ct} {m : List Addr} {S : Store} {H : Hp} {l : List D} {Q : VK} {p : Addr} {xs : List V} (rs : RS c m S H) (q : Post c E m H (.ok (.tup l) S) (kE c Q)) (hp : H p = none) (r : RelL c.K H m l xs) : Q (.ref p) (upd H p (.tup xs)) := by
  have e : Ext m H m (upd H p (.tup xs)) := ⟨⟨fun _ _ z => z, tstay_new hp⟩, fstay_new hp⟩
  exact q _ _ e (rs.fresh hp) _ (.tup upd_same (r.mono e))
theorem se_tup {es : List Expr} {fs : AM} {x1} (h : SA X E es fs) : SE X E (.Tuple es x1 pos) (mTup fs) := by
  refine PE.mono (pe_tup h) fun σ H Q ⟨fr, S, m, rf, rs, p⟩ => ?_
  refine rdA_bind rf rs p fun xs S1 m1 H1 e1 rf1 rs1 p1 vs hv => ?_
  split at p1
  · rename_i hl
    exact ⟨by rw [← hv.len, line_eq]; exact hl, fun a ha => post_tup rs1 p1 ha hv⟩
  · exact p1.elim
theorem se_lst {es : List Expr} {fs : AM} (h : SA X E es fs) : SE X E (.List es pos) (mLst fs) := by
  refine PE.mono (pe_lst h) fun σ H Q ⟨fr, S, m, rf, rs, p⟩ => ?_
  refine rdA_bind rf rs p fun xs S1 m1 H1 e1 rf1 rs1 p1 vs hv => ?_
  split at p1
  · rename_i hl
    exact ⟨by rw [← hv.len, line_eq]; exact hl, fun a ha => post_new rs1 p1 ha fun e0 => ⟨vs, upd_same, hv.mono e0⟩⟩
  · exact p1.elim
theorem se_newK : SE X E (.Dict [] [] pos) mNewK := PE.mono pe_dnewK fun σ H Q ⟨fr, S, m, rf, rs, p⟩ a ha => post_new rs p ha fun _ => ⟨[], upd_same, .nil⟩
theorem se_newT : SE X E (.Dict [] [] pos) mNewT := PE.mono pe_dnewT fun σ H Q ⟨fr, S, m, rf, rs, p⟩ a ha => post_new rs p ha fun _ => ⟨[], upd_same, .nil⟩

/-! ### calls -/
/-- a def's promise by its small program -/
def spM (c : Ct) (g : Fn) : Sp := fun vs H Q E => ∃ ds S m, RelL c.K H m ds vs ∧ RS c m S H ∧ Post c E m H (g ds S) (kE c Q)
theorem rd_call {f : AM} {g : Fn} {fr : Fr} {S : Store} {m : List Addr} {σ : L2.St} {H : Hp} {Q : VK} {c : Ct} {E : XK}
    (rf : RF c.K H m fr σ) (rs : RS c m S H) (p : Post c E m H ((f fr S).bind g) (kE c Q)) : rdA c E f σ H fun vs H1 => spM c g vs H1 Q E :=
  rdA_bind rf rs p fun ds S1 m1 H1 e1 rf1 rs1 p1 vs hv => ⟨ds, S1, m1, hv, rs1, p1⟩
theorem se_call {CX : CXT} {k : Nat} {f : Addr} {fd : FuncData} {ps : List Str} {g : Fn} {x : Str} {p : Pos} {es : List Expr} {fs : AM} (F : FnOk X.prog X.w X.K X.mg X.base CX k f fd ps (spM (cx X) g)) (hr : Room k X.A) (hg : Gl X x) (hm : X.mg x = some (.ref f)) (hk : PySem.W.keepIn X.K (.ref f) = true) (hb : Binds X.K fd ps []) (hx : Passes CX X E)
    (ha : SA X E (e :: es) fs) (hdb : (x == ("__debug__" : Str)) = false := by decide) (he : starEach (e :: es) X.env = (false, eval e X.env) :: starEach es X.env := by rfl) (hpl : (backTo pos (starEach es X.env)).any (·.1) = false := by rfl) :
    SE X E (.Call (.Name x p) (e :: es) [] pos) (mCall g fs) := by
  refine PE.mono (pe_call F hr hg hm hk hb .nil hx ha hdb he hpl) fun σ H Q ⟨fr, S, m, rf, rs, p⟩ => ?_
  show rdA (cx X) E fs σ H fun vs H1 => spM (cx X) g (vs ++ []) H1 Q E
  have h := rd_call rf rs p
  simpa only [List.append_nil] using h
theorem se_call0 {CX : CXT} {k : Nat} {f : Addr} {fd : FuncData} {ps : List Str} {g : Fn} {x : Str} {p : Pos} (F : FnOk X.prog X.w X.K X.mg X.base CX k f fd ps (spM (cx X) g)) (hr : Room k X.A) (hg : Gl X x) (hm : X.mg x = some (.ref f)) (hk : PySem.W.keepIn X.K (.ref f) = true) (hb : Binds X.K fd ps []) (hx : Passes CX X E)
    (hdb : (x == ("__debug__" : Str)) = false := by decide) : SE X E (.Call (.Name x p) [] [] pos) (mCall g aNil) := by
  refine PE.mono (pe_call0 F hr hg hm hk hb .nil hx hdb) fun σ H Q ⟨fr, S, m, rf, rs, p⟩ => ?_
  exact ⟨[], S, m, .nil, rs, p⟩
/-- a built-in's value rule against the small one -/
def CallM (X : Cx) (E : XK) (f : Value) (g : Fn) : Prop := ∃ r : List V → Hp → VK → Prop, CallR X f r ∧
  ∀ ds vs S m H Q, RS (cx X) m S H → RelL X.K H m ds vs → Post (cx X) E m H (g ds S) (kE (cx X) Q) → r vs H Q
theorem callr_or {f : Value} {r r' : List V → Hp → VK → Prop} (h : CallR X f r) (h' : CallR X f r') : CallR X f fun xs H Q => r xs H Q ∨ r' xs H Q := by
  intro pins s σ H xs us Q I rx q
  rcases q with q | q
  · exact h pins s σ H xs us Q I rx q
  · exact h' pins s σ H xs us Q I rx q
theorem se_callB {id : String} {g : Fn} {x : Str} {p : Pos} {es : List Expr} {fs : AM} (o : CallM X E (.builtin id) g) (hg : Gl X x) (hm : X.mg x = none) (hv : bootBuiltins x = some (.builtin id)) (ha : SA X E (e :: es) fs) (hn : x ≠ "__name__" := by decide) (hdb : (x == ("__debug__" : Str)) = false := by decide)
    (he : starEach (e :: es) X.env = (false, eval e X.env) :: starEach es X.env := by rfl) (hpl : (backTo pos (starEach es X.env)).any (·.1) = false := by rfl) : SE X E (.Call (.Name x p) (e :: es) [] pos) (mCall g fs) := by
  obtain ⟨r, hc, hr⟩ := o
  refine PE.mono (pe_callB hc hg hm hv ha hn hdb he hpl) fun σ H Q ⟨fr, S, m, rf, rs, p⟩ => ?_
  exact rdA_bind rf rs p fun ds S1 m1 H1 e1 rf1 rs1 p1 vs hvs => hr ds vs S1 m1 H1 Q rs1 hvs p1
theorem se_callTy {T : String} {g : Fn} {x : Str} {p : Pos} {es : List Expr} {fs : AM} (o : CallM X E (.type T) g) (hg : Gl X x) (hm : X.mg x = none) (hv : bootBuiltins x = some (.type T)) (ha : SA X E (e :: es) fs) (hn : x ≠ "__name__" := by decide) (hdb : (x == ("__debug__" : Str)) = false := by decide)
    (he : starEach (e :: es) X.env = (false, eval e X.env) :: starEach es X.env := by rfl) (hpl : (backTo pos (starEach es X.env)).any (·.1) = false := by rfl) : SE X E (.Call (.Name x p) (e :: es) [] pos) (mCall g fs) := by
  obtain ⟨r, hc, hr⟩ := o
  refine PE.mono (pe_callTy hc hg hm hv ha hn hdb he hpl) fun σ H Q ⟨fr, S, m, rf, rs, p⟩ => ?_
  exact rdA_bind rf rs p fun ds S1 m1 H1 e1 rf1 rs1 p1 vs hvs => hr ds vs S1 m1 H1 Q rs1 hvs p1
/-- a subscript -/
def IxM (X : Cx) (E : XK) (g : Op2) : Prop := ∃ r : R2, IxR X r ∧
  ∀ x y v w S m H Q, RS (cx X) m S H → RelD X.K H m x v → RelD X.K H m y w → Post (cx X) E m H (g x y S) (kE (cx X) Q) → r v w H Q
theorem se_ix {g : Op2} (o : IxM X E g) (ha : SE X E a fa) (hb : SE X E b fb) (hs : PlainIx b) : SE X E (.Subscript a b pos) (mOp g fa fb) := by
  obtain ⟨r, ho, hr⟩ := o
  refine PE.mono (pe_ix ho ha hb hs) fun σ H Q ⟨fr, S, m, rf, rs, p⟩ => ?_
  refine rd_bind rf rs p fun x S1 m1 H1 e1 rf1 rs1 p1 v hv => ?_
  refine rd_bind rf1 rs1 p1 fun y S2 m2 H2 e2 rf2 rs2 p2 w hw => ?_
  exact hr x y v w S2 m2 H2 Q rs2 (hv.mono e2) hw p2
/-- a slice -/
theorem so_none : SO X E none pNo := by
  refine ⟨fun pins s σ H Q I ⟨fr, S, m, rf, rs, p⟩ => po_none.run pins s σ H Q I (p.here rs)⟩
theorem so_some (h : SE X E e fa) : SO X E (some e) (pSome fa) := by
  refine ⟨fun pins s σ H Q I ⟨fr, S, m, rf, rs, p⟩ => (po_some h).run pins s σ H Q I ?_⟩
  refine rd_bind rf rs p fun x S1 m1 H1 e1 rf1 rs1 p1 v hv => ?_
  cases hv with
  | int i => exact ⟨i, rfl, p1.here rs1⟩
  | _ => exact p1.elim
def SlM (X : Cx) (E : XK) (g : D → Option Int → Option Int → Store → Res D) : Prop := ∃ r : V → Option Int → Option Int → Hp → VK → Prop, SlR X r ∧
  ∀ x lo hi v S m H Q, RS (cx X) m S H → RelD X.K H m x v → Post (cx X) E m H (g x lo hi S) (kE (cx X) Q) → r v lo hi H Q
theorem slr_or {r r' : V → Option Int → Option Int → Hp → VK → Prop} (h : SlR X r) (h' : SlR X r') : SlR X fun x a b H Q => r x a b H Q ∨ r' x a b H Q := by
  intro pins s σ H x v vl vu lo hi sl Q I rx hs pl pu q
  rcases q with q | q
  · exact h pins s σ H x v vl vu lo hi sl Q I rx hs pl pu q
  · exact h' pins s σ H x v vl vu lo hi sl Q I rx hs pl pu q
theorem se_sl {lo hi : Option Expr} {fl fh : PM} {p2 : Pos} (o : SlM X E oSl) (ha : SE X E a fa) (hl : SO X E lo fl) (hh : SO X E hi fh) : SE X E (.Subscript a (.Slice lo hi none p2) pos) (mSl fa fl fh) := by
  obtain ⟨r, ho, hr⟩ := o
  refine PE.mono (pe_slice ho ha hl hh) fun σ H Q ⟨fr, S, m, rf, rs, p⟩ => ?_
  refine rd_bind rf rs p fun x S1 m1 H1 e1 rf1 rs1 p1 v hv => ?_
  refine rdP_bind rf1 rs1 p1 fun l S2 m2 H2 e2 rf2 rs2 p2 => ?_
  refine rdP_bind rf2 rs2 p2 fun h S3 m3 H3 e3 rf3 rs3 p3 => ?_
  exact hr x l h v S3 m3 H3 Q rs3 ((hv.mono e2).mono e3) p3
/-- -a -/
theorem se_neg (ha : SE X E a fa) : SE X E (.UnaryOp .USub a pos) (mUn uNeg fa) := by
  refine PE.mono (pe_un un_neg ha) fun σ H Q ⟨fr, S, m, rf, rs, p⟩ => ?_
  refine rd_bind rf rs p fun x S1 m1 H1 e1 rf1 rs1 p1 v hv => ?_
  cases hv with
  | int i => exact ⟨i, rfl, p1.here rs1 _ (.int _)⟩
  | _ => exact p1.elim
/-- a method of a built-in type -/
def MtMm (X : Cx) (E : XK) (id : String) (g : D → Fn) : Prop := ∃ r : V → List V → Hp → VK → Prop, MtR X id r ∧
  ∀ x ds v vs S m H Q, RS (cx X) m S H → RelD X.K H m x v → RelL X.K H m ds vs → Post (cx X) E m H (g x ds S) (kE (cx X) Q) → r v vs H Q
def TyM (X : Cx) (T : String) (p : D → Store → Bool) : Prop := ∀ x v S m H, RS (cx X) m S H → RelD X.K H m x v → p x S = true → tyV X.K T v H
theorem se_mt0 {T id : String} {name : Str} {apos cpos : Pos} {g : D → Fn} {tp : D → Store → Bool} {o : Expr} {fo : EM} (pa : PlainAttrs T) (slot : Slot T name id) (hty : typeOf (.builtin id) = pure (.type "method_descriptor")) (mt : MtMm X E id g) (ty : TyM X T tp) (ho : SE X E o fo)
    (hbase : attributeBase o name X.env (eval o X.env) = eval o X.env := by rfl) (hline : (apos.endLine == cpos.line) = true := by rfl) : SE X E (.Call (.Attribute o name apos) [] [] cpos) (mMt tp g fo aNil) := by
  obtain ⟨r, hm, hr⟩ := mt
  refine PE.mono (pe_bm0 pa slot hty hm ho hbase hline) fun σ H Q ⟨fr, S, m, rf, rs, p⟩ => ?_
  refine rd_bind rf rs p fun x S1 m1 H1 e1 rf1 rs1 p1 v hv => ?_
  split at p1
  · rename_i h
    exact ⟨ty x v S1 m1 H1 rs1 hv h, hr x [] v [] S1 m1 H1 Q rs1 hv .nil p1⟩
  · exact p1.elim
theorem se_mt {T id : String} {name : Str} {apos cpos : Pos} {g : D → Fn} {tp : D → Store → Bool} {o : Expr} {fo : EM} {es : List Expr} {fs : AM} (pa : PlainAttrs T) (slot : Slot T name id) (hty : typeOf (.builtin id) = pure (.type "method_descriptor")) (mt : MtMm X E id g) (ty : TyM X T tp) (ho : SE X E o fo) (ha : SA X E (e :: es) fs)
    (hbase : attributeBase o name X.env (eval o X.env) = eval o X.env := by rfl)
    (hfew : ((backTo cpos (starEach (e :: es) X.env)).all (fun x => !x.1) && (backToKw cpos (keywordEach [] X.env)).all (fun x => x.1.isSome)
      && decide ((e :: es).length + ([] : List Keyword).length + (if ([] : List Keyword).isEmpty then 0 else 1) < 30)) = true := by rfl)
    (hline : (apos.endLine == cpos.line) = true := by rfl) (hs : starEach (e :: es) X.env = (false, eval e X.env) :: starEach es X.env := by rfl) (hplain : (backTo cpos (starEach es X.env)).any (·.1) = false := by rfl) : SE X E (.Call (.Attribute o name apos) (e :: es) [] cpos) (mMt tp g fo fs) := by
  obtain ⟨r, hm, hr⟩ := mt
  refine PE.mono (pe_bm pa slot hty hm ho ha hbase hfew hline hs hplain) fun σ H Q ⟨fr, S, m, rf, rs, p⟩ => ?_
  refine rd_bind rf rs p fun x S1 m1 H1 e1 rf1 rs1 p1 v hv => ?_
  split at p1
  · rename_i h
    refine ⟨ty x v S1 m1 H1 rs1 hv h, ?_⟩
    exact rdA_bind rf1 rs1 p1 fun ds S2 m2 H2 e2 rf2 rs2 p2 vs hvs => hr x ds v vs S2 m2 H2 Q rs2 (hv.mono e2) hvs p2
  · exact p1.elim
end
end Sm

set_option Elab.async false
set_option linter.all false
set_option maxRecDepth 100000
set_option maxHeartbeats 2000000
/-! readings by the small language: operators on values -/
namespace Sm
open PySem PySem.Spec PyProof.Rows L2 Mi
section
variable {X : Cx} {E : XK} {f : Value → Value → Sem Value}
theorem post_int {c : Ct} {E : XK} {m : List Addr} {H : Hp} {S : Store} {Q : VK} {i : Int} (rs : RS c m S H) (p : Post c E m H (.ok (.int i) S) (kE c Q)) : Q (.int i) H := p.here rs _ (.int i)
theorem post_bl {c : Ct} {E : XK} {m : List Addr} {H : Hp} {S : Store} {Q : VK} {i : Bool} (rs : RS c m S H) (p : Post c E m H (.ok (.bl i) S) (kE c Q)) : Q (.bl i) H := p.here rs _ (.bl i)
/-- an operator of two ints alone -/
theorem om_int {g : Int → Int → D} {w : Int → Int → V} (ho : OpR X f (rI0 w)) (h : ∀ i j H m, RelD X.K H m (g i j) (w i j)) :
    OpM X E f (fun x y S => match x, y with
      | .int i, .int j => .ok (g i j) S
      | _, _ => .bad) := by
  refine ⟨_, ho, fun x y v u S m H Q rs hv hw p => ?_⟩
  cases hv <;> cases hw <;> first
    | exact p.elim
    | exact ⟨_, _, rfl, rfl, p.here rs _ (h _ _ _ _)⟩
theorem om_intC {C C' : Int → Int → Prop} [∀ i j, Decidable (C i j)] {g : Int → Int → Int} {g' : Int → Int → Int} (ho : OpR X f (rI C' fun i j => .int (g' i j))) (hc : ∀ i j, C i j → C' i j) (he : ∀ i j, C i j → g' i j = g i j) :
    OpM X E f (fun x y S => match x, y with
      | .int i, .int j => if C i j then .ok (.int (g i j)) S else .bad
      | _, _ => .bad) := by
  refine ⟨_, ho, fun x y v u S m H Q rs hv hw p => ?_⟩
  cases hv <;> cases hw <;> first
    | exact p.elim
    | (rename_i i j
       dsimp only at p
       split at p
       · rename_i h
         refine ⟨_, _, rfl, rfl, hc _ _ h, ?_⟩
         show Q (.int (g' i j)) H
         rw [he _ _ h]
         exact post_int rs p
       · exact p.elim)
theorem OpM.eq {g g' : Op2} (h : OpM X E f g) (e : ∀ x y S, g x y S = g' x y S) : OpM X E f g' := by
  obtain ⟨r, h1, h2⟩ := h
  exact ⟨r, h1, fun x y v w S m H Q rs hv hw p => h2 x y v w S m H Q rs hv hw (by rw [e]; exact p)⟩
theorem om_sub : OpM X E (binaryOp .Sub) oSub := (om_int (g := fun i j => .int (i - j)) op_sub fun i j H m => .int _).eq fun x y S => by cases x <;> cases y <;> rfl
theorem om_cmp {op : CmpOp} {p : Int → Int → Bool} (ho : OpR X (compareOp op) (rI0 fun i j => .bl (p i j))) : OpM X E (compareOp op) (oCmp p) := (om_int (g := fun i j => .bl (p i j)) ho fun i j H m => .bl _).eq fun x y S => by cases x <;> cases y <;> rfl
theorem om_lt : OpM X E (compareOp .Lt) oLt := om_cmp op_lt
theorem om_le : OpM X E (compareOp .LtE) oLe := om_cmp op_le
theorem om_gt : OpM X E (compareOp .Gt) oGt := om_cmp op_gt
theorem om_ge : OpM X E (compareOp .GtE) oGe := om_cmp op_ge
theorem om_div : OpM X E (binaryOp .FloorDiv) oDiv := (om_intC (C := fun _ j => divOk j) (g := fun i j => i / j) op_fdivW (fun _ _ h => h) fun _ _ _ => rfl).eq fun x y S => by cases x <;> cases y <;> rfl
theorem om_mod : OpM X E (binaryOp .Mod) oMod := (om_intC (C := fun _ j => 0 < j) (g := fun i j => i % j) op_mod (fun _ _ h => h) fun _ _ _ => rfl).eq fun x y S => by cases x <;> cases y <;> rfl
theorem om_pow : OpM X E (binaryOp .Pow) oPow := (om_intC (C := powOk) (g := fun i j => i ^ j.toNat) op_pow (fun _ _ h => h) fun _ _ _ => rfl).eq fun x y S => by cases x <;> cases y <;> rfl
theorem om_shl : OpM X E (binaryOp .LShift) oShl := (om_intC (C := powOk) (g := fun i j => i * 2 ^ j.toNat) op_shl (fun _ _ h => h) fun _ _ _ => rfl).eq fun x y S => by cases x <;> cases y <;> rfl
theorem om_shr : OpM X E (binaryOp .RShift) oShr := (om_intC (C := fun _ j => 0 ≤ j) (g := fun i j => i / 2 ^ j.toNat) op_shr (fun _ _ h => h) fun _ _ _ => rfl).eq fun x y S => by cases x <;> cases y <;> rfl
theorem om_bit {op : Operator} {b : Int → Int → Int} {g : Nat → Nat → Nat} (ho : OpR X (binaryOp op) (rI0 fun i j => .int (b i j))) (he : ∀ i j : Int, 0 ≤ i → 0 ≤ j → b i j = (g i.toNat j.toNat : Nat)) : OpM X E (binaryOp op) (oBit g) := by
  refine ⟨_, ho, fun x y v u S m H Q rs hv hw p => ?_⟩
  cases hv <;> cases hw <;> first
    | exact p.elim
    | (rename_i i j
       unfold oBit at p
       dsimp only at p
       split at p
       · rename_i h
         refine ⟨_, _, rfl, rfl, ?_⟩
         show Q (.int (b i j)) H
         rw [he _ _ h.1 h.2]
         exact post_int rs p
       · exact p.elim)
theorem bitAnd_nn {x y : Int} (hx : 0 ≤ x) (hy : 0 ≤ y) : Builtin.bitAnd x y = ((x.toNat &&& y.toNat : Nat) : Int) := by
  obtain ⟨a, rfl⟩ := Int.eq_ofNat_of_zero_le hx
  obtain ⟨b, rfl⟩ := Int.eq_ofNat_of_zero_le hy
  rfl
theorem om_and : OpM X E (binaryOp .BitAnd) oAnd := om_bit op_and fun i j h1 h2 => bitAnd_nn h1 h2
theorem om_or : OpM X E (binaryOp .BitOr) oOr := om_bit op_or fun i j h1 h2 => Bits.bitOr_pp h1 h2
theorem om_xor : OpM X E (binaryOp .BitXor) oXor := om_bit op_xor fun i j h1 h2 => Bits.bitXor_pp h1 h2
/-- two rules for one operator -/
theorem RS.mlst {c : Ct} {m : List Addr} {S : Store} {H : Hp} {n : Nat} {a : Addr} {l : List D} (rs : RS c m S H) (ha : m[n]? = some a) (hs : S[n]? = some (.lst l)) : ∃ xs, H a = some (.lst xs) ∧ RelL c.K H m l xs := rs.ob n a _ ha hs
theorem om_add : OpM X E (binaryOp .Add) oAdd := by
  refine ⟨_, opr_or op_add (opr_or op_add_str (opr_or op_cat op_catT)), fun x y v u S m H Q rs hv hw p => ?_⟩
  cases hv with
  | int i => cases hw with
    | int j => exact .inl ⟨i, j, rfl, rfl, post_int rs p⟩
    | _ => exact p.elim
  | str s => cases hw with
    | str t =>
      unfold oAdd at p
      dsimp only at p
      split at p
      · rename_i h
        refine .inr (.inl ⟨sOf s, sOf t, rfl, rfl, by rw [sOf_len, sOf_len, line_eq]; exact h, ?_⟩)
        have e : sOf s ++ sOf t = sOf (s ++ t) := by
          show Str.mk (s.toArray ++ t.toArray) = Str.mk (s ++ t).toArray
          simp
        rw [e]
        exact p.here rs _ (.str _)
      · exact p.elim
    | _ => exact p.elim
  | @tup l a xs ha r => cases hw with
    | @tup l' a' xs' ha' r' =>
      unfold oAdd at p
      dsimp only at p
      split at p
      · rename_i h
        have n1 : xs ≠ [] := fun z => by
          have := r.len
          rw [z] at this
          exact h.1 (List.length_eq_zero_iff.mp this)
        refine .inr (.inr (.inr ⟨a, a', xs, xs', rfl, rfl, .inl (.inl ha), .inl (.inl ha'), n1, by rw [← r.len, ← r'.len, line_eq]; exact h.2, fun z => ?_, fun z b hb => ?_⟩))
        · subst z
          cases r'
          rw [List.append_nil] at p
          exact p.here rs _ (.tup ha r)
        · exact post_tup rs p hb (r.app r')
      · exact p.elim
    | _ => exact p.elim
  | @ref n a ha => cases hw with
    | @ref n' a' ha' =>
      unfold oAdd at p
      dsimp only at p
      split at p
      · rename_i l l' e1 e2
        split at p
        · rename_i h
          obtain ⟨xs, h1, r1⟩ := rs.mlst ha e1
          obtain ⟨ys, h2, r2⟩ := rs.mlst ha' e2
          exact .inr (.inr (.inl ⟨a, a', xs, ys, rfl, rfl, h1, h2, by rw [← r1.len, ← r2.len, line_eq]; exact h, fun b hb => post_new rs p hb fun e0 => ⟨_, upd_same, (r1.app r2).mono e0⟩⟩))
        · exact p.elim
      · exact p.elim
    | _ => exact p.elim
  | _ => cases hw <;> exact p.elim
theorem RelL.rep {K : PySem.W.Frag} {H : Hp} {m : List Addr} {l : List D} {xs : List V} (r : RelL K H m l xs) : ∀ n, RelL K H m (List.replicate n l).flatten (List.replicate n xs).flatten
  | 0 => .nil
  | n + 1 => by
    rw [List.replicate_succ, List.replicate_succ, List.flatten_cons, List.flatten_cons]
    exact r.app (r.rep n)
theorem om_mul : OpM X E (binaryOp .Mult) oMul := by
  refine ⟨_, opr_or op_mul (opr_or op_mulW op_rep), fun x y v u S m H Q rs hv hw p => ?_⟩
  cases hv with
  | int i => cases hw with
    | int j =>
      unfold oMul at p
      dsimp only at p
      split at p
      · rename_i h
        rcases h with h | h | h
        · exact .inl ⟨i, j, rfl, rfl, .inl h, post_int rs p⟩
        · exact .inl ⟨i, j, rfl, rfl, .inr h, post_int rs p⟩
        · exact .inr (.inl ⟨i, j, rfl, rfl, h, post_int rs p⟩)
      · exact p.elim
    | _ => exact p.elim
  | @ref n a ha => cases hw with
    | int k =>
      unfold oMul at p
      dsimp only at p
      split at p
      · rename_i l e1
        split at p
        · rename_i h
          obtain ⟨xs, h1, r1⟩ := rs.mlst ha e1
          exact .inr (.inr ⟨a, k, xs, rfl, rfl, h1, h.1, h.2.1, by rw [← r1.len, line_eq]; exact h.2.2, fun b hb => post_new rs p hb fun e0 => ⟨_, upd_same, (r1.rep _).mono e0⟩⟩)
        · exact p.elim
      · exact p.elim
    | _ => exact p.elim
  | _ => cases hw <;> exact p.elim

/-! ### equality -/
mutual
theorem dp_of {rd : Nat → Option PyData} {K : PySem.W.Frag} {H : Hp} {m : List Addr} (hrd : ∀ n a d, m[n]? = some a → rd n = some d → Dp K H (.ref a) d) : ∀ (x : D) (v : V) (d : PyData), RelD K H m x v → toP rd x = some d → Dp K H v d
  | .non, _, _, h, e => by
    cases h
    simp only [toP, Option.some.injEq] at e
    subst e
    exact .non
  | .bl b, _, _, h, e => by
    cases h
    simp only [toP, Option.some.injEq] at e
    subst e
    exact .bl b
  | .int b, _, _, h, e => by
    cases h
    simp only [toP, Option.some.injEq] at e
    subst e
    exact .int b
  | .str b, _, _, h, e => by
    cases h
    simp only [toP, Option.some.injEq] at e
    subst e
    exact .str _
  | .tup l, _, _, h, e => by
    cases h with
    | tup ha r =>
      simp only [toP] at e
      obtain ⟨q, h1, h2⟩ := Option.map_eq_some_iff.mp e
      subst h2
      exact .tup (.inl (.inl ha)) (dps_of hrd l _ q r h1)
  | .wtp l, _, _, h, e => by
    cases h with
    | wtp ha r =>
      simp only [toP] at e
      obtain ⟨q, h1, h2⟩ := Option.map_eq_some_iff.mp e
      subst h2
      exact .tup ha.sq (dps_of hrd l _ q r h1)
  | .ref n, _, _, h, e => by
    cases h with
    | ref ha =>
      simp only [toP] at e
      exact hrd n _ _ ha e
theorem dps_of {rd : Nat → Option PyData} {K : PySem.W.Frag} {H : Hp} {m : List Addr} (hrd : ∀ n a d, m[n]? = some a → rd n = some d → Dp K H (.ref a) d) : ∀ (l : List D) (xs : List V) (ds : List PyData), RelL K H m l xs → toPs rd l = some ds → DpAll K H xs ds
  | [], _, _, h, e => by
    cases h
    simp only [toPs, Option.some.injEq] at e
    subst e
    exact .nil
  | x :: l, _, _, h, e => by
    cases h with
    | cons h1 h2 =>
      simp only [toPs] at e
      obtain ⟨q, e1, e2⟩ := Option.bind_eq_some_iff.mp e
      obtain ⟨r, e3, e4⟩ := Option.map_eq_some_iff.mp e2
      subst e4
      exact .cons (dp_of hrd x _ q h1 e1) (dps_of hrd l _ r h2 e3)
end
theorem look_dp {c : Ct} {m : List Addr} {S : Store} {H : Hp} (rs : RS c m S H) : ∀ (k : Nat) (n : Nat) (a : Addr) (d : PyData), m[n]? = some a → lookP k S n = some d → Dp c.K H (.ref a) d
  | 0, _, _, _, _, e => by simp only [lookP] at e; cases e
  | k + 1, n, a, d, ha, e => by
    simp only [lookP] at e
    split at e
    · rename_i l hl
      obtain ⟨q, h1, h2⟩ := Option.map_eq_some_iff.mp e
      subst h2
      obtain ⟨xs, h3, h4⟩ := rs.lst (l := l) ha (by unfold lstOf; rw [hl])
      exact .lst h3 (dps_of (look_dp rs k) l xs q h4 h1)
    · rename_i l hl
      obtain ⟨q, h1, h2⟩ := Option.map_eq_some_iff.mp e
      subst h2
      obtain ⟨xs, h3, h4⟩ := rs.lst (l := l) ha (by unfold lstOf; rw [hl])
      exact .lst h3 (dps_of (look_dp rs k) l xs q h4 h1)
    · cases e
theorem pd_dp {c : Ct} {m : List Addr} {S : Store} {H : Hp} (rs : RS c m S H) {x : D} {v : V} {d : PyData} (h : RelD c.K H m x v) (e : pd S x = some d) : Dp c.K H v d := dp_of (look_dp rs 8) x v d h e
theorem scal_scq {K : PySem.W.Frag} {H : Hp} {m : List Addr} {x y : D} {v w : V} {b : Bool} (h1 : RelD K H m x v) (h2 : RelD K H m y w) (e : scq x y = some b) : scal v w = true ∧ decide (v = w) = b := by
  cases h1 <;> cases h2 <;> simp only [scq, Option.some.injEq, reduceCtorEq] at e <;> first
    | (subst e; exact ⟨rfl, by rw [← sOf_eq]; exact decide_eq_decide.mpr ⟨fun z => V.str.inj z, fun z => congrArg V.str z⟩⟩)
    | (subst e; exact ⟨rfl, by simp⟩)
theorem om_eq (hu : X.A.units + 65 < cLine) : OpM X E (compareOp .Eq) oEq := by
  refine ⟨_, opr_or op_eq (op_eqD (by omega)), fun x y v u S m H Q rs hv hw p => ?_⟩
  unfold oEq pyEq at p
  cases e : scq x y with
  | some b =>
    rw [e] at p
    obtain ⟨h1, h2⟩ := scal_scq hv hw e
    exact .inl ⟨h1, by rw [h2]; exact post_bl rs p⟩
  | none =>
    rw [e] at p
    dsimp only at p
    cases e1 : pd S x with
    | none => rw [e1] at p; exact p.elim
    | some a =>
      cases e2 : pd S y with
      | none => rw [e1, e2] at p; exact p.elim
      | some b =>
        rw [e1, e2] at p
        dsimp only at p
        by_cases hs : shp a = true ∧ shp b = true
        · rw [if_pos hs] at p
          exact .inr ⟨a, b, pd_dp rs hv e1, pd_dp rs hw e2, hs.1, hs.2, post_bl rs p⟩
        · rw [if_neg hs] at p
          exact p.elim
theorem om_ne (hu : X.A.units + 65 < cLine) : OpM X E (compareOp .NotEq) oNe := by
  refine ⟨_, opr_or op_ne (op_neD (by omega)), fun x y v u S m H Q rs hv hw p => ?_⟩
  unfold oNe pyEq at p
  cases e : scq x y with
  | some b =>
    rw [e] at p
    obtain ⟨h1, h2⟩ := scal_scq hv hw e
    exact .inl ⟨h1, by rw [h2]; exact post_bl rs p⟩
  | none =>
    rw [e] at p
    dsimp only at p
    cases e1 : pd S x with
    | none => rw [e1] at p; exact p.elim
    | some a =>
      cases e2 : pd S y with
      | none => rw [e1, e2] at p; exact p.elim
      | some b =>
        rw [e1, e2] at p
        dsimp only at p
        by_cases hs : shp a = true ∧ shp b = true
        · rw [if_pos hs] at p
          exact .inr ⟨a, b, pd_dp rs hv e1, pd_dp rs hw e2, hs.1, hs.2, post_bl rs p⟩
        · rw [if_neg hs] at p
          exact p.elim
theorem isN_non {K : PySem.W.Frag} {H : Hp} {m : List Addr} {x : D} {v : V} (h : RelD K H m x v) : decide (v = .non) = isN x := by
  cases h <;> first | rfl | simp [isN]
theorem om_is : OpM X E (compareOp .Is) oIs := by
  refine ⟨_, op_isN, fun x y v u S m H Q rs hv hw p => ?_⟩
  unfold oIs at p
  split at p
  · rename_i h
    refine ⟨?_, ?_⟩
    · cases hw <;> first | rfl | exact absurd h (by simp [isN])
    · rw [isN_non hv]; exact post_bl rs p
  · exact p.elim
theorem om_isnot : OpM X E (compareOp .IsNot) oIsNot := by
  refine ⟨_, op_notN, fun x y v u S m H Q rs hv hw p => ?_⟩
  unfold oIsNot at p
  split at p
  · rename_i h
    refine ⟨?_, ?_⟩
    · cases hw <;> first | rfl | exact absurd h (by simp [isN])
    · rw [isN_non hv]; exact post_bl rs p
  · exact p.elim

/-! ### dicts -/
section
variable {κ κ' : Type} [DecidableEq κ] [DecidableEq κ'] {ff : κ → κ'} {K : PySem.W.Frag} {H : Hp} {m : List Addr}
theorem RelK.get (inj : ∀ a b, ff a = ff b → a = b) {k : List (κ × D)} {kv : List (κ' × V)} (r : RelK K H m ff k kv) (x : κ) : match dGet k x with
    | some d => ∃ v, valV kv (ff x) = some v ∧ RelD K H m d v
    | none => valV kv (ff x) = none := by
  induction r with
  | nil => exact rfl
  | @cons p q ps qs h t ih =>
    by_cases e : p.1 = x
    · have e1 : dGet (p :: ps) x = some p.2 := by simp [dGet, List.find?_cons, e]
      rw [e1]
      refine ⟨q.2, valV_pos (by rw [← h.1, e]), h.2⟩
    · have e1 : dGet (p :: ps) x = dGet ps x := by simp [dGet, List.find?_cons, e]
      rw [e1, valV_neg (show ¬ q.1 = ff x from fun z => e (inj _ _ (h.1.trans z)))]
      exact ih
theorem RelK.any (inj : ∀ a b, ff a = ff b → a = b) {k : List (κ × D)} {kv : List (κ' × V)} (r : RelK K H m ff k kv) (x : κ) : (kv.any fun z => decide (z.1 = ff x)) = (k.any fun z => decide (z.1 = x)) := by
  induction r with
  | nil => rfl
  | @cons p q ps qs h t ih =>
    rw [List.any_cons, List.any_cons, ih]
    congr 1
    by_cases e : p.1 = x
    · rw [decide_eq_true e, decide_eq_true (show q.1 = ff x by rw [← h.1, e])]
    · rw [decide_eq_false e, decide_eq_false (show ¬ q.1 = ff x from fun z => e (inj _ _ (h.1.trans z)))]
theorem RelK.map (inj : ∀ a b, ff a = ff b → a = b) {k : List (κ × D)} {kv : List (κ' × V)} {d : D} {v : V} (r : RelK K H m ff k kv) (x : κ) (hv : RelD K H m d v) :
    RelK K H m ff (k.map fun kv => if kv.1 = x then (kv.1, d) else kv) (kv.map fun kv => if kv.1 = ff x then (kv.1, v) else kv) := by
  induction r with
  | nil => exact .nil
  | @cons p q ps qs h t ih =>
    rw [List.map_cons, List.map_cons]
    refine .cons ?_ ih
    by_cases e : p.1 = x
    · rw [if_pos e, if_pos (show q.1 = ff x by rw [← h.1, e])]
      exact ⟨h.1, hv⟩
    · rw [if_neg e, if_neg (show ¬ q.1 = ff x from fun z => e (inj _ _ (h.1.trans z)))]
      exact h
theorem RelK.put (inj : ∀ a b, ff a = ff b → a = b) {k : List (κ × D)} {kv : List (κ' × V)} {d : D} {v : V} (r : RelK K H m ff k kv) (x : κ) (hv : RelD K H m d v) : RelK K H m ff (dPut k x d) (putK kv (ff x) v) := by
  unfold dPut putK
  rw [RelK.any inj r x]
  split
  · exact r.map inj x hv
  · exact Paired.snoc r ⟨rfl, hv⟩
end
end
end Sm

set_option Elab.async false
set_option linter.all false
set_option maxRecDepth 100000
set_option maxHeartbeats 2000000
/-! readings by the small language: in, subscripts, slices, built-ins, methods -/
namespace Sm
open PySem PySem.Spec PyProof.Rows L2 Mi
section
variable {X : Cx} {E : XK}
theorem kys_of {K : PySem.W.Frag} {H : Hp} {m : List Addr} : ∀ {l : List D} {xs : List V} {k : List Ky}, RelL K H m l xs → kysOf l = some k → xs = (k.map kyK).map kV
  | [], _, _, .nil, e => by
    simp only [kysOf, Option.some.injEq] at e
    subst e
    rfl
  | d :: l, _, k, .cons h t, e => by
    simp only [kysOf] at e
    obtain ⟨q, e1, e2⟩ := Option.bind_eq_some_iff.mp e
    obtain ⟨r, e3, e4⟩ := Option.map_eq_some_iff.mp e2
    subst e4
    rw [List.map_cons, List.map_cons, ← kys_of t e3]
    congr 1
    cases h <;> simp only [kyOf, Option.some.injEq, reduceCtorEq] at e1 <;> (subst e1; rfl)
theorem ky_of {K : PySem.W.Frag} {H : Hp} {m : List Addr} {d : D} {v : V} {k : Ky} (h : RelD K H m d v) (e : kyOf d = some k) : v = kV (kyK k) := by
  cases h <;> simp only [kyOf, Option.some.injEq, reduceCtorEq] at e <;> (subst e; rfl)
/-- there or not, alike -/
def RelOD (K : PySem.W.Frag) (H : Hp) (m : List Addr) : Option D → Option V → Prop
  | some d, o => ∃ v, o = some v ∧ RelD K H m d v
  | none, o => o = none
theorem RelOD.isSome {K : PySem.W.Frag} {H : Hp} {m : List Addr} {r : Option D} {o : Option V} (h : RelOD K H m r o) : o.isSome = r.isSome := by
  cases r with
  | none => rw [show o = none from h] <;> rfl
  | some d => obtain ⟨v, e, _⟩ := h; rw [e] <;> rfl
/-- a look into a dict -/
theorem look_get {c : Ct} {m : List Addr} {S : Store} {H : Hp} (rs : RS c m S H) {n : Nat} {a : Addr} {k : D} {y : V} {r : Option D} (ha : m[n]? = some a) (hk : RelD c.K H m k y) (e : dLook S n k = some r) :
    ∃ o, DGet H a y o ∧ RelOD c.K H m r o := by
  unfold dLook at e
  split at e
  · rename_i kvs hs
    obtain ⟨kk, e1, e2⟩ := Option.map_eq_some_iff.mp e
    obtain ⟨kv, h1, h2⟩ := rs.ob n a _ ha hs
    have g := RelK.get (fun _ _ => kyK_inj) h2 kk
    rw [ky_of hk e1]
    refine ⟨_, DGet.k h1, ?_⟩
    rw [e2] at g
    cases r with
    | none => exact g
    | some d => exact g
  · rename_i kvs hs
    obtain ⟨kk, e1, e2⟩ := Option.map_eq_some_iff.mp e
    obtain ⟨kv, h1, h2⟩ := rs.ob n a _ ha hs
    have g := RelK.get (fun _ _ => kysK_inj) h2 kk
    cases hk with
    | tup hb hr =>
      refine ⟨_, DGet.t h1 (by rw [← kys_of hr e1]; exact hb), ?_⟩
      rw [e2] at g
      cases r with
      | none => exact g
      | some d => exact g
    | _ => cases e1
  · rename_i kvs hs
    obtain ⟨kk, e1, e2⟩ := Option.map_eq_some_iff.mp e
    obtain ⟨od, kv, h1, h2⟩ := rs.ob n a _ ha hs
    have g := RelK.get (fun _ _ => kyK_inj) h2 kk
    rw [ky_of hk e1]
    refine ⟨_, .inl ⟨_, _, .inr ⟨_, h1⟩, rfl, rfl⟩, ?_⟩
    rw [e2] at g
    cases r with
    | none => exact g
    | some d => exact g
  · rename_i kvs hs
    obtain ⟨kk, e1, e2⟩ := Option.map_eq_some_iff.mp e
    obtain ⟨od, kv, h1, h2⟩ := rs.ob n a _ ha hs
    have g := RelK.get (fun _ _ => kysK_inj) h2 kk
    cases hk with
    | tup hb hr =>
      refine ⟨_, .inr ⟨_, _, _, .inr ⟨_, h1⟩, rfl, by rw [← kys_of hr e1]; exact hb, rfl⟩, ?_⟩
      rw [e2] at g
      cases r with
      | none => exact g
      | some d => exact g
    | _ => cases e1
  · cases e
theorem look_put {c : Ct} {m : List Addr} {S : Store} {H : Hp} (rs : RS c m S H) {o k x : D} {vo vk vx : V} (ho : RelD c.K H m o vo) (hk : RelD c.K H m k vk) (hx : RelD c.K H m x vx) {q : Unit → Store → List Addr → Hp → Prop} {E : XK} (p : Post c E m H (setIx o k x S) q) :
    (rSetL vo vk vx H fun H' => ∃ S' m', Ext m H m' H' ∧ RS c m' S' H' ∧ q () S' m' H') ∨ ∃ a H', vo = .ref a ∧ DPut H a vk vx H' ∧ ∃ S' m', Ext m H m' H' ∧ RS c m' S' H' ∧ q () S' m' H' := by
  unfold setIx at p
  cases ho with
  | @ref n a ha =>
    dsimp only at p
    split at p
    · rename_i l hs
      cases hk with
      | int i =>
        dsimp only at p
        split at p
        · rename_i j hj
          obtain ⟨xs, h1, h2⟩ := rs.ob n a _ ha hs
          obtain ⟨rs', e⟩ := rs.set (o' := .lst (l.set j x)) (u := .lst (xs.set j vx)) ha hs trivial trivial fun e => ⟨_, upd_same, (h2.mono e).set (hx.mono e) j⟩
          exact .inl ⟨a, xs, i, j, rfl, rfl, h1, by rw [← h2.len]; exact hj, _, _, e, rs', p _ _ e rs'⟩
        · exact p.elim
      | _ => exact p.elim
    · rename_i kvs hs
      split at p
      · rename_i kk hkk
        split at p
        · rename_i hl
          obtain ⟨kv, h1, h2⟩ := rs.ob n a _ ha hs
          obtain ⟨rs', e⟩ := rs.set (o' := .dK (dPut kvs kk x)) (u := .dK (putK kv (kyK kk) vx)) ha hs trivial trivial fun e => ⟨_, upd_same, RelK.put (fun _ _ => kyK_inj) (RelK.mono e h2) kk (hx.mono e)⟩
          refine .inr ⟨a, _, rfl, ?_, _, _, e, rs', p _ _ e rs'⟩
          rw [ky_of hk hkk]
          exact DPut.k h1 (by rw [← Paired.length h2, line_eq]; exact hl)
        · exact p.elim
      · exact p.elim
    · rename_i kvs hs
      split at p
      · rename_i kk hkk
        split at p
        · rename_i hl
          obtain ⟨kv, h1, h2⟩ := rs.ob n a _ ha hs
          obtain ⟨rs', e⟩ := rs.set (o' := .dT (dPut kvs kk x)) (u := .dT (putK kv (kk.map kyK) vx)) ha hs trivial trivial fun e => ⟨_, upd_same, RelK.put (fun _ _ => kysK_inj) (RelK.mono e h2) kk (hx.mono e)⟩
          cases hk with
          | tup hb hr =>
            exact .inr ⟨a, _, rfl, DPut.t h1 (by rw [← kys_of hr hkk]; exact hb) (by rw [← Paired.length h2, line_eq]; exact hl), _, _, e, rs', p _ _ e rs'⟩
          | _ => cases hkk
        · exact p.elim
      · exact p.elim
    · exact p.elim
  | _ => exact p.elim

/-! ### in -/
theorem flatV_of {K : PySem.W.Frag} {H : Hp} {m : List Addr} {d : D} {v : V} (h : RelD K H m d v) (f : flatD d = true) : flatV v = true := by
  cases h <;> first | rfl | cases f
theorem flatVs_of {K : PySem.W.Frag} {H : Hp} {m : List Addr} : ∀ {l : List D} {xs : List V}, RelL K H m l xs → l.all flatD = true → xs.all flatV = true
  | _, _, .nil, _ => rfl
  | _, _, .cons h t, f => by
    rw [List.all_cons, Bool.and_eq_true] at f
    rw [List.all_cons, flatV_of h f.1, flatVs_of t f.2]
    rfl
theorem sOf_beq {a b : Tx} : (sOf a == sOf b) = (a == b) := by
  rw [Bool.eq_iff_iff, beq_iff_eq, beq_iff_eq]
  exact ⟨sOf_inj, congrArg _⟩
theorem eqF_of {K : PySem.W.Frag} {H : Hp} {m : List Addr} {d e : D} {v w : V} (h : RelD K H m d v) (h' : RelD K H m e w) (f : flatD d = true) (f' : flatD e = true) : eqV v w = eqF d e := by
  cases h <;> cases h' <;> first | rfl | exact sOf_beq | cases f | cases f'
theorem inV_of {K : PySem.W.Frag} {H : Hp} {m : List Addr} {x : D} {v : V} (h : RelD K H m x v) (f : flatD x = true) : ∀ {l : List D} {xs : List V}, RelL K H m l xs → l.all flatD = true → inV v xs = l.any fun y => eqF y x
  | _, _, .nil, _ => rfl
  | _, _, .cons h1 t, g => by
    rw [List.all_cons, Bool.and_eq_true] at g
    have ih := inV_of h f t g.2
    unfold inV at ih ⊢
    rw [List.any_cons, List.any_cons, eqF_of h1 h g.1 f, ih]
theorem op_inT (hu : X.A.units + 65 < cLine) : OpR X (compareOp .In) (fun x y H Q => ∃ d ds, Dp X.K H x d ∧ Dp X.K H y (.tuple ds) ∧ SeqAt.shaped d = true ∧ SeqAt.shaped (.list ds) = true ∧ Q (.bl (ds.any fun z => PyData.eqv z d)) H) := by
  intro pins s σ H x y v u Q I rx ry h
  obtain ⟨d, ds, hd, he, sd, se, q⟩ := h
  obtain ⟨as, r1⟩ := Dp.reads I d x v hd rx
  obtain ⟨bs, r2⟩ := Dp.reads I (.tuple ds) y u he ry
  exact SeqAt.in_tuple_reads r2 r1 (SeqAt.canLay_of_shaped se) (SeqAt.canLay_of_shaped sd) (room_in_shaped sd hu) ⟨.bl _, H, I, rfl, q⟩
theorem op_notInT (hu : X.A.units + 65 < cLine) : OpR X (compareOp .NotIn) (fun x y H Q => ∃ d ds, Dp X.K H x d ∧ Dp X.K H y (.tuple ds) ∧ SeqAt.shaped d = true ∧ SeqAt.shaped (.list ds) = true ∧ Q (.bl (!ds.any fun z => PyData.eqv z d)) H) := by
  intro pins s σ H x y v u Q I rx ry h
  obtain ⟨d, ds, hd, he, sd, se, q⟩ := h
  obtain ⟨as, r1⟩ := Dp.reads I d x v hd rx
  obtain ⟨bs, r2⟩ := Dp.reads I (.tuple ds) y u he ry
  exact SeqAt.notIn_tuple_reads r2 r1 (SeqAt.canLay_of_shaped se) (SeqAt.canLay_of_shaped sd) (room_in_shaped sd hu) ⟨.bl _, H, I, rfl, q⟩
theorem op_inDc (hu : X.A.units + 1 < cLine) : OpR X (compareOp .In) (fun y x H Q => ∃ a o, x = .ref a ∧ DGet H a y o ∧ Q (.bl o.isSome) H) := by
  intro pins s σ H y x u v Q I ry rx h
  obtain ⟨a, o, rfl, g, q⟩ := h
  obtain rfl : v = Value.ref a := rx
  exact d_in hu I g ry fun s3 I3 => ⟨.bl o.isSome, H, I3, rfl, q⟩
theorem op_notInDc (hu : X.A.units + 1 < cLine) : OpR X (compareOp .NotIn) (fun y x H Q => ∃ a o, x = .ref a ∧ DGet H a y o ∧ Q (.bl (!o.isSome)) H) := by
  intro pins s σ H y x u v Q I ry rx h
  obtain ⟨a, o, rfl, g, q⟩ := h
  obtain rfl : v = Value.ref a := rx
  exact d_notIn hu I g ry fun s3 I3 => ⟨.bl (!o.isSome), H, I3, rfl, q⟩
/-- what «in» is, whatever is asked of the answer -/
theorem in_cases {c : Ct} {m : List Addr} {S : Store} {H : Hp} (rs : RS c m S H) {x y : D} {v w : V} {b : Bool} (hv : RelD c.K H m x v) (hw : RelD c.K H m y w) (e : isIn x y S = some b) :
    (∃ (k : Nat) (z : Str), v = .str ⟨#[k]⟩ ∧ w = .str z ∧ decide (k ∈ z.cps.toList) = b) ∨ (∃ p xs, w = .ref p ∧ (SqL c.K H p xs ∨ SqT c.K H p xs) ∧ flatV v = true ∧ xs.all flatV = true ∧ inV v xs = b) ∨
    (∃ d ds, Dp c.K H v d ∧ Dp c.K H w (.list ds) ∧ SeqAt.shaped d = true ∧ SeqAt.shaped (.list ds) = true ∧ (ds.any fun z => PyData.eqv z d) = b) ∨
    (∃ d ds, Dp c.K H v d ∧ Dp c.K H w (.tuple ds) ∧ SeqAt.shaped d = true ∧ SeqAt.shaped (.list ds) = true ∧ (ds.any fun z => PyData.eqv z d) = b) ∨
    (∃ a o, w = .ref a ∧ DGet H a v o ∧ o.isSome = b) := by
  have seqc : ∀ {l : List D} {xs : List V} {p : Addr}, RelL c.K H m l xs → inSeq x l S = some b → (flatV v = true ∧ xs.all flatV = true ∧ inV v xs = b) ∨ ∃ d ds, Dp c.K H v d ∧ DpAll c.K H xs ds ∧ SeqAt.shaped d = true ∧ SeqAt.shaped (.list ds) = true ∧ (ds.any fun z => PyData.eqv z d) = b := by
    intro l xs p r h
    unfold inSeq at h
    split at h
    · rename_i f
      cases h
      exact .inl ⟨flatV_of hv f.1, flatVs_of r f.2, inV_of hv f.1 r f.2⟩
    · split at h
      · rename_i d ds e1 e2
        split at h
        · rename_i f
          cases h
          exact .inr ⟨d, ds, pd_dp rs hv e1, dps_of (look_dp rs 8) l xs ds r e2, f.1, f.2, rfl⟩
        · cases h
      · cases h
  cases hw with
  | str z =>
    unfold isIn at e
    dsimp only at e
    split at e
    · rename_i k
      cases e
      cases hv
      exact .inl ⟨k, sOf z, rfl, rfl, rfl⟩
    · cases e
  | @tup l a xs ha r =>
    rcases seqc (p := a) r e with ⟨h1, h2, h3⟩ | ⟨d, ds, h1, h2, h3, h4, h5⟩
    · exact .inr (.inl ⟨a, xs, rfl, .inr (.inl (.inl ha)), h1, h2, h3⟩)
    · exact .inr (.inr (.inr (.inl ⟨d, ds, h1, .tup (.inl (.inl ha)) h2, h3, h4, h5⟩)))
  | @wtp l a xs ha r =>
    rcases seqc (p := a) r e with ⟨h1, h2, h3⟩ | ⟨d, ds, h1, h2, h3, h4, h5⟩
    · exact .inr (.inl ⟨a, xs, rfl, .inr ha.sq, h1, h2, h3⟩)
    · exact .inr (.inr (.inr (.inl ⟨d, ds, h1, .tup ha.sq h2, h3, h4, h5⟩)))
  | @ref n a ha =>
    unfold isIn at e
    dsimp only at e
    split at e
    · rename_i l hs
      obtain ⟨xs, h0, r⟩ := rs.lst (l := l) ha (by unfold lstOf; rw [hs])
      rcases seqc (p := a) r e with ⟨h1, h2, h3⟩ | ⟨d, ds, h1, h2, h3, h4, h5⟩
      · exact .inr (.inl ⟨a, xs, rfl, .inl h0, h1, h2, h3⟩)
      · exact .inr (.inr (.inl ⟨d, ds, h1, .lst h0 h2, h3, h4, h5⟩))
    · rename_i l hs
      obtain ⟨xs, h0, r⟩ := rs.lst (l := l) ha (by unfold lstOf; rw [hs])
      rcases seqc (p := a) r e with ⟨h1, h2, h3⟩ | ⟨d, ds, h1, h2, h3, h4, h5⟩
      · exact .inr (.inl ⟨a, xs, rfl, .inl h0, h1, h2, h3⟩)
      · exact .inr (.inr (.inl ⟨d, ds, h1, .lst h0 h2, h3, h4, h5⟩))
    · rename_i kvs hs
      obtain ⟨kk, e1, e2⟩ := Option.map_eq_some_iff.mp e
      obtain ⟨o, g, q⟩ := look_get rs ha hv (r := dGet kvs kk) (by unfold dLook; rw [hs]; dsimp only; rw [e1]; rfl)
      refine .inr (.inr (.inr (.inr ⟨a, o, rfl, g, ?_⟩)))
      rw [← e2]
      exact q.isSome
    · rename_i kvs hs
      obtain ⟨kk, e1, e2⟩ := Option.map_eq_some_iff.mp e
      obtain ⟨o, g, q⟩ := look_get rs ha hv (r := dGet kvs kk) (by unfold dLook; rw [hs]; dsimp only; rw [e1]; rfl)
      refine .inr (.inr (.inr (.inr ⟨a, o, rfl, g, ?_⟩)))
      rw [← e2]
      exact q.isSome
    · cases e
  | _ => cases e
theorem om_in (hu : X.A.units + 65 < cLine) : OpM X E (compareOp .In) oIn := by
  refine ⟨_, opr_or op_in_sign (opr_or op_in_seq (opr_or (op_inD hu) (opr_or (op_inT hu) (op_inDc (by omega))))), fun x y v u S m H Q rs hv hw p => ?_⟩
  unfold oIn at p
  split at p
  · rename_i b e
    have q := post_bl rs p
    rcases in_cases rs hv hw e with ⟨k, z, h1, h2, h3⟩ | ⟨a, xs, h1, h2, h3, h4, h5⟩ | ⟨d, ds, h1, h2, h3, h4, h5⟩ | ⟨d, ds, h1, h2, h3, h4, h5⟩ | ⟨a, o, h1, h2, h3⟩
    · exact .inl ⟨k, z, h1, h2, by rw [h3]; exact q⟩
    · exact .inr (.inl ⟨a, xs, h1, h2, h3, h4, by rw [h5]; exact q⟩)
    · exact .inr (.inr (.inl ⟨d, ds, h1, h2, h3, h4, by rw [h5]; exact q⟩))
    · exact .inr (.inr (.inr (.inl ⟨d, ds, h1, h2, h3, h4, by rw [h5]; exact q⟩)))
    · exact .inr (.inr (.inr (.inr ⟨a, o, h1, h2, by rw [h3]; exact q⟩)))
  · exact p.elim
theorem om_notin (hu : X.A.units + 65 < cLine) : OpM X E (compareOp .NotIn) oNotIn := by
  refine ⟨_, opr_or op_notIn_sign (opr_or op_notIn_seq (opr_or (op_notInD hu) (opr_or (op_notInT hu) (op_notInDc (by omega))))), fun x y v u S m H Q rs hv hw p => ?_⟩
  unfold oNotIn at p
  split at p
  · rename_i b e
    have q := post_bl rs p
    rcases in_cases rs hv hw e with ⟨k, z, h1, h2, h3⟩ | ⟨a, xs, h1, h2, h3, h4, h5⟩ | ⟨d, ds, h1, h2, h3, h4, h5⟩ | ⟨d, ds, h1, h2, h3, h4, h5⟩ | ⟨a, o, h1, h2, h3⟩
    · exact .inl ⟨k, z, h1, h2, by rw [h3]; exact q⟩
    · exact .inr (.inl ⟨a, xs, h1, h2, h3, h4, by
        show Q (.bl (!inV v xs)) H
        rw [h5]; exact q⟩)
    · exact .inr (.inr (.inl ⟨d, ds, h1, h2, h3, h4, by rw [h5]; exact q⟩))
    · exact .inr (.inr (.inr (.inl ⟨d, ds, h1, h2, h3, h4, by rw [h5]; exact q⟩)))
    · exact .inr (.inr (.inr (.inr ⟨a, o, h1, h2, by rw [h3]; exact q⟩)))
  · exact p.elim

/-! ### subscripts -/
theorem ix_dict (hu : X.A.units + 1 < cLine) : IxR X (fun x y H Q => ∃ a v, x = .ref a ∧ DGet H a y (some v) ∧ Q v H) := by
  intro value slice pins s σ H x y v u Q I rx ry h hs
  obtain ⟨a, z, rfl, g, q⟩ := h
  obtain rfl : v = Value.ref a := rx
  unfold subscriptTail
  refine wpAny_bind ?_
  rw [getitemInPython_of_ne (dict_typeIs I g).not_modules]
  refine wpAny_bind (wpAny_specialOf (dict_typeIs I g) PySem.F.slot_dict_getitem.lookup ?_)
  have fin : wpAny (model X.prog X.w) X.A (subscripted slice false (.ref a) u) (fun r s₃ => wpAny (model X.prog X.w) X.A (letTemporaryGo value (.ref a) r >>= fun _ => pure r) (EP X pins σ Q) X.xe s₃) X.xe s := by
    rw [hs]
    exact wpAny_operating (d_getItem hu I g ry fun w' s3 I3 rw' => wpAny_bind (wpAny_letTemporaryGo (wpAny_pure ⟨z, H, I3, rw', q⟩)))
  first
    | exact wpAny_pure (wpAny_bind fin)
    | exact wpAny_bind (wpAny_pure (wpAny_bind fin))
    | exact wpAny_bind fin
theorem atI_rel {K : PySem.W.Frag} {H : Hp} {m : List Addr} {l : List D} {xs : List V} {i : Int} {d : D} (r : RelL K H m l xs) (e : Mi.atI l i = some d) : ∃ v, L2.atI xs i = some v ∧ RelD K H m d v := by
  unfold Mi.atI at e
  obtain ⟨j, e1, e2⟩ := Option.bind_eq_some_iff.mp e
  obtain ⟨v, h1, h2⟩ := r.ix e2
  refine ⟨v, ?_, h2⟩
  unfold L2.atI
  have e3 : L2.ixN xs.length i = some j := by rw [← r.len]; exact e1
  rw [e3]
  exact h1
theorem im_ix (hu : X.A.units + 65 < cLine) : IxM X E oIx := by
  refine ⟨_, ix_seq.or (ix_dict (by omega)), fun x y v u S m H Q rs hv hw p => ?_⟩
  unfold oIx at p
  cases hv with
  | str z =>
    cases hw with
    | int i =>
      dsimp only at p
      split at p
      · rename_i hl
        split at p
        · rename_i c hc
          refine .inl (.inr (.inr ⟨sOf z, i, c, rfl, rfl, by rw [sOf_len, line_eq]; exact hl, hc, p.here rs _ (.str [c])⟩))
        · exact p.elim
      · exact p.elim
    | _ => exact p.elim
  | @tup l a xs ha r =>
    cases hw with
    | int i =>
      dsimp only at p
      split at p
      · rename_i d hd
        obtain ⟨v, h1, h2⟩ := atI_rel r hd
        exact .inl (.inr (.inl ⟨a, xs, i, v, rfl, rfl, .inl (.inl ha), h1, p.here rs _ h2⟩))
      · exact p.elim
    | _ => exact p.elim
  | @wtp l a xs ha r =>
    cases hw with
    | int i =>
      dsimp only at p
      split at p
      · rename_i d hd
        obtain ⟨v, h1, h2⟩ := atI_rel r hd
        exact .inl (.inr (.inl ⟨a, xs, i, v, rfl, rfl, ha.sq, h1, p.here rs _ h2⟩))
      · exact p.elim
    | _ => exact p.elim
  | @ref n a ha =>
    dsimp only at p
    have lst : ∀ l, lstOf S n = some l → Post (cx X) E m H (match y with
        | .int i => (match Mi.atI l i with
          | some v => .ok v S
          | none => .bad)
        | _ => .bad) (kE (cx X) Q) → rIx X.K (.ref a) u H Q := by
      intro l hl p
      obtain ⟨xs, h0, r⟩ := rs.lst ha hl
      cases hw with
      | int i =>
        dsimp only at p
        split at p
        · rename_i d hd
          obtain ⟨v, h1, h2⟩ := atI_rel r hd
          exact .inl ⟨a, xs, i, v, rfl, rfl, h0, h1, p.here rs _ h2⟩
        · exact p.elim
      | _ => exact p.elim
    split at p
    · rename_i l hs
      exact .inl (lst l (by unfold lstOf; rw [hs]) p)
    · rename_i l hs
      exact .inl (lst l (by unfold lstOf; rw [hs]) p)
    · split at p
      · rename_i d hd
        obtain ⟨o, g, z, e, h2⟩ := look_get rs ha hw hd
        subst e
        exact .inr ⟨a, z, rfl, g, p.here rs _ h2⟩
      · exact p.elim
  | _ => exact p.elim

/-! ### slices -/
theorem cut_rel {K : PySem.W.Frag} {H : Hp} {m : List Addr} {l : List D} {xs : List V} (r : RelL K H m l xs) (lo hi : Option Int) : RelL K H m (cut l lo hi) (cutV xs lo hi) := by
  unfold cut cutV
  rw [← r.len]
  exact (r.drop _).take _
theorem slm : SlM X E oSl := by
  refine ⟨_, slr_or sl_str (slr_or sl_tup sl_list), fun x lo hi v S m H Q rs hv p => ?_⟩
  unfold oSl at p
  cases hv with
  | str z =>
    dsimp only at p
    split at p
    · rename_i hl
      refine .inl ⟨sOf z, rfl, by rw [sOf_len, line_eq]; exact hl, ?_⟩
      have e : cutS (sOf z) lo hi = sOf (cut z lo hi) := by
        unfold cutS cut
        rw [sOf_len]
        rfl
      rw [e]
      exact p.here rs _ (.str _)
    · exact p.elim
  | @tup l a xs ha r =>
    dsimp only at p
    split at p
    · rename_i hl
      refine .inr (.inl ⟨a, xs, rfl, .inl (.inl ha), fun z => ?_, fun b hb => post_tup rs p hb (cut_rel r lo hi)⟩)
      have h1 := (cut_rel r lo hi).len
      unfold cutV at h1
      rw [z.1, z.2, List.drop_zero, Nat.sub_zero, List.take_length] at h1
      rw [h1, r.len] at hl
      exact absurd hl (Nat.lt_irrefl _)
    · exact p.elim
  | @ref n a ha =>
    dsimp only at p
    split at p
    · rename_i l hl
      obtain ⟨xs, h0, r⟩ := rs.lst ha hl
      exact .inr (.inr ⟨a, xs, rfl, h0, fun b hb => post_new rs p hb fun e => ⟨_, upd_same, (cut_rel r lo hi).mono e⟩⟩)
    · exact p.elim
  | _ => exact p.elim
end
end Sm

set_option Elab.async false
set_option linter.all false
set_option maxRecDepth 100000
set_option maxHeartbeats 2000000
/-! readings by the small language: built-ins, methods -/
namespace Sm
open PySem PySem.Spec PyProof.Rows L2 Mi
section
variable {X : Cx} {E : XK}
theorem cm_len : CallM X E (.builtin "len") bLen := by
  refine ⟨_, callr_or call_len_seq (callr_or call_len_str (callr_or call_lenD call_len_dT)), fun ds vs S m H Q rs hv p => ?_⟩
  unfold bLen at p
  split at p
  · rename_i s
    cases hv with
    | cons h t =>
      cases t
      cases h
      split at p
      · rename_i hl
        exact .inr (.inl ⟨sOf s, rfl, by rw [sOf_len, line_eq]; exact hl, by rw [sOf_len]; exact post_int rs p⟩)
      · exact p.elim
  · rename_i l
    cases hv with
    | cons h t =>
      cases t
      cases h with
      | tup ha r => exact .inl ⟨_, _, rfl, .inr (.inl (.inl ha)), by rw [← r.len]; exact post_int rs p⟩
  · rename_i l
    cases hv with
    | cons h t =>
      cases t
      cases h with
      | wtp ha r => exact .inl ⟨_, _, rfl, .inr ha.sq, by rw [← r.len]; exact post_int rs p⟩
  · rename_i n
    cases hv with
    | cons h t =>
      cases t
      cases h with
      | ref ha =>
        split at p
        · rename_i l hs
          obtain ⟨xs, h0, r⟩ := rs.lst (l := l) ha (by unfold lstOf; rw [hs])
          exact .inl ⟨_, xs, rfl, .inl h0, by rw [← r.len]; exact post_int rs p⟩
        · rename_i l hs
          obtain ⟨xs, h0, r⟩ := rs.lst (l := l) ha (by unfold lstOf; rw [hs])
          exact .inl ⟨_, xs, rfl, .inl h0, by rw [← r.len]; exact post_int rs p⟩
        · rename_i k hs
          obtain ⟨kv, h1, h2⟩ := rs.ob _ _ _ ha hs
          exact .inr (.inr (.inl ⟨_, kv, rfl, h1, by rw [← Paired.length h2]; exact post_int rs p⟩))
        · rename_i k hs
          obtain ⟨kv, h1, h2⟩ := rs.ob _ _ _ ha hs
          exact .inr (.inr (.inr ⟨_, kv, rfl, h1, by rw [← Paired.length h2]; exact post_int rs p⟩))
        · exact p.elim
  · exact p.elim
theorem rel1 {K : PySem.W.Frag} {H : Hp} {m : List Addr} {d : D} {vs : List V} (h : RelL K H m [d] vs) : ∃ v, vs = [v] ∧ RelD K H m d v := by
  cases h with
  | cons h t => cases t; exact ⟨_, rfl, h⟩
theorem rel2 {K : PySem.W.Frag} {H : Hp} {m : List Addr} {d e : D} {vs : List V} (h : RelL K H m [d, e] vs) : ∃ v w, vs = [v, w] ∧ RelD K H m d v ∧ RelD K H m e w := by
  cases h with
  | cons h t =>
    obtain ⟨w, rfl, h2⟩ := rel1 t
    exact ⟨_, w, rfl, h, h2⟩
theorem cm_abs : CallM X E (.builtin "abs") bAbs := by
  refine ⟨_, call_abs, fun ds vs S m H Q rs hv p => ?_⟩
  unfold bAbs at p
  split at p
  · rename_i i
    obtain ⟨v, rfl, h⟩ := rel1 hv
    cases h
    exact ⟨i, rfl, post_int rs p⟩
  · exact p.elim
theorem cm_int : CallM X E (.type "int") bInt := by
  refine ⟨_, call_int1, fun ds vs S m H Q rs hv p => ?_⟩
  unfold bInt at p
  split at p
  · rename_i i
    obtain ⟨v, rfl, h⟩ := rel1 hv
    cases h
    exact .inl ⟨i, rfl, post_int rs p⟩
  · rename_i i
    obtain ⟨v, rfl, h⟩ := rel1 hv
    cases h
    exact .inr ⟨i, rfl, post_int rs p⟩
  · exact p.elim
theorem cm_max (hc : X.calm = true) : CallM X E (.builtin "max") bMax := by
  refine ⟨_, call_max2 hc, fun ds vs S m H Q rs hv p => ?_⟩
  unfold bMax at p
  split at p
  · rename_i i j
    obtain ⟨v, w, rfl, h, h'⟩ := rel2 hv
    cases h
    cases h'
    exact ⟨i, j, rfl, post_int rs p⟩
  · exact p.elim
theorem cm_min (hc : X.calm = true) : CallM X E (.builtin "min") bMin := by
  refine ⟨_, call_min2 hc, fun ds vs S m H Q rs hv p => ?_⟩
  unfold bMin at p
  split at p
  · rename_i i j
    obtain ⟨v, w, rfl, h, h'⟩ := rel2 hv
    cases h
    cases h'
    exact ⟨i, j, rfl, post_int rs p⟩
  · exact p.elim
theorem RelL.keys {K : PySem.W.Frag} {H : Hp} {m : List Addr} {k : List (Ky × D)} {kv : List (Key × V)} (h : RelK K H m kyK k kv) : RelL K H m (k.map fun p => kyD p.1) (kv.map fun p => kV p.1) := by
  induction h with
  | nil => exact .nil
  | @cons p q ps qs h t ih =>
    rw [List.map_cons, List.map_cons]
    refine .cons ?_ ih
    rw [← h.1]
    cases p.1 with
    | inl i => exact .int i
    | inr s => exact .str s
theorem RelL.kys {K : PySem.W.Frag} {H : Hp} {m : List Addr} : ∀ k : List Ky, RelL K H m (k.map kyD) ((k.map kyK).map kV)
  | [] => .nil
  | .inl i :: k => .cons (.int i) (RelL.kys k)
  | .inr s :: k => .cons (.str s) (RelL.kys k)
theorem RelL.keysT {K : PySem.W.Frag} {H : Hp} {m : List Addr} {k : List (List Ky × D)} {kv : List (List Key × V)} {bs : List Addr} (h : RelK K H m (fun x => x.map kyK) k kv) (hk : IsKeys H kv bs) : RelL K H m (k.map fun p => .tup (p.1.map kyD)) (bs.map V.ref) := by
  induction h generalizing bs with
  | nil =>
    cases hk
    exact .nil
  | @cons p q ps qs h t ih =>
    cases hk with
    | cons h1 h2 =>
      rw [List.map_cons, List.map_cons]
      refine .cons (.tup h1 ?_) (ih h2)
      rw [← h.1]
      exact RelL.kys p.1
theorem seq_rel {c : Ct} {m : List Addr} {S : Store} {H : Hp} (rs : RS c m S H) {d : D} {v : V} {l : List D} (h : RelD c.K H m d v) (e : seqOf S d = some l) : ∃ a xs, v = .ref a ∧ (SqL c.K H a xs ∨ SqT c.K H a xs) ∧ RelL c.K H m l xs := by
  unfold seqOf at e
  cases h with
  | tup ha r => cases e; exact ⟨_, _, rfl, .inr (.inl (.inl ha)), r⟩
  | wtp ha r => cases e; exact ⟨_, _, rfl, .inr ha.sq, r⟩
  | ref ha =>
    obtain ⟨xs, h1, h2⟩ := rs.lst ha e
    exact ⟨_, xs, rfl, .inl h1, h2⟩
  | _ => cases e
theorem cm_list (hc : X.calm = true) : CallM X E (.type "list") bList := by
  refine ⟨_, callr_or call_list_of (callr_or (call_listD hc) (call_list_dT hc)), fun ds vs S m H Q rs hv p => ?_⟩
  unfold bList at p
  split at p
  · rename_i x
    obtain ⟨v, rfl, h⟩ := rel1 hv
    split at p
    · rename_i l hl
      obtain ⟨a, xs, rfl, h1, h2⟩ := seq_rel rs h hl
      exact .inl ⟨a, xs, rfl, h1, fun b hb => post_new rs p hb fun e => ⟨xs, upd_same, h2.mono e⟩⟩
    · cases h with
      | @ref n a ha =>
        dsimp only at p
        split at p
        · rename_i k hs
          obtain ⟨kv, h1, h2⟩ := rs.ob _ _ _ ha hs
          exact .inr (.inl ⟨a, kv, rfl, .inl h1, fun b hb => post_new rs p hb fun e => ⟨_, upd_same, (RelL.keys h2).mono e⟩⟩)
        · rename_i k hs
          obtain ⟨kv, h1, h2⟩ := rs.ob _ _ _ ha hs
          exact .inr (.inr ⟨a, kv, rfl, .inl h1, fun b bs hb hk => post_new rs p hb fun e => ⟨_, upd_same, (RelL.keysT h2 hk).mono e⟩⟩)
        · exact p.elim
      | _ => exact p.elim
  · exact p.elim
theorem cm_tuple : CallM X E (.type "tuple") bTuple := by
  refine ⟨_, call_tuple_of, fun ds vs S m H Q rs hv p => ?_⟩
  unfold bTuple at p
  split at p
  · rename_i l
    obtain ⟨v, rfl, h⟩ := rel1 hv
    cases h with
    | tup ha r => exact ⟨_, _, rfl, .inr ⟨.inl (.inl ha), p.here rs _ (.tup ha r)⟩⟩
  · rename_i n
    obtain ⟨v, rfl, h⟩ := rel1 hv
    cases h with
    | ref ha =>
      split at p
      · rename_i l hl
        obtain ⟨xs, h1, h2⟩ := rs.lst ha hl
        exact ⟨_, xs, rfl, .inl ⟨h1, fun b hb => post_tup rs p hb h2⟩⟩
      · exact p.elim
  · exact p.elim
theorem ints_rel {K : PySem.W.Frag} {H : Hp} {m : List Addr} : ∀ {l : List D} {xs : List V} {ns : List Int}, RelL K H m l xs → intsOf l = some ns → xs = ns.map V.int
  | _, _, _, .nil, e => by simp only [intsOf, Option.some.injEq] at e; subst e; rfl
  | _, _, ns, .cons (d := d) h t, e => by
    cases h <;> simp only [intsOf, reduceCtorEq] at e
    obtain ⟨r, e1, e2⟩ := Option.map_eq_some_iff.mp e
    subst e2
    rw [List.map_cons, ← ints_rel t e1]
theorem bls_rel {K : PySem.W.Frag} {H : Hp} {m : List Addr} : ∀ {l : List D} {xs : List V} {ns : List Bool}, RelL K H m l xs → blsOf l = some ns → xs = ns.map V.bl
  | _, _, _, .nil, e => by simp only [blsOf, Option.some.injEq] at e; subst e; rfl
  | _, _, ns, .cons (d := d) h t, e => by
    cases h <;> simp only [blsOf, reduceCtorEq] at e
    obtain ⟨r, e1, e2⟩ := Option.map_eq_some_iff.mp e
    subst e2
    rw [List.map_cons, ← bls_rel t e1]
theorem cm_sum (hc : X.calm = true) : CallM X E (.builtin "sum") bSum := by
  refine ⟨_, cr_sum hc, fun ds vs S m H Q rs hv p => ?_⟩
  unfold bSum at p
  split at p
  · obtain ⟨v, rfl, h⟩ := rel1 hv
    cases h with
    | ref ha =>
      split at p
      · rename_i l hl
        obtain ⟨k, h1, h2⟩ := Option.bind_eq_some_iff.mp hl
        obtain ⟨xs, h3, h4⟩ := rs.lst ha h1
        rw [ints_rel h4 h2] at h3
        exact ⟨_, l, rfl, h3, post_int rs p⟩
      · exact p.elim
  · exact p.elim
theorem cm_any (hc : X.calm = true) : CallM X E (.builtin "any") bAny := by
  refine ⟨_, cr_any hc, fun ds vs S m H Q rs hv p => ?_⟩
  unfold bAny at p
  split at p
  · obtain ⟨v, rfl, h⟩ := rel1 hv
    cases h with
    | ref ha =>
      split at p
      · rename_i l hl
        obtain ⟨k, h1, h2⟩ := Option.bind_eq_some_iff.mp hl
        obtain ⟨xs, h3, h4⟩ := rs.lst ha h1
        rw [bls_rel h4 h2] at h3
        exact ⟨_, l, rfl, h3, post_bl rs p⟩
      · exact p.elim
  · exact p.elim
theorem cm_all (hc : X.calm = true) : CallM X E (.builtin "all") bAll := by
  refine ⟨_, cr_all hc, fun ds vs S m H Q rs hv p => ?_⟩
  unfold bAll at p
  split at p
  · obtain ⟨v, rfl, h⟩ := rel1 hv
    cases h with
    | ref ha =>
      split at p
      · rename_i l hl
        obtain ⟨k, h1, h2⟩ := Option.bind_eq_some_iff.mp hl
        obtain ⟨xs, h3, h4⟩ := rs.lst ha h1
        rw [bls_rel h4 h2] at h3
        exact ⟨_, l, rfl, h3, post_bl rs p⟩
      · exact p.elim
  · exact p.elim

/-! ### isinstance -/
def tyN : Ty → String
  | .int => "int"
  | .bool => "bool"
  | .str => "str"
  | .list => "list"
  | .tuple => "tuple"
  | .dict => "dict"
theorem tyx_of {c : Ct} {m : List Addr} {S : Store} {H : Hp} (rs : RS c m S H) {d : D} {v : V} {U : Ty} (h : RelD c.K H m d v) (e : tyOf S d = some U) : TyX c.K H v (.type (tyN U)) := by
  cases h with
  | non => cases e
  | bl b => cases e; exact .base (.bl b)
  | int b => cases e; exact .base (.int b)
  | str b => cases e; exact .base (.str _)
  | tup ha r => cases e; exact .base (.tup ha)
  | wtp ha r => cases e
  | @ref n a ha =>
    unfold tyOf at e
    dsimp only at e
    split at e
    · rename_i l hs
      cases e
      obtain ⟨xs, h1, _⟩ := rs.ob n a _ ha hs
      exact .base (.lst h1)
    · rename_i l hs
      cases e
      obtain ⟨xs, h1, _⟩ := rs.ob n a _ ha hs
      rcases h1 with ⟨o, h1⟩ | h1
      · exact .base (.frz h1)
      · rcases h1 with h1 | ⟨o, its, k, h1, h2, _⟩
        · rcases h1 with h1 | ⟨o, h1⟩ <;> cases h1
        · exact .kList h1 h2
    · rename_i l hs
      cases e
      obtain ⟨xs, h1, _⟩ := rs.ob n a _ ha hs
      exact .base (.dK h1)
    · rename_i l hs
      cases e
      obtain ⟨xs, h1, _⟩ := rs.ob n a _ ha hs
      exact .base (.dT h1)
    · cases e
theorem kit_all : ∀ U T : Ty, kitB (tyN U) (tyN T) = some (decide (U = T) || (decide (U = .bool) && decide (T = .int)))
  | .int, .int => by decide +kernel | .int, .bool => by decide +kernel | .int, .str => by decide +kernel | .int, .list => by decide +kernel | .int, .tuple => by decide +kernel | .int, .dict => by decide +kernel
  | .bool, .int => by decide +kernel | .bool, .bool => by decide +kernel | .bool, .str => by decide +kernel | .bool, .list => by decide +kernel | .bool, .tuple => by decide +kernel | .bool, .dict => by decide +kernel
  | .str, .int => by decide +kernel | .str, .bool => by decide +kernel | .str, .str => by decide +kernel | .str, .list => by decide +kernel | .str, .tuple => by decide +kernel | .str, .dict => by decide +kernel
  | .list, .int => by decide +kernel | .list, .bool => by decide +kernel | .list, .str => by decide +kernel | .list, .list => by decide +kernel | .list, .tuple => by decide +kernel | .list, .dict => by decide +kernel
  | .tuple, .int => by decide +kernel | .tuple, .bool => by decide +kernel | .tuple, .str => by decide +kernel | .tuple, .list => by decide +kernel | .tuple, .tuple => by decide +kernel | .tuple, .dict => by decide +kernel
  | .dict, .int => by decide +kernel | .dict, .bool => by decide +kernel | .dict, .str => by decide +kernel | .dict, .list => by decide +kernel | .dict, .tuple => by decide +kernel | .dict, .dict => by decide +kernel
theorem kit_non : ∀ T : Ty, kitB "NoneType" (tyN T) = some false
  | .int => by decide +kernel | .bool => by decide +kernel | .str => by decide +kernel | .list => by decide +kernel | .tuple => by decide +kernel | .dict => by decide +kernel
theorem isi_ok {c : Ct} {m : List Addr} {S : Store} {H : Hp} (rs : RS c m S H) {d : D} {v : V} {T : Ty} {b : Bool} (h : RelD c.K H m d v) (e : isI T d S = some b) : ∃ t, TyX c.K H v t ∧ PySem.W.kitOne c.K t (.type (tyN T)) = some b := by
  unfold isI at e
  split at e
  · cases e
    cases h
    exact ⟨_, .base .non, kit_ty (kit_non T)⟩
  · obtain ⟨U, e1, e2⟩ := Option.map_eq_some_iff.mp e
    subst e2
    exact ⟨_, tyx_of rs h e1, kit_ty (kit_all U T)⟩
theorem se_isi {a : Expr} {fa : EM} {p p2 pos : Pos} {y : Str} (T : Ty) (hg : Gl X "isinstance") (hm : X.mg "isinstance" = none) (hg2 : Gl X y) (hm2 : X.mg y = none) (hv2 : bootBuiltins y = some (.type (tyN T))) (ha : SE X E a fa) (hn2 : y ≠ "__name__" := by decide) (hd2 : (y == ("__debug__" : Str)) = false := by decide)
    (he : starEach [a, .Name y p2] X.env = (false, eval a X.env) :: starEach [.Name y p2] X.env := by rfl) (he2 : starEach [.Name y p2] X.env = (false, eval (.Name y p2) X.env) :: starEach [] X.env := by rfl) (hpl : (backTo pos (starEach [.Name y p2] X.env)).any (·.1) = false := by rfl) :
    SE X E (.Call (.Name "isinstance" p) [a, .Name y p2] [] pos) (mUn (bIsI T) fa) := by
  refine PE.mono (pe_callB call_isi hg hm PyProof.Rows.boot_isinstance (pa_cons ha (pa_cons (pe_bltn (v := .ty (tyN T)) hg2 hm2 hv2 rfl hn2 hd2) pa_nil he2) he) (by decide) (by decide) he hpl) fun σ H Q ⟨fr, S, m, rf, rs, p⟩ => ?_
  refine rd_bind rf rs p fun x S1 m1 H1 e1 rf1 rs1 p1 v hv => ?_
  unfold bIsI at p1
  split at p1
  · rename_i b hb
    obtain ⟨t, h1, h2⟩ := isi_ok rs1 hv hb
    exact ⟨v, .ty (tyN T), t, _, b, rfl, .ty _, h1, h2, post_bl rs1 p1⟩
  · exact p1.elim

/-! ### methods -/
theorem ty_list : TyM X "list" isLst := by
  intro x v S m H rs h e
  unfold isLst at e
  cases h with
  | @ref n a ha =>
    dsimp only at e
    obtain ⟨l, hl⟩ := Option.isSome_iff_exists.mp e
    obtain ⟨xs, h1, _⟩ := rs.lst ha hl
    exact .inl ⟨rfl, xs, h1⟩
  | _ => cases e
theorem ty_dict : TyM X "dict" isDct := by
  intro x v S m H rs h e
  unfold isDct at e
  cases h with
  | @ref n a ha =>
    dsimp only at e
    split at e
    · rename_i k hs
      obtain ⟨xs, h1, _⟩ := rs.ob n a _ ha hs
      exact .inr (.inr (.inl ⟨rfl, .inl ⟨xs, h1⟩⟩))
    · rename_i k hs
      obtain ⟨xs, h1, _⟩ := rs.ob n a _ ha hs
      exact .inr (.inr (.inl ⟨rfl, .inr ⟨xs, h1⟩⟩))
    · cases e
  | _ => cases e
theorem ty_str : TyM X "str" isStr := by
  intro x v S m H rs h e
  unfold isStr at e
  cases h with
  | str s => exact rfl
  | _ => cases e
/-- a list that is changed -/
theorem mut_list {c : Ct} {m : List Addr} {S : Store} {H : Hp} (rs : RS c m S H) {o : D} {v : V} {f : Nat → List D → Res D} {k : D → Store → List Addr → Hp → Prop} (h : RelD c.K H m o v) (p : Post c E m H (mutL o S f) k) :
    ∃ n a l xs, o = .ref n ∧ v = .ref a ∧ m[n]? = some a ∧ S[n]? = some (.lst l) ∧ H a = some (.lst xs) ∧ RelL c.K H m l xs ∧ Post c E m H (f n l) k := by
  unfold mutL at p
  cases h with
  | @ref n a ha =>
    dsimp only at p
    split at p
    · rename_i l hs
      obtain ⟨xs, h1, h2⟩ := rs.ob n a _ ha hs
      exact ⟨n, a, l, xs, rfl, rfl, ha, hs, h1, h2, p⟩
    · exact p.elim
  | _ => exact p.elim
theorem put_list {c : Ct} {m : List Addr} {S : Store} {H : Hp} (rs : RS c m S H) {n : Nat} {a : Addr} {l l' : List D} {xs' : List V} {d : D} {Q : VK} {v : V} (ha : m[n]? = some a) (hs : S[n]? = some (.lst l)) (r : RelL c.K H m l' xs') (hd : RelD c.K H m d v)
    (p : Post c E m H (.ok d (S.set n (.lst l'))) (kE c Q)) : Q v (upd H a (.lst xs')) := by
  obtain ⟨rs', e⟩ := rs.set (o' := .lst l') (u := .lst xs') ha hs trivial trivial fun e => ⟨xs', upd_same, r.mono e⟩
  exact p _ _ e rs' _ (hd.mono e)
theorem mm_append : MtMm X E "list.append" lAppend := by
  refine ⟨_, mt_append, fun x ds v vs S m H Q rs hv hvs p => ?_⟩
  unfold lAppend at p
  split at p
  · rename_i d
    obtain ⟨w, rfl, hw⟩ := rel1 hvs
    obtain ⟨n, a, l, xs, rfl, rfl, ha, hs, h1, h2, p⟩ := mut_list rs hv p
    split at p
    · rename_i hl
      exact ⟨a, xs, w, rfl, rfl, h1, by rw [← h2.len, line_eq]; exact hl, put_list rs ha hs (h2.app (.one hw)) .non p⟩
    · exact p.elim
  · exact p.elim
theorem mt_or {id : String} {r r' : V → List V → Hp → VK → Prop} (h : MtR X id r) (h' : MtR X id r') : MtR X id fun x xs H Q => r x xs H Q ∨ r' x xs H Q := h.or h'
theorem seqIx_of {n : Nat} {i : Int} {k : Nat} (h : Mi.ixN n i = some k) : seqIndex? i n = some k := by
  have := ixN_seq (show L2.ixN n i = some k from h)
  exact this.1
theorem mm_pop : MtMm X E "list.pop" lPop := by
  refine ⟨_, mt_or (X := X) mt_pop mt_popAt, fun x ds v vs S m H Q rs hv hvs p => ?_⟩
  unfold lPop at p
  split at p
  · cases hvs
    obtain ⟨n, a, l, xs, rfl, rfl, ha, hs, h1, h2, p⟩ := mut_list rs hv p
    split at p
    · rename_i y hy
      obtain ⟨w, e1, e2⟩ := h2.ix hy
      exact .inl ⟨a, xs, w, rfl, rfl, h1, by rw [← h2.len]; exact e1, put_list rs ha hs h2.dropLast e2 p⟩
    · exact p.elim
  · rename_i i
    obtain ⟨w, rfl, hw⟩ := rel1 hvs
    cases hw
    obtain ⟨n, a, l, xs, rfl, rfl, ha, hs, h1, h2, p⟩ := mut_list rs hv p
    split at p
    · rename_i hb
      split at p
      · rename_i k hk
        split at p
        · rename_i y hy
          obtain ⟨w, e1, e2⟩ := h2.ix hy
          exact .inr ⟨a, xs, i, k, w, rfl, rfl, h1, hb.1, hb.2, by rw [← h2.len]; exact seqIx_of hk, e1, put_list rs ha hs (h2.erase k) e2 p⟩
        · exact p.elim
      · exact p.elim
    · exact p.elim
  · exact p.elim
theorem mm_reverse : MtMm X E "list.reverse" lReverse := by
  refine ⟨_, mt_reverse, fun x ds v vs S m H Q rs hv hvs p => ?_⟩
  unfold lReverse at p
  split at p
  · cases hvs
    obtain ⟨n, a, l, xs, rfl, rfl, ha, hs, h1, h2, p⟩ := mut_list rs hv p
    exact ⟨a, xs, rfl, rfl, h1, put_list rs ha hs h2.rev .non p⟩
  · exact p.elim
theorem mm_lclear : MtMm X E "list.clear" lClear := by
  refine ⟨_, mt_clear, fun x ds v vs S m H Q rs hv hvs p => ?_⟩
  unfold lClear at p
  split at p
  · cases hvs
    obtain ⟨n, a, l, xs, rfl, rfl, ha, hs, h1, h2, p⟩ := mut_list rs hv p
    exact ⟨a, xs, rfl, rfl, h1, put_list rs ha hs .nil .non p⟩
  · exact p.elim
theorem mm_extend : MtMm X E "list.extend" lExtend := by
  refine ⟨_, mt_extend, fun x ds v vs S m H Q rs hv hvs p => ?_⟩
  unfold lExtend at p
  split at p
  · rename_i k
    obtain ⟨w, rfl, hw⟩ := rel1 hvs
    obtain ⟨n, a, l, xs, rfl, rfl, ha, hs, h1, h2, p⟩ := mut_list rs hv p
    split at p
    · rename_i r hr
      split at p
      · rename_i hl
        cases hw with
        | ref hb =>
          obtain ⟨zs, h3, h4⟩ := rs.ob _ _ _ hb hr
          exact ⟨a, _, xs, zs, rfl, rfl, h1, h3, by rw [← h2.len, ← h4.len, line_eq]; exact hl, put_list rs ha hs (h2.app h4) .non p⟩
      · exact p.elim
    · exact p.elim
  · exact p.elim
theorem mm_insert : MtMm X E "list.insert" lInsert := by
  refine ⟨_, mt_insert, fun x ds v vs S m H Q rs hv hvs p => ?_⟩
  unfold lInsert at p
  split at p
  · rename_i i d
    obtain ⟨w, w', rfl, hw, hw'⟩ := rel2 hvs
    cases hw
    obtain ⟨n, a, l, xs, rfl, rfl, ha, hs, h1, h2, p⟩ := mut_list rs hv p
    split at p
    · rename_i hl
      exact ⟨a, xs, i, w', rfl, rfl, h1, by rw [← h2.len, line_eq]; exact hl.1, hl.2.1, hl.2.2, put_list rs ha hs (((h2.take _).app (.one hw')).app (h2.drop _)) .non p⟩
    · exact p.elim
  · exact p.elim
theorem mm_dget (hu : X.A.units + 1 < cLine) : MtMm X E "dict.get" dGetM := by
  refine ⟨fun x vs H Q => (∃ a y o, x = V.ref a ∧ vs = [y] ∧ DGet H a y o ∧ Q (o.getD .non) H) ∨ ∃ a y z o, x = V.ref a ∧ vs = [y, z] ∧ DGet H a y o ∧ Q (o.getD z) H, ?_, fun x ds v vs S m H Q rs hv hvs p => ?_⟩
  · intro pins s σ H x xs v us Q I rx rxs h
    rcases h with ⟨a, y, o, rfl, rfl, g, q⟩ | ⟨a, y, z, o, rfl, rfl, g, q⟩
    · obtain rfl : v = Value.ref a := rx
      obtain ⟨u, rfl, ru⟩ := Vals.one rxs
      exact d_get1 hu I g ru fun w' s' I' rw' => ⟨_, H, I', rw', q⟩
    · obtain rfl : v = Value.ref a := rx
      obtain ⟨u, w, rfl, ru, rw⟩ := Vals.two rxs
      exact d_get2 hu I g ru rw fun w' s' I' rw' => ⟨_, H, I', rw', q⟩
  · unfold dGetM at p
    cases hv with
    | @ref n a ha =>
      dsimp only at p
      split at p
      · rename_i k
        obtain ⟨w, rfl, hw⟩ := rel1 hvs
        split at p
        · rename_i r hr
          obtain ⟨o, g, q⟩ := look_get rs ha hw hr
          refine .inl ⟨a, w, o, rfl, rfl, g, p.here rs _ ?_⟩
          cases r with
          | none => rw [show o = none from q]; exact .non
          | some d => obtain ⟨z, e, h⟩ := q; rw [e]; exact h
        · exact p.elim
      · rename_i k y
        obtain ⟨w, w', rfl, hw, hw'⟩ := rel2 hvs
        split at p
        · rename_i r hr
          obtain ⟨o, g, q⟩ := look_get rs ha hw hr
          refine .inr ⟨a, w, w', o, rfl, rfl, g, p.here rs _ ?_⟩
          cases r with
          | none => rw [show o = none from q]; exact hw'
          | some d => obtain ⟨z, e, h⟩ := q; rw [e]; exact h
        · exact p.elim
      · exact p.elim
    | _ => exact p.elim
end
end Sm

set_option Elab.async false
set_option linter.all false
set_option maxRecDepth 100000
set_option maxHeartbeats 2000000
/-! readings by the small language: targets, statements, loops, comprehensions, defs -/
namespace Sm
open PySem PySem.Spec PyProof.Rows L2 Mi
abbrev EF : XK := fun _ _ _ => False
section
variable {X : Cx} {E : XK} {pos : Pos}
theorem PG.mono {e : Expr} {t t' : TG} (h : PG X e t) (f : ∀ v σ H Q, t' v σ H Q → t v σ H Q) : PG X e t' := ⟨fun pins s σ H x v Q I r q => h.run pins s σ H x v Q I r (f x σ H Q q)⟩
theorem PGs.mono {e : List Expr} {t t' : TGs} (h : PGs X e t) (f : ∀ v σ H Q, t' v σ H Q → t v σ H Q) : PGs X e t' := ⟨fun pins s σ H xs vs Q I r q => h.run pins s σ H xs vs Q I r (f xs σ H Q q)⟩
/-! ### targets -/
theorem sg_name {i : Nat} {x : Str} (hN : X.N.Nodup) (hi : X.N[i]? = some x) (hx : Loc X.env.scope x) (hf : X.fn x = true ∨ X.env.scope.names.lookup x = some .local := by first | exact .inl rfl | exact .inr rfl | assumption) : SG X E (.Name x pos) (Mi.gName i) := by
  refine PG.mono (pg_name hN hi hx hf) fun v σ H Q ⟨d, fr, S, m, r, rf, rs, p⟩ => ?_
  exact p.here rs _ (rf.set r i)
theorem sgs_nil : SGs X E [] Mi.gNil := by
  refine PGs.mono pgs_nil fun vs σ H Q ⟨ds, fr, S, m, r, rf, rs, p⟩ => ?_
  cases r with
  | nil => exact ⟨rfl, p.here rs σ rf⟩
  | cons => exact p.elim
theorem sgs_cons {e : Expr} {es : List Expr} {g : GM} {gs : GMs} (h1 : SG X E e g) (h2 : SGs X E es gs) (hs : (assignEach (e :: es) X.env).map (·.2) = assign e X.env :: (assignEach es X.env).map (·.2) := by rfl) : SGs X E (e :: es) (Mi.gCons g gs) := by
  refine PGs.mono (pgs_cons h1 h2 hs) fun vs σ H Q ⟨ds, fr, S, m, r, rf, rs, p⟩ => ?_
  cases r with
  | nil => exact p.elim
  | @cons d l v r' hd t =>
    refine ⟨v, r', rfl, d, fr, S, m, hd, rf, rs, (post_bind p).imp fun fr' S' m' H' e' rs' p' σ' rf' => ?_⟩
    exact ⟨l, fr', S', m', t.mono e', rf', rs', p'⟩
theorem pg_or {e : Expr} {t t' : TG} (h : PG X e t) (h' : PG X e t') : PG X e fun v σ H Q => t v σ H Q ∨ t' v σ H Q :=
  ⟨fun pins s σ H x v Q I r q => q.elim (fun q => h.run pins s σ H x v Q I r q) fun q => h'.run pins s σ H x v Q I r q⟩
theorem sg_tup {es : List Expr} {k : Nat} {gs : GMs} {n : Nat} (hc : X.calm = true) (h : SGs X E es gs) (hn : (assignEach es X.env).length = n := by rfl) (hst : (assignEach es X.env).findIdx? (·.1) = none := by rfl) : SG X E (.Tuple es k pos) (Mi.gTup n gs) := by
  refine PG.mono (pg_or (pg_tup hc h hn hst) (pg_unl hc h hn hst)) fun v σ H Q ⟨d, fr, S, m, r, rf, rs, p⟩ => ?_
  unfold Mi.gTup at p
  split at p
  · rename_i l hl
    split at p
    · rename_i hlen
      obtain ⟨a, xs, rfl, h1, h2⟩ := seq_rel rs r hl
      rcases h1 with h1 | h1
      · exact .inr ⟨a, xs, rfl, h1, by rw [← h2.len]; exact hlen, l, fr, S, m, h2, rf, rs, p⟩
      · exact .inl ⟨a, xs, rfl, h1, by rw [← h2.len]; exact hlen, l, fr, S, m, h2, rf, rs, p⟩
    · exact p.elim
  · exact p.elim
theorem set_dict (hu : X.A.units + 1 < cLine) : PSet X (fun o i v H Q => ∃ a H', o = V.ref a ∧ DPut H a i v H' ∧ Q H') := by
  intro pins s σ H o i v ov iv u Q I ro ri rv h
  obtain ⟨a, H', rfl, g, q⟩ := h
  obtain rfl : ov = Value.ref a := ro
  exact d_setItem hu I g ri rv fun s' I' => ⟨H', I', q⟩
theorem pset_or {t t' : TSet} (h : PSet X t) (h' : PSet X t') : PSet X fun o i v H Q => t o i v H Q ∨ t' o i v H Q := by
  intro pins s σ H o i v ov iv u Q I ro ri rv q
  exact q.elim (fun q => h pins s σ H o i v ov iv u Q I ro ri rv q) fun q => h' pins s σ H o i v ov iv u Q I ro ri rv q
theorem sg_sub {o i : Expr} {fo fi : EM} (hu : X.A.units + 65 < cLine) (ho : SE X E o fo) (hi : SE X E i fi)
    (ha : ∀ v, assign (.Subscript o i pos) X.env v = (do
      let ov ← holding [v] (eval o X.env)
      let iv ← holding [v, ov] (eval i X.env)
      standAt pos
      holding [v, ov, iv] (setItem ov iv v)
      release [v, ov, iv] []) := by intro _; rfl) : SG X E (.Subscript o i pos) (Mi.gSub fo fi) := by
  refine PG.mono (pg_sub ho hi (pset_or set_list (set_dict (by omega))) ha) fun v σ H Q ⟨d, fr, S, m, r, rf, rs, p⟩ => ?_
  refine rd_bind rf rs p fun x S1 m1 H1 e1 rf1 rs1 p1 xv hx => ?_
  refine rd_bind rf1 rs1 p1 fun y S2 m2 H2 e2 rf2 rs2 p2 yv hy => ?_
  have e12 := e1.trans e2
  rcases look_put rs2 (hx.mono e2) hy (r.mono e12) (post_bind p2) with h | ⟨a, H', e0, g, S', m', e3, rs3, q⟩
  · left
    obtain ⟨p0, xs, k, j, h1, h2, h3, h4, S', m', e3, rs3, q⟩ := h
    exact ⟨p0, xs, k, j, h1, h2, h3, h4, q.here rs3 σ (rf2.mono e3)⟩
  · exact .inr ⟨a, H', e0, g, q.here rs3 σ (rf2.mono e3)⟩

/-! ### statements -/
theorem sss_nil : SSs X E [] sNx := PSs.mono pss_nil fun D σ H ⟨fr, S, m, rf, rs, p⟩ => p.here rs σ rf
theorem sss_cons {st : Stmt} {rest : List Stmt} {a b : SM} (h1 : SS X E st a) (h2 : SSs X E rest b) : SSs X E (st :: rest) (sSeq a b) := by
  refine PSs.mono (pss_cons h1 h2) fun D σ H ⟨fr, S, m, rf, rs, p⟩ => ?_
  refine ⟨fr, S, m, rf, rs, (post_bind p).imp fun o S1 m1 H1 e1 rs1 p1 => ?_⟩
  cases o with
  | nx fr' => exact fun σ' rf' => ⟨fr', S1, m1, rf', rs1, p1⟩
  | rt d => exact p1.here rs1
  | bk fr' => exact p1.here rs1
  | ct fr' => exact p1.here rs1
theorem sss_one {st : Stmt} {a : SM} (h1 : SS X E st a) : SSs X E [st] a := pss_one h1
theorem ss_asg {tg e : Expr} {fe : EM} {g : GM} (he : SE X E e fe) (hg : SG X E tg g) (hs : swapsWithSole [tg] e pos.line X.env = pure false := by rfl) (hw : swappedStores [tg] e X.env = pure none := by rfl)
    (h1 : (assignEach [tg] X.env).map (·.2) = [assign tg X.env] := by rfl) : SS X E (.Assign [tg] e pos) (sAsg fe g) := by
  refine PS.mono (ps_asg he hg hs hw h1) fun D σ H ⟨fr, S, m, rf, rs, p⟩ => ?_
  refine rd_bind rf rs p fun x S1 m1 H1 e1 rf1 rs1 p1 v hv => ?_
  exact ⟨x, fr, S1, m1, hv, rf1, rs1, (post_bind p1).imp fun fr' S2 m2 H2 e2 rs2 p2 => p2.here rs2⟩
theorem ss_set {i : Nat} {x : Str} {e : Expr} {fe : EM} {pos' : Pos} (hN : X.N.Nodup) (hi : X.N[i]? = some x) (hx : Loc X.env.scope x) (he : SE X E e fe) (hs : swapsWith e (some (.Name x pos')) pos.line X.env = pure false := by rfl) (hf : X.fn x = true ∨ X.env.scope.names.lookup x = some .local := by first | exact .inl rfl | exact .inr rfl | assumption) :
    SS X E (.Assign [.Name x pos'] e pos) (sAsg fe (Mi.gName i)) := by
  refine PS.mono (ps_set hN hi hx he hs hf) fun D σ H ⟨fr, S, m, rf, rs, p⟩ => ?_
  refine rd_bind rf rs p fun x S1 m1 H1 e1 rf1 rs1 p1 v hv => ?_
  exact (post_bind p1).here rs1 |>.here rs1 _ (rf1.set hv i)
theorem ss_par {i j : Nat} {x y : Str} {a b : Expr} {fa : AM} {px py pt : Pos} {kt k2 pt2} (hc : X.calm = true) (hN : X.N.Nodup) (hi : X.N[i]? = some x) (hj : X.N[j]? = some y) (hij : i ≠ j)
    (hx : X.env.scope.names.lookup x = some .local) (hy : X.env.scope.names.lookup y = some .local) (ha : SA X E [a, b] fa)
    (hw : swappedStores [.Tuple [.Name x px, .Name y py] kt pt] (.Tuple [a, b] k2 pt2) X.env = pure (some [x, y]))
    (hs : swapsWithSole [.Tuple [.Name x px, .Name y py] kt pt] (.Tuple [a, b] k2 pt2) pos.line X.env = pure false := by rfl) :
    SS X E (.Assign [.Tuple [.Name x px, .Name y py] kt pt] (.Tuple [a, b] k2 pt2) pos) (sPar i j fa) := by
  refine PS.mono (ps_par hc hN hi hj hij hx hy ha hw hs) fun D σ H ⟨fr, S, m, rf, rs, p⟩ => ?_
  refine rdA_bind rf rs p fun ds S1 m1 H1 e1 rf1 rs1 p1 vs hv => ?_
  split at p1
  · obtain ⟨v, w, rfl, h1, h2⟩ := rel2 hv
    exact ⟨v, w, rfl, p1.here rs1 _ ((rf1.set h1 i).set h2 j)⟩
  · exact p1.elim
theorem ss_augadd {i : Nat} {x : Str} {e : Expr} {fe : EM} {pos' : Pos} (hN : X.N.Nodup) (hi : X.N[i]? = some x) (hx : Loc X.env.scope x) (he : SE X E e fe) (hf : X.fn x = true ∨ X.env.scope.names.lookup x = some .local := by first | exact .inl rfl | exact .inr rfl | assumption) :
    SS X E (.AugAssign (.Name x pos') .Add e pos) (sAug i oAddI fe) := by
  refine PS.mono (ps_aug hN hi hx he ip_add hf) fun D σ H ⟨fr, S, m, rf, rs, p⟩ => ?_
  unfold sAug at p
  split at p
  · rename_i d hd
    obtain ⟨v, h1, h2⟩ := rf.get i d hd
    refine ⟨v, h1, rd_bind rf rs p fun y S1 m1 H1 e1 rf1 rs1 p1 w hw => ?_⟩
    have p2 := post_bind p1
    cases h2 <;> first | exact p2.elim | skip
    cases hw <;> first | exact p2.elim | skip
    exact ⟨_, _, rfl, rfl, (p2.here rs1).here rs1 _ (rf1.set (.int _) i)⟩
  · exact p.elim
theorem ss_expr {e : Expr} {fe : EM} (he : SE X E e fe) (hs : swapsWith e none pos.line X.env = pure false := by rfl) : SS X E (.Expr e pos) (sExp fe) := by
  refine PS.mono (ps_expr he hs) fun D σ H ⟨fr, S, m, rf, rs, p⟩ => ?_
  exact rd_bind rf rs p fun x S1 m1 H1 e1 rf1 rs1 p1 v hv => p1.here rs1 σ rf1
theorem ss_ret {e : Expr} {fe : EM} (he : SE X E e fe) : SS X E (.Return (some e) pos) (sRet fe) := by
  refine PS.mono (ps_ret he) fun D σ H ⟨fr, S, m, rf, rs, p⟩ => ?_
  exact rd_bind rf rs p fun x S1 m1 H1 e1 rf1 rs1 p1 v hv => p1.here rs1 v hv
theorem ss_retN : SS X E (.Return none pos) sRetN := PS.mono ps_retN fun D σ H ⟨fr, S, m, rf, rs, p⟩ => p.here rs _ .non
theorem ss_pass : SS X E (.Pass pos) sNx := PS.mono ps_pass fun D σ H ⟨fr, S, m, rf, rs, p⟩ => p.here rs σ rf
theorem ss_brk : SS X E (.Break pos) sBrk := PS.mono ps_break fun D σ H ⟨fr, S, m, rf, rs, p⟩ => p.here rs σ rf
theorem ss_cnt : SS X E (.Continue pos) sCnt := PS.mono ps_continue fun D σ H ⟨fr, S, m, rf, rs, p⟩ => p.here rs σ rf
theorem ss_bad {st : Stmt} : SS X E st sBad := PS.mono ps_never fun D σ H ⟨fr, S, m, rf, rs, p⟩ => p.elim
theorem ss_doc {x : Str} {j pos pos'} : SS X E (.Expr (.Constant (.str x) j pos) pos') sNx := PS.mono ps_doc fun D σ H ⟨fr, S, m, rf, rs, p⟩ => p.here rs σ rf
theorem ss_if {t : Expr} {a b : List Stmt} {ft : TM} {ga gb : SM} (ht : STt X E t ft) (ha : SSs X E a ga) (hb : SSs X E b gb) : SS X E (.If t a b pos) (sIf ft ga gb) := by
  refine PS.mono (ps_if ht ha hb) fun D σ H ⟨fr, S, m, rf, rs, p⟩ => ?_
  refine rdT_bind rf rs p fun k S1 m1 H1 e1 rf1 rs1 p1 => ?_
  cases k with
  | true => exact ⟨fr, S1, m1, rf1, rs1, p1⟩
  | false => exact ⟨fr, S1, m1, rf1, rs1, p1⟩

/-! ### what is walked -/
structure WalkD (c : Ct) (J : It) (I : Its) (m0 : List Addr) (H0 : Hp) : Prop where
  go : ∀ i m S H, i < I.items.length → Ext m0 H0 m H → RS c m S H → stands I.hs S → J.go i H
  stop : ∀ m S H, Ext m0 H0 m H → RS c m S H → stands I.hs S → J.stop I.items.length H
  yld : ∀ i m S H x H' d, I.items[i]? = some d → Ext m0 H0 m H → RS c m S H → stands I.hs S → J.yld i H x H' → Ext m H m H' ∧ RS c m S H' ∧ RelD c.K H' m d x
def rdI (c : Ct) (E : XK) (f : IM) : TI := fun σ H R => ∃ fr S m, RF c.K H m fr σ ∧ RS c m S H ∧ Post c E m H (f fr S) fun I _ m' H' => ∀ J, WalkD c J I m' H' → R J H'
abbrev SI (X : Cx) (E : XK) (tg e : Expr) (f : IM) : Prop := PI X tg e (rdI (cx X) E f)
theorem PI.mono {tg e : Expr} {t t' : TI} (h : PI X tg e t) (f : ∀ σ H R, t' σ H R → t σ H R) : PI X tg e t' := ⟨fun pins s σ H R I q => h.run pins s σ H R I (f σ H R q)⟩
theorem stand1 {n : Nat} {l : List D} {S : Store} (h : stands [(n, l)] S) : lstOf S n = some l := h (n, l) List.mem_cons_self
theorem walkd_list {c : Ct} {n : Nat} {a : Addr} {l : List D} {m0 : List Addr} {H0 : Hp} (ha : m0[n]? = some a) : WalkD c (Itl c.K a) ⟨l, [(n, l)]⟩ m0 H0 where
  go := fun i m S H hi e rs st => by
    obtain ⟨xs, h1, h2⟩ := rs.lst (e.mx _ _ ha) (stand1 st)
    obtain ⟨v, h3, _⟩ := h2.ix (List.getElem?_eq_getElem hi)
    exact ⟨xs, v, h1, h3⟩
  stop := fun m S H e rs st => by
    obtain ⟨xs, h1, h2⟩ := rs.lst (e.mx _ _ ha) (stand1 st)
    exact ⟨xs, h1, by rw [← h2.len]; exact Nat.le_refl _⟩
  yld := fun i m S H x H' d hd e rs st y => by
    obtain ⟨rfl, hy⟩ := y
    obtain ⟨xs, h1, h2⟩ := rs.lst (e.mx _ _ ha) (stand1 st)
    obtain ⟨v, h3, h4⟩ := h2.ix hd
    have := (hy xs h1).symm.trans h3
    cases this
    exact ⟨Ext.refl _ _, rs, h4⟩
theorem walkd_tup {c : Ct} {a : Addr} {l : List D} {xs : List V} {m0 : List Addr} {H0 : Hp} (hs : ∀ m H, Ext m0 H0 m H → SqT c.K H a xs) (r : RelL c.K H0 m0 l xs) : WalkD c (Itt c.K a) ⟨l, []⟩ m0 H0 where
  go := fun i m S H hi e rs st => by
    obtain ⟨v, h3, _⟩ := r.ix (List.getElem?_eq_getElem hi)
    exact ⟨xs, v, hs m H e, h3⟩
  stop := fun m S H e rs st => ⟨xs, hs m H e, by rw [← r.len]; exact Nat.le_refl _⟩
  yld := fun i m S H x H' d hd e rs st y => by
    obtain ⟨rfl, hy⟩ := y
    obtain ⟨v, h3, h4⟩ := r.ix hd
    have := (hy xs (hs m _ e)).symm.trans h3
    cases this
    exact ⟨Ext.refl _ _, rs, h4.mono e⟩
theorem walkd_str {c : Ct} {z : Tx} {m0 : List Addr} {H0 : Hp} : WalkD c (Its (sOf z)) ⟨z.map fun k => .str [k], []⟩ m0 H0 where
  go := fun i m S H hi e rs st => by
    have h : i < (z.map fun k => D.str [k]).length := hi
    rw [List.length_map] at h
    show i < z.toArray.size
    simpa using h
  stop := fun m S H e rs st => by
    show z.toArray.size ≤ (z.map fun k => D.str [k]).length
    simp
  yld := fun i m S H x H' d hd e rs st y => by
    obtain ⟨rfl, k, hk, rfl⟩ := y
    have h : (z.map fun k => D.str [k])[i]? = some d := hd
    have hk' : z[i]? = some k := by
      have : z.toArray[i]? = some k := hk
      simpa using this
    rw [List.getElem?_map, hk'] at h
    cases h
    exact ⟨Ext.refl _ _, rs, .str [k]⟩
theorem walkd_rng {c : Ct} {lo : Int} {n : Nat} {m0 : List Addr} {H0 : Hp} : WalkD c (Itr lo n) ⟨rng lo n, []⟩ m0 H0 where
  go := fun i m S H hi e rs st => by
    have h : i < (rng lo n).length := hi
    unfold rng at h
    rw [List.length_map, List.length_range] at h
    exact h
  stop := fun m S H e rs st => by
    show n ≤ (rng lo n).length
    unfold rng
    rw [List.length_map, List.length_range]
    exact Nat.le_refl _
  yld := fun i m S H x H' d hd e rs st y => by
    obtain ⟨rfl, rfl⟩ := y
    have h : (rng lo n)[i]? = some d := hd
    unfold rng at h
    rw [List.getElem?_map] at h
    obtain ⟨k, h1, h2⟩ := Option.map_eq_some_iff.mp h
    obtain ⟨h3, h4⟩ := List.getElem?_eq_some_iff.mp h1
    rw [List.getElem_range] at h4
    subst h4 h2
    exact ⟨Ext.refl _ _, rs, .int _⟩
theorem walkd_rngD {c : Ct} {hi : Int} {n : Nat} {m0 : List Addr} {H0 : Hp} : WalkD c (Itc hi (-1) n) ⟨(List.range n).map fun k => .int (hi - (k : Nat)), []⟩ m0 H0 where
  go := fun i m S H hi e rs st => by
    have h : i < ((List.range n).map fun k : Nat => D.int _).length := hi
    rw [List.length_map, List.length_range] at h
    exact h
  stop := fun m S H e rs st => by
    show n ≤ ((List.range n).map fun k : Nat => D.int _).length
    rw [List.length_map, List.length_range]
    exact Nat.le_refl _
  yld := fun i m S H x H' d hd e rs st y => by
    obtain ⟨rfl, rfl⟩ := y
    have h : ((List.range n).map fun k : Nat => D.int (hi - (k : Nat)))[i]? = some d := hd
    rw [List.getElem?_map] at h
    obtain ⟨k, h1, h2⟩ := Option.map_eq_some_iff.mp h
    obtain ⟨h3, h4⟩ := List.getElem?_eq_some_iff.mp h1
    rw [List.getElem_range] at h4
    subst h4 h2
    refine ⟨Ext.refl _ _, rs, ?_⟩
    have e : hi - (i : Int) = hi + (i : Int) * -1 := by omega
    rw [e]
    exact .int _
theorem prs_at : ∀ (l : List D) (k i : Nat), (prs k l)[i]? = l[i]?.map fun d => .tup [.int ((k + i : Nat) : Int), d]
  | [], k, i => by simp [prs]
  | d :: l, k, 0 => by simp [prs]
  | d :: l, k, i + 1 => by
    have h := prs_at l (k + 1) i
    show (prs (k + 1) l)[i]? = _
    rw [h]
    show _ = l[i]?.map _
    rw [show k + 1 + i = k + (i + 1) by omega]
theorem prs_len : ∀ (l : List D) (k : Nat), (prs k l).length = l.length
  | [], _ => rfl
  | d :: l, k => by
    show (prs (k + 1) l).length + 1 = l.length + 1
    rw [prs_len l (k + 1)]
theorem rel_pair {c : Ct} {m : List Addr} {S : Store} {H : Hp} {d e : D} {x y : V} {T : Addr} (rs : RS c m S H) (h : H T = none) (r1 : RelD c.K H m d x) (r2 : RelD c.K H m e y) : Ext m H m (upd H T (.tup [x, y])) ∧ RS c m S (upd H T (.tup [x, y])) ∧ RelD c.K (upd H T (.tup [x, y])) m (.tup [d, e]) (.ref T) := by
  have ex : Ext m H m (upd H T (.tup [x, y])) := ⟨⟨fun _ _ z => z, tstay_new h⟩, fstay_new h⟩
  exact ⟨ex, rs.fresh h, .tup upd_same (.cons (r1.mono ex) (.cons (r2.mono ex) .nil))⟩
theorem walkd_enum {c : Ct} {n : Nat} {a : Addr} {l : List D} {m0 : List Addr} {H0 : Hp} (ha : m0[n]? = some a) : WalkD c (Ite c.K a) ⟨prs 0 l, [(n, l)]⟩ m0 H0 where
  go := fun i m S H hi e rs st => by
    have h : i < (prs 0 l).length := hi
    rw [prs_len] at h
    obtain ⟨xs, h1, h2⟩ := rs.lst (e.mx _ _ ha) (stand1 st)
    obtain ⟨v, h3, _⟩ := h2.ix (List.getElem?_eq_getElem h)
    exact ⟨xs, v, h1, h3⟩
  stop := fun m S H e rs st => by
    obtain ⟨xs, h1, h2⟩ := rs.lst (e.mx _ _ ha) (stand1 st)
    refine ⟨xs, h1, ?_⟩
    show xs.length ≤ (prs 0 l).length
    rw [← h2.len, prs_len]
    exact Nat.le_refl _
  yld := fun i m S H x H' d hd e rs st y => by
    obtain ⟨T, w, rfl, hT, rfl, hy⟩ := y
    obtain ⟨xs, h1, h2⟩ := rs.lst (e.mx _ _ ha) (stand1 st)
    have h : (prs 0 l)[i]? = some d := hd
    rw [prs_at, Nat.zero_add] at h
    obtain ⟨d', h3, h4⟩ := Option.map_eq_some_iff.mp h
    subst h4
    obtain ⟨v, h5, h6⟩ := h2.ix h3
    have := (hy xs h1).symm.trans h5
    cases this
    exact rel_pair rs hT (.int _) h6
theorem walkd_zip {c : Ct} {n n' : Nat} {a a' : Addr} {l r : List D} {m0 : List Addr} {H0 : Hp} (ha : m0[n]? = some a) (ha' : m0[n']? = some a') : WalkD c (Itz c.K a a') ⟨List.zipWith (fun x y => .tup [x, y]) l r, [(n, l), (n', r)]⟩ m0 H0 where
  go := fun i m S H hi e rs st => by
    have h : i < (List.zipWith (fun x y => D.tup [x, y]) l r).length := hi
    rw [List.length_zipWith] at h
    obtain ⟨xs, h1, h2⟩ := rs.lst (e.mx _ _ ha) (st (n, l) List.mem_cons_self)
    obtain ⟨ys, h3, h4⟩ := rs.lst (e.mx _ _ ha') (st (n', r) (List.mem_cons_of_mem _ List.mem_cons_self))
    obtain ⟨v, h5, _⟩ := h2.ix (List.getElem?_eq_getElem (show i < l.length by omega))
    obtain ⟨w, h6, _⟩ := h4.ix (List.getElem?_eq_getElem (show i < r.length by omega))
    exact ⟨xs, ys, v, w, h1, h3, h5, h6⟩
  stop := fun m S H e rs st => by
    obtain ⟨xs, h1, h2⟩ := rs.lst (e.mx _ _ ha) (st (n, l) List.mem_cons_self)
    obtain ⟨ys, h3, h4⟩ := rs.lst (e.mx _ _ ha') (st (n', r) (List.mem_cons_of_mem _ List.mem_cons_self))
    refine ⟨xs, ys, h1, h3, ?_⟩
    show xs.length ≤ (List.zipWith (fun x y => D.tup [x, y]) l r).length ∨ ys.length ≤ (List.zipWith (fun x y => D.tup [x, y]) l r).length
    have q1 : l.length = xs.length := h2.len
    have q2 : r.length = ys.length := h4.len
    rw [List.length_zipWith, ← q1, ← q2]
    omega
  yld := fun i m S H x H' d hd e rs st y => by
    obtain ⟨T, w, w', rfl, hT, rfl, hy, hy'⟩ := y
    obtain ⟨xs, h1, h2⟩ := rs.lst (e.mx _ _ ha) (st (n, l) List.mem_cons_self)
    obtain ⟨ys, h3, h4⟩ := rs.lst (e.mx _ _ ha') (st (n', r) (List.mem_cons_of_mem _ List.mem_cons_self))
    have h : (List.zipWith (fun x y => D.tup [x, y]) l r)[i]? = some d := hd
    rw [List.getElem?_zipWith] at h
    cases hl : l[i]? with
    | none => rw [hl] at h; cases h
    | some d1 =>
      cases hr : r[i]? with
      | none => rw [hl, hr] at h; cases h
      | some d2 =>
        rw [hl, hr] at h
        cases h
        obtain ⟨v, h5, h6⟩ := h2.ix hl
        obtain ⟨v', h7, h8⟩ := h4.ix hr
        have e1 := (hy xs h1).symm.trans h5
        have e2 := (hy' ys h3).symm.trans h7
        cases e1
        cases e2
        exact rel_pair rs hT h6 h8
theorem walkd_rev {c : Ct} {n : Nat} {a : Addr} {l : List D} {m0 : List Addr} {H0 : Hp} (ha : m0[n]? = some a) : WalkD c (Itv c.K a l.length) ⟨l.reverse, [(n, l)]⟩ m0 H0 where
  go := fun i m S H hi e rs st => by
    have h : i < l.reverse.length := hi
    rw [List.length_reverse] at h
    obtain ⟨xs, h1, h2⟩ := rs.lst (e.mx _ _ ha) (stand1 st)
    obtain ⟨v, h3, _⟩ := h2.ix (List.getElem?_eq_getElem (show l.length - 1 - i < l.length by omega))
    exact ⟨h, xs, v, h1, h3⟩
  stop := fun m S H e rs st => by
    show l.length ≤ l.reverse.length
    rw [List.length_reverse]
    exact Nat.le_refl _
  yld := fun i m S H x H' d hd e rs st y => by
    obtain ⟨rfl, hy⟩ := y
    obtain ⟨xs, h1, h2⟩ := rs.lst (e.mx _ _ ha) (stand1 st)
    have h : l.reverse[i]? = some d := hd
    have hi := (List.getElem?_eq_some_iff.mp h).1
    rw [List.length_reverse] at hi
    rw [List.getElem?_reverse hi] at h
    obtain ⟨v, h3, h4⟩ := h2.ix h
    have := (hy xs h1).symm.trans h3
    cases this
    exact ⟨Ext.refl _ _, rs, h4⟩
/-! ### the walked thing by its syntax -/
theorem pi_seq {tg l : Expr} {tl : TE} (hl : PE X l tl) : PI X tg l (fun σ H R => tl σ H fun x H1 => (∃ a, x = .ref a ∧ (∃ xs, SqL X.K H1 a xs) ∧ R (Itl X.K a) H1) ∨ ∃ a, x = .ref a ∧ (∃ xs, SqT X.K H1 a xs) ∧ R (Itt X.K a) H1) := by
  refine ⟨fun pins s σ H R I h => ?_⟩
  refine thn (hl.run pins s σ H _ I h) fun v s1 ⟨x, H1, I1, r1, q1⟩ => ?_
  rcases q1 with ⟨a, e, ⟨xs, hq⟩, q⟩ | ⟨a, e, ⟨xs, hq⟩, q⟩
  · subst e
    cases r1
    obtain ⟨its, rv, p, hz⟩ := I1.list hq
    refine wpAny_pyIter_list p.isList ?_
    refine ⟨s1.heap.objs.size, [s1.heap.objs.size], _, _, H1, rfl, I1.kept (t' := s1.toks) fun b o e => Heap.get?_push_of_some _ e, turn_list a _, ⟨_, Heap.get?_push_size _ rfl, rfl, rfl⟩, fun b hb => ?_, q⟩
    have e : b = s1.heap.objs.size := by simpa using hb
    subst e
    exact I1.fpOk (Nat.le_refl _) (I1.hok.fresh (Nat.le_refl _))
  · subst e
    cases r1
    obtain ⟨its, rv, p, hz⟩ := I1.tuple hq
    refine wpAny_pyIter_tuple (show s1.heap.IsTuple a its.toArray from p) ?_
    refine ⟨s1.heap.objs.size, [s1.heap.objs.size], _, _, H1, rfl, I1.kept (t' := s1.toks) fun b o e => Heap.get?_push_of_some _ e, turn_tuple a _, ⟨_, Heap.get?_push_size _ rfl, rfl, rfl⟩, fun b hb => ?_, q⟩
    have e : b = s1.heap.objs.size := by simpa using hb
    subst e
    exact I1.fpOk (Nat.le_refl _) (I1.hok.fresh (Nat.le_refl _))
theorem si_seq {tg e : Expr} {fe : EM} (he : SE X E e fe) : SI X E tg e (Mi.iSeq fe) := by
  refine PI.mono (pi_seq he) fun σ H R ⟨fr, S, m, rf, rs, p⟩ => ?_
  refine rd_bind rf rs p fun x S1 m1 H1 e1 rf1 rs1 p1 v hv => ?_
  cases hv with
  | tup ha r => exact .inr ⟨_, rfl, ⟨_, .inl (.inl ha)⟩, p1.here rs1 _ (walkd_tup (fun m H e => .inl (.inl (e.ts _ _ (.inl ⟨_, rfl⟩) ha))) r)⟩
  | wtp ha r => exact .inr ⟨_, rfl, ⟨_, ha.sq⟩, p1.here rs1 _ (walkd_tup (fun m H e => (ha.mono e.ts).sq) r)⟩
  | ref ha =>
    dsimp only at p1
    split at p1
    · rename_i l hl
      obtain ⟨xs, h1, _⟩ := rs1.lst ha hl
      exact .inl ⟨_, rfl, ⟨xs, h1⟩, p1.here rs1 _ (walkd_list ha)⟩
    · exact p1.elim
  | _ => exact p1.elim
theorem si_str {tg e : Expr} {fe : EM} (he : SE X E e fe) : SI X E tg e (Mi.iStr fe) := by
  refine PI.mono (pi_str he) fun σ H R ⟨fr, S, m, rf, rs, p⟩ => ?_
  refine rd_bind rf rs p fun x S1 m1 H1 e1 rf1 rs1 p1 v hv => ?_
  cases hv with
  | str z => exact ⟨_, rfl, p1.here rs1 _ walkd_str⟩
  | _ => exact p1.elim
theorem si_rng1 {tg a : Expr} {fa : AM} {p pos : Pos} (hg : Gl X "range") (hm : X.mg "range" = none) (ha : SA X E [a] fa) (hs : starEach [a] X.env = [(false, eval a X.env)] := by rfl) : SI X E tg (.Call (.Name "range" p) [a] [] pos) (Mi.iRng1 fa) := by
  refine PI.mono (pi_range1 hg hm ha hs) fun σ H R ⟨fr, S, m, rf, rs, p⟩ => ?_
  refine rdA_bind rf rs p fun ds S1 m1 H1 e1 rf1 rs1 p1 vs hv => ?_
  split at p1
  · rename_i j
    obtain ⟨v, rfl, h⟩ := rel1 hv
    cases h
    split at p1
    · rename_i hj
      exact ⟨j, rfl, hj.1, hj.2, p1.here rs1 _ walkd_rng⟩
    · exact p1.elim
  · exact p1.elim
theorem si_rng2 {tg a b : Expr} {fa : AM} {p pos : Pos} (hg : Gl X "range") (hm : X.mg "range" = none) (ha : SA X E [a, b] fa) (hs : starEach [a, b] X.env = [(false, eval a X.env), (false, eval b X.env)] := by rfl) (hs2 : starEach [b] X.env = [(false, eval b X.env)] := by rfl) : SI X E tg (.Call (.Name "range" p) [a, b] [] pos) (Mi.iRng2 fa) := by
  refine PI.mono (pi_range2 hg hm ha hs hs2) fun σ H R ⟨fr, S, m, rf, rs, p⟩ => ?_
  refine rdA_bind rf rs p fun ds S1 m1 H1 e1 rf1 rs1 p1 vs hv => ?_
  split at p1
  · rename_i i j
    obtain ⟨v, w, rfl, h, h'⟩ := rel2 hv
    cases h
    cases h'
    split at p1
    · rename_i hj
      exact ⟨i, j, rfl, ⟨hj.1.1, hj.1.2, hj.2.1, hj.2.2⟩, p1.here rs1 _ walkd_rng⟩
    · exact p1.elim
  · exact p1.elim
theorem rel3 {K : PySem.W.Frag} {H : Hp} {m : List Addr} {d e f : D} {vs : List V} (h : RelL K H m [d, e, f] vs) : ∃ v w u, vs = [v, w, u] ∧ RelD K H m d v ∧ RelD K H m e w ∧ RelD K H m f u := by
  cases h with
  | cons h t =>
    obtain ⟨w, u, rfl, h2, h3⟩ := rel2 t
    exact ⟨_, w, u, rfl, h, h2, h3⟩
theorem si_rngD {tg a b d : Expr} {fa : AM} {p pos : Pos} (hg : Gl X "range") (hm : X.mg "range" = none) (ha : SA X E [a, b, d] fa) (hs : starEach [a, b, d] X.env = (false, eval a X.env) :: starEach [b, d] X.env := by rfl) (hpl : (backTo pos (starEach [b, d] X.env)).any (·.1) = false := by rfl) : SI X E tg (.Call (.Name "range" p) [a, b, d] [] pos) (Mi.iRngD fa) := by
  refine PI.mono (pi_range3 hg hm ha hs hpl) fun σ H R ⟨fr, S, m, rf, rs, p⟩ => ?_
  refine rdA_bind rf rs p fun ds S1 m1 H1 e1 rf1 rs1 p1 vs hv => ?_
  split at p1
  · rename_i i j k
    obtain ⟨v, w, u, rfl, h, h', h''⟩ := rel3 hv
    cases h
    cases h'
    cases h''
    split at p1
    · rename_i hj
      obtain ⟨h1, h2, rfl⟩ := hj
      exact ⟨i, j, -1, _, rfl, RgC.neg h1.1 h1.2 h2.1 h2.2, p1.here rs1 _ walkd_rngD⟩
    · exact p1.elim
  · exact p1.elim
theorem si_enum {e : Expr} {fe : AM} {p pos tpos : Pos} {elts : List Expr} {kk : Nat} (hg : Gl X "enumerate") (hm : X.mg "enumerate" = none) (ha : SA X E [e] fe) (hs : starEach [e] X.env = [(false, eval e X.env)] := by rfl) : SI X E (.Tuple elts kk tpos) (.Call (.Name "enumerate" p) [e] [] pos) (Mi.iEnum fe) := by
  refine PI.mono (pi_enum hg hm ha hs) fun σ H R ⟨fr, S, m, rf, rs, p⟩ => ?_
  refine rdA_bind rf rs p fun ds S1 m1 H1 e1 rf1 rs1 p1 vs hv => ?_
  split at p1
  · obtain ⟨v, rfl, h⟩ := rel1 hv
    cases h with
    | ref ha =>
      split at p1
      · rename_i l hl
        obtain ⟨xs, h1, _⟩ := rs1.lst ha hl
        exact ⟨_, xs, rfl, h1, p1.here rs1 _ (walkd_enum ha)⟩
      · exact p1.elim
  · exact p1.elim
theorem si_zip {e e2 : Expr} {fe : AM} {p pos tpos : Pos} {elts : List Expr} {kk : Nat} (hg : Gl X "zip") (hm : X.mg "zip" = none) (ha : SA X E [e, e2] fe) (hs : starEach [e, e2] X.env = (false, eval e X.env) :: starEach [e2] X.env := by rfl) (hpl : (backTo pos (starEach [e2] X.env)).any (·.1) = false := by rfl) : SI X E (.Tuple elts kk tpos) (.Call (.Name "zip" p) [e, e2] [] pos) (Mi.iZip fe) := by
  refine PI.mono (pi_zip hg hm ha hs hpl) fun σ H R ⟨fr, S, m, rf, rs, p⟩ => ?_
  refine rdA_bind rf rs p fun ds S1 m1 H1 e1 rf1 rs1 p1 vs hv => ?_
  split at p1
  · obtain ⟨v, w, rfl, h, h'⟩ := rel2 hv
    cases h with
    | ref ha =>
      cases h' with
      | ref ha' =>
        split at p1
        · rename_i l r hl hr
          obtain ⟨xs, h1, _⟩ := rs1.lst ha hl
          obtain ⟨ys, h2, _⟩ := rs1.lst ha' hr
          exact ⟨_, _, xs, ys, rfl, h1, h2, p1.here rs1 _ (walkd_zip ha ha')⟩
        · exact p1.elim
  · exact p1.elim
theorem si_rev {tg e : Expr} {fe : AM} {p pos : Pos} (hg : Gl X "reversed") (hm : X.mg "reversed" = none) (ha : SA X E [e] fe) (hs : starEach [e] X.env = [(false, eval e X.env)] := by rfl) : SI X E tg (.Call (.Name "reversed" p) [e] [] pos) (Mi.iRev fe) := by
  refine PI.mono (pi_reversed hg hm ha hs) fun σ H R ⟨fr, S, m, rf, rs, p⟩ => ?_
  refine rdA_bind rf rs p fun ds S1 m1 H1 e1 rf1 rs1 p1 vs hv => ?_
  split at p1
  · obtain ⟨v, rfl, h⟩ := rel1 hv
    cases h with
    | ref ha =>
      split at p1
      · rename_i l hl
        obtain ⟨xs, h1, h2⟩ := rs1.lst ha hl
        exact ⟨_, xs, rfl, h1, p1.here rs1 _ (by rw [← h2.len]; exact walkd_rev ha)⟩
      · exact p1.elim
  · exact p1.elim

/-! ### loops -/
theorem ss_for {tg iter : Expr} {body : List Stmt} {fi : IM} {g : GM} {b : SM} (hp : PassesOwn (model X.prog X.w) X.A X.env X.xe) (hc : X.calm = true) (hi : SI X E tg iter fi) (hg : SG X E tg g) (hb : SSs X E body b)
    (hs : ∀ x, foldedSetIterable iter X.env x = pure x := by intro _; rfl) : SS X E (.For tg iter body [] pos) (sFor fi g b) := by
  refine PS.mono (ps_for hp hc hi hg hb hs) fun D σ H ⟨fr, S, m, rf, rs, p⟩ => ?_
  refine ⟨fr, S, m, rf, rs, (post_bind p).imp fun I S1 m1 H1 e1 rs1 p1 J w => ?_⟩
  refine ⟨fun i k σ' H' => i ≤ I.items.length ∧ k = I.items.length - i ∧ ∃ fr' S' m', Ext m1 H1 m' H' ∧ RF X.K H' m' fr' σ' ∧ RS (cx X) m' S' H' ∧ Post (cx X) E m' H' (loopM I.hs (fun d fr S => (g d fr S).bind fun fr' S' => b fr' S') (I.items.drop i) fr' S') (kS (cx X) D),
    ⟨I.items.length, Nat.zero_le _, rfl, fr, S1, m1, Ext.refl _ _, rf.mono e1, rs1, p1⟩, fun i k σ' H' hw => ?_⟩
  obtain ⟨hi', hk, fr', S', m', e2, rf2, rs2, p2⟩ := hw
  by_cases hlt : i < I.items.length
  · have hd : I.items.drop i = I.items[i] :: I.items.drop (i + 1) := List.drop_eq_getElem_cons hlt
    rw [hd] at p2
    unfold loopM at p2
    split at p2
    · rename_i st
      have st := of_dec st
      refine .inr ⟨w.go i m' S' H' hlt e2 rs2 st, fun σ2 H2 => ∃ fr2 S2 m2, Ext m1 H1 m2 H2 ∧ RF X.K H2 m2 fr2 σ2 ∧ RS (cx X) m2 S2 H2 ∧ Post (cx X) E m2 H2 (loopM I.hs (fun d fr S => (g d fr S).bind fun fr' S' => b fr' S') (I.items.drop (i + 1)) fr2 S2) (kS (cx X) D),
        fun σ2 H2 q => ⟨I.items.length - (i + 1), by omega, by omega, rfl, q⟩, fun x H'' y => ?_⟩
      obtain ⟨e3, rs3, r3⟩ := w.yld i m' S' H' x H'' _ (List.getElem?_eq_getElem hlt) e2 rs2 st y
      refine ⟨_, fr', S', m', r3, rf2.mono e3, rs3, (post_bind (post_bind p2)).ext e3 |>.imp fun fr2 S2 m2 H2 e4 rs4 p4 σ2 rf4 => ?_⟩
      refine ⟨fr2, S2, m2, rf4, rs4, p4.imp fun o S3 m3 H3 e5 rs5 p5 => ?_⟩
      have ee : Ext m1 H1 m3 H3 := ((e2.trans e3).trans e4).trans e5
      cases o with
      | nx fr3 => exact fun σ3 rf5 => ⟨fr3, S3, m3, ee, rf5, rs5, p5⟩
      | ct fr3 => exact fun σ3 rf5 => ⟨fr3, S3, m3, ee, rf5, rs5, p5⟩
      | bk fr3 => exact p5.here rs5
      | rt d => exact p5.here rs5
    · exact p2.elim
  · have e : i = I.items.length := by omega
    subst e
    rw [List.drop_length] at p2
    unfold loopM at p2
    split at p2
    · rename_i st
      exact .inl ⟨w.stop m' S' H' e2 rs2 (of_dec st), p2.here rs2 σ' rf2⟩
    · exact p2.elim
theorem ss_while {t : Expr} {body : List Stmt} {ft : TM} {b : SM} (hp : PassesOwn (model X.prog X.w) X.A X.env X.xe) (ht : STt X E t ft) (hb : SSs X E body b) : SS X E (.While t body [] pos) (sWhile ft b) := by
  refine PS.mono (ps_while hp ht hb) fun D σ H ⟨fr, S, m, rf, rs, p⟩ => ?_
  unfold sWhile at p
  split at p
  · rename_i hex
    refine ⟨fun k σ' H' => ∃ fr' S' m', RF X.K H' m' fr' σ' ∧ RS (cx X) m' S' H' ∧ Post (cx X) E m' H' (whileN ft b k fr' S') (kS (cx X) D), ⟨_, fr, S, m, rf, rs, p⟩, fun k σ' H' hw => ?_⟩
    obtain ⟨fr', S', m', rf2, rs2, p2⟩ := hw
    cases k with
    | zero => exact p2.elim
    | succ k =>
      unfold whileN at p2
      refine rdT_bind rf2 rs2 p2 fun c S1 m1 H1 e1 rf1 rs1 p1 => ?_
      cases c with
      | true =>
        refine ⟨fun σ2 H2 => ∃ fr2 S2 m2, RF X.K H2 m2 fr2 σ2 ∧ RS (cx X) m2 S2 H2 ∧ Post (cx X) E m2 H2 (whileN ft b k fr2 S2) (kS (cx X) D), fun σ2 H2 q => ⟨k, Nat.lt_succ_self k, q⟩, fr', S1, m1, rf1, rs1, (post_bind p1).imp fun o S3 m3 H3 e5 rs5 p5 => ?_⟩
        cases o with
        | nx fr3 => exact fun σ3 rf5 => ⟨fr3, S3, m3, rf5, rs5, p5⟩
        | ct fr3 => exact fun σ3 rf5 => ⟨fr3, S3, m3, rf5, rs5, p5⟩
        | bk fr3 => exact p5.here rs5
        | rt d => exact p5.here rs5
      | false => exact p1.here rs1 σ' rf1
  · exact p.elim

/-! ### comprehensions -/
theorem wipe_get {σ : L2.St} : ∀ {vs : List Nat} (j : Nat), (wipe σ vs)[j]? = if j ∈ vs ∧ j < σ.length then some none else σ[j]?
  | [], j => by simp [wipe]
  | v :: vs, j => by
    unfold wipe
    by_cases e : v = j
    · subst e
      by_cases h : v < σ.length
      · rw [List.getElem?_set_self (by rw [wipe_length]; exact h), if_pos ⟨List.mem_cons_self, h⟩]
      · rw [if_neg fun z => h z.2, List.getElem?_eq_none (by rw [List.length_set, wipe_length]; omega), List.getElem?_eq_none (by omega)]
    · rw [List.getElem?_set_ne e, wipe_get j]
      by_cases h : j ∈ vs ∧ j < σ.length
      · rw [if_pos h, if_pos ⟨List.mem_cons_of_mem _ h.1, h.2⟩]
      · rw [if_neg h, if_neg fun z => h ⟨(List.mem_cons.mp z.1).resolve_left (Ne.symm e), z.2⟩]
theorem wipe_of {σ τ : L2.St} {vs : List Nat} (hl : τ.length = σ.length) (h : ∀ j, j ∉ vs → τ[j]? = (wipe σ vs)[j]?) : wipe τ vs = wipe σ vs := by
  refine List.ext_getElem? fun j => ?_
  rw [wipe_get]
  by_cases hj : j ∈ vs ∧ j < τ.length
  · rw [if_pos hj, wipe_get, if_pos ⟨hj.1, by rw [← hl]; exact hj.2⟩]
  · rw [if_neg hj]
    by_cases hv : j ∈ vs
    · have : ¬ j < τ.length := fun z => hj ⟨hv, z⟩
      rw [List.getElem?_eq_none (by omega), List.getElem?_eq_none (by rw [wipe_length]; omega)]
    · exact h j hv
/-- a target that stores nothing but at the slots vs -/
def GOnly (c : Ct) (vs : List Nat) (g : TG) (gm : GM) : Prop := ∀ (x : V) (d : D) (fr : Fr) (S : Store) (m : List Addr) (σ : L2.St) (H : Hp) (E : XK) (k : Fr → Store → List Addr → Hp → Prop) (Q : L2.St → Hp → Prop),
  RelD c.K H m d x → RF c.K H m fr (wipe σ vs) → RS c m S H → Post c E m H (gm d fr S) k → (∀ fr' σ2, RF c.K H m fr' σ2 → wipe σ2 vs = wipe σ vs → k fr' S m H → Q σ2 H) → g x (wipe σ vs) H Q
theorem gonly_name {c : Ct} {i : Nat} {vs : List Nat} (hi : i ∈ vs) : GOnly c vs (L2.gName i) (Mi.gName i) := by
  intro x d fr S m σ H E k Q r rf rs p h
  refine h _ _ (rf.set r i) (wipe_of (by rw [List.length_set, wipe_length]) fun j hj => ?_) (p.here rs)
  rw [List.getElem?_set_ne (fun e => hj (by rw [← e]; exact hi))]
theorem gonly_two {c : Ct} {i j : Nat} {vs : List Nat} (hi : i ∈ vs) (hj : j ∈ vs) : GOnly c vs (fun v σ H Q => L2.gTup c.K 2 (L2.gCons (L2.gName i) (L2.gCons (L2.gName j) L2.gNil)) v σ H Q ∨ gUnl c.K 2 (L2.gCons (L2.gName i) (L2.gCons (L2.gName j) L2.gNil)) v σ H Q) (Mi.gTup 2 (Mi.gCons (Mi.gName i) (Mi.gCons (Mi.gName j) Mi.gNil))) := by
  intro x d fr S m σ H E k Q r rf rs p h
  unfold Mi.gTup at p
  split at p
  · rename_i l hl
    split at p
    · rename_i hlen
      match l, hlen with
      | [a, b], _ =>
        obtain ⟨ad, xs, rfl, h1, h2⟩ := seq_rel rs r hl
        obtain ⟨v, w, rfl, h3, h4⟩ := rel2 h2
        have fin := h _ _ ((rf.set h3 i).set h4 j) (wipe_of (by rw [List.length_set, List.length_set, wipe_length]) fun j' hj' => by
          rw [List.getElem?_set_ne (fun e => hj' (by rw [← e]; exact hj)), List.getElem?_set_ne (fun e => hj' (by rw [← e]; exact hi))]) (p.here rs)
        rcases h1 with h1 | h1
        · exact .inr ⟨ad, _, rfl, h1, rfl, v, [w], rfl, w, [], rfl, rfl, fin⟩
        · exact .inl ⟨ad, _, rfl, h1, rfl, v, [w], rfl, w, [], rfl, rfl, fin⟩
    · exact p.elim
  · exact p.elim
theorem lc_rd {c : Ct} {vs : List Nat} {fi : IM} {g : TG} {gm : GM} {ft : TM} {fe : EM} (ho : GOnly c vs g gm) {σ : L2.St} {H : Hp} {Q : VK} (h : rdE c E (mLc vs fi gm ft fe) σ H Q) : tLc (rdI c E fi) g (rdT c EF ft) (rdE c EF fe) vs σ H Q := by
  obtain ⟨fr, S, m, rf, rs, p⟩ := h
  refine ⟨fr, S, m, rf, rs, (post_bind p).imp fun I S1 m1 H1 e1 rs1 p1 J w Dl hDl => ?_⟩
  obtain ⟨rs2, e2⟩ := rs1.push (o := .lst []) (u := .lst []) hDl ⟨[], upd_same, .nil⟩
  have hn : ∀ {m'' : List Addr} {H'' : Hp}, Ext (m1 ++ [Dl]) (upd H1 Dl (.lst [])) m'' H'' → m''[S1.length]? = some Dl := fun e => e.mx _ _ (by rw [← rs1.len, List.getElem?_append_right (Nat.le_refl _), Nat.sub_self]; rfl)
  refine ⟨fun i k H' => i ≤ I.items.length ∧ k = I.items.length - i ∧ ∃ S' m', Ext (m1 ++ [Dl]) (upd H1 Dl (.lst [])) m' H' ∧ RS c m' S' H' ∧ Post c E m' H' (lcLoop I.hs S1.length gm (fun fr S => quiet (ft fr S)) (fun fr S => quiet (fe fr S)) (unset vs fr) (I.items.drop i) S') (kE c Q),
    ⟨I.items.length, Nat.zero_le _, rfl, S1 ++ [.lst []], _, Ext.refl _ _, rs2, (show _ from by rw [List.drop_zero]; exact Post.ext p1 e2)⟩, fun i k H' hw => ?_⟩
  obtain ⟨hi', hk, S', m', e3, rs3, p3⟩ := hw
  have e13 : Ext m1 H1 m' H' := e2.trans e3
  have rfw : RF c.K H' m' (unset vs fr) (wipe σ vs) := ((rf.mono (e1.trans e13)).unset vs)
  by_cases hlt : i < I.items.length
  · have hd : I.items.drop i = I.items[i] :: I.items.drop (i + 1) := List.drop_eq_getElem_cons hlt
    rw [hd] at p3
    unfold lcLoop at p3
    split at p3
    · rename_i st
      have st := of_dec st
      refine .inr ⟨w.go i m' S' H' hlt e13 rs3 st, fun H2 => ∃ S2 m2, Ext (m1 ++ [Dl]) (upd H1 Dl (.lst [])) m2 H2 ∧ RS c m2 S2 H2 ∧ Post c E m2 H2 (lcLoop I.hs S1.length gm (fun fr S => quiet (ft fr S)) (fun fr S => quiet (fe fr S)) (unset vs fr) (I.items.drop (i + 1)) S2) (kE c Q),
        fun H2 q => ⟨I.items.length - (i + 1), by omega, by omega, rfl, q⟩, fun x H'' y => ?_⟩
      obtain ⟨e4, rs4, r4⟩ := w.yld i m' S' H' x H'' _ (List.getElem?_eq_getElem hlt) e13 rs3 st y
      refine ho x _ (unset vs fr) S' m' σ H'' E _ _ r4 (rfw.mono e4) rs4 ((post_bind p3).ext e4) fun fr2 σ2 rf2 hw2 p5 => ⟨hw2, ?_⟩
      refine ⟨fr2, S', m', rf2, rs4, (post_quiet (post_bind p5)).imp fun b S6 m6 H6 e6 rs6 p6 => ?_⟩
      have e36 : Ext (m1 ++ [Dl]) (upd H1 Dl (.lst [])) m6 H6 := (e3.trans e4).trans e6
      cases b with
      | true =>
        refine ⟨fr2, S6, m6, rf2.mono e6, rs6, (post_quiet (post_bind p6)).imp fun z S7 m7 H7 e7 rs7 p7 zv hz => ?_⟩
        have e37 := e36.trans e7
        split at p7
        · rename_i acc hacc
          obtain ⟨ys, h1, h2⟩ := rs7.mlst (hn e37) hacc
          split at p7
          · rename_i hl
            obtain ⟨rs8, e8⟩ := rs7.set (o' := .lst (acc ++ [z])) (u := .lst (ys ++ [zv])) (hn e37) hacc trivial trivial fun e => ⟨_, upd_same, (h2.mono e).app (.one (hz.mono e))⟩
            exact ⟨ys, h1, by rw [← h2.len, line_eq]; exact hl, _, m7, e37.trans e8, rs8, p7.ext e8⟩
          · exact p7.elim
        · exact p7.elim
      | false => exact ⟨S6, m6, e36, rs6, p6⟩
    · exact p3.elim
  · have e : i = I.items.length := by omega
    subst e
    rw [List.drop_length] at p3
    unfold lcLoop at p3
    split at p3
    · rename_i st
      exact .inl ⟨w.stop m' S' H' e13 rs3 (of_dec st), p3.here rs3 _ (.ref (hn e3))⟩
    · exact p3.elim
/-- a context of a comprehension's block -/
abbrev Blk (X : Cx) (scope : Scope) (P : Cx → Prop) : Prop := ∀ (s : Shared) (H : Hp) (C : Addr) (cl : List (Str × Addr)) (fp : List Addr), P (X.blk s H scope (compEnvC scope cl C X.env) fp)
theorem sts_nil {X : Cx} : PTs X [] (rdT (cx X) EF Mi.tYes) := ⟨fun pins s σ H Q I ⟨fr, S, m, rf, rs, p⟩ => pts_nil.run pins s σ H Q I (p.here rs)⟩
theorem sts_one {X : Cx} {t : Expr} {ft : TM} (h : STt X EF t ft) : PTs X [t] (rdT (cx X) EF ft) := pts_one h
theorem se_lc {elt tg iter : Expr} {ifs : List Expr} {scope : Scope} {own : List (Str × Nat)} {fi : IM} {g : TG} {gm : GM} {ft : TM} {fe : EM} (hc : X.calm = true) (hN : X.N.Nodup) (hi : SI X E tg iter fi) (ok : BlkOk X.N X.env.scope scope own) (ho : GOnly (cx X) (own.map (·.2)) g gm)
    (hg : Blk X scope fun Y => PG Y tg g) (ht : Blk X scope fun Y => PTs Y ifs (rdT (cx X) EF ft)) (he : Blk X scope fun Y => PE Y elt (rdE (cx X) EF fe)) (hs : ∀ x, foldedSetIterable iter X.env x = pure x := by intro _; rfl) : SE X E (.ListComp elt [⟨tg, iter, ifs, 0⟩] scope pos) (mLc (own.map (·.2)) fi gm ft fe) :=
  PE.mono (pe_lc hc hN hi ok hg ht he hs) fun σ H Q h => lc_rd ho h
theorem ss_setLc {i : Nat} {y : Str} {py spos : Pos} {elt tg iter : Expr} {ifs : List Expr} {scope : Scope} {own : List (Str × Nat)} {fi : IM} {g : TG} {gm : GM} {ft : TM} {fe : EM} (hc : X.calm = true) (hN : X.N.Nodup) (hy : X.N[i]? = some y) (hyl : X.env.scope.names.lookup y = some .local)
    (hsw : swapsWith (.ListComp elt [⟨tg, iter, ifs, 0⟩] scope pos) (some (.Name y py)) spos.line X.env = pure true) (hi : SI X E tg iter fi) (ok : BlkOk X.N X.env.scope scope own) (ho : GOnly (cx X) (own.map (·.2)) g gm)
    (hg : Blk X scope fun Y => PG Y tg g) (ht : Blk X scope fun Y => PTs Y ifs (rdT (cx X) EF ft)) (he : Blk X scope fun Y => PE Y elt (rdE (cx X) EF fe)) (hs : ∀ x, foldedSetIterable iter X.env x = pure x := by intro _; rfl) : SS X E (.Assign [.Name y py] (.ListComp elt [⟨tg, iter, ifs, 0⟩] scope pos) spos) (sAsg (mLc (own.map (·.2)) fi gm ft fe) (Mi.gName i)) := by
  refine PS.mono (ps_setLc hc hN hy hyl hsw hi ok hg ht he hs) fun D σ H ⟨fr, S, m, rf, rs, p⟩ => ?_
  refine lc_rd ho (rd_bind rf rs p fun x S1 m1 H1 e1 rf1 rs1 p1 v hv => ?_)
  exact (post_bind p1).here rs1 |>.here rs1 _ (rf1.set hv i)
end

/-! ### a def -/
theorem start_rel {c : Ct} {H : Hp} {m : List Addr} {N : List Str} {ds : List D} {vs : List V} (r : RelL c.K H m ds vs) : RF c.K H m (startF N.length ds) (L2.start N vs) := by
  unfold startF L2.start
  have hl := r.len
  refine ⟨by rw [List.length_append, List.length_append, List.length_map, List.length_map, List.length_replicate, List.length_replicate, hl], fun i d e => ?_⟩
  by_cases h : i < ds.length
  · rw [List.getElem?_append_left (by rw [List.length_map]; exact h), List.getElem?_map] at e
    obtain ⟨d', h1, h2⟩ := Option.map_eq_some_iff.mp e
    cases h2
    obtain ⟨v, h3, h4⟩ := r.ix h1
    exact ⟨v, by rw [List.getElem?_append_left (by rw [List.length_map, ← hl]; exact h), List.getElem?_map, h3]; rfl, h4⟩
  · rw [List.getElem?_append_right (by rw [List.length_map]; omega)] at e
    obtain ⟨h1, h2⟩ := List.getElem?_eq_some_iff.mp e
    rw [List.getElem_replicate] at h2
    cases h2
section
variable {P : Program} {w : World} {K : PySem.W.Frag} {mg : Str → Option Value} {base : Heap}
theorem fn_ok {x qual : Str} {st : Stmt} {f : Addr} {fd : FuncData} {N ps : List Str} {k : Nat} {b : SM} (F : Fun K x qual st f fd) (S : FnScope N ps (defScope st))
    (hb : ∀ (cdv : Value) (A : Around) (outer : List Env) (s : Shared) (H : Hp) (E : XK), Room k (A.deeper (envOfC qual (defScope st) s.heap.objs.size f cdv)) → SSs (cxOf CX0 P w K mg base N qual (defScope st) f cdv A outer s H E).nox EF (defBody st) b) :
    FnOk P w K mg base CX0 (k + 1) f fd ps (spM ⟨K, mg⟩ (mDef ps.length N.length b)) := by
  refine F.ok S (fun vs H Q E h => ?_) (fun cdv A outer s H vs Q E hr h => ?_)
  · obtain ⟨ds, S', m, r, rs, p⟩ := h
    have p := post_quiet (E' := E) p
    unfold mDefX at p
    split at p
    · rename_i hl
      rw [← r.len]; exact hl
    · exact p.elim
  · obtain ⟨ds, S', m, r, rs, p⟩ := h
    have p := post_quiet (E' := EF) p
    unfold mDefX at p
    split at p
    · refine ⟨_, hb cdv A outer s H E hr, startF N.length ds, S', m, start_rel (c := ⟨K, mg⟩) r, rs, (post_bind p).imp fun o S1 m1 H1 e1 rs1 p1 => ?_⟩
      cases o with
      | nx fr => exact fun σ rf => p1.here rs1 _ .non
      | rt d => exact fun v hv => p1.here rs1 v hv
      | bk fr => exact p1.elim
      | ct fr => exact p1.elim
    · exact p.elim
end
end Sm

set_option Elab.async false
set_option linter.all false
set_option maxRecDepth 100000
set_option maxHeartbeats 2000000
/-! readings by the small language: texts, a few words more -/
namespace Sm
open PySem PySem.Spec PyProof.Rows L2 Mi
theorem hu65 {A : Around} {k : Nat} (hr : Room k A) : A.units + 65 < cLine := by
  have := hr.un
  omega
section
variable {X : Cx} {E : XK}
theorem txs_rel {K : PySem.W.Frag} {H : Hp} {m : List Addr} : ∀ {l : List D} {xs : List V} {ns : List Tx}, RelL K H m l xs → txsOf l = some ns → xs = (ns.map sOf).map V.str
  | _, _, _, .nil, e => by simp only [txsOf, Option.some.injEq] at e; subst e; rfl
  | _, _, ns, .cons (d := d) h t, e => by
    cases h <;> simp only [txsOf, reduceCtorEq] at e
    obtain ⟨r, e1, e2⟩ := Option.map_eq_some_iff.mp e
    subst e2
    rw [List.map_cons, List.map_cons, ← txs_rel t e1]
theorem tl_sOf (a : Tx) : TL.tl (sOf a) = a := by
  show a.toArray.toList = a
  simp
theorem joinL_T (a : Tx) : ∀ ys : List Tx, TL.joinL a ys = joinT a ys
  | [] => rfl
  | [_] => rfl
  | x :: y :: r => by
    show x ++ (a ++ TL.joinL a (y :: r)) = x ++ a ++ joinT a (y :: r)
    rw [joinL_T a (y :: r), List.append_assoc]
theorem join_sOf (a : Tx) (ys : List Tx) : Txt.join (sOf a) (ys.map sOf) = sOf (joinT a ys) := by
  have h : TL.tl (Txt.join (sOf a) (ys.map sOf)) = joinT a ys := by
    rw [TL.join_eq, TL.tl_join, tl_sOf, List.map_map, show TL.tl ∘ sOf = id from funext tl_sOf, List.map_id, joinL_T]
  have e : Txt.join (sOf a) (ys.map sOf) = sOf (TL.tl (Txt.join (sOf a) (ys.map sOf))) := by
    show _ = Str.mk _
    simp [TL.tl]
  rw [e, h]
theorem mm_join : MtMm X E "str.join" sJoin := by
  refine ⟨_, mt_join, fun x ds v vs S m H Q rs hv hvs p => ?_⟩
  unfold sJoin at p
  cases hv with
  | str a =>
    dsimp only at p
    split at p
    · rename_i d
      obtain ⟨w, rfl, hw⟩ := rel1 hvs
      split at p
      · rename_i ys hys
        split at p
        · rename_i hl
          obtain ⟨l, h1, h2⟩ := Option.bind_eq_some_iff.mp hys
          obtain ⟨ad, xs, rfl, h3, h4⟩ := seq_rel rs hw h1
          have e := txs_rel h4 h2
          subst e
          refine ⟨sOf a, ad, ys.map sOf, rfl, rfl, h3, ?_, ?_⟩
          · have e1 : ((ys.map sOf).map (·.length)) = ys.map List.length := by
              rw [List.map_map]
              exact List.map_congr_left fun y _ => sOf_len y
            rw [e1, List.length_map, sOf_len]
            exact hl
          · rw [join_sOf]
            exact p.here rs _ (.str _)
        · exact p.elim
      · exact p.elim
    · exact p.elim
  | _ => exact p.elim
theorem mm_sindex : MtMm X E "str.index" sIndex := by
  refine ⟨_, mt_sindex, fun x ds v vs S m H Q rs hv hvs p => ?_⟩
  unfold sIndex at p
  cases hv with
  | str a =>
    dsimp only at p
    split at p
    · rename_i b
      obtain ⟨w, rfl, hw⟩ := rel1 hvs
      cases hw
      split at p
      · rename_i i r hr
        exact ⟨sOf a, sOf b, i, r, rfl, rfl, hr, post_int rs p⟩
      · exact p.elim
    · exact p.elim
  | _ => exact p.elim
/-- reversed(range(n)) -/
theorem si_revrng {tg a : Expr} {fa : EM} {p p2 pos pos2 : Pos} (hg : Gl X "reversed") (hm : X.mg "reversed" = none) (hg2 : Gl X "range") (hm2 : X.mg "range" = none) (ha : SE X E a fa)
    (na : starEach [a] X.env = (false, eval a X.env) :: starEach [] X.env := by rfl) (hs : starEach [.Call (.Name "range" p2) [a] [] pos2] X.env = (false, eval (.Call (.Name "range" p2) [a] [] pos2) X.env) :: starEach [] X.env := by rfl) :
    SI X E tg (.Call (.Name "reversed" p) [.Call (.Name "range" p2) [a] [] pos2] [] pos) (iRevR fa) := by
  refine PI.mono (pi_revR hg hm (prg_1 hg2 hm2 ha na) hs) fun σ H R ⟨fr, S, m, rf, rs, p⟩ => ?_
  refine rd_bind rf rs p fun x S1 m1 H1 e1 rf1 rs1 p1 v hv => ?_
  cases hv with
  | int j =>
    dsimp only at p1
    split at p1
    · rename_i hj
      refine ⟨j, rfl, by decide, by decide, hj.1, hj.2, ?_⟩
      have q := p1.here rs1 (Itc (0 + (((j - 0).toNat : Nat) : Int) - 1) (-1) (j - 0).toNat)
      refine q ?_
      rw [Int.sub_zero, Int.zero_add]
      exact walkd_rngD
    · exact p1.elim
  | _ => exact p1.elim
end
end Sm
namespace Sm
open PySem PySem.Spec PyProof.Rows L2 Mi
/-- the law's own promise: on the script it answers True -/
def spLaw (K : PySem.W.Frag) : Sp := fun vs H Q _ => ∃ (a : Addr) (ns : List Int), vs = [.ref a] ∧ SqL K H a (ns.map V.int) ∧ Only H ∧ ns.length ≤ 63 ∧ ∀ H', Q (.bl true) H'
theorem rel_ints {K : PySem.W.Frag} {H : Hp} {m : List Addr} : ∀ ns : List Int, RelL K H m (ns.map D.int) (ns.map V.int)
  | [] => .nil
  | n :: ns => .cons (.int n) (rel_ints ns)
theorem law_sp {K : PySem.W.Frag} {mg : Str → Option Value} {g : Fn} (pure : ∀ ns : List Int, ns.length ≤ 63 → ∃ S, g [.ref 0] [.fls (ns.map D.int)] = .ok (.bl true) S) :
    ∀ (vs : List V) (H : Hp) (Q : VK) (E : XK), spLaw K vs H Q E → spM ⟨K, mg⟩ g vs H Q E := by
  intro vs H Q E h
  obtain ⟨a, ns, rfl, hS, hO, hl, q⟩ := h
  obtain ⟨S, e⟩ := pure ns hl
  refine ⟨[.ref 0], [.fls (ns.map D.int)], [a], .cons (.ref rfl) .nil, ⟨rfl, fun n b o h1 h2 => ?_, fun n n' b o o' h1 h2 h3 h4 l1 l2 => ?_⟩, ?_⟩
  · cases n with
    | succ n => cases h1
    | zero =>
      cases h1
      cases h2
      refine ⟨ns.map V.int, ?_, rel_ints ns⟩
      rcases hS with (h | ⟨ob, h⟩) | h
      · rcases hO a with z | ⟨ob, xs, z⟩
        · rw [z] at h; cases h
        · rw [z] at h; cases h
      · exact .inl ⟨ob, h⟩
      · exact .inr (.inr h)
  · cases n with
    | succ n => cases h1
    | zero => cases h3; exact l1.elim
  · rw [e]
    intro m' H' _ _ v hv
    cases hv
    exact q H'
end Sm

set_option Elab.async false
set_option linter.all false
set_option maxRecDepth 100000
set_option maxHeartbeats 2000000
/-! more steps against the layer -/
namespace Sm
open PySem PySem.Spec PyProof.Rows L2 Mi
section
variable {X : Cx} {E : XK} {pos : Pos}
/-! ### a dict written with its pairs -/
def trP (c : Ct) (E : XK) (ps : List (EM × EM)) : List (TE × TE) := ps.map fun p => (rdE c E p.1, rdE c E p.2)
structure RelP (K : PySem.W.Frag) (H : Hp) (m : List Addr) (p : D × D) (q : V × V) : Prop where
  fst : RelD K H m p.1 q.1
  snd : RelD K H m p.2 q.2
theorem rdPs_bind {c : Ct} {α : Type} : ∀ (ps : List (EM × EM)) {fr : Fr} {S : Store} {m : List Addr} {σ : L2.St} {H : Hp} {Q : List (V × V) → Hp → Prop} {h : List (D × D) → Store → Res α} {kk : α → Store → List Addr → Hp → Prop},
    RF c.K H m fr σ → RS c m S H → Post c E m H ((mPairs ps fr S).bind h) kk →
    (∀ d S1 m1 H1, Ext m H m1 H1 → RF c.K H1 m1 fr σ → RS c m1 S1 H1 → Post c E m1 H1 (h d S1) kk → ∀ v, Paired (RelP c.K H1 m1) d v → Q v H1) → tPairs (trP c E ps) σ H Q
  | [], fr, S, m, σ, H, Q, h, kk, rf, rs, p, n => n [] S m H (Ext.refl m H) rf rs p [] .nil
  | (a, b) :: r, fr, S, m, σ, H, Q, h, kk, rf, rs, p, n => by
    have p' : Post c E m H ((a fr S).bind fun x S1 => (b fr S1).bind fun y S2 => (mPairs r fr S2).bind fun ps S3 => h ((x, y) :: ps) S3) kk := by
      have e : (mPairs ((a, b) :: r) fr S).bind h = (a fr S).bind fun x S1 => (b fr S1).bind fun y S2 => (mPairs r fr S2).bind fun ps S3 => h ((x, y) :: ps) S3 := by
        show ((a fr S).bind fun x S1 => (b fr S1).bind fun y S2 => (mPairs r fr S2).bind fun ps S3 => .ok ((x, y) :: ps) S3).bind h = _
        rw [Res.bind_assoc]
        congr 1; funext x S1
        rw [Res.bind_assoc]
        congr 1; funext y S2
        rw [Res.bind_assoc]
        rfl
      rw [← e]; exact p
    refine rd_bind rf rs p' fun x S1 m1 H1 e1 rf1 rs1 p1 v hv => ?_
    refine rd_bind rf1 rs1 p1 fun y S2 m2 H2 e2 rf2 rs2 p2 w hw => ?_
    refine rdPs_bind r rf2 rs2 p2 fun d S3 m3 H3 e3 rf3 rs3 p3 vs hvs => ?_
    exact n _ S3 m3 H3 (e1.trans (e2.trans e3)) rf3 rs3 p3 _ (.cons ⟨hv.mono (e2.trans e3), hw.mono e3⟩ hvs)
theorem kvs_of {K : PySem.W.Frag} {H : Hp} {m : List Addr} : ∀ {ps : List (D × D)} {vs : List (V × V)} {kvs : List (Ky × D)}, Paired (RelP K H m) ps vs → kvsM ps = some kvs → ∃ kws : List (Key × V), vs = kws.map (fun kv => (kV kv.1, kv.2)) ∧ Paired (fun a b => b.1 = kyK a.1 ∧ RelD K H m a.2 b.2) kvs kws
  | [], _, kvs, .nil, e => by
    obtain rfl := Option.some.inj e
    exact ⟨[], rfl, .nil⟩
  | (k, v) :: r, _, kvs, .cons hp ht, e => by
    unfold kvsM at e
    cases hk : kyOf k with
    | none => rw [hk] at e; cases e
    | some q =>
      rw [hk, Option.bind_some] at e
      obtain ⟨l, e1, rfl⟩ := Option.map_eq_some_iff.mp e
      obtain ⟨kws, rfl, rk⟩ := kvs_of ht e1
      have hk2 := ky_of hp.fst hk
      rename_i qv
      refine ⟨(kyK q, qv.2) :: kws, ?_, .cons ⟨rfl, hp.snd⟩ rk⟩
      rw [List.map_cons]
      congr 1
      show qv = (kV (kyK q), qv.2)
      rw [← hk2]
theorem merge_rel {K : PySem.W.Frag} {H : Hp} {m : List Addr} : ∀ {kvs : List (Ky × D)} {kws : List (Key × V)} {acc : List (Ky × D)} {acw : List (Key × V)}, Paired (fun a b => b.1 = kyK a.1 ∧ RelD K H m a.2 b.2) kvs kws → RelK K H m kyK acc acw → RelK K H m kyK (kvs.foldl (fun acc kv => dPut acc kv.1 kv.2) acc) (mergeK acw kws)
  | [], _, _, _, .nil, r => r
  | kv :: l, _, acc, acw, .cons (b := b) h t, r => by
    have q := RelK.put (fun _ _ => kyK_inj) r kv.1 h.2
    rw [← h.1] at q
    have z := merge_rel (kvs := l) t q
    exact z
theorem se_dis {keys : List (Option Expr)} {values : List Expr} {ps : List (EM × EM)} (h : PPs X pos keys values (trP (cx X) E ps)) (hall : keys.all (·.isSome) = true) (hl : keys.length = values.length) (h0 : keys ≠ []) (h15 : keys.length ≤ 15) : SE X E (.Dict keys values pos) (mDis ps) := by
  refine PE.mono (pe_disp h hall hl h0 h15) fun σ H Q ⟨fr, S, m, rf, rs, p⟩ a ha => ?_
  obtain ⟨rs0, e0⟩ := rs.push (o := .dK []) (u := .dK []) ha ⟨[], upd_same, .nil⟩
  refine rdPs_bind ps (rf.mono e0) rs0 (p.ext e0) fun d S1 m1 H1 e1 rf1 rs1 p1 vs hvs => ?_
  have hm : m1[S.length]? = some a := e1.mx _ _ (by rw [← rs.len, List.getElem?_append_right (Nat.le_refl _), Nat.sub_self]; rfl)
  unfold disK at p1
  split at p1
  · rename_i _ _ kvs hk hs
    split at p1
    · rename_i h15'
      obtain ⟨kw, h1, h2⟩ := rs1.ob _ a _ hm hs
      cases h2
      obtain ⟨kws, rfl, rk⟩ := kvs_of hvs hk
      obtain ⟨rs2, e2⟩ := rs1.set (o' := .dK (putM kvs)) (u := .dK (mergeK [] kws)) hm hs trivial trivial fun e => ⟨_, upd_same, RelK.mono e (merge_rel rk .nil)⟩
      refine ⟨h1, kws, rfl, by rw [← Paired.length rk]; exact h15', ?_⟩
      exact p1 _ _ e2 rs2 _ (.ref hm)
    · exact p1.elim
  · exact p1.elim
theorem sps_nil : PPs X pos [] [] (trP (cx X) E []) := pps_nil
theorem sps_cons {k v : Expr} {ks : List (Option Expr)} {vs : List Expr} {a b : EM} {r : List (EM × EM)} (hk : SE X E k a) (hv : SE X E v b) (hr : PPs X pos ks vs (trP (cx X) E r)) : PPs X pos (some k :: ks) (v :: vs) (trP (cx X) E ((a, b) :: r)) := pps_cons hk hv hr
end
end Sm

set_option Elab.async false
set_option linter.all false
set_option maxRecDepth 100000
set_option maxHeartbeats 2000000
/-! texts against the layer -/
namespace Sm
open PySem PySem.Spec PyProof.Rows L2 Mi
section
variable {X : Cx} {E : XK} {pos : Pos}
theorem spl_C (c : Nat) : ∀ (l acc : Tx), TL.spl [c] 0 acc l = spC c acc l
  | [], acc => TL.spl_nil _ _ _
  | d :: r, acc => by
    by_cases h : d = c
    · subst h
      rw [TL.spl_hit (by simp [TL.pre]), spC, if_pos rfl]
      exact congrArg _ (spl_C d r [])
    · rw [TL.spl_miss (by simp [TL.pre, h]), spC, if_neg h]
      exact spl_C c r _
theorem par_C (c : Nat) : ∀ (l acc : Tx), TL.par [c] acc l = paC c acc l
  | [], acc => rfl
  | d :: r, acc => by
    by_cases h : d = c
    · subst h
      rw [TL.par_hit (by simp [TL.pre]), paC, if_pos rfl]
      rfl
    · rw [TL.par_miss (by simp [TL.pre, h]), paC, if_neg h]
      exact par_C c r _
theorem tl_s (a : Tx) : TL.tl (sOf a) = a := by simp [TL.tl, sOf]
theorem split_C (a : Tx) (c : Nat) (hc : c < 256) : Txt.split (sOf a) (sOf [c]) = (spC c [] a).map sOf := by
  refine TL.map_tl_inj ?_
  rw [TL.split_spl _ _ (by rw [tl_s]; simp) (TL.kind_ok (by simp [sOf, hc])), tl_s, tl_s, spl_C, List.map_map, show TL.tl ∘ sOf = id from funext tl_s, List.map_id]
theorem strs_rel {K : PySem.W.Frag} {H : Hp} {m : List Addr} : ∀ ys : List Tx, RelL K H m (ys.map D.str) ((ys.map sOf).map V.str)
  | [] => .nil
  | y :: ys => .cons (.str y) (strs_rel ys)
theorem mm_split : MtMm X E "str.split" sSplit := by
  refine ⟨_, mt_split, fun x ds v vs S m H Q rs hv hvs p => ?_⟩
  unfold sSplit at p
  cases hv with
  | str a =>
    dsimp only at p
    split at p
    · rename_i c
      obtain ⟨w, rfl, hw⟩ := rel1 hvs
      cases hw
      split at p
      · rename_i hc
        refine ⟨sOf a, sOf [c], rfl, rfl, rfl, by rw [sOf_len, line_eq]; exact hc.2, ?_⟩
        intro ad hp
        rw [split_C a c hc.1]
        exact post_new rs p hp fun e => ⟨_, upd_same, strs_rel _⟩
      · exact p.elim
    · exact p.elim
  | _ => exact p.elim
theorem mm_partition : MtMm X E "str.partition" sPartition := by
  refine ⟨_, mt_partition, fun x ds v vs S m H Q rs hv hvs p => ?_⟩
  unfold sPartition at p
  cases hv with
  | str a =>
    dsimp only at p
    split at p
    · rename_i c
      obtain ⟨w, rfl, hw⟩ := rel1 hvs
      cases hw
      split at p
      · rename_i hl
        refine ⟨sOf a, sOf [c], rfl, rfl, rfl, by rw [sOf_len, line_eq]; exact hl, ?_⟩
        intro ad hp
        have e := TL.partition_par (sOf a) (sOf [c]) (by rw [tl_s]; simp)
        rw [tl_s, tl_s, par_C] at e
        rw [e]
        split at p
        · rename_i x y hx
          rw [hx]
          exact post_tup rs p hp (.cons (.str _) (.cons (.str _) (.cons (.str _) .nil)))
        · rename_i hx
          rw [hx]
          exact post_tup rs p hp (.cons (.str _) (.cons (.str _) (.cons (.str _) .nil)))
      · exact p.elim
    · exact p.elim
  | _ => exact p.elim
theorem num_s {i : Int} (h : 0 ≤ i) : (Str.ofString (toString i)) = sOf (numT i.toNat) := by
  refine TL.ext_tl ?_
  rw [tl_s]
  have := TL.tl_num i.toNat
  rw [Int.toNat_of_nonneg h] at this
  exact this
theorem post_str {c : Ct} {m : List Addr} {H : Hp} {S : Store} {Q : VK} {i : Tx} (rs : RS c m S H) (p : Post c E m H (.ok (.str i) S) (kE c Q)) : Q (.str (sOf i)) H := p.here rs _ (.str i)
theorem cm_str : CallM X E (.type "str") bStr := by
  refine ⟨_, callr_or call_str_int SkE.call_str_str, fun ds vs S m H Q rs hv p => ?_⟩
  unfold bStr at p
  split at p
  · rename_i i
    obtain ⟨v, rfl, h⟩ := rel1 hv
    cases h
    split at p
    · rename_i hi
      refine .inl ⟨i, rfl, hi.2, ?_⟩
      rw [num_s hi.1]
      exact post_str rs p
    · exact p.elim
  · rename_i s
    obtain ⟨v, rfl, h⟩ := rel1 hv
    cases h
    exact .inr ⟨sOf s, rfl, post_str rs p⟩
  · exact p.elim
theorem cm_intS : CallM X E (.type "int") bIntS := by
  refine ⟨_, call_int_str, fun ds vs S m H Q rs hv p => ?_⟩
  unfold bIntS at p
  split at p
  · rename_i s
    obtain ⟨v, rfl, h⟩ := rel1 hv
    cases h
    split at p
    · rename_i hs
      refine ⟨sOf s, (digV s : Nat), rfl, ?_, by rw [sOf_len]; exact hs.2.2, post_int rs p⟩
      have e : (sOf s).cps.toList = s := by simp [sOf]
      have q := intText_digits (x := sOf s) (by
        rw [e]
        intro c hc
        have := List.all_eq_true.mp hs.1 c hc
        simpa [isDig] using this) (by rw [e]; exact hs.2.1) (by rw [sOf_len]; have := hs.2.2; omega)
      rw [e] at q
      exact q
    · exact p.elim
  · exact p.elim
/-! ### a text so often -/
theorem mul_S (a : Tx) (n : Nat) : Txt.mul (sOf a) (n : Int) = sOf (List.replicate n a).flatten := by
  refine TL.ext_tl ?_
  rw [tl_s]
  unfold Txt.mul
  have fold : ∀ (k : Nat) (acc : Array Nat), ((List.replicate k (sOf a).cps).foldl (· ++ ·) acc).toList = acc.toList ++ (List.replicate k a).flatten := by
    intro k
    induction k with
    | zero => intro acc; simp
    | succ k ih =>
      intro acc
      rw [List.replicate_succ, List.foldl_cons, ih, List.replicate_succ, List.flatten_cons, Array.toList_append]
      simp [sOf]
  by_cases h0 : n = 0
  · subst h0
    rw [if_pos (by decide)]
    rfl
  · rw [if_neg (by omega)]
    split
    · rename_i h
      simp only [Bool.or_eq_true, beq_iff_eq] at h
      rcases h with h | h
      · have : n = 1 := by omega
        subst this
        rw [tl_s]; simp
      · have : a = [] := by rw [sOf_len] at h; exact List.length_eq_zero_iff.mp h
        subst this
        rw [tl_s]
        simp
    · show ((List.replicate (n : Int).toNat (sOf a).cps).foldl (· ++ ·) #[]).toList = _
      rw [Int.toNat_natCast, fold]
      simp
def rMulS : R2 := fun x y H Q => ∃ (a : Str) (k : Int), x = .str a ∧ y = .int k ∧ a.length ≤ 16 ∧ 0 ≤ k ∧ k ≤ ((1048576 : Nat) : Int) ∧ Q (.str (Txt.mul a k)) H
theorem op_mulS : OpR X (binaryOp .Mult) rMulS := by
  intro pins s σ H x y v u Q I rx ry q
  obtain ⟨a, k, rfl, rfl, h1, h2, h3, q⟩ := q
  obtain ⟨t, rfl⟩ := rx
  obtain ⟨t', rfl⟩ := ry
  exact PySem.W.KXi.mul rfl h1 (by omega) h3 fun t' k' _ _ => ⟨.str (Txt.mul a k), H, I.tok _, ⟨_, rfl⟩, q⟩
theorem om_mulS : OpM X E (binaryOp .Mult) oMulS := by
  refine ⟨_, op_mulS, fun x y v u S m H Q rs hv hw p => ?_⟩
  cases hv with
  | str a => cases hw with
    | int k =>
      unfold oMulS at p
      dsimp only at p
      split at p
      · rename_i h
        refine ⟨sOf a, k, rfl, rfl, by rw [sOf_len]; exact h.1, h.2.1, h.2.2, ?_⟩
        have e := mul_S a k.toNat
        rw [Int.toNat_of_nonneg h.2.1] at e
        rw [e]
        exact post_str rs p
      · exact p.elim
    | _ => exact p.elim
  | _ => exact p.elim
/-! ### f-strings -/
theorem se_fmt {e : Expr} {f : EM} (h : SE X E e f) : SE X E (.FormattedValue e (-1) none pos) (mUn fmtD f) := by
  refine PE.mono (pe_fmt h) fun σ H Q ⟨fr, S, m, rf, rs, p⟩ => ?_
  refine rd_bind rf rs p fun x S1 m1 H1 e1 rf1 rs1 p1 v hv => ?_
  unfold fmtD at p1
  cases hv with
  | str s =>
    dsimp only at p1
    split at p1
    · rename_i hl
      exact .inl ⟨sOf s, rfl, by rw [sOf_len, line_eq]; exact hl, post_str rs1 p1⟩
    · exact p1.elim
  | int i =>
    dsimp only at p1
    split at p1
    · rename_i hi
      refine .inr ⟨i, rfl, hi.2, ?_⟩
      rw [num_s hi.1]
      exact post_str rs1 p1
    · exact p1.elim
  | _ => exact p1.elim
def trJ (c : Ct) (E : XK) (l : List EM) : List TE := l.map fun f => rdE c E f
theorem app_sOf (a b : Tx) : sOf a ++ sOf b = sOf (a ++ b) := by
  refine TL.ext_tl ?_
  rw [TL.tl_append, tl_s, tl_s, tl_s]
theorem rdJ {c : Ct} : ∀ (l : List EM) (acc : Tx) {fr : Fr} {S : Store} {m : List Addr} {σ : L2.St} {H : Hp} {Q : VK},
    RF c.K H m fr σ → RS c m S H → Post c E m H (mJs l acc fr S) (kE c Q) → tJs (trJ c E l) (sOf acc) σ H fun out H1 => Q (.str out) H1
  | [], acc, fr, S, m, σ, H, Q, rf, rs, p => post_str rs p
  | f :: r, acc, fr, S, m, σ, H, Q, rf, rs, p => by
    refine rd_bind rf rs p fun x S1 m1 H1 e1 rf1 rs1 p1 v hv => ?_
    cases hv with
    | str s =>
      dsimp only at p1
      split at p1
      · rename_i hl
        refine ⟨sOf s, rfl, by rw [app_sOf, sOf_len, line_eq]; exact hl, ?_⟩
        rw [app_sOf]
        exact rdJ r (acc ++ s) rf1 rs1 p1
      · exact p1.elim
    | _ => exact p1.elim
theorem se_fst {v1 v2 : Expr} {rest : List Expr} {l : List EM} (h : PJ X (v1 :: v2 :: rest) (trJ (cx X) E l)) : SE X E (.JoinedStr (v1 :: v2 :: rest) pos) (mFst l) := by
  refine PE.mono (pe_joined h) fun σ H Q ⟨fr, S, m, rf, rs, p⟩ => ?_
  exact rdJ (c := cx X) l [] rf rs p
theorem sj_nil : PJ X [] (trJ (cx X) E []) := .nil
theorem sj_cons {e : Expr} {f : EM} {es : List Expr} {l : List EM} (h : SE X E e f) (r : PJ X es (trJ (cx X) E l)) : PJ X (e :: es) (trJ (cx X) E (f :: l)) := .cons h r
end
end Sm

set_option Elab.async false
set_option linter.all false
set_option maxRecDepth 100000
set_option maxHeartbeats 2000000
/-! == of a dict and a text; upper -/
namespace Sm
open PySem PySem.Spec PyProof.Rows L2 Mi
theorem dict_eq_declines_text (l : Addr) (o : Obj) (es : _) (ep : _) (hd : o.data = .dict es ep) (hc : o.cls = .type "dict") (b : Str) (u : Tok) :
    Meets (Builtin.«dict.__eq__» ⟨[.ref l, .str b u], []⟩) (fun _ R s => s.heap.get? l = some o ∧ R (.ok (.ret .notImplemented)) s) :=
  .of_wp fun prog w A R s h => by
    obtain ⟨hp, g, d, tk, os⟩ := s
    obtain ⟨hl, h⟩ := h
    have f1 := F.sub_str_dict
    obtain ⟨cls, dd, data, sl⟩ := o
    simp only at hd hc
    subst hd hc
    wp_walk using wpAny_loadPart' hl
    exact ⟨_, rfl, h⟩
theorem text_eq_declines_dict (b : Str) (u : Tok) (l : Addr) (o : Obj) (es : _) (ep : _) (hd : o.data = .dict es ep) :
    Meets (Builtin.«str.__eq__» ⟨[.str b u, .ref l], []⟩) (fun _ R s => s.heap.get? l = some o ∧ R (.ok (.ret .notImplemented)) s) :=
  .of_wp fun prog w A R s h => by
    obtain ⟨hp, g, d, tk, os⟩ := s
    obtain ⟨hl, h⟩ := h
    obtain ⟨cls, dd, data, sl⟩ := o
    simp only at hd
    subst hd
    wp_walk using wpAny_loadPart' hl, wpAny_load hl
    exact ⟨_, rfl, h⟩
theorem rc_dict_text {A : Around} {s : Shared} {l : Addr} {o : Obj} {es : _} {ep : _} (b : Str) (u : Tok) (ho : s.heap.get? l = some o) (hd : o.data = .dict es ep) (hc : o.cls = .type "dict") (hu : A.units < cLine) : SeqAt.RcAt A s (.ref l) (.str b u) false := fun prog w E Q h => by
  have ty : s.TypeIs (.ref l) "dict" := ⟨o, ho, hc⟩
  exact SeqAt.rc_eq_decline_or (k := false) ty (typeIs_str s b u) (by decide) F.sub_str_dict F.slot_dict_eq F.slot_str_eq_refl
    (fun _ hq => call_meets F.slot_dict_eq ty F.entry_dict_eq (F.args_dict_eq_2 _ _) (dict_eq_declines_text l o es ep hd hc b u) ⟨ho, hq⟩)
    (fun _ hq => call_meets F.slot_str_eq_refl (typeIs_str s b u) F.entry_str_eq (F.args_str_eq_2 _ _) (text_eq_declines_dict b u l o es ep hd) ⟨ho, hq⟩)
    (fun _ hq => wpAny_of_eq (rfl : isSame (.ref l) (.str b u) = pure false) hq) (.inr hu) h
section
variable {X : Cx} {E : XK} {pos : Pos}
def rDT : R2 := fun x y H Q => ∃ (a : Addr) (b : Str) (kvs : List (Key × V)), x = .ref a ∧ y = .str b ∧ H a = some (.dK kvs) ∧ Q (.bl false) H
theorem op_eqDT (hu : X.A.units < cLine) : OpR X (compareOp .Eq) rDT := by
  intro pins s σ H x y v u Q I rx ry q
  obtain ⟨a, b, kvs, rfl, rfl, e, q⟩ := q
  obtain rfl : v = Value.ref a := rx
  obtain ⟨t, rfl⟩ := ry
  obtain ⟨_, _, vs, _, o, es, ep, ho, ed, hd, _⟩ := dk_of I.hok e
  exact rc_dict_text b t ho hd ed.1 hu _ _ _ _ ⟨.bl false, H, I, rfl, q⟩
theorem om_eqX (hu : X.A.units + 65 < cLine) : OpM X E (compareOp .Eq) oEqX := by
  obtain ⟨r, h1, h2⟩ := om_eq (X := X) (E := E) hu
  refine ⟨_, opr_or h1 (op_eqDT (by omega)), fun x y v u S m H Q rs hv hw p => ?_⟩
  unfold oEqX at p
  split at p
  · rename_i n s
    split at p
    · rename_i kvs hs
      cases hv with
      | ref ha =>
        cases hw with
        | str s =>
          obtain ⟨kw, h3, h4⟩ := rs.ob _ _ _ ha hs
          exact .inr ⟨_, _, kw, rfl, rfl, h3, post_bl rs p⟩
    · exact .inl (h2 _ _ _ _ S m H Q rs hv hw p)
  · exact .inl (h2 _ _ _ _ S m H Q rs hv hw p)
theorem up_six : ∀ s ∈ sixW, Txt.upper (sOf s) = sOf (s.map fun c => c - 32) := by
  intro s hs
  simp only [sixW, List.mem_cons, List.not_mem_nil, or_false] at hs
  rcases hs with rfl | rfl | rfl | rfl | rfl | rfl <;> decide +kernel
theorem mm_upper : MtMm X E "str.upper" sUpper := by
  refine ⟨_, mt_upper, fun x ds v vs S m H Q rs hv hvs p => ?_⟩
  unfold sUpper at p
  cases hv with
  | str a =>
    dsimp only at p
    split at p
    · cases hvs
      split at p
      · rename_i h
        refine ⟨sOf a, rfl, rfl, ?_, ?_⟩
        · rw [sOf_len]
          have : ∀ s ∈ sixW, s.length ≤ 5592405 := by decide
          exact this a h
        · rw [up_six a h]; exact post_str rs p
      · exact p.elim
    · exact p.elim
  | _ => exact p.elim
/-! ### tuples of any size -/
theorem om_addA : OpM X E (binaryOp .Add) oAddA := by
  obtain ⟨r, h1, h2⟩ := om_add (X := X) (E := E)
  refine ⟨_, opr_or h1 op_catA, fun x y v u S m H Q rs hv hw p => ?_⟩
  unfold oAddA at p
  split at p
  · rename_i a b
    split at p
    · rename_i hl
      cases hv with
      | @tup _ ad xs ha r1 =>
        cases hw with
        | @tup _ bd ys hb r2 =>
          refine .inr ⟨ad, bd, xs, ys, rfl, rfl, .inl (.inl ha), .inl (.inl hb), by rw [← r1.len, ← r2.len, line_eq]; exact hl, fun z => ?_, fun _ z => ?_, fun _ _ q hq => post_tup rs p hq (r1.app r2)⟩
          · have e : a = [] := List.length_eq_zero_iff.mp (by rw [r1.len, z]; rfl)
            subst e
            exact p.here rs _ (.tup hb r2)
          · have e : b = [] := List.length_eq_zero_iff.mp (by rw [r2.len, z]; rfl)
            subst e
            rw [List.append_nil] at p
            exact p.here rs _ (.tup ha r1)
    · exact p.elim
  · exact .inl (h2 _ _ _ _ S m H Q rs hv hw p)
theorem slmA : SlM X E oSlA := by
  obtain ⟨r, h1, h2⟩ := slm (X := X) (E := E)
  refine ⟨_, slr_or h1 sl_tupA, fun x lo hi v S m H Q rs hv p => ?_⟩
  unfold oSlA at p
  split at p
  · rename_i l
    cases hv with
    | @tup _ ad xs ha r1 =>
      refine .inr ⟨ad, xs, rfl, .inl (.inl ha), fun z => ?_, fun _ q hq => post_tup rs p hq (cut_rel r1 lo hi)⟩
      have e : cut l lo hi = l := by
        unfold cut
        have z1 : sIx l.length 0 lo = 0 := by rw [r1.len]; exact z.1
        have z2 : sIx l.length l.length hi = l.length := by rw [r1.len]; exact z.2
        rw [z1, z2, List.drop_zero, Nat.sub_zero, List.take_length]
      rw [e] at p
      exact p.here rs _ (.tup ha r1)
  · exact .inl (h2 _ _ _ _ S m H Q rs hv p)
theorem se_slA {a : Expr} {fa : EM} {lo hi : Option Expr} {fl fh : PM} {p2 : Pos} (o : SlM X E oSlA) (ha : SE X E a fa) (hl : SO X E lo fl) (hh : SO X E hi fh) : SE X E (.Subscript a (.Slice lo hi none p2) pos) (mSlA fa fl fh) := by
  obtain ⟨r, ho, hr⟩ := o
  refine PE.mono (pe_slice ho ha hl hh) fun σ H Q ⟨fr, S, m, rf, rs, p⟩ => ?_
  refine rd_bind rf rs p fun x S1 m1 H1 e1 rf1 rs1 p1 v hv => ?_
  refine rdP_bind rf1 rs1 p1 fun l S2 m2 H2 e2 rf2 rs2 p2 => ?_
  refine rdP_bind rf2 rs2 p2 fun h S3 m3 H3 e3 rf3 rs3 p3 => ?_
  exact hr x l h v S3 m3 H3 Q rs3 ((hv.mono e2).mono e3) p3
end
end Sm

set_option Elab.async false
set_option linter.all false
set_option maxRecDepth 100000
/-! x[::s] with s = -1 -/
namespace Sm
open PySem PySem.Spec PyProof.Rows L2 Mi
theorem range_pick {α : Type} (l : List α) : (List.range l.length).filterMap (fun k => l[k]?) = l := by
  induction l with
  | nil => rfl
  | cons x r ih =>
    rw [List.length_cons, List.range_succ_eq_map, List.filterMap_cons]
    simp only [List.getElem?_cons_zero, List.filterMap_map]
    exact congrArg (x :: ·) ih
theorem fm_congr {α β : Type} {l : List α} {f g : α → Option β} (h : ∀ k, k ∈ l → f k = g k) : l.filterMap f = l.filterMap g := by
  induction l with
  | nil => rfl
  | cons x r ih => rw [List.filterMap_cons, List.filterMap_cons, h x (by simp), ih fun k hk => h k (List.mem_cons_of_mem _ hk)]
theorem pick_rev (its : List Value) : slicePick its.toArray none none (some (-1)) = its.reverse.toArray := by
  have e : (sliceRange ((its.length : Int) - 1) (-1) (-1)).filterMap (fun k => its[k]?) = its.reverse := by
    unfold sliceRange
    have hc : (if ((its.length : Int) - 1) > -1 then (((its.length : Int) - 1) - (-1) - (-1) - 1) / (-(-1)) else 0 : Int) = its.length := by
      split
      · show ((its.length : Int) - 1 - -1 - -1 - 1) / 1 = _
        rw [Int.ediv_one]; omega
      · omega
    rw [if_neg (by decide), hc]
    show ((List.range ((its.length : Int)).toNat).map fun (k : Nat) => ((its.length : Int) - 1 + -1 * (k : Int)).toNat).filterMap (fun k => its[k]?) = _
    rw [Int.toNat_natCast, List.filterMap_map]
    conv => rhs; rw [← range_pick its.reverse, List.length_reverse]
    refine fm_congr fun k hk => ?_
    have hk' : k < its.length := List.mem_range.mp hk
    show its[(((its.length : Int) - 1) + -1 * (k : Int)).toNat]? = _
    rw [List.getElem?_reverse hk']
    congr 1
    omega
  show ((sliceRange ((its.toArray.size : Int) - 1) (-1) (-1)).filterMap (its.toArray[·]?)).toArray = _
  simp only [List.size_toArray, List.getElem?_toArray]
  rw [e]
theorem vals_rev {xs : List V} {vs : List Value} (r : Vals xs vs) : Vals xs.reverse vs.reverse := by
  induction r with
  | nil => exact .nil
  | cons h _ ih => rw [List.reverse_cons, List.reverse_cons]; exact ih.append (.cons h .nil)
theorem sl_rev {X : Cx} : ∀ (pins : List (Addr × Obj)) (s : Shared) (σ : L2.St) (H : Hp) (x : V) (v vs : Value) (sl : Addr) (Q : VK), Inv X pins σ H s → RelV x v → s.heap.IsSliceOf sl .none .none vs → IsPart vs (some (-1)) →
    (∃ a xs, x = .ref a ∧ SqL X.K H a xs ∧ ∀ p, H p = none → Q (.ref p) (upd H p (.lst xs.reverse))) →
    ∃ T id, typeLookup (.type T) "__getitem__" = pure (some (.builtin id)) ∧ s.TypeIs v T ∧ wpAny (model X.prog X.w) X.A (getItem v (.ref sl)) (EP X pins σ Q) X.xe s := by
  intro pins s σ H x v vs sl Q I rx hs ps h
  obtain ⟨a, xs, rfl, hx, q⟩ := h
  cases rx
  obtain ⟨its, r, ht, hz⟩ := I.list hx
  have hlen := r.length
  refine ⟨"list", _, slot_list_getitem.lookup, ht.isList.typeIs, ?_⟩
  refine wpAny_getItem_list_slice ht.isList hs .none .none ps (by simp) ?_ (by rw [List.size_toArray] <;> omega)
  rw [pick_rev]
  refine ⟨.ref s.heap.objs.size, _, I.laid (t' := s.toks) (o := .lst xs.reverse) (fun b ob q => Heap.get?_push_of_some _ q) (Nat.le_refl _) ?_, rfl, q _ (I.hok.fresh (Nat.le_refl _))⟩
  exact ⟨by rw [List.length_reverse]; exact hz, _, 0, vals_rev r, Heap.get?_push_size _ rfl⟩
section
variable {X : Cx} {e st : Expr} {te : TE} {ts : TO} {pos p2 : Pos}
theorem pe_rev (he : PE X e te) (hs : PO X (some st) ts) : PE X (.Subscript e (.Slice none none (some st) p2) pos) (fun σ H Q => te σ H fun x H1 => ts σ H1 fun o H2 => o = some (-1) ∧ ∃ a xs, x = .ref a ∧ SqL X.K H2 a xs ∧ ∀ p, H2 p = none → Q (.ref p) (upd H2 p (.lst xs.reverse))) := by
  refine ⟨fun pins s σ H Q I h => ?_⟩
  refine Subscript_ (thn (he.run pins s σ H _ I h) fun v s1 ⟨x, H1, I1, r1, q1⟩ => ?_)
  refine wpAny_Slice ?_
  rw [evalPart_none]
  refine wpAny_pure ?_
  refine wpAny_pure ?_
  refine thn (hs.run pins s1 σ H1 _ I1 q1) fun vs s2 ⟨o, H2, I2, ps, e1, q2⟩ => ?_
  subst e1
  have I4 : Inv X pins σ H2 { s2 with heap := s2.heap.push { cls := .type "slice", data := .fields #[.none, .none, vs] } } := I2.kept (t' := s2.toks) fun b ob q => Heap.get?_push_of_some _ q
  obtain ⟨T, id, hT, ht, hg⟩ := sl_rev pins { s2 with heap := s2.heap.push { cls := .type "slice", data := .fields #[.none, .none, vs] } } σ H2 x v vs s2.heap.objs.size Q I4 r1 (Heap.IsSliceOf.new ..) ps q2
  show wpAny (model X.prog X.w) X.A (subscriptTail e (.Slice none none (some st) p2) v (.ref s2.heap.objs.size)) (EP X pins σ Q) X.xe { s2 with heap := s2.heap.push { cls := .type "slice", data := .fields #[.none, .none, vs] } }
  exact tail_any (ops := [v, .ref s2.heap.objs.size]) ht hT hg (by with_unfolding_all rfl)
end
section
variable {X : Cx} {E : XK} {a st : Expr} {fa : EM} {fs : PM} {pos p2 : Pos}
theorem se_rev (ha : SE X E a fa) (hs : SO X E (some st) fs) : SE X E (.Subscript a (.Slice none none (some st) p2) pos) (mRev fa fs) := by
  refine PE.mono (pe_rev ha hs) fun σ H Q ⟨fr, S, m, rf, rs, p⟩ => ?_
  refine rd_bind rf rs p fun x S1 m1 H1 e1 rf1 rs1 p1 v hv => ?_
  refine rdP_bind rf1 rs1 p1 fun l S2 m2 H2 e2 rf2 rs2 p2 => ?_
  have hv2 := hv.mono e2
  split at p2
  · rename_i hl
    refine ⟨hl, ?_⟩
    unfold oRev at p2
    cases hv2 with
    | @ref n b ha =>
      dsimp only at p2
      split at p2
      · rename_i l hl
        obtain ⟨xs, h0, r⟩ := rs2.lst ha hl
        exact ⟨b, xs, rfl, h0, fun c hc => post_new rs2 p2 hc fun e => ⟨_, upd_same, r.rev.mono e⟩⟩
      · exact p2.elim
    | _ => exact p2.elim
  · exact p2.elim
end
end Sm

set_option Elab.async false
set_option linter.all false
set_option maxRecDepth 100000
set_option maxHeartbeats 2000000
/-! dicts whose keys are tuples: values, ==, clear -/
namespace Sm
open PySem PySem.Spec PyProof.Rows L2 Mi
section
variable {X : Cx} {pins : List (Addr × Obj)} {σ : L2.St} {H : Hp} {s : Shared} {d : Addr} {o : Obj}
theorem frzT2 {kvs : List (List L2.Key × V)} (I : Inv X pins σ H s) (h : H d = some (.frz o (.dT kvs))) :
    (d == sysModules) = false ∧ s.heap.get? d = some o ∧ o.ExactDict ∧ ∃ (es : Array DictEntry) (ep : Nat), o.data = .dict es ep ∧ es.size = kvs.length ∧
      ∀ (i : Nat) (k : List L2.Key) (v : V), kvs[i]? = some (k, v) → ∃ (en : DictEntry), es[i]? = some en ∧ RelV v en.val := by
  obtain ⟨hd, z, hs, xs, pr, o', es, ep, ho, hx, hdt, he, _⟩ := I.hok d _ h
  rw [hd] at ho
  cases ho
  refine ⟨hs, hd, hx, es, ep, hdt, ?_, fun i k v e => ?_⟩
  · have l1 : es.size = xs.length := size_of_entries he
    have l2 : kvs.length = xs.length := Paired.length pr
    omega
  · obtain ⟨b, hb, e1, e2, e3⟩ := paired_get pr e
    have q := entry_at he i
    rw [hb] at q
    exact ⟨_, q, e3⟩
def ItdT (d : Addr) (o : Obj) (kvs : List (List L2.Key × V)) : It :=
  ⟨fun i H => H d = some (.frz o (.dT kvs)) ∧ i < kvs.length, fun i H x H' => H' = H ∧ ∃ k, kvs[i]? = some (k, x), fun i H => H d = some (.frz o (.dT kvs)) ∧ kvs.length ≤ i⟩
theorem turn_valsT {P : Program} {w : World} {K : PySem.W.Frag} {tg : Expr} {es : Array DictEntry} {ep : Nat} {kvs : List (List L2.Key × V)} (it : Addr) (hod : o.data = .dict es ep) : Turn P w K tg (ItdT d o kvs) [it] it (fun i h => h.IsValIter it d i kvs.length ep) where
  mem := by simp
  obj := fun i h st b hb => by
    have e : b = it := by simpa using hb
    subst e
    obtain ⟨oi, e, c, dd⟩ := st
    exact ⟨oi, e, fun v z => by rw [dd] at z; cases z⟩
  keep := fun i h h' st k => st.at fun oi e => k it (by simp) oi e
  item := by
    intro X hP hw hK hc i pins s σ H E I hf st hg
    subst hP hw hK
    obtain ⟨hd, hi⟩ := hg
    obtain ⟨f0, f1, f2, f3, f4, f5⟩ := hf it (by simp)
    obtain ⟨hs, hgd, hx, es', ep', hdt, hsz, ent⟩ := frzT2 I hd
    obtain ⟨rfl, rfl⟩ := dict_ep hod hdt
    obtain ⟨⟨k, v⟩, hkv⟩ : ∃ p, kvs[i]? = some p := ⟨kvs[i], List.getElem?_eq_getElem hi⟩
    obtain ⟨en, hen, rv⟩ := ent i k v hkv
    have hm : s.heap.DictRaw d es' ep' := ⟨o, hgd, hx, hdt⟩
    have hi' : i < es'.size := by omega
    rw [← hsz] at st
    refine wpAny_pyNext_values_item_raw st hm hi' fun h' st' sb => ?_
    have I1 : Inv X pins σ H { s with heap := h' } := I.turned (t' := s.toks) (fun b ob hb e => (sb.2 b hb).trans e) f0 f1 f3 f4 f5
    obtain ⟨oi, e, c, dd⟩ := id st'
    have ev : es'[i] = en := by
      rw [Array.getElem?_eq_getElem hi'] at hen
      exact Option.some.inj hen
    refine ⟨_, rfl, go_of (s := { s with heap := h' }) e c dd (by decide) ⟨v, H, I1, by rw [ev]; exact rv, ⟨rfl, k, hkv⟩, ?_, fun b hb => (hf b hb).1⟩⟩
    show h'.IsValIter it d (i + 1) kvs.length _
    rw [← hsz]
    exact st'
  done := by
    intro X hP hw hK hc i pins s σ H E I hf st hg
    subst hP hw hK
    obtain ⟨hd, hi⟩ := hg
    obtain ⟨f0, f1, f2, f3, f4, f5⟩ := hf it (by simp)
    obtain ⟨hs, hgd, hx, es', ep', hdt, hsz, ent⟩ := frzT2 I hd
    obtain ⟨rfl, rfl⟩ := dict_ep hod hdt
    have hm : s.heap.DictRaw d es' ep' := ⟨o, hgd, hx, hdt⟩
    rw [← hsz] at st
    exact wpAny_pyNext_values_end_raw (I.ok.hd hc) st hm (by omega) fun h' eb => ⟨rfl, I.turned (t' := s.toks) (fun b ob hb e => eb b ob hb e) f0 f1 f3 f4 f5⟩
  self := fun A i s Q E st h => wpAny_pyIter_valiter st h
def iValsT (td : TE) : TI := fun σ H R => td σ H fun x H1 => ∃ d o kvs, x = .ref d ∧ H1 d = some (.frz o (.dT kvs)) ∧ R (ItdT d o kvs) H1
end
section
variable {X : Cx} {tg e : Expr} {td : TE} {apos cpos : Pos}
theorem pi_valuesT (he : PE X e td) (hbase : attributeBase e "values" X.env (eval e X.env) = eval e X.env := by rfl) (hline : (apos.endLine == cpos.line) = true := by rfl) : PI X tg (.Call (.Attribute e "values" apos) [] [] cpos) (iValsT td) := by
  refine ⟨fun pins s σ H R I h => ?_⟩
  refine wpAny_Call_method (T := "dict") (id := "dict.values") hbase rfl hline F.plainAttrs_dict F.slot_dict_values F.type_dict_values (thn (he.run pins s σ H _ I h) fun u s1 ⟨x, H1, I1, rx, d, o, kvs, ex, hd, q⟩ => ?_)
  subst ex
  obtain rfl : u = Value.ref d := rx
  obtain ⟨hs, hgd, hx, es, ep, hdt, hsz, ent⟩ := frzT2 I1 hd
  have hm : s1.heap.DictRaw d es ep := ⟨o, hgd, hx, hdt⟩
  refine ⟨hm.typeIs, fun b e => ?_, ?_⟩
  · cases e
    exact ⟨o, hgd, hx.2.1⟩
  have I2 : Inv X pins σ H1 { s1 with heap := s1.heap.push { cls := .type "dict_values", data := .fields #[.ref d] } } := I1.kept (t' := s1.toks) fun b ob q => Heap.get?_push_of_some _ q
  have fin : wpAny (model X.prog X.w) X.A (pyIter (.ref s1.heap.objs.size)) (PIE X pins σ tg R) X.xe { s1 with heap := s1.heap.push { cls := .type "dict_values", data := .fields #[.ref d] } } := by
    refine wpAny_pyIter_values_raw (d := d) ⟨_, Heap.get?_push_size _ rfl, rfl, rfl⟩ (hm.at fun o q => Heap.get?_push_of_some _ q) (pi_one (tk := s1.toks) I2 _ (turn_valsT _ hdt) ⟨_, Heap.get?_push_size _ rfl, rfl, ?_⟩ q)
    rw [hsz] <;> rfl
  show wpAny _ _ (callWith cpos (.builtin "dict.values") [.ref d] [] []) _ X.xe s1
  exact method_meetsIn F.slot_dict_values F.entry_dict_values rfl (PySem.evalArgs_none ⟨rfl, hm.typeIs, F.args_dict_values_1 _, _, meets_dict_values_raw d hs, ⟨es, ep, hm⟩, fin⟩)
end
def rDClearT : V → List V → Hp → VK → Prop := fun x vs H Q => ∃ (a : Addr) (kvs : List (List L2.Key × V)), x = .ref a ∧ vs = [] ∧ H a = some (.dT kvs) ∧ Q .non (upd H a (.dT []))
theorem mtd_clearT {X : Cx} : MtR X "dict.clear" rDClearT := by
  intro pins s σ H x v vs us Q I rx rv h
  obtain ⟨a, kvs, ex, ev, e, q⟩ := h
  subst ex
  subst ev
  obtain rfl := rx
  have hus := rv.zero
  subst hus
  obtain ⟨z, hd, xs, rel, o, es, ep, ho, hx, hdt, he, _⟩ := dt_of I.hok e
  have hm : s.heap.DictRaw a es ep := ⟨o, ho, hx, hdt⟩
  have hsz : es.size ≤ sizeLine := by
    have l1 : es.size = xs.length := size_of_entries he
    have l2 : kvs.length = xs.length := Paired.length rel
    omega
  refine call_meetsIn PySem.F.slot_dict_clear hm.typeIs PySem.F.entry_dict_clear (PySem.F.args_dict_clear_1 _) (meets_dict_clear_raw a) ⟨es, ep, hm, hsz, fun h' dd' hs => ?_⟩
  obtain ⟨o', ho', hx', hdt'⟩ := dd'
  have new : ObjOk X.prog X.w (upd H a (.dT [])) h' a (.dT []) := ⟨Nat.zero_le _, hd, [], .nil, o', #[], ep + 1, ho', hx', hdt', rfl, List.nodup_nil⟩
  exact ⟨.non, _, d_write I (by rw [e]; exact True.intro) hs ⟨_, ho'⟩ new, rfl, q⟩
/-! ### == -/
section
variable {prog : Program} {w : World} {K : Type} [DecidableEq K] {knd : HeapKind prog w K} {A : Around} {E : Value → Shared → Prop} {s : Shared}
theorem samePairsH {nm : String} {a b : Addr} {xa xb : List (K × Addr × Value)} {Q : Bool → Shared → Prop} (ha : (a == sysModules) = false) (hb : (b == sysModules) = false) (hu : knd.room A)
    (da : s.heap.DictOfH knd a xa) (db : s.heap.DictOfH knd b xb) (hl : xa.length = xb.length) (hits : ∀ x ∈ xa, ∃ p, atKey xb x.1 = some p ∧ SeqAt.EqAt A s x.2.2 p.2 true) (h : Q true s) :
    wpAny (model prog w) A (Builtin.Dict.samePairs nm a b) Q E s := by
  obtain ⟨oa, es, ep, hoa, _, hda, hea, hka, hna⟩ := da
  obtain ⟨ob, es', ep', hob, _, hdb, heb, hkb, hnb⟩ := db
  have hla : xa.length = es.size := (size_of_entries hea).symm
  have hlb : xb.length = es'.size := (size_of_entries heb).symm
  have hsz : es.size = es'.size := by omega
  unfold Builtin.Dict.samePairs Builtin.Dict.showsAll
  rw [if_neg (show ¬ (a == sysModules) = true by rw [ha]; exact Bool.false_ne_true), if_neg (show ¬ (b == sysModules) = true by rw [hb]; exact Bool.false_ne_true)]
  refine wpAny_bind (wpAny_pure (wpAny_bind (wpAny_pure ?_)))
  refine wpAny_bind (wpAny_dictEntries hoa hda ?_)
  dsimp only
  refine wpAny_bind (wpAny_dictEntries hob hdb ?_)
  rw [if_neg (by rw [hsz]; simp)]
  refine wpAny_bind (wpAny_dictEpoch hoa hda ?_)
  refine wpAny_bind ?_
  rw [Std.Legacy.Range.forIn_eq_forIn_range']
  simp only [Std.Legacy.Range.size, Nat.sub_zero, Nat.add_sub_cancel, Nat.div_one]
  refine wpAny_forIn_list _
    (fun rest q s' => s' = s ∧ q = (none, ()) ∧ ∃ i, rest = List.range' i (es.size - i) ∧ i ≤ es.size)
    _ ?_ ?_ _ _ ⟨rfl, rfl, 0, by simp, Nat.zero_le _⟩
  · rintro x rest q s' ⟨rfl, rfl, i, hr, hi⟩
    have hlt : i < es.size := by
      rcases Nat.lt_or_ge i es.size with h | h
      · exact h
      · rw [Nat.sub_eq_zero_of_le h] at hr; simp at hr
    obtain ⟨rfl, hrest⟩ : x = i ∧ rest = List.range' (i + 1) (es.size - (i + 1)) := by
      have e : es.size - i = (es.size - (i + 1)) + 1 := by omega
      rw [e, List.range'_succ] at hr
      injection hr with h1 h2
      exact ⟨h1, h2⟩
    refine wpAny_bind (wpAny_dictEntries hoa hda ?_)
    have hlt' : x < xa.length := by rw [hla]; exact hlt
    have hxx : xa[x]? = some xa[x] := List.getElem?_eq_getElem hlt'
    obtain ⟨⟨k, ad, v⟩, hkv⟩ : ∃ p, xa[x] = p := ⟨_, rfl⟩
    have een : es[x]? = some (entryOfKey knd (k, ad, v)) := by rw [entry_at hea x, hxx, hkv]; rfl
    have hmem : (k, ad, v) ∈ xa := by rw [← hkv]; exact List.getElem_mem hlt'
    obtain ⟨p, hp, heq⟩ := hits _ hmem
    rw [een]
    refine wpAny_bind (wpAny_holding (wpAny_bind (wpAny_dictFind_heap hu (hka _ hmem) hob hdb heb hkb hnb (fun hno => ?_) fun j p' hj => ?_)))
    · rw [atKey_none_of_get hno] at hp; cases hp
    · rw [atKey_of_get hnb hj] at hp
      obtain rfl := Option.some.inj hp
      refine wpAny_bind (wpAny_dictEntries hob hdb ?_)
      rw [entry_at heb j, hj]
      refine wpAny_holding (heq prog w _ _ ?_)
      show wpAny _ _ (if (!true) = true then _ else _) _ _ _
      rw [if_neg (by decide)]
      refine wpAny_bind (wpAny_dictEpoch hoa hda ?_)
      rw [if_neg (by simp)]
      exact wpAny_pure ⟨rfl, rfl, x + 1, hrest, hlt⟩
  · rintro q s' ⟨rfl, rfl, i, hr, hi⟩
    exact wpAny_pure h
theorem keqH_eq {a b : Addr} {xa xb : List (K × Addr × Value)} {Q : Value → Shared → Prop} (ha : (a == sysModules) = false) (hb : (b == sysModules) = false) (hr : knd.room A.in1)
    (da : s.heap.DictOfH knd a xa) (db : s.heap.DictOfH knd b xb) (hu : A.units < cLine) (hl : xa.length = xb.length) (hits : ∀ x ∈ xa, ∃ p, atKey xb x.1 = some p ∧ SeqAt.EqAt A.in1 s x.2.2 p.2 true) (h : Q (.bool true) s) :
    wpAny (model prog w) A (compareOp .Eq (.ref a) (.ref b)) Q E s := by
  refine wpAny_richCompare_same_room (op := .Eq) da.typeIs db.typeIs PySem.F.slot_dict_eq (wpAny_call_entry PySem.F.slot_dict_eq da.typeIs PySem.F.entry_dict_eq ?_ (PySem.F.args_dict_eq_2 _ _)) hu
  show wpAny _ _ (Builtin.Dict.dictSlotArgs "__eq__" ⟨[.ref a, .ref b], []⟩ >>= _) _ _ s
  refine wpAny_bind ?_
  unfold Builtin.Dict.dictSlotArgs
  refine wpAny_bind (wpAny_notOrdered_dict da.typeIs ?_)
  show wpAny _ _ (pure (Value.ref a, Value.ref b)) _ _ s
  refine wpAny_pure ?_
  refine wpAny_bind (wpAny_isInstance (T := "dict") db.typeIs PySem.F.sub_dict_dict ?_)
  simp only [Bool.not_true, Bool.false_eq_true, if_false]
  refine wpAny_bind (wpAny_pure (wpAny_bind (wpAny_pure ?_)))
  refine wpAny_bind (samePairsH ha hb hr da db hl hits ?_)
  refine wpAny_pure ⟨_, rfl, ?_, ?_⟩
  · exact fun x => nomatch x
  · simpa using h
theorem keqH_ne {a b : Addr} {xa xb : List (K × Addr × Value)} {Q : Value → Shared → Prop} (ha : (a == sysModules) = false) (hb : (b == sysModules) = false) (hr : knd.room A.in1)
    (da : s.heap.DictOfH knd a xa) (db : s.heap.DictOfH knd b xb) (hu : A.units < cLine) (hl : xa.length = xb.length) (hits : ∀ x ∈ xa, ∃ p, atKey xb x.1 = some p ∧ SeqAt.EqAt A.in1 s x.2.2 p.2 true) (h : Q (.bool false) s) :
    wpAny (model prog w) A (compareOp .NotEq (.ref a) (.ref b)) Q E s := by
  refine wpAny_richCompare_same_room (op := .NotEq) da.typeIs db.typeIs PySem.F.slot_dict_ne (wpAny_call_entry PySem.F.slot_dict_ne da.typeIs PySem.F.entry_dict_ne ?_ (PySem.F.args_dict_ne_2 _ _)) hu
  show wpAny _ _ (Builtin.Dict.dictSlotArgs "__ne__" ⟨[.ref a, .ref b], []⟩ >>= _) _ _ s
  refine wpAny_bind ?_
  unfold Builtin.Dict.dictSlotArgs
  refine wpAny_bind (wpAny_notOrdered_dict da.typeIs ?_)
  show wpAny _ _ (pure (Value.ref a, Value.ref b)) _ _ s
  refine wpAny_pure ?_
  refine wpAny_bind (wpAny_isInstance (T := "dict") db.typeIs PySem.F.sub_dict_dict ?_)
  simp only [Bool.not_true, Bool.false_eq_true, if_false]
  refine wpAny_bind (wpAny_pure (wpAny_bind (wpAny_pure ?_)))
  refine wpAny_bind (samePairsH ha hb hr da db hl hits ?_)
  refine wpAny_pure ⟨_, rfl, ?_, ?_⟩
  · exact fun x => nomatch x
  · simpa using h
end
section
variable {X : Cx}
theorem hitsT {A : Around} {s : Shared} {H : Hp} {ls : List (List L2.Key × V)} {xb : List (List L2.Key × Addr × Value)} (rb : KT H ls xb) {ks : List (List L2.Key × V)} {xa : List (List L2.Key × Addr × Value)} (ra : KT H ks xa) :
    (∀ p ∈ ks, valV ls p.1 = some p.2 ∧ flatB p.2 = true) → ∀ x ∈ xa, ∃ p, atKey xb x.1 = some p ∧ SeqAt.EqAt A s x.2.2 p.2 true := by
  induction ra with
  | nil => intro _ x hx; cases hx
  | @cons p q ps qs h t ih =>
    intro hp x hx
    rcases List.mem_cons.mp hx with e | hx
    · subst e
      obtain ⟨h1, h2, h3⟩ := h
      obtain ⟨e, f⟩ := hp p List.mem_cons_self
      have rr : L2.RelO (some p.2) ((atKey xb p.1).map (·.2)) := by rw [← e]; exact rb.val p.1
      obtain ⟨y, hy, ry⟩ := rr.some_of
      obtain ⟨z, hz, rfl⟩ := Option.map_eq_some_iff.mp hy
      rw [h1] at hz
      exact ⟨z, hz, eqAt_same h3 ry f⟩
    · exact ih (fun p hm => hp p (List.mem_cons_of_mem _ hm)) x hx
def rEqDT : R2 := fun x y H Q => ∃ a b ks ls, x = .ref a ∧ y = .ref b ∧ H a = some (.dT ks) ∧ H b = some (.dT ls) ∧ ks.length = ls.length ∧ (∀ p ∈ ks, valV ls p.1 = some p.2 ∧ flatB p.2 = true) ∧ Q (.bl true) H
def rNeDT : R2 := fun x y H Q => ∃ a b ks ls, x = .ref a ∧ y = .ref b ∧ H a = some (.dT ks) ∧ H b = some (.dT ls) ∧ ks.length = ls.length ∧ (∀ p ∈ ks, valV ls p.1 = some p.2 ∧ flatB p.2 = true) ∧ Q (.bl false) H
theorem op_eq_dictT (hu : X.A.units + 1 < cLine) : OpR X (compareOp .Eq) rEqDT := by
  intro pins s σ H x y v u Q I rx ry h
  obtain ⟨a, b, ks, ls, rfl, rfl, ea, eb, hlen, hp, q⟩ := h
  obtain rfl : v = Value.ref a := rx
  obtain rfl : u = Value.ref b := ry
  obtain ⟨_, ya, xa, ra, da⟩ := dt_of I.hok ea
  obtain ⟨_, yb, xb, rb, db⟩ := dt_of I.hok eb
  have hl : xa.length = xb.length := by rw [← Paired.length ra, ← Paired.length rb]; exact hlen
  exact keqH_eq ya yb (tupleKind_room_in1 hu) da db (by omega) hl (hitsT rb ra hp) (fin_bl I q rfl)
theorem op_ne_dictT (hu : X.A.units + 1 < cLine) : OpR X (compareOp .NotEq) rNeDT := by
  intro pins s σ H x y v u Q I rx ry h
  obtain ⟨a, b, ks, ls, rfl, rfl, ea, eb, hlen, hp, q⟩ := h
  obtain rfl : v = Value.ref a := rx
  obtain rfl : u = Value.ref b := ry
  obtain ⟨_, ya, xa, ra, da⟩ := dt_of I.hok ea
  obtain ⟨_, yb, xb, rb, db⟩ := dt_of I.hok eb
  have hl : xa.length = xb.length := by rw [← Paired.length ra, ← Paired.length rb]; exact hlen
  exact keqH_ne ya yb (tupleKind_room_in1 hu) da db (by omega) hl (hitsT rb ra hp) (fin_bl I q rfl)
end
end Sm

set_option Elab.async false
set_option linter.all false
set_option maxRecDepth 100000
set_option maxHeartbeats 2000000
/-! walks over dicts, == of dicts, clear, against the layer -/
namespace Sm
open PySem PySem.Spec PyProof.Rows L2 Mi
section
variable {α β : Type} {c : Ct} {E : XK} {m m' : List Addr} {H H' : Hp} {r : Res α}
theorem post_bind0 {f : α → Store → Res β} {k : β → Store → List Addr → Hp → Prop} (p : Post c E m H (r.bind f) k) : Post c E m H r fun a S _ _ => Post c E m H (f a S) k := by
  cases r with
  | ok a S => exact fun m2 H2 e2 _ => p
  | exc x S => exact p
  | bad => exact p
theorem RF.mono0 {fr : Fr} {σ : L2.St} (e : Ex0 m H m' H') (h : RF c.K H m fr σ) : RF c.K H' m' fr σ := ⟨h.len, fun i d q => let ⟨v, h1, h2⟩ := h.get i d q; ⟨v, h1, h2.mono0 e⟩⟩
structure WalkZ (c : Ct) (J : It) (n : Nat) (z : O) (l : List D) (m0 : List Addr) (H0 : Hp) : Prop where
  go : ∀ i m S H, i < l.length → Ext m0 H0 m H → RS c m S H → S[n]? = some z → J.go i H
  stop : ∀ m S H, Ext m0 H0 m H → RS c m S H → S[n]? = some z → J.stop l.length H
  yld : ∀ i m S H x H' d, l[i]? = some d → Ext m0 H0 m H → RS c m S H → S[n]? = some z → J.yld i H x H' → Ext m H m H' ∧ RS c m S H' ∧ RelD c.K H' m d x
def forR (g : TG) (tb : TS) (D : Ends) (σ : L2.St) (J : It) (H1 : Hp) : Prop := ∃ W : Nat → Nat → L2.St → Hp → Prop, (∃ m, W 0 m σ H1) ∧ ∀ i m σ H, W i m σ H →
  (J.stop i H ∧ D.nx σ H) ∨ (J.go i H ∧ ∃ N : L2.St → Hp → Prop, (∀ σ' H', N σ' H' → ∃ m', m' < m ∧ W (i + 1) m' σ' H') ∧ ∀ x H', J.yld i H x H' → g x σ H' fun σ2 H2 => tb { D with nx := N, ct := N, bk := D.nx } σ2 H2)
theorem loopZ_for {J : It} {z : O} {n : Nat} {l : List D} {m1 : List Addr} {H1 : Hp} {S1 : Store} {fr : Fr} {σ : L2.St} {g : GM} {b : SM} {De : Ends} (w : WalkZ c J n z l m1 H1) (rf : RF c.K H1 m1 fr σ) (rs : RS c m1 S1 H1)
    (p : Post c E m1 H1 (loopZ n z (fun d fr S => (g d fr S).bind fun fr' S' => b fr' S') l fr S1) (kS c De)) : forR (rdG c E g) (rdS c E b) De σ J H1 := by
  refine ⟨fun i k σ' H' => i ≤ l.length ∧ k = l.length - i ∧ ∃ fr' S' m', Ext m1 H1 m' H' ∧ RF c.K H' m' fr' σ' ∧ RS c m' S' H' ∧ Post c E m' H' (loopZ n z (fun d fr S => (g d fr S).bind fun fr' S' => b fr' S') (l.drop i) fr' S') (kS c De),
    ⟨l.length, Nat.zero_le _, rfl, fr, S1, m1, Ext.refl _ _, rf, rs, p⟩, fun i k σ' H' hw => ?_⟩
  obtain ⟨hi', hk, fr', S', m', e2, rf2, rs2, p2⟩ := hw
  by_cases hlt : i < l.length
  · have hd : l.drop i = l[i] :: l.drop (i + 1) := List.drop_eq_getElem_cons hlt
    rw [hd] at p2
    unfold loopZ at p2
    split at p2
    · rename_i st
      have st := of_dec st
      refine .inr ⟨w.go i m' S' H' hlt e2 rs2 st, fun σ2 H2 => ∃ fr2 S2 m2, Ext m1 H1 m2 H2 ∧ RF c.K H2 m2 fr2 σ2 ∧ RS c m2 S2 H2 ∧ Post c E m2 H2 (loopZ n z (fun d fr S => (g d fr S).bind fun fr' S' => b fr' S') (l.drop (i + 1)) fr2 S2) (kS c De),
        fun σ2 H2 q => ⟨l.length - (i + 1), by omega, by omega, rfl, q⟩, fun x H'' y => ?_⟩
      obtain ⟨e3, rs3, r3⟩ := w.yld i m' S' H' x H'' _ (List.getElem?_eq_getElem hlt) e2 rs2 st y
      refine ⟨_, fr', S', m', r3, rf2.mono e3, rs3, (post_bind (post_bind p2)).ext e3 |>.imp fun fr2 S2 m2 H2 e4 rs4 p4 σ2 rf4 => ?_⟩
      refine ⟨fr2, S2, m2, rf4, rs4, p4.imp fun o S3 m3 H3 e5 rs5 p5 => ?_⟩
      have ee : Ext m1 H1 m3 H3 := ((e2.trans e3).trans e4).trans e5
      cases o with
      | nx fr3 => exact fun σ3 rf5 => ⟨fr3, S3, m3, ee, rf5, rs5, p5⟩
      | ct fr3 => exact fun σ3 rf5 => ⟨fr3, S3, m3, ee, rf5, rs5, p5⟩
      | bk fr3 => exact p5.here rs5
      | rt d => exact p5.here rs5
    · exact p2.elim
  · have e : i = l.length := by omega
    subst e
    rw [List.drop_length] at p2
    unfold loopZ at p2
    split at p2
    · rename_i st
      exact .inl ⟨w.stop m' S' H' e2 rs2 (of_dec st), p2.here rs2 σ' rf2⟩
    · exact p2.elim
/-- the ends of a locked statement -/
abbrev lockD (a : Addr) (od : Obj) (u : HO) (D : Ends) : Ends := ⟨fun σ' H' => H' a = some (.frz od u) ∧ D.nx σ' (upd H' a u), fun v H' => H' a = some (.frz od u) ∧ D.rt v (upd H' a u), fun σ' H' => H' a = some (.frz od u) ∧ D.bk σ' (upd H' a u), fun σ' H' => H' a = some (.frz od u) ∧ D.ct σ' (upd H' a u)⟩
theorem forZ_core {fe : EM} {g : GM} {b : SM} {S : Store} {fr : Fr} {σ : L2.St} {De : Ends} {n : Nat} {o z : O} {l : List D} {a : Addr} {u : HO} (rf : RF c.K H m fr σ) (rs : RS c m S H) (ha : m[n]? = some a) (hs : S[n]? = some o) (lo : liv o) (zo : own z) (nol : ∀ xs, u ≠ .lst xs) (nof : ∀ od u', u ≠ .frz od u') (notu : ∀ xs, u ≠ .tup xs) (hu : H a = some u)
    (p : Post c E m H (runZ fe g b fr S n o z l) (kS c De)) (od : Obj)
    (rz : ∀ m' H', Ext m H m' H' → H' a = some (.frz od u) → RelO c H' m' a z)
    (ro : ∀ m' H', Ex0 m H m' H' → H' a = some u → RelO c H' m' a o)
    (J : It) (wz : ∀ m1 H1, Ext m H m1 H1 → H1 a = some (.frz od u) → WalkZ c J n z l m1 H1) :
    rdE c E fe σ (upd H a (.frz od u)) fun v H1 => v = .ref a ∧ H1 a = some (.frz od u) ∧ forR (rdG c E g) (rdS c E b) (lockD a od u De) σ J H1 := by
  obtain ⟨rsL, eL⟩ := rs.lockz ha hs lo (z := z) (u := .frz od u) fun e => rz _ _ e upd_same
  unfold runZ at p
  have p1 := (post_bind0 p).ext eL
  refine ⟨fr, S.set n z, m, rf.mono eL, rsL, p1.imp fun x S1 m1 H1 e1 rs1 q v hv => ?_⟩
  split at q
  · rename_i n'
    split at q
    · rename_i hn
      subst hn
      cases hv with
      | @ref _ a' h =>
        have h2 := e1.mx _ _ ha
        rw [h] at h2
        obtain rfl := Option.some.inj h2
        have hz1 := e1.fz _ _ _ (upd_same (H := H) (a := a') (o := .frz od u))
        refine ⟨rfl, hz1, ?_⟩
        have eH1 := eL.trans e1
        have q1 := (post_bind0 q).ext eH1
        refine loopZ_for (wz _ _ eH1 hz1) (rf.mono eH1) rs1 (q1.imp fun out S2 m2 H2 e2 rs2 r => ?_)
        split at r
        · rename_i hst
          have hst := of_dec hst
          have hz2 := e2.fz _ _ _ hz1
          have ha2 := e2.mx _ _ h
          have eH2 := eH1.trans e2
          have ex : Ex0 m2 H2 m2 (upd H2 a' u) := ⟨fun _ _ z => z, fun b u t q => by
            have ne : b ≠ a' := fun w => by
              subst w; rw [hz2] at q
              rcases t with ⟨xs, rfl⟩ | ⟨o, xs, rfl⟩ | ⟨fs, rfl⟩
              · cases q
              · injection q with q; injection q with _ q; exact notu xs q
              · cases q
            rw [upd_ne ne]; exact q⟩
          have ex2 : Ex0 m H m2 (upd H2 a' u) := ⟨eH2.mx, fun b u t q => ex.ts b u t (eH2.ts b u t q)⟩
          have rsU := rs2.unlockz ha2 hst zo lo.own hz2 nol notu fun _ => ro _ _ ex2 upd_same
          have eF : Ext m H m2 (upd H2 a' u) := ⟨ex2, fun b ob u' q => by
            have ne : b ≠ a' := fun w => by subst w; rw [hu] at q; exact nof ob u' (Option.some.inj q)
            rw [upd_ne ne]; exact eH2.fz _ _ _ q⟩
          have fin := r m2 (upd H2 a' u) eF rsU
          cases out with
          | nx fr' => exact fun σ' rf' => ⟨hz2, fin σ' (rf'.mono0 ex)⟩
          | ct fr' => exact fun σ' rf' => ⟨hz2, fin σ' (rf'.mono0 ex)⟩
          | bk fr' => exact fun σ' rf' => ⟨hz2, fin σ' (rf'.mono0 ex)⟩
          | rt d => exact fun v rv => ⟨hz2, fin v (rv.mono0 ex)⟩
        · exact r.elim
    · exact q.elim
  · exact q.elim
theorem relk_at {κ κ' : Type} {f : κ → κ'} {K : PySem.W.Frag} {k : List (κ × D)} {kv : List (κ' × V)} (h : RelK K H m f k kv) : ∀ {i : Nat} {p : κ × D}, k[i]? = some p → ∃ q, kv[i]? = some q ∧ f p.1 = q.1 ∧ RelD K H m p.2 q.2 := by
  induction h with
  | nil => intro i p e; simp at e
  | cons r t ih =>
    intro i p e
    cases i with
    | zero => simp only [List.getElem?_cons_zero, Option.some.injEq] at e; subst e; exact ⟨_, rfl, r⟩
    | succ j => simp only [List.getElem?_cons_succ] at e ⊢; exact ih e
theorem kyD_rel {K : PySem.W.Frag} (k : Ky) : RelD K H m (kyD k) (kV (kyK k)) := by
  cases k with
  | inl i => exact .int i
  | inr s => exact .str s
theorem kyDs_rel {K : PySem.W.Frag} : ∀ k : List Ky, RelL K H m (k.map kyD) ((k.map kyK).map kV)
  | [] => .nil
  | x :: r => .cons (kyD_rel x) (kyDs_rel r)
theorem wz_keyK {n : Nat} {z : O} {a : Addr} {od : Obj} {k : List (Ky × D)} {kv : List (L2.Key × V)} (h : H a = some (.frz od (.dK kv))) (r : RelK c.K H m kyK k kv) : WalkZ c (Itk a od kv) n z (k.map fun p => kyD p.1) m H where
  go := fun i m' S H' hi e rs st => ⟨e.fz _ _ _ h, by rw [List.length_map] at hi; rw [← Paired.length r]; exact hi⟩
  stop := fun m' S H' e rs st => ⟨e.fz _ _ _ h, by rw [List.length_map, ← Paired.length r]; exact Nat.le_refl _⟩
  yld := fun i m' S H' x H'' d hd e rs st y => by
    obtain ⟨rfl, kk, v, hv, rfl⟩ := y
    rw [List.getElem?_map] at hd
    obtain ⟨p, hp, rfl⟩ := Option.map_eq_some_iff.mp hd
    obtain ⟨q, hq, e1, _⟩ := relk_at r hp
    rw [hv] at hq
    obtain rfl := Option.some.inj hq
    refine ⟨Ext.refl _ _, rs, ?_⟩
    have e1 : kyK p.1 = kk := e1
    rw [← e1]
    exact kyD_rel _
theorem wz_keyT {n : Nat} {z : O} {a : Addr} {od : Obj} {k : List (List Ky × D)} {kv : List (List L2.Key × V)} (h : H a = some (.frz od (.dT kv))) (r : RelK c.K H m (fun x => x.map kyK) k kv) : WalkZ c (Itkt a od kv) n z (k.map fun p => .tup (p.1.map kyD)) m H where
  go := fun i m' S H' hi e rs st => ⟨e.fz _ _ _ h, by rw [List.length_map] at hi; rw [← Paired.length r]; exact hi⟩
  stop := fun m' S H' e rs st => ⟨e.fz _ _ _ h, by rw [List.length_map, ← Paired.length r]; exact Nat.le_refl _⟩
  yld := fun i m' S H' x H'' d hd e rs st y => by
    obtain ⟨rfl, kk, v, q, hv, rfl, hq2⟩ := y
    rw [List.getElem?_map] at hd
    obtain ⟨p, hp, rfl⟩ := Option.map_eq_some_iff.mp hd
    obtain ⟨q', hq, e1, _⟩ := relk_at r hp
    rw [hv] at hq
    obtain rfl := Option.some.inj hq
    refine ⟨Ext.refl _ _, rs, .tup hq2 ?_⟩
    have e1 : p.1.map kyK = kk := e1
    rw [← e1]
    exact kyDs_rel _
theorem wz_valK {n : Nat} {z : O} {a : Addr} {od : Obj} {k : List (Ky × D)} {kv : List (L2.Key × V)} (h : H a = some (.frz od (.dK kv))) (r : RelK c.K H m kyK k kv) : WalkZ c (Itd a od kv) n z (k.map fun p => p.2) m H where
  go := fun i m' S H' hi e rs st => ⟨e.fz _ _ _ h, by rw [List.length_map] at hi; rw [← Paired.length r]; exact hi⟩
  stop := fun m' S H' e rs st => ⟨e.fz _ _ _ h, by rw [List.length_map, ← Paired.length r]; exact Nat.le_refl _⟩
  yld := fun i m' S H' x H'' d hd e rs st y => by
    obtain ⟨rfl, kk, hv⟩ := y
    rw [List.getElem?_map] at hd
    obtain ⟨p, hp, rfl⟩ := Option.map_eq_some_iff.mp hd
    obtain ⟨q, hq, _, e2⟩ := relk_at r hp
    rw [hv] at hq
    obtain rfl := Option.some.inj hq
    exact ⟨Ext.refl _ _, rs, e2.mono e⟩
theorem wz_valT {n : Nat} {z : O} {a : Addr} {od : Obj} {k : List (List Ky × D)} {kv : List (List L2.Key × V)} (h : H a = some (.frz od (.dT kv))) (r : RelK c.K H m (fun x => x.map kyK) k kv) : WalkZ c (ItdT a od kv) n z (k.map fun p => p.2) m H where
  go := fun i m' S H' hi e rs st => ⟨e.fz _ _ _ h, by rw [List.length_map] at hi; rw [← Paired.length r]; exact hi⟩
  stop := fun m' S H' e rs st => ⟨e.fz _ _ _ h, by rw [List.length_map, ← Paired.length r]; exact Nat.le_refl _⟩
  yld := fun i m' S H' x H'' d hd e rs st y => by
    obtain ⟨rfl, kk, hv⟩ := y
    rw [List.getElem?_map] at hd
    obtain ⟨p, hp, rfl⟩ := Option.map_eq_some_iff.mp hd
    obtain ⟨q, hq, _, e2⟩ := relk_at r hp
    rw [hv] at hq
    obtain rfl := Option.some.inj hq
    exact ⟨Ext.refl _ _, rs, e2.mono e⟩
theorem wz_itmK {n : Nat} {z : O} {a : Addr} {od : Obj} {k : List (Ky × D)} {kv : List (L2.Key × V)} (h : H a = some (.frz od (.dK kv))) (r : RelK c.K H m kyK k kv) : WalkZ c (Iti a od kv) n z (k.map fun p => .tup [kyD p.1, p.2]) m H where
  go := fun i m' S H' hi e rs st => ⟨e.fz _ _ _ h, by rw [List.length_map] at hi; rw [← Paired.length r]; exact hi⟩
  stop := fun m' S H' e rs st => ⟨e.fz _ _ _ h, by rw [List.length_map, ← Paired.length r]; exact Nat.le_refl _⟩
  yld := fun i m' S H' x H'' d hd e rs st y => by
    obtain ⟨T, kk, v, hv, rfl, hT, rfl⟩ := y
    rw [List.getElem?_map] at hd
    obtain ⟨p, hp, rfl⟩ := Option.map_eq_some_iff.mp hd
    obtain ⟨q, hq, e1, e2⟩ := relk_at r hp
    rw [hv] at hq
    obtain rfl := Option.some.inj hq
    have e1 : kyK p.1 = kk := e1
    rw [← e1]
    exact rel_pair rs hT (kyD_rel _) (e2.mono e)
end
def ZI (w : Wk) (td : TE) : TI := match w with
  | .key => iKeys td
  | .val => fun σ H R => iVals td σ H R ∨ iValsT td σ H R
  | .itm => iItems td
theorem rdE_imp {c : Ct} {E : XK} {f : EM} {σ : L2.St} {H : Hp} {Q Q' : VK} (h : rdE c E f σ H Q) (k : ∀ v H1, Q v H1 → Q' v H1) : rdE c E f σ H Q' :=
  let ⟨fr, S, m, rf, rs, p⟩ := h
  ⟨fr, S, m, rf, rs, p.imp fun _ _ _ H' _ _ q v hv => k v H' (q v hv)⟩
section
variable {X : Cx} {E : XK} {pos : Pos}
theorem ss_forD {w : Wk} {tg iter : Expr} {body : List Stmt} {fe : EM} {g : GM} {b : SM} (hp : PassesOwn (model X.prog X.w) X.A X.env X.xe) (hc : X.calm = true) (hi : PI X tg iter (ZI w (rdE (cx X) E fe))) (hg : SG X E tg g) (hb : SSs X E body b)
    (hs : ∀ x, foldedSetIterable iter X.env x = pure x := by intro _; rfl) : SS X E (.For tg iter body [] pos) (sForD w fe g b) := by
  refine PS.mono (ps_lock (ps_for hp hc hi hg hb hs)) fun D σ H ⟨fr, S, m, rf, rs, p⟩ => ?_
  unfold sForD at p
  split at p
  · rename_i n S0 he
    split at p
    · rename_i o ho
      split at p
      · rename_i z hz
        split at p
        · rename_i l hl
          obtain ⟨a, ha⟩ := rs.adr ho
          cases o with
          | dK k =>
            obtain rfl := Option.some.inj hz
            obtain ⟨kv, h1, h2⟩ := rs.ob _ _ _ ha ho
            refine ⟨a, .dK kv, h1, trivial, fun od => ?_⟩
            have core := fun (J : It) (wz : ∀ m1 H1, Ext m H m1 H1 → H1 a = some (.frz od (.dK kv)) → WalkZ (cx X) J n (.zK k) l m1 H1) => forZ_core (J := J) (z := .zK k) (u := .dK kv) rf rs ha ho trivial trivial (fun _ => nofun) (fun _ _ => nofun) (fun _ => nofun) h1 p od (fun m' H' e hh => ⟨od, kv, hh, h2.mono e⟩) (fun m' H' e hh => ⟨kv, hh, RelK.mono0 e h2⟩) wz
            cases w with
            | key =>
              obtain rfl := Option.some.inj hl
              exact rdE_imp (core _ fun m1 H1 e hh => wz_keyK hh (h2.mono e)) fun v H1 ⟨e, hh, q⟩ => ⟨a, od, e, .inl ⟨kv, hh, q⟩⟩
            | val =>
              obtain rfl := Option.some.inj hl
              exact .inl (rdE_imp (core _ fun m1 H1 e hh => wz_valK hh (h2.mono e)) fun v H1 ⟨e, hh, q⟩ => ⟨a, od, kv, e, hh, q⟩)
            | itm =>
              obtain rfl := Option.some.inj hl
              exact rdE_imp (core _ fun m1 H1 e hh => wz_itmK hh (h2.mono e)) fun v H1 ⟨e, hh, q⟩ => ⟨a, od, kv, e, hh, q⟩
          | dT k =>
            obtain rfl := Option.some.inj hz
            obtain ⟨kv, h1, h2⟩ := rs.ob _ _ _ ha ho
            refine ⟨a, .dT kv, h1, trivial, fun od => ?_⟩
            have core := fun (J : It) (wz : ∀ m1 H1, Ext m H m1 H1 → H1 a = some (.frz od (.dT kv)) → WalkZ (cx X) J n (.zT k) l m1 H1) => forZ_core (J := J) (z := .zT k) (u := .dT kv) rf rs ha ho trivial trivial (fun _ => nofun) (fun _ _ => nofun) (fun _ => nofun) h1 p od (fun m' H' e hh => ⟨od, kv, hh, h2.mono e⟩) (fun m' H' e hh => ⟨kv, hh, RelK.mono0 e h2⟩) wz
            cases w with
            | key =>
              obtain rfl := Option.some.inj hl
              exact rdE_imp (core _ fun m1 H1 e hh => wz_keyT hh (h2.mono e)) fun v H1 ⟨e, hh, q⟩ => ⟨a, od, e, .inr ⟨kv, hh, q⟩⟩
            | val =>
              obtain rfl := Option.some.inj hl
              exact .inr (rdE_imp (core _ fun m1 H1 e hh => wz_valT hh (h2.mono e)) fun v H1 ⟨e, hh, q⟩ => ⟨a, od, kv, e, hh, q⟩)
            | itm => cases hl
          | _ => cases hz
        · exact p.elim
      · exact p.elim
    · exact p.elim
  · exact p.elim
theorem pi_or {tg e : Expr} {t t' : TI} (h : PI X tg e t) (h' : PI X tg e t') : PI X tg e fun σ H R => t σ H R ∨ t' σ H R :=
  ⟨fun pins s σ H R I q => q.elim (fun q => h.run pins s σ H R I q) fun q => h'.run pins s σ H R I q⟩
theorem zi_key {tg e : Expr} {fe : EM} (he : SE X E e fe) : PI X tg e (ZI .key (rdE (cx X) E fe)) := pi_keys he
theorem zi_val {tg e : Expr} {apos cpos : Pos} {fe : EM} (he : SE X E e fe) (hbase : attributeBase e "values" X.env (eval e X.env) = eval e X.env := by rfl) (hline : (apos.endLine == cpos.line) = true := by rfl) : PI X tg (.Call (.Attribute e "values" apos) [] [] cpos) (ZI .val (rdE (cx X) E fe)) := pi_or (pi_values he hbase hline) (pi_valuesT he hbase hline)
theorem zi_itm {elts : List Expr} {kk : Nat} {tpos : Pos} {e : Expr} {apos cpos : Pos} {fe : EM} (he : SE X E e fe) (hbase : attributeBase e "items" X.env (eval e X.env) = eval e X.env := by rfl) (hline : (apos.endLine == cpos.line) = true := by rfl) : PI X (.Tuple elts kk tpos) (.Call (.Attribute e "items" apos) [] [] cpos) (ZI .itm (rdE (cx X) E fe)) := pi_items he hbase hline
/-! ### == of dicts -/
theorem flat_same {c : Ct} {H H' : Hp} {m : List Addr} {d e : D} {x y : V} (hx : RelD c.K H m d x) (hy : RelD c.K H m e y) (h : scq d e = some true) (f : flatD d = true) (f' : flatD e = true) : x = y ∧ flatB x = true := by
  cases hx <;> cases hy <;> simp [scq, flatD] at h f f' <;> first | exact ⟨rfl, rfl⟩ | (subst h; exact ⟨rfl, rfl⟩)
theorem same_hits {c : Ct} {κ κ' : Type} [DecidableEq κ] [DecidableEq κ'] {f : κ → κ'} (inj : ∀ a b, f a = f b → a = b) {H : Hp} {m : List Addr} {k l : List (κ × D)} {kv lv : List (κ' × V)} (h : dSame k l = true) (r1 : RelK c.K H m f k kv) (r2 : RelK c.K H m f l lv) :
    kv.length = lv.length ∧ ∀ p ∈ kv, valV lv p.1 = some p.2 ∧ flatB p.2 = true := by
  unfold dSame at h
  rw [Bool.and_eq_true, List.all_eq_true] at h
  refine ⟨by rw [← Paired.length r1, ← Paired.length r2]; exact of_decide_eq_true h.1, ?_⟩
  have h2 := h.2
  clear h
  induction r1 with
  | nil => intro p hp; cases hp
  | @cons p q ps qs h t ih =>
    intro p' hp'
    rcases List.mem_cons.mp hp' with e | e
    · subst e
      have := h2 p List.mem_cons_self
      have g := RelK.get inj r2 p.1
      cases hd : dGet l p.1 with
      | none => rw [hd] at this; cases this
      | some v =>
        rw [hd] at this g
        dsimp only at this
        simp only [Bool.and_eq_true, decide_eq_true_eq] at this
        obtain ⟨v', e1, e2⟩ := g
        obtain ⟨e3, e4⟩ := flat_same (H' := H) h.2 e2 this.2 this.1.1 this.1.2
        exact ⟨by rw [← h.1, e1, e3], e4⟩
    · exact ih (fun p hp => h2 p (List.mem_cons_of_mem _ hp)) p' e
theorem same_cases {c : Ct} {H : Hp} {m : List Addr} {S : Store} {x y : D} {v w : V} (rs : RS c m S H) (hv : RelD c.K H m x v) (hw : RelD c.K H m y w) (h : oSame x y S = true) :
    (∃ a b ks ls, v = .ref a ∧ w = .ref b ∧ H a = some (.dK ks) ∧ H b = some (.dK ls) ∧ ks.length = ls.length ∧ (∀ p ∈ ks, valV ls p.1 = some p.2 ∧ flatB p.2 = true)) ∨
    (∃ a b ks ls, v = .ref a ∧ w = .ref b ∧ H a = some (.dT ks) ∧ H b = some (.dT ls) ∧ ks.length = ls.length ∧ (∀ p ∈ ks, valV ls p.1 = some p.2 ∧ flatB p.2 = true)) := by
  unfold oSame at h
  split at h
  · rename_i n n'
    cases hv with
    | ref h1 => cases hw with
      | ref h2 =>
        split at h
        · rename_i k l e1 e2
          obtain ⟨kv, a1, a2⟩ := rs.ob _ _ _ h1 e1
          obtain ⟨lv, b1, b2⟩ := rs.ob _ _ _ h2 e2
          obtain ⟨q1, q2⟩ := same_hits (fun _ _ => kyK_inj) h a2 b2
          exact .inl ⟨_, _, kv, lv, rfl, rfl, a1, b1, q1, q2⟩
        · rename_i k l e1 e2
          obtain ⟨kv, a1, a2⟩ := rs.ob _ _ _ h1 e1
          obtain ⟨lv, b1, b2⟩ := rs.ob _ _ _ h2 e2
          obtain ⟨q1, q2⟩ := same_hits (fun _ _ => kysK_inj) h a2 b2
          exact .inr ⟨_, _, kv, lv, rfl, rfl, a1, b1, q1, q2⟩
        · cases h
  · cases h
theorem om_eqD (hu : X.A.units + 65 < cLine) : OpM X E (compareOp .Eq) oEqD := by
  obtain ⟨r, h1, h2⟩ := om_eq (X := X) (E := E) hu
  refine ⟨_, opr_or h1 (opr_or (op_eq_dictA (by omega)) (op_eq_dictT (by omega))), fun x y v u S m H Q rs hv hw p => ?_⟩
  unfold oEqD at p
  split at p
  · rename_i h
    rcases same_cases rs hv hw h with ⟨a, b, ks, ls, e1, e2, e3, e4, e5, e6⟩ | ⟨a, b, ks, ls, e1, e2, e3, e4, e5, e6⟩
    · exact .inr (.inl ⟨a, b, ks, ls, e1, e2, e3, e4, e5, e6, post_bl rs p⟩)
    · exact .inr (.inr ⟨a, b, ks, ls, e1, e2, e3, e4, e5, e6, post_bl rs p⟩)
  · exact .inl (h2 _ _ _ _ S m H Q rs hv hw p)
theorem om_neD (hu : X.A.units + 65 < cLine) : OpM X E (compareOp .NotEq) oNeD := by
  obtain ⟨r, h1, h2⟩ := om_ne (X := X) (E := E) hu
  refine ⟨_, opr_or h1 (opr_or (op_ne_dictA (by omega)) (op_ne_dictT (by omega))), fun x y v u S m H Q rs hv hw p => ?_⟩
  unfold oNeD at p
  split at p
  · rename_i h
    rcases same_cases rs hv hw h with ⟨a, b, ks, ls, e1, e2, e3, e4, e5, e6⟩ | ⟨a, b, ks, ls, e1, e2, e3, e4, e5, e6⟩
    · exact .inr (.inl ⟨a, b, ks, ls, e1, e2, e3, e4, e5, e6, post_bl rs p⟩)
    · exact .inr (.inr ⟨a, b, ks, ls, e1, e2, e3, e4, e5, e6, post_bl rs p⟩)
  · exact .inl (h2 _ _ _ _ S m H Q rs hv hw p)
/-! ### clear -/
theorem mtr_or {id : String} {r r' : V → List V → Hp → VK → Prop} (h : MtR X id r) (h' : MtR X id r') : MtR X id fun x vs H Q => r x vs H Q ∨ r' x vs H Q := by
  intro pins s σ H x v vs us Q I rx rv q
  rcases q with q | q
  · exact h pins s σ H x v vs us Q I rx rv q
  · exact h' pins s σ H x v vs us Q I rx rv q
theorem mm_dclear : MtMm X E "dict.clear" dClear := by
  refine ⟨_, mtr_or mtd_clear mtd_clearT, fun x ds v vs S m H Q rs hv hvs p => ?_⟩
  unfold dClear at p
  split at p
  · split at p
    · cases hvs
      cases hv with
      | ref ha =>
        split at p
        · rename_i k hs
          obtain ⟨kv, h1, h2⟩ := rs.ob _ _ _ ha hs
          refine .inl ⟨_, kv, rfl, rfl, h1, ?_⟩
          obtain ⟨rs2, e2⟩ := rs.set (o' := .dK []) (u := .dK []) ha hs trivial trivial fun e => ⟨_, upd_same, .nil⟩
          exact p _ _ e2 rs2 _ .non
        · rename_i k hs
          obtain ⟨kv, h1, h2⟩ := rs.ob _ _ _ ha hs
          refine .inr ⟨_, kv, rfl, rfl, h1, ?_⟩
          obtain ⟨rs2, e2⟩ := rs.set (o' := .dT []) (u := .dT []) ha hs trivial trivial fun e => ⟨_, upd_same, .nil⟩
          exact p _ _ e2 rs2 _ .non
        · exact p.elim
    · exact p.elim
  · exact p.elim
end
end Sm

set_option Elab.async false
set_option linter.all false
set_option maxRecDepth 100000
set_option maxHeartbeats 2000000
/-! defs with defaults, against the layer -/
namespace Sm
open PySem PySem.Spec PyProof.Rows L2 Mi
section
variable {X : Cx} {E : XK} {pos : Pos} {e : Expr}
theorem rd_callD {f : AM} {g : Fn} {xds : List D} {dvs : List V} {fr : Fr} {S : Store} {m : List Addr} {σ : L2.St} {H : Hp} {Q : VK} {c : Ct} {E : XK}
    (hv : ∀ H m, RelL c.K H m xds dvs) (rf : RF c.K H m fr σ) (rs : RS c m S H) (p : Post c E m H ((f fr S).bind (mDfl g xds)) (kE c Q)) : rdA c E f σ H fun vs H1 => spM c g (vs ++ dvs) H1 Q E :=
  rdA_bind rf rs p fun ds S1 m1 H1 e1 rf1 rs1 p1 vs h => ⟨ds ++ xds, S1, m1, h.app (hv _ _), rs1, p1⟩
theorem se_callD {CX : CXT} {k : Nat} {f : Addr} {fd : FuncData} {ps : List Str} {g : Fn} {x : Str} {p : Pos} {es : List Expr} {fs : AM} {xds : List D} {dvs : List V} (F : FnOk X.prog X.w X.K X.mg X.base CX k f fd ps (spM (cx X) g)) (hr : Room k X.A) (hg : Gl X x) (hm : X.mg x = some (.ref f)) (hk : PySem.W.keepIn X.K (.ref f) = true) (hb : ∃ ds, Vals dvs ds ∧ Binds X.K fd ps ds) (hv : ∀ H m, RelL X.K H m xds dvs) (hx : Passes CX X E)
    (ha : SA X E (e :: es) fs) (hdb : (x == ("__debug__" : Str)) = false := by decide) (he : starEach (e :: es) X.env = (false, eval e X.env) :: starEach es X.env := by rfl) (hpl : (backTo pos (starEach es X.env)).any (·.1) = false := by rfl) :
    SE X E (.Call (.Name x p) (e :: es) [] pos) (mCall (mDfl g xds) fs) := by
  obtain ⟨ds, hd, hb⟩ := hb
  refine PE.mono (pe_call F hr hg hm hk hb hd hx ha hdb he hpl) fun σ H Q ⟨fr, S, m, rf, rs, p⟩ => ?_
  exact rd_callD hv rf rs p
end
section
variable {P : Program} {w : World} {K : PySem.W.Frag} {mg : Str → Option Value} {base : Heap}
theorem fnD_mk {x qual : Str} {st : Stmt} {f T : Addr} {oc : Value} {od an tdd : Option Addr} {osl tsl : Array (Option Value)} {kV doc pm cdv ct : Value} {its : List Value} {tn : Nat} {dvs : List V} (l : K.lookup f = some ⟨oc, od, .func (PySem.W.fnOf x qual (defArgs st) (defBody st) (defScope st) (.ref T) kV doc pm an cdv ct), osl⟩)
    (c : PySem.W.codeIn K cdv qual = true) (k : PySem.W.keepIn K (.ref f) = true) (lt : K.lookup T = some ⟨.type "tuple", tdd, .seq its.toArray tn, tsl⟩) (hv : Vals dvs its) (hn : dvs ≠ []) : FunD K x qual (defArgs st) (defBody st) (defScope st) dvs [] f (PySem.W.fnOf x qual (defArgs st) (defBody st) (defScope st) (.ref T) kV doc pm an cdv ct) :=
  ⟨⟨oc, od, .ref T, kV, doc, pm, an, cdv, ct, osl, rfl, l, c, .inr ⟨hn, T, _, its, tn, rfl, lt, rfl, hv⟩, .inl rfl⟩, k⟩
theorem fn_okD {x qual : Str} {st : Stmt} {f : Addr} {fd : FuncData} {N ps : List Str} {k : Nat} {b : SM} {dvs : List V} (F : FunD K x qual (defArgs st) (defBody st) (defScope st) dvs [] f fd) (S : FnScope N ps (defScope st))
    (hb : ∀ (cdv : Value) (A : Around) (outer : List Env) (s : Shared) (H : Hp) (E : XK), Room k (A.deeper (envOfC qual (defScope st) s.heap.objs.size f cdv)) → SSs (cxOf CX0 P w K mg base N qual (defScope st) f cdv A outer s H E).nox EF (defBody st) b) :
    FnOk P w K mg base CX0 (k + 1) f fd ps (spM ⟨K, mg⟩ (mDef ps.length N.length b)) := by
  refine F.ok S (fun vs H Q E h => ?_) (fun cdv A outer s H vs Q E hr h => ?_)
  · obtain ⟨ds, S', m, r, rs, p⟩ := h
    have p := post_quiet (E' := E) p
    unfold mDefX at p
    split at p
    · rename_i hl
      rw [← r.len]; exact hl
    · exact p.elim
  · obtain ⟨ds, S', m, r, rs, p⟩ := h
    have p := post_quiet (E' := EF) p
    unfold mDefX at p
    split at p
    · obtain ⟨t, h1, h2⟩ : ∃ t, PSs (cxOf CX0 P w K mg base N qual (defScope st) f cdv A outer s H E).nox (defBody st) t ∧ t { nx := fun _ H' => Q .non H', rt := Q } (L2.start N vs) H := by
        refine ⟨_, hb cdv A outer s H E hr, startF N.length ds, S', m, start_rel (c := ⟨K, mg⟩) r, rs, (post_bind p).imp fun o S1 m1 H1 e1 rs1 p1 => ?_⟩
        cases o with
        | nx fr => exact fun σ rf => p1.here rs1 _ .non
        | rt d => exact fun v hv => p1.here rs1 v hv
        | bk fr => exact p1.elim
        | ct fr => exact p1.elim
      exact ⟨t, h1.nox, h2⟩
    · exact p.elim
end
end Sm
namespace Sm
open PySem PySem.Spec PyProof.Rows L2 Mi
section
variable {K : PySem.W.Frag} {x qual : Str} {params : Arguments} {body : List Stmt} {scope : Scope} {dvs : List V} {f : Addr} {fd : FuncData} {ps : List Str}
theorem fnD_all {x qual : Str} {params : Arguments} {body : List Stmt} {scope : Scope} {d : V} {dvs : List V} {f : Addr} {fd : FuncData} {ps : List Str} (F : FunD K x qual params body scope (d :: dvs) [] f fd) (n : Nat)
    (h : ∀ (T : Addr) (kV doc pm : Value) (an : Option Addr) (cdv ct : Value) (us its : List Value), us.length = n → its.length = (d :: dvs).length →
      ∃ k, bindArgs (PySem.W.fnOf x qual params body scope (.ref T) kV doc pm an cdv ct) ⟨us, []⟩ = seqItems? (.ref T) >>= k ∧ k (some its.toArray) = pure (ps.zip us)) (hn : n = ps.length := by rfl) : Binds K fd ps [] := by
  obtain ⟨ds, hv, hb⟩ := F.binds1 (ps := ps) n (d :: dvs).length (List.cons_ne_nil _ _) (by rw [Nat.sub_self, Nat.add_zero]; exact hn) fun T kV doc pm an cdv ct us its h1 h2 => by
    obtain ⟨k, e1, e2⟩ := h T kV doc pm an cdv ct us its h1 h2
    refine ⟨k, e1, ?_⟩
    rw [e2, ← h2, List.drop_length, List.append_nil]
  rw [List.drop_length] at hv
  cases hv
  exact hb
theorem fnD_dfl {x qual : Str} {params : Arguments} {body : List Stmt} {scope : Scope} {d : V} {dvs : List V} {f : Addr} {fd : FuncData} {ps : List Str} (F : FunD K x qual params body scope (d :: dvs) [] f fd) (n : Nat)
    (h : ∀ (T : Addr) (kV doc pm : Value) (an : Option Addr) (cdv ct : Value) (us its : List Value), us.length = n → its.length = (d :: dvs).length →
      ∃ k, bindArgs (PySem.W.fnOf x qual params body scope (.ref T) kV doc pm an cdv ct) ⟨us, []⟩ = seqItems? (.ref T) >>= k ∧ k (some its.toArray) = pure (ps.zip (us ++ its))) (hn : n + (d :: dvs).length = ps.length := by rfl) : ∃ ds, Vals (d :: dvs) ds ∧ Binds K fd ps ds := by
  obtain ⟨ds, hv, hb⟩ := F.binds1 (ps := ps) n 0 (List.cons_ne_nil _ _) (by rw [Nat.sub_zero]; exact hn) fun T kV doc pm an cdv ct us its h1 h2 => h T kV doc pm an cdv ct us its h1 h2
  exact ⟨ds, hv, hb⟩
end
end Sm

set_option Elab.async false
set_option linter.all false
set_option maxRecDepth 100000
set_option maxHeartbeats 2000000
/-! tuples known as they stand, dict(..), against the layer -/
namespace Sm
open PySem PySem.Spec PyProof.Rows L2 Mi
section
variable {X : Cx} {E : XK} {H : Hp}
theorem call_tuple_ofX : CallR X (.type "tuple") (fun xs H Q => ∃ p ys, xs = [.ref p] ∧ ((SqL X.K H p ys ∧ ∀ l (o : Obj), o.dict = none → H l = none → Q (.ref l) (upd H l (.frz o (.tup ys)))) ∨ (SqT X.K H p ys ∧ Q (.ref p) H))) := by
  intro pins s σ H xs us Q I r h
  obtain ⟨p, ys, rfl, h⟩ := h
  obtain ⟨u, rfl, rx⟩ := vals1 r
  cases rx
  rcases h with ⟨hq, q⟩ | ⟨hq, q⟩
  · obtain ⟨its, r', pl, hz⟩ := I.list hq
    have hlen := r'.length
    refine call_tuple_list pl.isList (fun h' kp => ?_) (by simp only [List.size_toArray] <;> omega)
    have I1 : Inv X pins σ H { s with heap := h' } := I.kept (t' := s.toks) kp
    have I2 : Inv X pins σ (upd H h'.objs.size (.frz { cls := .type "tuple", data := .seq its.toArray } (.tup ys))) { s with heap := h'.push { cls := .type "tuple", data := .seq its.toArray } } :=
      I1.laid (t' := s.toks) (fun b o e => Heap.get?_push_of_some _ e) (Nat.le_refl _) (show ObjOk X.prog X.w _ _ _ (.frz { cls := .type "tuple", data := .seq its.toArray } (.tup ys)) from ⟨Heap.get?_push_size _ rfl, hz, its, r', IsTup.new _ _⟩)
    exact ⟨.ref h'.objs.size, _, I2, rfl, q _ _ rfl (I1.hok.fresh (Nat.le_refl _))⟩
  · obtain ⟨its, r', pl, hz⟩ := I.tuple hq
    exact call_tuple_same pl ⟨.ref p, H, I, rfl, q⟩
theorem post_wtp {c : Ct} {E : XK} {m : List Addr} {S : Store} {H : Hp} {l : List D} {Q : VK} {p : Addr} {xs : List V} {o : Obj} (rs : RS c m S H) (q : Post c E m H (.ok (.wtp l) S) (kE c Q)) (hp : H p = none) (ho : o.dict = none) (r : RelL c.K H m l xs) : Q (.ref p) (upd H p (.frz o (.tup xs))) := by
  have e : Ext m H m (upd H p (.frz o (.tup xs))) := ⟨⟨fun _ _ z => z, tstay_new hp⟩, fstay_new hp⟩
  exact q _ _ e (rs.fresh hp) _ (.wtp (.inl ⟨o, upd_same, ho⟩) (r.mono e))
theorem cm_tupX : CallM X E (.type "tuple") bTupX := by
  refine ⟨_, call_tuple_ofX, fun ds vs S m H Q rs hv p => ?_⟩
  unfold bTupX at p
  split at p
  · rename_i l
    obtain ⟨v, rfl, h⟩ := rel1 hv
    cases h with
    | tup ha r => exact ⟨_, _, rfl, .inr ⟨.inl (.inl ha), p.here rs _ (.tup ha r)⟩⟩
  · rename_i l
    obtain ⟨v, rfl, h⟩ := rel1 hv
    cases h with
    | wtp ha r => exact ⟨_, _, rfl, .inr ⟨ha.sq, p.here rs _ (.wtp ha r)⟩⟩
  · rename_i n
    obtain ⟨v, rfl, h⟩ := rel1 hv
    cases h with
    | ref ha =>
      split at p
      · rename_i l hl
        obtain ⟨xs, h1, h2⟩ := rs.lst ha hl
        exact ⟨_, xs, rfl, .inl ⟨h1, fun b o ho hb => post_wtp rs p hb ho h2⟩⟩
      · exact p.elim
  · exact p.elim
/-! ### dict(..) -/
theorem pairs_of2 {pins : List (Addr × Obj)} {σ : L2.St} {s : Shared} (I : Inv X pins σ H s) : ∀ {ps : List Addr} {kvs : List (L2.Key × V)}, Paired (fun p kv => SqT X.K H p [kV kv.1, kv.2]) ps kvs →
    ∃ (prs : List (L2.Key × Value)) (us : List (Value × Value)), KV kvs prs ∧ prs.length = ps.length ∧ us.length = ps.length ∧ ∀ (j : Nat) (k v : Value), us[j]? = some (k, v) → ∃ (b : Addr) (q : L2.Key), ps[j]? = some b ∧ prs[j]? = some (q, v) ∧ IsTup s.heap b #[k, v] ∧ keyIs q k = true
  | _, _, .nil => ⟨[], [], .nil, rfl, rfl, fun j k v e => by simp at e⟩
  | _, _, .cons (a := p) (b := kv) h t => by
    obtain ⟨prs, us, r, hl, hl2, hp⟩ := pairs_of2 I t
    obtain ⟨its, rv, ht, _⟩ := I.tuple h
    obtain ⟨u, y, ei, ru, ry⟩ := vals2 rv
    subst ei
    refine ⟨(kv.1, y) :: prs, (u, y) :: us, .cons ⟨rfl, ry⟩ r, by rw [List.length_cons, List.length_cons, hl], by rw [List.length_cons, List.length_cons, hl2], fun j k v e => ?_⟩
    cases j with
    | zero =>
      have e' : (u, y) = (k, v) := Option.some.inj e
      cases e'
      exact ⟨p, kv.1, rfl, rfl, ht, kV_is (P := X.prog) (w := X.w) ru⟩
    | succ j =>
      obtain ⟨b, q, e1, e2, e3, e4⟩ := hp j k v (by simpa using e)
      exact ⟨b, q, by simpa using e1, by simpa using e2, e3, e4⟩
theorem wt_plain {pins : List (Addr × Obj)} {σ : L2.St} {s : Shared} {a : Addr} {xs : List V} (I : Inv X pins σ H s) (h : Wt X.K H a xs) : ∃ its : List Value, Vals xs its ∧ PlainSeq "tuple" s.heap a its.toArray ∧ xs.length ≤ sizeLine := by
  rcases h with ⟨o, h, hd⟩ | ⟨h, o, hk, hd⟩
  · obtain ⟨ho, hz, its, r, o', ho', hc, n, hdat⟩ := I.hok a _ h
    rw [ho] at ho'
    cases ho'
    exact ⟨its, r, ⟨o, n, ho, hc, hd, hdat⟩, hz⟩
  · have h' : SqT X.K H a xs := (Wt.sq (.inr ⟨h, o, hk, hd⟩))
    obtain ⟨its, r, ⟨o', ho', hc, n, hdat⟩, hz⟩ := I.tuple h'
    have := I.kIn a o hk
    rw [this] at ho'
    cases ho'
    exact ⟨its, r, ⟨o, n, this, hc, hd, hdat⟩, hz⟩
theorem call_dictPT (hcalm : X.calm = true) : CallR X (.type "dict") (fun xs H Q => ∃ (a : Addr) (ps : List Addr) (kvs : List (L2.Key × V)), xs = [.ref a] ∧ Wt X.K H a (ps.map V.ref) ∧ Paired (fun p kv => SqT X.K H p [kV kv.1, kv.2]) ps kvs ∧
    ∀ p, H p = none → Q (.ref p) (upd H p (.dK (mergeK [] kvs)))) := by
  intro pins s σ H xs us Q I r q
  obtain ⟨a, ps, kvs, ex, hq, hp, q⟩ := q
  subst ex
  obtain ⟨u, eu, rx⟩ := vals1 r
  subst eu
  cases rx
  obtain ⟨its, rv, pl, hz⟩ := wt_plain I hq
  have ei := refs_at rv
  subst ei
  rw [List.length_map] at hz
  obtain ⟨prs, us, rel, hl, hl2, hpr⟩ := pairs_of2 I hp
  have ok : PlainSeq "tuple" s.heap a (ps.map Value.ref).toArray ∧ PairItems s.heap (ps.map Value.ref).toArray (fun j => ps.getD j 0) us := by
    refine ⟨pl, by simp [hl2], fun j k v e => ?_⟩
    obtain ⟨b, q', e1, e2, e3, e4⟩ := hpr j k v e
    refine ⟨by simp [e1, List.getD], .inl ?_⟩
    have : ps.getD j 0 = b := by simp [List.getD, e1]
    show s.heap.IsTuple (ps.getD j 0) #[k, v]
    rw [this]
    exact e3
  refine PySem.call_dict_pairs (knd := mixKind X.prog X.w) (kvs := prs) (PairArg.tuple a _ _ us) (I.ok.hd hcalm) ok ⟨by rw [hl, hl2], fun i key v h => ?_⟩ (by rw [hl2]; exact hz) fun h' tk hd' k => ?_
  · obtain ⟨b, q', e1, e2, e3, e4⟩ := hpr i key v h
    exact ⟨q', e2, e4⟩
  · have hm : (s.heap.objs.size == sysModules) = false := beq_eq_false_iff_ne.mpr (Nat.ne_of_gt I.big)
    have hlen : (mergeK [] kvs).length ≤ sizeLine := by
      refine Nat.le_trans (length_mergeK kvs []) ?_
      rw [List.length_nil, Nat.zero_add, rel.length, hl]
      exact hz
    exact ⟨.ref s.heap.objs.size, upd H s.heap.objs.size (.dK (mergeK [] kvs)), I.laid (t' := tk) (fun b o e => k b o (by simp) e) (Nat.le_refl _) (show ObjOk X.prog X.w _ _ _ (.dK (mergeK [] kvs)) from ⟨hlen, hm, merged [] prs, KV.merge rel .nil, hd'⟩), rfl, q _ (I.hok.fresh (Nat.le_refl _))⟩
theorem prs_rel {K : PySem.W.Frag} {m : List Addr} : ∀ {l : List D} {xs : List V} {ps : List (Ky × D)}, RelL K H m l xs → prsOf l = some ps → ∃ (as : List Addr) (kvs : List (L2.Key × V)), xs = as.map V.ref ∧ Paired (fun p kv => SqT K H p [kV kv.1, kv.2]) as kvs ∧ RelK K H m kyK ps kvs
  | _, _, _, .nil, e => by
    simp only [prsOf, Option.some.injEq] at e
    subst e
    exact ⟨[], [], rfl, .nil, .nil⟩
  | _, _, ps, .cons (d := d) (l := l) (v := v) (r := r) h t, e => by
    unfold prsOf at e
    split at e
    · rename_i e0; cases e0
    · rename_i k x r' e0
      cases e0
      obtain ⟨q, hq, e⟩ := Option.bind_eq_some_iff.mp e
      obtain ⟨ps', e', rfl⟩ := Option.map_eq_some_iff.mp e
      obtain ⟨as, kvs, rfl, p1, p2⟩ := prs_rel t e'
      cases h with
      | @tup _ a xs ha rr =>
        cases rr with
        | cons h1 t1 =>
          cases t1 with
          | cons h2 t2 =>
            cases t2
            have := ky_of h1 hq
            subst this
            exact ⟨a :: as, (kyK q, _) :: kvs, rfl, .cons (.inl (.inl ha)) p1, .cons ⟨rfl, h2⟩ p2⟩
    · cases e
theorem foldK {K : PySem.W.Frag} {m : List Addr} {ps : List (Ky × D)} {kvs : List (L2.Key × V)} (h : RelK K H m kyK ps kvs) : ∀ {acc : List (Ky × D)} {ac : List (L2.Key × V)}, RelK K H m kyK acc ac → RelK K H m kyK (ps.foldl (fun acc p => dPut acc p.1 p.2) acc) (mergeK ac kvs) := by
  induction h with
  | nil => intro acc ac r; exact r
  | @cons p q ps qs h t ih =>
    intro acc ac r
    obtain ⟨h1, h2⟩ := h
    have := RelK.put (fun _ _ => kyK_inj) r p.1 h2
    rw [h1] at this
    exact ih this
theorem cm_dict (hc : X.calm = true) : CallM X E (.type "dict") bDict := by
  refine ⟨_, callr_or (call_dictPT hc) call_dictD, fun ds vs S m H Q rs hv p => ?_⟩
  unfold bDict at p
  split at p
  · rename_i l
    obtain ⟨v, rfl, h⟩ := rel1 hv
    cases h with
    | wtp ha r =>
      split at p
      · rename_i ps hps
        obtain ⟨as, kvs, rfl, p1, p2⟩ := prs_rel r hps
        exact .inl ⟨_, as, kvs, rfl, ha, p1, fun b hb => post_new rs p hb fun e => ⟨_, upd_same, RelK.mono e (foldK p2 .nil)⟩⟩
      · exact p.elim
  · rename_i n
    obtain ⟨v, rfl, h⟩ := rel1 hv
    cases h with
    | @ref n a ha =>
      split at p
      · rename_i k hs
        obtain ⟨kv, h1, h2⟩ := rs.ob _ _ _ ha hs
        exact .inr ⟨a, kv, rfl, .inl h1, fun b hb => post_new rs p hb fun e => ⟨_, upd_same, RelK.mono e h2⟩⟩
      · exact p.elim
  · exact p.elim
end
end Sm

set_option Elab.async false
set_option linter.all false
set_option maxRecDepth 100000
/-! x[lo::st], against the layer -/
namespace Sm
open PySem PySem.Spec PyProof.Rows L2 Mi
theorem fm_none {α β : Type} {l : List α} {f : α → Option β} (h : ∀ k ∈ l, f k = none) : l.filterMap f = [] := by
  induction l with
  | nil => rfl
  | cons x r ih => rw [List.filterMap_cons, h x (by simp)]; exact ih fun k hk => h k (List.mem_cons_of_mem _ hk)
theorem pick_stp (its : List Value) (lo st : Nat) (h : 1 ≤ st) : slicePick its.toArray (some (lo : Int)) none (some (st : Int)) = (stpL its lo st).toArray := by
  have hst : (st : Int) > 0 := by omega
  have hlo : ¬ (lo : Int) < 0 := by omega
  have b : sliceBounds (some (lo : Int)) none (some (st : Int)) its.length = (max 0 (min (lo : Int) its.length), (its.length : Int), (st : Int)) := by
    unfold sliceBounds
    simp only [Option.getD_some, hst, if_true, hlo, if_false]
  have key : (sliceRange (max 0 (min (lo : Int) its.length)) its.length st).filterMap (fun k => its[k]?) = stpL its lo st := by
    unfold sliceRange stpL
    rw [if_pos hst]
    by_cases hl : lo < its.length
    · have e1 : max 0 (min (lo : Int) its.length) = (lo : Int) := by omega
      rw [e1, if_pos (by omega)]
      obtain ⟨c, hc⟩ : ∃ c : Nat, ((its.length : Int) - lo + st - 1) / st = (c : Int) := ⟨(((its.length : Int) - lo + st - 1) / st).toNat, by
        have : 0 ≤ ((its.length : Int) - lo + st - 1) / st := Int.ediv_nonneg (by omega) (by omega)
        omega⟩
      rw [hc]
      show ((List.range ((c : Int)).toNat).map fun (k : Nat) => ((lo : Int) + st * (k : Int)).toNat).filterMap (fun k => its[k]?) = _
      rw [Int.toNat_natCast, List.filterMap_map]
      have c1 : (its.length : Int) - lo ≤ st * c := by
        have h1 := Int.mul_ediv_add_emod ((its.length : Int) - lo + st - 1) st
        have h2 := Int.emod_lt_of_pos ((its.length : Int) - lo + st - 1) hst
        rw [hc] at h1
        omega
      have c2 : c ≤ its.length := by
        have h1 : ((its.length : Int) - lo + st - 1) / st ≤ (its.length : Int) - lo := ceilDiv_le _ _ (by omega) (by omega)
        rw [hc] at h1
        omega
      have hsplit : List.range its.length = List.range c ++ (List.range (its.length - c)).map (c + ·) := by
        rw [← List.range_add]; congr 1; omega
      rw [hsplit, List.filterMap_append]
      have tail : ((List.range (its.length - c)).map (c + ·)).filterMap (fun k => its[lo + st * k]?) = [] := fm_none fun k hk => by
        obtain ⟨j, _, rfl⟩ := List.mem_map.mp hk
        refine List.getElem?_eq_none ?_
        have : (st : Int) * c ≤ st * ((c + j : Nat) : Int) := Int.mul_le_mul_of_nonneg_left (by omega) (by omega)
        have c3 : (its.length : Int) ≤ ((lo + st * (c + j) : Nat) : Int) := by
          rw [Int.natCast_add, Int.natCast_mul]
          omega
        omega
      rw [tail, List.append_nil]
      refine fm_congr fun k hk => ?_
      show its[((lo : Int) + st * (k : Int)).toNat]? = its[lo + st * k]?
      congr 1

    · have e1 : max 0 (min (lo : Int) its.length) = (its.length : Int) := by omega
      rw [e1, if_neg (by omega)]
      refine (fm_none fun k hk => ?_).symm
      refine List.getElem?_eq_none ?_
      have : 0 ≤ st * k := Nat.zero_le _
      omega
  unfold slicePick
  simp only [List.size_toArray, b, List.getElem?_toArray]
  rw [key]
theorem stp_len {α : Type} (l : List α) (lo st : Nat) : (stpL l lo st).length ≤ l.length := by
  unfold stpL
  refine Nat.le_trans (List.length_filterMap_le _ _) ?_
  rw [List.length_range]; exact Nat.le_refl _
theorem vals_get {xs : List V} {vs : List Value} (r : Vals xs vs) : ∀ i : Nat, (xs[i]? = none ∧ vs[i]? = none) ∨ ∃ x v, xs[i]? = some x ∧ vs[i]? = some v ∧ RelV x v := by
  induction r with
  | nil => intro i; exact .inl ⟨by simp, by simp⟩
  | cons h _ ih =>
    intro i
    cases i with
    | zero => exact .inr ⟨_, _, rfl, rfl, h⟩
    | succ i => simpa using ih i
theorem vals_fm {xs : List V} {vs : List Value} (r : Vals xs vs) (f : Nat → Nat) : ∀ L : List Nat, Vals (L.filterMap fun k => xs[f k]?) (L.filterMap fun k => vs[f k]?)
  | [] => .nil
  | k :: L => by
    rw [List.filterMap_cons, List.filterMap_cons]
    rcases vals_get r (f k) with ⟨h1, h2⟩ | ⟨x, v, h1, h2, h3⟩
    · rw [h1, h2]; exact vals_fm r f L
    · rw [h1, h2]; exact .cons h3 (vals_fm r f L)
theorem vals_stp {xs : List V} {vs : List Value} (r : Vals xs vs) (lo st : Nat) : Vals (stpL xs lo st) (stpL vs lo st) := by
  unfold stpL
  rw [r.length]
  exact vals_fm r (fun k => lo + st * k) _
theorem rel_get {K : PySem.W.Frag} {H : Hp} {m : List Addr} {l : List D} {xs : List V} (r : RelL K H m l xs) : ∀ i : Nat, (l[i]? = none ∧ xs[i]? = none) ∨ ∃ d x, l[i]? = some d ∧ xs[i]? = some x ∧ RelD K H m d x := by
  intro i
  by_cases h : i < l.length
  · obtain ⟨v, h3, h4⟩ := r.ix (List.getElem?_eq_getElem h)
    exact .inr ⟨_, v, List.getElem?_eq_getElem h, h3, h4⟩
  · exact .inl ⟨List.getElem?_eq_none (by omega), List.getElem?_eq_none (by rw [← r.len]; omega)⟩
theorem rel_fm {K : PySem.W.Frag} {H : Hp} {m : List Addr} {l : List D} {xs : List V} (r : RelL K H m l xs) (f : Nat → Nat) : ∀ L : List Nat, RelL K H m (L.filterMap fun k => l[f k]?) (L.filterMap fun k => xs[f k]?)
  | [] => .nil
  | k :: L => by
    rw [List.filterMap_cons, List.filterMap_cons]
    rcases rel_get r (f k) with ⟨h1, h2⟩ | ⟨x, v, h1, h2, h3⟩
    · rw [h1, h2]; exact rel_fm r f L
    · rw [h1, h2]; exact .cons h3 (rel_fm r f L)
theorem rel_stp {K : PySem.W.Frag} {H : Hp} {m : List Addr} {l : List D} {xs : List V} (r : RelL K H m l xs) (lo st : Nat) : RelL K H m (stpL l lo st) (stpL xs lo st) := by
  unfold stpL
  rw [r.len]
  exact rel_fm r (fun k => lo + st * k) _
theorem sl_stp {X : Cx} : ∀ (pins : List (Addr × Obj)) (s : Shared) (σ : L2.St) (H : Hp) (x : V) (v vl vs : Value) (lo st : Nat) (sl : Addr) (Q : VK), Inv X pins σ H s → RelV x v → 1 ≤ st → s.heap.IsSliceOf sl vl .none vs → IsPart vl (some (lo : Int)) → IsPart vs (some (st : Int)) →
    (∃ a xs, x = .ref a ∧ SqL X.K H a xs ∧ ∀ p, H p = none → Q (.ref p) (upd H p (.lst (stpL xs lo st)))) →
    ∃ T id, typeLookup (.type T) "__getitem__" = pure (some (.builtin id)) ∧ s.TypeIs v T ∧ wpAny (model X.prog X.w) X.A (getItem v (.ref sl)) (EP X pins σ Q) X.xe s := by
  intro pins s σ H x v vl vs lo st sl Q I rx h1 hs pl ps h
  obtain ⟨a, xs, rfl, hx, q⟩ := h
  cases rx
  obtain ⟨its, r, ht, hz⟩ := I.list hx
  have hlen := r.length
  refine ⟨"list", _, slot_list_getitem.lookup, ht.isList.typeIs, ?_⟩
  refine wpAny_getItem_list_slice ht.isList hs pl .none ps (by intro e; injection e with e; omega) ?_ (by rw [List.size_toArray] <;> omega)
  rw [pick_stp its lo st h1]
  refine ⟨.ref s.heap.objs.size, _, I.laid (t' := s.toks) (o := .lst (stpL xs lo st)) (fun b ob q => Heap.get?_push_of_some _ q) (Nat.le_refl _) ?_, rfl, q _ (I.hok.fresh (Nat.le_refl _))⟩
  exact ⟨Nat.le_trans (stp_len _ _ _) hz, _, 0, vals_stp r lo st, Heap.get?_push_size _ rfl⟩
section
variable {X : Cx} {e lo st : Expr} {te : TE} {tl ts : TO} {pos p2 : Pos}
theorem pe_stp (he : PE X e te) (hl : PO X (some lo) tl) (hs : PO X (some st) ts) : PE X (.Subscript e (.Slice (some lo) none (some st) p2) pos) (fun σ H Q => te σ H fun x H1 => tl σ H1 fun l H2 => ts σ H2 fun o H3 => ∃ (i j : Nat), l = some (i : Int) ∧ o = some (j : Int) ∧ 1 ≤ j ∧ ∃ a xs, x = .ref a ∧ SqL X.K H3 a xs ∧ ∀ p, H3 p = none → Q (.ref p) (upd H3 p (.lst (stpL xs i j)))) := by
  refine ⟨fun pins s σ H Q I h => ?_⟩
  refine Subscript_ (thn (he.run pins s σ H _ I h) fun v s1 ⟨x, H1, I1, r1, q1⟩ => ?_)
  refine wpAny_Slice ?_
  refine thn (hl.run pins s1 σ H1 _ I1 q1) fun vl s2 ⟨l, H2, I2, pl, q2⟩ => ?_
  rw [evalPart_none]
  refine wpAny_pure ?_
  refine thn (hs.run pins s2 σ H2 _ I2 q2) fun vs s3 ⟨o, H3, I3, ps, i, j, e1, e2, hj, q3⟩ => ?_
  subst e1 e2
  have I4 : Inv X pins σ H3 { s3 with heap := s3.heap.push { cls := .type "slice", data := .fields #[vl, .none, vs] } } := I3.kept (t' := s3.toks) fun b ob q => Heap.get?_push_of_some _ q
  obtain ⟨T, id, hT, ht, hg⟩ := sl_stp pins { s3 with heap := s3.heap.push { cls := .type "slice", data := .fields #[vl, .none, vs] } } σ H3 x v vl vs i j s3.heap.objs.size Q I4 r1 hj (Heap.IsSliceOf.new ..) pl ps q3
  show wpAny (model X.prog X.w) X.A (subscriptTail e (.Slice (some lo) none (some st) p2) v (.ref s3.heap.objs.size)) (EP X pins σ Q) X.xe { s3 with heap := s3.heap.push { cls := .type "slice", data := .fields #[vl, .none, vs] } }
  exact tail_any (ops := [v, .ref s3.heap.objs.size]) ht hT hg (by with_unfolding_all rfl)
end
section
variable {X : Cx} {E : XK} {a lo st : Expr} {fa : EM} {fl fs : PM} {pos p2 : Pos}
theorem se_stp (ha : SE X E a fa) (hl : SO X E (some lo) fl) (hs : SO X E (some st) fs) : SE X E (.Subscript a (.Slice (some lo) none (some st) p2) pos) (mStp fa fl fs) := by
  refine PE.mono (pe_stp ha hl hs) fun σ H Q ⟨fr, S, m, rf, rs, p⟩ => ?_
  refine rd_bind rf rs p fun x S1 m1 H1 e1 rf1 rs1 p1 v hv => ?_
  refine rdP_bind rf1 rs1 p1 fun l S2 m2 H2 e2 rf2 rs2 p2 => ?_
  refine rdP_bind rf2 rs2 p2 fun o S3 m3 H3 e3 rf3 rs3 p3 => ?_
  have hv3 := (hv.mono e2).mono e3
  unfold stpI at p3
  split at p3
  · rename_i i j
    split at p3
    · rename_i hc
      refine ⟨i.toNat, j.toNat, by congr 1; omega, by congr 1; omega, by omega, ?_⟩
      unfold oStp at p3
      cases hv3 with
      | @ref n b ha =>
        dsimp only at p3
        split at p3
        · rename_i l hl
          obtain ⟨xs, h0, r⟩ := rs3.lst ha hl
          exact ⟨b, xs, rfl, h0, fun c hc => post_new rs3 p3 hc fun e => ⟨_, upd_same, (rel_stp r _ _).mono e⟩⟩
        · exact p3.elim
      | _ => exact p3.elim
    · exact p3.elim
  · exact p3.elim
end
end Sm

set_option Elab.async false
set_option linter.all false
set_option maxRecDepth 100000
/-! list + list, either side a fixed list -/
namespace Sm
open PySem PySem.Spec PyProof.Rows L2 Mi
theorem add_lists (l : Addr) (items : Array Value) (n : Nat) (b : Addr) (items2 : Array Value) (n2 : Nat) (sl sl2 : Array (Option Value)) (hc0 : items.size + items2.size ≤ sizeLine) :
    Meets (Builtin.«list.__add__» ⟨[.ref l, .ref b], []⟩) (fun _ R s => s.heap.get? l = some { cls := .type "list", dict := none, data := .seq items n, slots := sl } ∧ s.heap.get? b = some { cls := .type "list", dict := none, data := .seq items2 n2, slots := sl2 } ∧ R (.ok (.ret (Value.ref s.heap.objs.size))) { s with heap := s.heap.push { cls := Value.type "list", data := Data.seq (items ++ items2) }, toks := s.toks }) :=
  .of_wp fun prog w A R s h => by obtain ⟨hp, g, d, tk, os⟩ := s; obtain ⟨hl, hb, h⟩ := h; have f1 := AutoSeq1.idx_int; have f2 := AutoSeq1.sub_tuple_tuple; have f3 := AutoSeq1.sub_list_list; have f4 := AutoSeq1.sub_tuple_list; have f5 := AutoSeq1.sub_list_tuple; wp_walk using AutoSeq1.wpAny_loadPart' hl, AutoSeq1.wpAny_loadPart' hb; exact ⟨_, rfl, h⟩
section
variable {X : Cx} {E : XK}
def rCatL (K : PySem.W.Frag) : R2 := fun x y H Q => ∃ l b xs zs, x = .ref l ∧ y = .ref b ∧ SqL K H l xs ∧ SqL K H b zs ∧ xs.length + zs.length ≤ sizeLine ∧ ∀ p, H p = none → Q (.ref p) (upd H p (.lst (xs ++ zs)))
theorem op_catL : OpR X (binaryOp .Add) (rCatL X.K) := by
  intro pins s σ H x y v u Q I rx ry h
  obtain ⟨l, b, xs, zs, rfl, rfl, hH, hB, hz, q⟩ := h
  cases rx
  cases ry
  obtain ⟨its, r, p1, _⟩ := I.list hH
  obtain ⟨its2, r2, p2, _⟩ := I.list hB
  obtain ⟨⟨cl, di, da, sl⟩, n, e, c, d0, d⟩ := p1
  obtain ⟨⟨cl2, di2, da2, sl2⟩, n2, e2, c2, d02, d2⟩ := p2
  dsimp only at c d0 d c2 d02 d2
  subst c d0 d c2 d02 d2
  have hl := r.length
  have hl2 := r2.length
  have hz2 : its.toArray.size + its2.toArray.size ≤ sizeLine := by rw [List.size_toArray, List.size_toArray]; omega
  refine concat_meets ⟨_, e, rfl⟩ ⟨_, e2, rfl⟩ noFill_list_add seq_list_add F.slot_list_add F.entry_list_add (F.args_list_add_2 _ _) (add_lists l its.toArray n b its2.toArray n2 sl sl2 hz2) ⟨e, e2, ?_⟩
  have ea : its.toArray ++ its2.toArray = (its ++ its2).toArray := by simp
  rw [ea]
  exact ⟨.ref _, _, I.lnew (t' := s.toks) (r.append r2) (by rw [List.length_append]; omega), rfl, q _ I.fresh⟩
theorem om_addL : OpM X E (binaryOp .Add) oAddL := by
  refine ⟨_, op_catL, fun x y v u S m H Q rs hv hw p => ?_⟩
  unfold oAddL at p
  cases hv with
  | @ref n a ha => cases hw with
    | @ref n' a' ha' =>
      dsimp only at p
      split at p
      · rename_i l l' e1 e2
        split at p
        · rename_i h
          obtain ⟨xs, h1, r1⟩ := rs.lst ha e1
          obtain ⟨ys, h2, r2⟩ := rs.lst ha' e2
          exact ⟨a, a', xs, ys, rfl, rfl, h1, h2, by rw [← r1.len, ← r2.len, line_eq]; exact h, fun b hb => post_new rs p hb fun e0 => ⟨_, upd_same, (r1.app r2).mono e0⟩⟩
        · exact p.elim
      · exact p.elim
    | _ => exact p.elim
  | _ => cases hw <;> exact p.elim
end
end Sm

set_option Elab.async false
set_option linter.all false
set_option maxRecDepth 100000
/-! l.remove(x) of data, against the layer -/
namespace Sm
open PySem PySem.Spec PyProof.Rows L2 Mi
section
variable {X : Cx} {E : XK}
def rRemD (K : PySem.W.Frag) : V → List V → Hp → VK → Prop := fun x xs H Q => ∃ (a : Addr) (y : V) (zs : List V) (d : PyData) (ds : List PyData) (j : Nat), x = .ref a ∧ xs = [y] ∧ H a = some (.lst zs) ∧ DpAll K H zs ds ∧ Dp K H y d ∧
  SeqAt.shaped (.list ds) = true ∧ SeqAt.shaped d = true ∧ placeD ds d = some j ∧ Q .non (upd H a (.lst (zs.eraseIdx j)))
theorem mt_removeD (hu : X.A.units + 65 < cLine) : MtR X "list.remove" (rRemD X.K) := by
  intro pins s σ H x xs v us Q I rx rxs h
  obtain ⟨a, y, zs, d, ds, j, rfl, rfl, hH, ha, hy, sl, sd, hp, q⟩ := h
  cases rx
  obtain ⟨uy, rfl, ry⟩ := rxs.one
  obtain ⟨bs, r1⟩ := Dp.reads I d y uy hy ry
  have hxs : PyData.canLayAll0 ds = true := SeqAt.canLay_of_shaped sl
  have hroom : X.A.units + 1 + min (PyData.depthAll ds) d.depth < cLine := room_in_shaped sd hu
  obtain ⟨z, its, n, rv, hl, e⟩ := I.lstM hH
  obtain ⟨as, h4⟩ := Dp.readsAll I ds zs its ha rv
  have hn : its.length = ds.length := SeqAt.ReadsAll.length ds its as h4
  have hmap : its.map (SeqAt.readOf s.heap) = ds := SeqAt.readsAll_map ds its as hxs h4
  unfold placeD at hp
  obtain ⟨h1, h2, h3⟩ := List.findIdx?_eq_some_iff_getElem.mp hp
  have hj : j < its.toArray.size := by rw [List.size_toArray]; omega
  have at_ : ∀ (m : Nat) (hm : m < its.toArray.size) (hm2 : m < ds.length), SeqAt.readOf s.heap its.toArray[m] = ds[m] := by
    intro m hm hm2
    have hml : m < its.length := by simpa using hm
    have e1 : (its.map (SeqAt.readOf s.heap))[m]? = ds[m]? := by rw [hmap]
    rw [List.getElem?_map, List.getElem?_eq_getElem hml, List.getElem?_eq_getElem hm2] at e1
    simpa using e1
  refine call_meets PySem.F.slot_list_remove ⟨_, e, rfl⟩ PySem.F.entry_list_remove (PySem.F.args_list_remove_2 _ _)
    (SeqAt.list_removeAt a its.toArray n none #[] uy (fun u => PyData.eqv (SeqAt.readOf s.heap u) d) j hj ?_ ?_ (by rw [List.size_toArray]; omega)) ⟨e, SeqAt.items_eqAt (vs := its.toArray) (show ReadsAll s.heap its.toArray.toList ds as from h4) r1 hxs (SeqAt.canLay_of_shaped sd) hroom, ?_⟩
  · show PyData.eqv (SeqAt.readOf s.heap its.toArray[j]) d = true
    rw [at_ j hj h1]
    exact h2
  · intro m hm hmj
    show PyData.eqv (SeqAt.readOf s.heap its.toArray[m]) d = false
    rw [at_ m hm (by omega)]
    have := h3 m hmj
    simpa using this
  · have rr := rv.eraseIdx j
    refine ⟨.non, _, I.lset (its' := its.eraseIdx j) (t' := s.toks) hH e ?_ rr ?_, rfl, q⟩
    · show its.toArray.eraseIdxIfInBounds j = (its.eraseIdx j).toArray
      rw [List.eraseIdxIfInBounds_toArray]
    · have z2 := List.length_eraseIdx_le zs j
      omega
theorem mm_remove (hu : X.A.units + 65 < cLine) : MtMm X E "list.remove" lRemove := by
  refine ⟨_, mt_removeD hu, fun x ds v vs S m H Q rs hv hvs p => ?_⟩
  unfold lRemove at p
  split at p
  · rename_i w
    obtain ⟨u, rfl, hw⟩ := rel1 hvs
    obtain ⟨n, a, l, xs, rfl, rfl, ha, hs, h1, h2, p⟩ := mut_list rs hv p
    split at p
    · rename_i d ps e1 e2
      split at p
      · rename_i hc
        split at p
        · rename_i j hj
          exact ⟨a, u, xs, d, ps, j, rfl, rfl, h1, dps_of (look_dp rs 8) l xs ps h2 e2, pd_dp rs hw e1, hc.2, hc.1, hj, put_list rs ha hs (h2.erase j) .non p⟩
        · exact p.elim
      · exact p.elim
    · exact p.elim
  · exact p.elim
end
end Sm

set_option Elab.async false
set_option linter.all false
set_option maxRecDepth 100000
set_option maxHeartbeats 2000000
/-! own exceptions: made, raised, caught -/
namespace Sm
open PySem PySem.Spec PyProof.Rows L2 Mi
theorem RelX.mono {c : Ct} {H H' : Hp} {m m' : List Addr} {x : Exn} {cls : Value} {da : Option Addr} (e : Ext m H m' H') (h : RelX c H m x cls da) : RelX c H' m' x cls da := by
  obtain ⟨C, h1, h2, d, fs, h3, h4, h5⟩ := h
  exact ⟨C, h1, h2, d, fs, h3, e.ts _ _ (.inr (.inr ⟨fs, rfl⟩)) h4, RelK.mono e h5⟩
section
variable {X : Cx} {E : XK}
/-! ### a class's __init__ that first asks another own class for its __init__ -/
/-- what the written part says of the class that is asked -/
structure BaseC (K : PySem.W.Frag) (C0 : Addr) : Prop where
  sp : PySem.W.specialIn K (.ref C0) "__getattribute__" = some (some (.builtin "type.__getattribute__"))
  rd : PySem.W.readsIn K C0 (.type "type") = true
  fd : PySem.W.findCls K (.ref C0) (.type "type") "__init__" = some (.val (.builtin "ValueError.__init__"))
theorem pe_hinit {x : Str} {C0 : Addr} {e : Expr} {es : List Expr} {ta : TA} {p1 p2 pos : Pos} {pl : Sem Bool} (B : BaseC X.K C0) (hg : Gl X x) (hm : X.mg x = some (.ref C0)) (ha : PA X (e :: es) ta)
    (hc : eval (.Call (.Attribute (.Name x p1) "__init__" p2) (e :: es) [] pos) X.env = (do
      let ov ← eval (.Name x p1) X.env
      standAt p2.atName
      let (f, first) ← holding [ov] (getMethod ov "__init__" pl)
      callWith pos f first (backTo pos (starEach (e :: es) X.env)) (backToKw pos (keywordEach [] X.env))) := by rfl)
    (hd : (x == ("__debug__" : Str)) = false := by decide)
    (he : starEach (e :: es) X.env = (false, eval e X.env) :: starEach es X.env := by rfl) (hpl : (backTo pos (starEach es X.env)).any (·.1) = false := by rfl) :
    PE X (.Call (.Attribute (.Name x p1) "__init__" p2) (e :: es) [] pos) (tVeI X.K ta) := by
  refine ⟨fun pins s σ H Q I h => ?_⟩
  refine PySem.W.methodCall_KW (ld_glob I hg hm ?_ hd) hc
  refine PySem.W.method_cls I.kIn B.sp (PySem.W.cls_value I.kIn B.rd B.fd (by decide +kernel) ?_)
  show wpAny _ _ (callWith pos (Value.builtin "ValueError.__init__") [] (backTo pos (starEach (e :: es) X.env)) []) _ _ _
  refine PyProof.Rows.callWith_method1 (thn (ha.run pos pins _ σ H _ (I.tok _) h) fun us s1 ⟨vs, H1, I1, r1, a, C, ws, ev, hl, T, ea, q⟩ => ?_) he hpl
  subst ev
  cases r1 with
  | @cons _ u0 _ ur ra rw' =>
    obtain rfl : u0 = Value.ref a := ra
    have hlen : ur.length ≤ sizeLine := by
      rw [← Paired.length rw', sizeLine_eq]
      omega
    exact oinit_ok T I1 ea hlen fun s' J => ⟨.non, H1, J, rfl, q⟩
/-- what __init__ leaves of the instance at a: fields as handed in -/
def spInit (C : Addr) (fs : List Tx) : Sp := fun vs H Q _ => ∃ (a : Addr) (ys : List V), vs = .ref a :: ys ∧ ys.length = fs.length ∧ H a = some (exo a C none) ∧
  ∀ (d : Addr) (H' : Hp), H' a = some (exo a C (some d)) → H' d = some (exd d (((fs.map sOf).zip ys).reverse)) → H d = none → d ≠ a → (∀ b, b ≠ a → b ≠ d → H' b = H b) → Q .non H'
/-- .. of an own exception class with that many fields -/
structure ExcOk (P : Program) (w : World) (K : PySem.W.Frag) (mg : Str → Option Value) (base : Heap) (x : Str) (C fI : Addr) (k : Nat) (fd : FuncData) (ps : List Str) (fs : List Tx) : Prop where
  g : mg x = some (.ref C)
  T : OexC K C
  iC : PySem.W.findIn K (.ref C) "__init__" = some (some (.ref fI))
  tI : PySem.W.typeIn K (.ref fI) = some (.type "function")
  F : FnOk P w K mg base CX0 k fI fd ps (spInit C fs)
  b : Binds K fd ps []
theorem zip_rel {c : Ct} {H : Hp} {m : List Addr} : ∀ {fs : List Tx} {ds : List D} {vs : List V}, RelL c.K H m ds vs → RelK c.K H m sOf (fs.zip ds) ((fs.map sOf).zip vs)
  | [], _, _, _ => .nil
  | _ :: _, _, _, .nil => by
    show RelK c.K H m sOf [] _
    rw [List.zip_nil_right]
    exact .nil
  | f :: fs, _, _, .cons h t => .cons ⟨rfl, h⟩ (zip_rel t)
theorem paired_app {α β : Type} {P : α → β → Prop} : ∀ {a b : List α} {c d : List β}, Paired P a c → Paired P b d → Paired P (a ++ b) (c ++ d)
  | _, _, _, _, .nil, h => h
  | _, _, _, _, .cons h t, h2 => .cons h (paired_app t h2)
theorem paired_rev {α β : Type} {P : α → β → Prop} : ∀ {a : List α} {b : List β}, Paired P a b → Paired P a.reverse b.reverse
  | _, _, .nil => .nil
  | _, _, .cons h t => by
    rw [List.reverse_cons, List.reverse_cons]
    exact paired_app (paired_rev t) (.cons h .nil)
theorem ss_raise {x : Str} {cn : String} {C fI : Addr} {k : Nat} {fd : FuncData} {ps : List Str} {fs : List Tx} {fa : AM} {e : Expr} {es : List Expr} {p pos pos2 : Pos} (hcn : (cn : Str) = x) (hc : X.calm = true) (tk : Takes X fun cls d _ H => E cls d H) (T : ExcOk X.prog X.w X.K X.mg X.base x C fI k fd ps fs) (hr : Room (k + 1) X.A) (hg : Gl X x)
    (hl : fs.length ≤ 1000) (ha : SA X E (e :: es) fa) (hdb : (x == ("__debug__" : Str)) = false := by decide) (he : starEach (e :: es) X.env = (false, eval e X.env) :: starEach es X.env := by rfl) (hpl : (backTo pos (starEach es X.env)).any (·.1) = false := by rfl) :
    SS X E (.Raise (some (.Call (.Name x p) (e :: es) [] pos)) none pos2) (sRaise cn fs fa) := by
  refine PS.mono (ps_raise hc tk (pmk_oex T.T T.iC T.tI T.F hr T.b .nil pass0 hg T.g ha hdb he hpl)) fun D σ H ⟨fr, S, m, rf, rs, p⟩ => ?_
  refine rdA_bind rf rs p fun ds S1 m1 H1 e1 rf1 rs1 p1 vs hv => ?_
  split at p1
  · rename_i hlen
    refine ⟨by rw [← hv.len, hlen]; exact hl, fun a na => ⟨a, vs, by rw [List.append_nil], by rw [← hv.len, hlen], upd_same, fun d H' ha' hd' hn' hda ho => ⟨rfl, d, _, ha', hd', ?_, ?_⟩⟩⟩
    · rw [upd_ne hda] at hn'; exact hn'
    · rw [upd_ne hda] at hn'
      have eH : upd (del H' a) d (.xd (((fs.map sOf).zip vs).reverse)) = upd H1 d (.xd (((fs.map sOf).zip vs).reverse)) := by
        funext b
        by_cases hb : b = d
        · rw [hb, upd_same, upd_same]
        · rw [upd_ne hb, upd_ne hb]
          by_cases hba : b = a
          · rw [hba, del_same, na]
          · rw [del_ne hba, ho b hba hb, upd_ne hba]
      rw [eH]
      have e2 : Ext m1 H1 m1 (upd H1 d (.xd (((fs.map sOf).zip vs).reverse))) := ⟨⟨fun _ _ z => z, tstay_new hn'⟩, fstay_new hn'⟩
      exact p1 m1 _ e2 (rs1.fresh hn') _ _ ⟨C, by rw [hcn]; exact T.g, rfl, d, _, rfl, upd_same, paired_rev (zip_rel (hv.mono e2))⟩
  · exact p1.elim
/-! ### try -/
/-- of the classes by name: whether they are caught -/
def Sub (c : Ct) (cc : Value) (sub : String → Option Bool) : Prop := ∀ n b, sub n = some b → ∀ C : Addr, c.mg (n : Str) = some (.ref C) → PySem.W.exmOne c.K (.ref C) cc = some b
/-- what a call lets out, at the slots -/
theorem se_callW {W : WX} {CX : CXT} {k : Nat} {f : Addr} {fd : FuncData} {ps : List Str} {g : Fn} {x : Str} {p pos : Pos} {e : Expr} {es : List Expr} {fs : AM} (F : FnOk X.prog X.w X.K X.mg X.base CX k f fd ps (spM (cx X) g)) (hr : Room k X.A) (hg : Gl X x) (hm : X.mg x = some (.ref f)) (hk : PySem.W.keepIn X.K (.ref f) = true) (hb : Binds X.K fd ps [])
    (hx : ∀ σ, PassesAt CX X σ (WE W σ)) (ha : ∀ E, SA X E (e :: es) fs) (hdb : (x == ("__debug__" : Str)) = false := by decide) (he : starEach (e :: es) X.env = (false, eval e X.env) :: starEach es X.env := by rfl) (hpl : (backTo pos (starEach es X.env)).any (·.1) = false := by rfl) :
    PE X (.Call (.Name x p) (e :: es) [] pos) (fun σ H Q => rdE (cx X) (WE W σ) (mCall g fs) σ H Q) := by
  have ha' : PA X (e :: es) (fun σ H Q => rdA (cx X) (WE W σ) fs σ H Q) := ⟨fun pos pins s σ H Q I h => (ha (WE W σ)).run pos pins s σ H Q I h⟩
  exact PE.mono (pe_callS F hr hg hm hk hb hx ha' hdb he hpl) fun σ H Q ⟨fr, S, m, rf, rs, p⟩ => rd_call rf rs p
/-- a try's body: its way out by the slots at its beginning -/
def SB (X : Cx) (W : WX) (st : List Stmt) (g : SM) : Prop := PSs X st fun D σ H => rdS (cx X) (WE W σ) g D σ H
theorem sb_expr {W : WX} {e : Expr} {fe : EM} {pos : Pos} (he : PE X e (fun σ H Q => rdE (cx X) (WE W σ) fe σ H Q)) (hs : swapsWith e none pos.line X.env = pure false := by rfl) : SB X W [.Expr e pos] (sExp fe) := by
  refine PSs.mono (pss_one (ps_expr he hs)) fun D σ H ⟨fr, S, m, rf, rs, p⟩ => ?_
  exact rd_bind rf rs p fun x S1 m1 H1 e1 rf1 rs1 p1 v hv => p1.here rs1 σ rf1
theorem sb_set {W : WX} {i : Nat} {x : Str} {e : Expr} {fe : EM} {pos pos' : Pos} (hN : X.N.Nodup) (hi : X.N[i]? = some x) (hx : Loc X.env.scope x) (he : PE X e (fun σ H Q => rdE (cx X) (WE W σ) fe σ H Q)) (hs : swapsWith e (some (.Name x pos')) pos.line X.env = pure false := by rfl) (hf : X.fn x = true ∨ X.env.scope.names.lookup x = some .local := by first | exact .inl rfl | exact .inr rfl | assumption) :
    SB X W [.Assign [.Name x pos'] e pos] (sAsg fe (Mi.gName i)) := by
  refine PSs.mono (pss_one (ps_set hN hi hx he hs hf)) fun D σ H ⟨fr, S, m, rf, rs, p⟩ => ?_
  refine rd_bind rf rs p fun x S1 m1 H1 e1 rf1 rs1 p1 v hv => ?_
  exact (post_bind p1).here rs1 |>.here rs1 _ (rf1.set hv i)
/-- the reading of a suite, the exception at a -/
def rdX (c : Ct) (a : Addr) (i : Nat) (cls : Value) (d : Option Addr) (x : Exn) (g : SM) : TS := fun D σ H => ∃ fr S m, RF c.K H m fr σ ∧ RS c m S H ∧ RelX c H m x cls d ∧ σ[i]? = some (some (.ref a)) ∧ Post c EF m H (g fr S) (kS c D)
theorem ss_try {x : Str} {cc : Value} {sub : String → Option Bool} {body suite : List Stmt} {b₀ : Stmt} {np pos pos' : Pos} {b : SM} {h : Exn → SM} (hs : X.stack = X.env :: X.outer) (hf : X.env.frame = some X.env.locals) (hc : Names X x cc) (tk : Takes X fun cls d _ H => E cls d H) (hsub : Sub (cx X) cc sub)
    (hb : ∀ (W : WX) (pn : List (Addr × Obj)) (xe : Value → Shared → Prop), Takes (X.tr pn xe) W → PassesOwn (model X.prog X.w) X.A X.env xe → SB (X.tr pn xe) W body b)
    (hsu : ∀ (a : Addr) (pn : List (Addr × Obj)) (x : Exn), SSs (X.suite a pn) EF (b₀ :: suite) (h x)) :
    SS X E (.Try body [.ExceptHandler (some (.Name x np)) none (b₀ :: suite) pos'] [] [] pos) (sTry sub b h) := by
  refine PS.mono (ps_try_only (tb := fun W D σ H => rdS (cx X) (WE W σ) b D σ H) (ts := fun a cls d D σ H => ∃ x, rdS (cx X) EF (h x) D σ H) (Wout := fun cls d _ H => E cls d H) hs hf hc tk (fun W pn xe t1 t2 => hb W pn xe t1 t2)
    (fun a oe cls d pn hz hd => ⟨fun pins s σ H D I ⟨x, q⟩ => (hsu a ((a, oe) :: pn) x).run pins s σ H D I q⟩)) fun D σ H ⟨fr, S, m, rf, rs, p⟩ => ?_
  refine ⟨fr, S, m, rf, rs, ?_⟩
  unfold sTry at p
  generalize b fr S = r at p
  cases r with
  | ok o S' => exact p
  | bad => exact p.elim
  | exc x S' =>
    intro m' H' e' rs' cls da rx
    unfold tryK at p
    dsimp only at p
    obtain ⟨C, hC, hcls, _⟩ := id rx
    subst hcls
    split at p
    · rename_i hb'
      refine ⟨true, hsub _ _ hb' C hC, fun _ a ha => ⟨x, fr, S', m', rf.mono e', rs', ?_⟩, fun z => nomatch z⟩
      exact (post_quiet p).ext e'
    · rename_i hb'
      exact ⟨false, hsub _ _ hb' C hC, fun z => (nomatch z), fun _ => p m' H' e' rs' _ _ rx⟩
    · exact p.elim
theorem ss_tryA {x n : Str} {i : Nat} {cc : Value} {sub : String → Option Bool} {body suite : List Stmt} {b₀ : Stmt} {np pos pos' : Pos} {b : SM} {h : Exn → SM} (hs : X.stack = X.env :: X.outer) (hf : X.env.frame = some X.env.locals) (hN : X.N.Nodup) (hi : X.N[i]? = some n) (hln : X.env.kindOf n = some .local) (hc : Names X x cc) (tk : Takes X fun cls d _ H => E cls d H) (hsub : Sub (cx X) cc sub)
    (hb : ∀ (W : WX) (pn : List (Addr × Obj)) (xe : Value → Shared → Prop), Takes (X.tr pn xe) W → PassesOwn (model X.prog X.w) X.A X.env xe → SB (X.tr pn xe) W body b)
    (hsu : ∀ (a : Addr) (oe : Obj) (cls : Value) (d : Option Addr) (pn : List (Addr × Obj)) (x : Exn), Zc cls d oe → (∃ vs, oe.data = .fields vs) → PSs (X.suite a ((a, oe) :: pn)) (b₀ :: suite) (rdX (cx X) a i cls d x (h x))) :
    SS X E (.Try body [.ExceptHandler (some (.Name x np)) (some n) (b₀ :: suite) pos'] [] [] pos) (sTryA sub i b h) := by
  refine PS.mono (ps_try_as (i := i) (tb := fun W D σ H => rdS (cx X) (WE W σ) b D σ H) (ts := fun a cls d D σ H => ∃ x, rdX (cx X) a i cls d x (h x) D σ H) (Wout := fun cls d _ H => E cls d H) hs hf hN hi hln hc tk (fun W pn xe t1 t2 => hb W pn xe t1 t2)
    (fun a oe cls d pn hz hd => ⟨fun pins s σ H D I ⟨x, q⟩ => (hsu a oe cls d pn x hz hd).run pins s σ H D I q⟩)) fun D σ H ⟨fr, S, m, rf, rs, p⟩ => ?_
  refine ⟨fr, S, m, rf, rs, ?_⟩
  unfold sTryA at p
  generalize b fr S = r at p
  cases r with
  | ok o S' => exact p
  | bad => exact p.elim
  | exc x S' =>
    intro m' H' e' rs' cls da rx
    unfold tryK at p
    dsimp only at p
    obtain ⟨C, hC, hcls, _⟩ := id rx
    subst hcls
    split at p
    · rename_i hb'
      have p := (post_quiet (E' := EF) p).ext e'
      split at p
      · rename_i hlt
        refine ⟨true, hsub _ _ hb' C hC, fun _ a ha => ⟨x, fr.set i none, S', m', ?_, rs', rx, ?_, ?_⟩, fun z => nomatch z⟩
        · have rf' := rf.mono e'
          refine ⟨by rw [List.length_set, List.length_set]; exact rf'.len, fun j d' q => ?_⟩
          by_cases e : i = j
          · subst e
            rw [List.getElem?_set_self hlt] at q
            cases q
          · rw [List.getElem?_set_ne e] at q
            rw [List.getElem?_set_ne e]
            exact rf'.get j d' q
        · rw [List.getElem?_set_self (by rw [← rf.len]; exact hlt)]
        · refine (post_bind p).imp fun o S2 m2 H2 e2 rs2 p2 => ?_
          have p2 := p2.here rs2
          cases o with
          | nx fr2 => exact fun σ2 rf2 => p2 _ (rf2.none i)
          | rt d2 => exact p2
          | bk fr2 => exact fun σ2 rf2 => p2 _ (rf2.none i)
          | ct fr2 => exact fun σ2 rf2 => p2 _ (rf2.none i)
      · exact p.elim
    · rename_i hb'
      exact ⟨false, hsub _ _ hb' C hC, fun z => (nomatch z), fun _ => p m' H' e' rs' _ _ rx⟩
    · exact p.elim
end
/-! ### a suite that reads the fields -/
section
variable {X : Cx} {a : Addr} {oe : Obj} {cls : Value} {d : Option Addr} {pn : List (Addr × Obj)} {x : Exn} {i : Nat}
def rdXE (c : Ct) (a : Addr) (i : Nat) (cls : Value) (d : Option Addr) (x : Exn) (f : EM) : TE := fun σ H Q => ∃ fr S m, RF c.K H m fr σ ∧ RS c m S H ∧ RelX c H m x cls d ∧ σ[i]? = some (some (.ref a)) ∧ Post c EF m H (f fr S) (kE c Q)
def rdXA (c : Ct) (a : Addr) (i : Nat) (cls : Value) (d : Option Addr) (x : Exn) (f : AM) : TA := fun σ H Q => ∃ fr S m, RF c.K H m fr σ ∧ RS c m S H ∧ RelX c H m x cls d ∧ σ[i]? = some (some (.ref a)) ∧ Post c EF m H (f fr S) fun ds _ m H => ∀ vs, RelL c.K H m ds vs → Q vs H
theorem xe_of {Y : Cx} {e : Expr} {f : EM} (h : SE Y EF e f) : PE Y e (rdXE (cx Y) a i cls d x f) := PE.mono h fun σ H Q ⟨fr, S, m, rf, rs, _, _, p⟩ => ⟨fr, S, m, rf, rs, p⟩
theorem lkF_rel {c : Ct} {H : Hp} {m : List Addr} (f : Tx) : ∀ {l : List (Tx × D)} {fs : List (Str × V)}, RelK c.K H m sOf l fs → ∀ dv, lkF l f = some dv → ∃ v, fs.lookup (sOf f) = some v ∧ RelD c.K H m dv v
  | _, _, .nil, dv, h => by cases h
  | (g, dg) :: l, (gs, vg) :: fs, .cons h t, dv, e => by
    obtain ⟨h1, h2⟩ := h
    have h1 : sOf g = gs := h1
    have h2 : RelD c.K H m dg vg := h2
    subst h1
    rw [lookup_put]
    by_cases hg : g = f
    · subst hg
      rw [if_pos rfl]
      have e' : some dg = some dv := by rw [← e]; simp [lkF]
      cases e'
      exact ⟨vg, rfl, h2⟩
    · rw [if_neg fun z => hg (sOf_inj z).symm]
      refine lkF_rel f t dv ?_
      rw [← e]
      simp [lkF, hg]
theorem xe_fld {C : Addr} {cn : String} {nm y : Str} {f : Tx} {p pos : Pos} (T : XfC X.K C) (hno : PySem.W.findIn X.K (.ref C) nm = some none) (hn : nm = sOf f) (hm : X.mg (cn : Str) = some (.ref C)) (hz : Zc cls d oe) (hf : ∃ vs, oe.data = .fields vs)
    (hN : (X.suite a ((a, oe) :: pn)).N[i]? = some y := by rfl) (hv : Vis X.env.scope y := by first | exact Or.inl rfl | exact Or.inr (Or.inl rfl) | exact Or.inr (Or.inr rfl)) (hd : (y == ("__debug__" : Str)) = false := by decide)
    (hcd : (y == ("__classdict__" : Str)) = false := by decide) (hb : attributeBase (.Name y p) nm X.env (eval (.Name y p) X.env) = eval (.Name y p) X.env := by rfl) :
    PE (X.suite a ((a, oe) :: pn)) (.Attribute (.Name y p) nm pos) (rdXE (cx X) a i cls d x (mXf cn x f)) := by
  refine PE.mono (pe_xf T hno hz hf (pe_var (i := i) hN hv hd hcd) hb) fun σ H Q ⟨fr, S, m, rf, rs, rx, hσ, p⟩ => ?_
  refine ⟨_, hσ, rfl, ?_⟩
  unfold mXf at p
  split at p
  · rename_i hcls
    obtain ⟨C', h1, h2, dd, fs, h3, h4, h5⟩ := rx
    rw [hcls] at h1
    have e : C' = C := by
      have := h1.symm.trans hm
      cases this
      rfl
    subst e
    split at p
    · rename_i dv hdv
      obtain ⟨v, hv1, hv2⟩ := lkF_rel f h5 dv hdv
      rw [← hn] at hv1
      exact ⟨h2, dd, fs, v, h3, h4, hv1, p.here rs v hv2⟩
    · exact p.elim
  · exact p.elim
theorem xa_nil {Y : Cx} : PA Y [] (rdXA (cx Y) a i cls d x aNil) := PA.mono pa_nil fun σ H Q ⟨fr, S, m, rf, rs, _, _, p⟩ => p.here rs [] .nil
theorem xa_cons {Y : Cx} {e : Expr} {es : List Expr} {fa : EM} {fs : AM} (ha : PE Y e (rdXE (cx Y) a i cls d x fa)) (hr : PA Y es (rdXA (cx Y) a i cls d x fs)) (hs : starEach (e :: es) Y.env = (false, eval e Y.env) :: starEach es Y.env := by rfl) : PA Y (e :: es) (rdXA (cx Y) a i cls d x (aCons fa fs)) := by
  refine PA.mono (pa_cons ha hr hs) fun σ H Q ⟨fr, S, m, rf, rs, rx, hσ, p⟩ => ?_
  refine ⟨fr, S, m, rf, rs, rx, hσ, (post_bind p).imp fun z S1 m1 H1 e1 rs1 p1 v hv => ?_⟩
  refine ⟨fr, S1, m1, rf.mono e1, rs1, rx.mono e1, hσ, (post_bind p1).imp fun xs S2 m2 H2 e2 rs2 p2 vs hvs => ?_⟩
  exact p2.here rs2 _ (.cons (hv.mono e2) hvs)
theorem xe_tup {Y : Cx} {es : List Expr} {fs : AM} {x1 pos} (h : PA Y es (rdXA (cx Y) a i cls d x fs)) : PE Y (.Tuple es x1 pos) (rdXE (cx Y) a i cls d x (mTup fs)) := by
  refine PE.mono (pe_tup h) fun σ H Q ⟨fr, S, m, rf, rs, rx, hσ, p⟩ => ?_
  refine ⟨fr, S, m, rf, rs, rx, hσ, (post_bind p).imp fun xs S1 m1 H1 e1 rs1 p1 vs hv => ?_⟩
  split at p1
  · rename_i hl
    exact ⟨by rw [← hv.len, line_eq]; exact hl, fun b hb => post_tup rs1 p1 hb hv⟩
  · exact p1.elim
theorem xe_lst {Y : Cx} {es : List Expr} {fs : AM} {pos} (h : PA Y es (rdXA (cx Y) a i cls d x fs)) : PE Y (.List es pos) (rdXE (cx Y) a i cls d x (mLst fs)) := by
  refine PE.mono (pe_lst h) fun σ H Q ⟨fr, S, m, rf, rs, rx, hσ, p⟩ => ?_
  refine ⟨fr, S, m, rf, rs, rx, hσ, (post_bind p).imp fun xs S1 m1 H1 e1 rs1 p1 vs hv => ?_⟩
  split at p1
  · rename_i hl
    exact ⟨by rw [← hv.len, line_eq]; exact hl, fun b hb => post_new rs1 p1 hb fun e0 => ⟨vs, upd_same, hv.mono e0⟩⟩
  · exact p1.elim
theorem xs_set {Y : Cx} {j : Nat} {y : Str} {e : Expr} {fe : EM} {pos pos' : Pos} (hij : j ≠ i) (hN : Y.N.Nodup) (hi : Y.N[j]? = some y) (hx : Loc Y.env.scope y) (he : PE Y e (rdXE (cx Y) a i cls d x fe)) (hs : swapsWith e (some (.Name y pos')) pos.line Y.env = pure false := by rfl) (hf : Y.fn y = true ∨ Y.env.scope.names.lookup y = some .local := by first | exact .inl rfl | exact .inr rfl | assumption) :
    PSs Y [.Assign [.Name y pos'] e pos] (rdX (cx Y) a i cls d x (sAsg fe (Mi.gName j))) := by
  refine PSs.mono (pss_one (ps_set hN hi hx he hs hf)) fun D σ H ⟨fr, S, m, rf, rs, rx, hσ, p⟩ => ?_
  refine ⟨fr, S, m, rf, rs, rx, hσ, (post_bind p).imp fun z S1 m1 H1 e1 rs1 p1 v hv => ?_⟩
  exact (post_bind p1).here rs1 |>.here rs1 _ ((rf.mono e1).set hv j)
theorem xs_cons {Y : Cx} {j : Nat} {y : Str} {e : Expr} {fe : EM} {pos pos' : Pos} {rest : List Stmt} {g : SM} (hij : j ≠ i) (hN : Y.N.Nodup) (hi : Y.N[j]? = some y) (hx : Loc Y.env.scope y) (he : PE Y e (rdXE (cx Y) a i cls d x fe)) (hr : PSs Y rest (rdX (cx Y) a i cls d x g)) (hs : swapsWith e (some (.Name y pos')) pos.line Y.env = pure false := by rfl) (hf : Y.fn y = true ∨ Y.env.scope.names.lookup y = some .local := by first | exact .inl rfl | exact .inr rfl | assumption) :
    PSs Y (.Assign [.Name y pos'] e pos :: rest) (rdX (cx Y) a i cls d x (sSeq (sAsg fe (Mi.gName j)) g)) := by
  refine PSs.mono (pss_cons (ps_set hN hi hx he hs hf) hr) fun D σ H ⟨fr, S, m, rf, rs, rx, hσ, p⟩ => ?_
  have p := post_bind p
  refine ⟨fr, S, m, rf, rs, rx, hσ, (post_bind p).imp fun z S1 m1 H1 e1 rs1 p1 v hv => ?_⟩
  have q := (post_bind p1).here rs1 |>.here rs1
  exact ⟨_, S1, m1, (rf.mono e1).set hv j, rs1, rx.mono e1, by rw [List.getElem?_set_ne hij]; exact hσ, q⟩
end
/-! ### a def that may raise -/
section
variable {P : Program} {w : World} {K : PySem.W.Frag} {mg : Str → Option Value} {base : Heap}
theorem fn_okX {x qual : Str} {st : Stmt} {f : Addr} {fd : FuncData} {N ps : List Str} {k : Nat} {b : SM} (F : Fun K x qual st f fd) (S : FnScope N ps (defScope st))
    (hb : ∀ (cdv : Value) (A : Around) (outer : List Env) (s : Shared) (H : Hp) (E : XK), Room k (A.deeper (envOfC qual (defScope st) s.heap.objs.size f cdv)) → SSs (cxOf (L2.CX P w) P w K mg base N qual (defScope st) f cdv A outer s H E) E (defBody st) b) :
    FnOk P w K mg base (L2.CX P w) (k + 1) f fd ps (spM ⟨K, mg⟩ (mDefX ps.length N.length b)) := by
  refine F.okX S (fun vs H Q E h => ?_) (fun cdv A outer s H vs Q E hr h => ?_)
  · obtain ⟨ds, S', m, r, rs, p⟩ := h
    unfold mDefX at p
    split at p
    · rename_i hl
      rw [← r.len]; exact hl
    · exact p.elim
  · obtain ⟨ds, S', m, r, rs, p⟩ := h
    unfold mDefX at p
    split at p
    · refine ⟨_, hb cdv A outer s H E hr, startF N.length ds, S', m, start_rel (c := ⟨K, mg⟩) r, rs, (post_bind p).imp fun o S1 m1 H1 e1 rs1 p1 => ?_⟩
      cases o with
      | nx fr => exact fun σ rf => p1.here rs1 _ .non
      | rt d => exact fun v hv => p1.here rs1 v hv
      | bk fr => exact p1.elim
      | ct fr => exact p1.elim
    · exact p.elim
end
end Sm

set_option Elab.async false
set_option linter.all false
set_option maxRecDepth 100000
set_option maxHeartbeats 2000000
/-! an exception class's own __init__ -/
namespace Sm
open PySem PySem.Spec PyProof.Rows L2 Mi
/-- an error of a class is caught by the clause that names the class -/
theorem exm_self {K : PySem.W.Frag} {S : Addr} (h1 : PySem.W.subIn K (.ref S) (.type "BaseException") = some true) (h2 : PySem.W.isClsIn K S = true) (h3 : PySem.W.typeIn K (.ref S) = some (.type "type")) (h4 : PySem.W.subIn K (.ref S) (.ref S) = some true) :
    PySem.W.exmOne K (.ref S) (.ref S) = some true := by
  have e1 : (PySem.W.subIn K (.ref S) (.type "BaseException") == some true) = true := by rw [h1] <;> rfl
  have e2 : ((PySem.W.clsIn K S).isSome && PySem.W.typeIn K (.ref S) == some (.type "type")) = true := by
    have h2' : (PySem.W.clsIn K S).isSome = true := h2
    rw [h2', h3] <;> rfl
  show (if (PySem.W.subIn K (.ref S) (.type "BaseException") == some true) = true then (if ((PySem.W.clsIn K S).isSome && PySem.W.typeIn K (.ref S) == some (.type "type")) = true then PySem.W.subIn K (.ref S) (.ref S) else none) else none) = some true
  rw [if_pos e1, if_pos e2]
  exact h4
theorem sub_one {c : Ct} {cn : String} {C : Addr} (hm : c.mg (cn : Str) = some (.ref C)) (em : PySem.W.exmOne c.K (.ref C) (.ref C) = some true) : Sub c (.ref C) (fun n => if n = cn then some true else none) := by
  intro n b h C' hC'
  dsimp only at h
  split at h
  · rename_i e
    subst e
    cases h
    rw [hm] at hC'
    cases hC'
    exact em
  · cases h
theorem init_pure3 {K : PySem.W.Frag} {C : Addr} {n1 n2 n3 : Str} {f1 f2 f3 : Tx} {v : V} {N : List Str} {vs : List V} {H : Hp} {Q : VK} {E : XK} (T : OexC K C) (e1 : n1 = sOf f1) (e2 : n2 = sOf f2) (e3 : n3 = sOf f3) (h1 : PySem.W.findIn K (.ref C) n1 = some none) (h2 : PySem.W.findIn K (.ref C) n2 = some none) (h3 : PySem.W.findIn K (.ref C) n3 = some none)
    (hN : N.length = 4) (h : spInit C [f1, f2, f3] vs H Q E) :
    tSeq (tDrop (tVeI K (tCons (tVar 0) (tCons (tC v) tNil)))) (tSeq (tOst K n1 (tVar 0) (tVar 1)) (tSeq (tOst K n2 (tVar 0) (tVar 2)) (tOst K n3 (tVar 0) (tVar 3)))) { nx := fun _ H' => Q .non H', rt := Q } (start N vs) H := by
  subst e1 e2 e3
  obtain ⟨a, ys, rfl, hl, ha, q⟩ := h
  match ys, hl with
  | [y1, y2, y3], _ =>
    have hs : start N [.ref a, y1, y2, y3] = [some (.ref a), some y1, some y2, some y3] := by
      unfold L2.start
      rw [hN]
      rfl
    rw [hs]
    refine ⟨_, rfl, a, C, [v], rfl, (show 1 ≤ 1000 by decide), T, ha, ?_⟩
    refine ⟨_, rfl, _, rfl, a, C, rfl, T, h1, .inl ⟨ha, fun d hd hda => ?_⟩⟩
    have A1 : upd (upd H d (exd d [(sOf f1, y1)])) a (exo a C (some d)) a = some (exo a C (some d)) := upd_same
    have D1 : upd (upd H d (exd d [(sOf f1, y1)])) a (exo a C (some d)) d = some (exd d [(sOf f1, y1)]) := by rw [upd_ne hda, upd_same]
    generalize hG : upd (upd H d (exd d [(sOf f1, y1)])) a (exo a C (some d)) = G at A1 D1
    refine ⟨_, rfl, _, rfl, a, C, rfl, T, h2, .inr ⟨d, _, A1, D1, by simp, ?_⟩⟩
    have A2 : upd G d (exd d ((sOf f2, y2) :: [(sOf f1, y1)])) a = some (exo a C (some d)) := by rw [upd_ne (Ne.symm hda)]; exact A1
    have D2 : upd G d (exd d ((sOf f2, y2) :: [(sOf f1, y1)])) d = some (exd d [(sOf f2, y2), (sOf f1, y1)]) := upd_same
    refine ⟨_, rfl, _, rfl, a, C, rfl, T, h3, .inr ⟨d, _, A2, D2, by simp, ?_⟩⟩
    refine q d _ (by rw [upd_ne (Ne.symm hda)]; exact A2) upd_same hd hda fun b hb hbd => ?_
    rw [upd_ne hbd, upd_ne hbd, ← hG, upd_ne hb, upd_ne hbd]
theorem init_pure2 {K : PySem.W.Frag} {C : Addr} {n1 n2 : Str} {f1 f2 : Tx} {v : V} {N : List Str} {vs : List V} {H : Hp} {Q : VK} {E : XK} (T : OexC K C) (e1 : n1 = sOf f1) (e2 : n2 = sOf f2) (h1 : PySem.W.findIn K (.ref C) n1 = some none) (h2 : PySem.W.findIn K (.ref C) n2 = some none)
    (hN : N.length = 3) (h : spInit C [f1, f2] vs H Q E) :
    tSeq (tDrop (tVeI K (tCons (tVar 0) (tCons (tC v) tNil)))) (tSeq (tOst K n1 (tVar 0) (tVar 1)) (tOst K n2 (tVar 0) (tVar 2))) { nx := fun _ H' => Q .non H', rt := Q } (start N vs) H := by
  subst e1 e2
  obtain ⟨a, ys, rfl, hl, ha, q⟩ := h
  match ys, hl with
  | [y1, y2], _ =>
    have hs : start N [.ref a, y1, y2] = [some (.ref a), some y1, some y2] := by
      unfold L2.start
      rw [hN]
      rfl
    rw [hs]
    refine ⟨_, rfl, a, C, [v], rfl, (show 1 ≤ 1000 by decide), T, ha, ?_⟩
    refine ⟨_, rfl, _, rfl, a, C, rfl, T, h1, .inl ⟨ha, fun d hd hda => ?_⟩⟩
    have A1 : upd (upd H d (exd d [(sOf f1, y1)])) a (exo a C (some d)) a = some (exo a C (some d)) := upd_same
    have D1 : upd (upd H d (exd d [(sOf f1, y1)])) a (exo a C (some d)) d = some (exd d [(sOf f1, y1)]) := by rw [upd_ne hda, upd_same]
    generalize hG : upd (upd H d (exd d [(sOf f1, y1)])) a (exo a C (some d)) = G at A1 D1
    refine ⟨_, rfl, _, rfl, a, C, rfl, T, h2, .inr ⟨d, _, A1, D1, by simp, ?_⟩⟩
    refine q d _ (by rw [upd_ne (Ne.symm hda)]; exact A1) upd_same hd hda fun b hb hbd => ?_
    rw [upd_ne hbd, ← hG, upd_ne hb, upd_ne hbd]
theorem init_pure1 {K : PySem.W.Frag} {C : Addr} {n1 : Str} {f1 : Tx} {v : V} {N : List Str} {vs : List V} {H : Hp} {Q : VK} {E : XK} (T : OexC K C) (e1 : n1 = sOf f1) (h1 : PySem.W.findIn K (.ref C) n1 = some none)
    (hN : N.length = 2) (h : spInit C [f1] vs H Q E) :
    tSeq (tDrop (tVeI K (tCons (tVar 0) (tCons (tC v) tNil)))) (tOst K n1 (tVar 0) (tVar 1)) { nx := fun _ H' => Q .non H', rt := Q } (start N vs) H := by
  subst e1
  obtain ⟨a, ys, rfl, hl, ha, q⟩ := h
  match ys, hl with
  | [y1], _ =>
    have hs : start N [.ref a, y1] = [some (.ref a), some y1] := by
      unfold L2.start
      rw [hN]
      rfl
    rw [hs]
    refine ⟨_, rfl, a, C, [v], rfl, (show 1 ≤ 1000 by decide), T, ha, ?_⟩
    refine ⟨_, rfl, _, rfl, a, C, rfl, T, h1, .inl ⟨ha, fun d hd hda => ?_⟩⟩
    refine q d _ upd_same (by rw [upd_ne hda, upd_same]; rfl) hd hda fun b hb hbd => ?_
    rw [upd_ne hb, upd_ne hbd]
theorem spInit_len {C : Addr} {fs : List Tx} {vs : List V} {H : Hp} {Q : VK} {E : XK} (h : spInit C fs vs H Q E) : vs.length = fs.length + 1 := by
  obtain ⟨a, ys, rfl, hl, _⟩ := h
  rw [List.length_cons, hl]
/-- the defs in a class's text -/
def clsBody : Stmt → List Stmt
  | .ClassDef (body := b) .. => b
  | _ => []
end Sm

set_option Elab.async false
set_option linter.all false
set_option maxRecDepth 100000
set_option maxHeartbeats 2000000
/-! l.index(x) of data, o[i] += e, against the layer -/
namespace Sm
open PySem PySem.Spec PyProof.Rows L2 Mi
section
variable {X : Cx} {E : XK}
theorem mm_indexD (hu : X.A.units + 65 < cLine) : MtMm X E "list.index" lIndexD := by
  refine ⟨_, mt_indexD hu, fun x ds v vs S m H Q rs hv hvs p => ?_⟩
  unfold lIndexD at p
  split at p
  · rename_i w
    obtain ⟨u, rfl, hw⟩ := rel1 hvs
    split at p
    · rename_i ps d e1 e2
      split at p
      · rename_i hc
        split at p
        · rename_i j hj
          have dl := pd_dp rs hv e1
          cases hv with
          | @ref n a ha =>
            unfold placeD at hj
            obtain ⟨h1, h2, h3⟩ := List.findIdx?_eq_some_iff_getElem.mp hj
            exact ⟨a, u, d, ps, j, ps[j], rfl, rfl, dl, pd_dp rs hw e2, hc.2, hc.1, List.getElem?_eq_getElem h1, h2, fun k z hk hz => by
              obtain ⟨hk2, rfl⟩ := List.getElem?_eq_some_iff.mp hz
              have := h3 k hk
              simpa using this, p.here rs _ (.int _)⟩
          | tup h r =>
            exfalso
            unfold pd toP at e1
            obtain ⟨q, _, hq⟩ := Option.map_eq_some_iff.mp e1
            cases hq
          | wtp h r =>
            exfalso
            unfold pd toP at e1
            obtain ⟨q, _, hq⟩ := Option.map_eq_some_iff.mp e1
            cases hq
          | non => exfalso; unfold pd toP at e1; cases e1
          | bl => exfalso; unfold pd toP at e1; cases e1
          | int => exfalso; unfold pd toP at e1; cases e1
          | str => exfalso; unfold pd toP at e1; cases e1
        · exact p.elim
      · exact p.elim
    · exact p.elim
  · exact p.elim
/-- o[i] of a list, i from 0 on -/
def rGetL (K : PySem.W.Frag) : V → V → Hp → VK → Prop := fun o i H Q => ∃ (a : Addr) (k : Int) (xs : List V) (z : V), o = .ref a ∧ i = .int k ∧ 0 ≤ k ∧ k < 2 ^ 63 ∧ SqL K H a xs ∧ xs[k.toNat]? = some z ∧ Q z H
theorem pget_list : PGet X (rGetL X.K) := by
  intro pins s σ H o i ov iv Q I ro ri h
  obtain ⟨a, k, xs, z, rfl, rfl, h0, h1, hq, hz, q⟩ := h
  cases ro
  obtain ⟨t, rfl⟩ := ri
  obtain ⟨its, r, pl, _⟩ := I.list hq
  obtain ⟨w, ew, rw'⟩ := r.get hz
  exact wpAny_getItem_list pl.isList h0 h1 (by simpa using ew) ⟨z, H, I, rw', q⟩
theorem ss_augS {o i e : Expr} {fo fi fe : EM} {pos tpos : Pos} (hu : X.A.units + 65 < cLine) (ho : SE X E o fo) (hi : SE X E i fi) (he : SE X E e fe)
    (ha : ∀ ov iv new, augStore i ov iv new = (do holding [new, ov, iv] (setItem ov iv new); release [new, ov, iv] []; pure .next) := by intros; rfl) : SS X E (.AugAssign (.Subscript o i tpos) .Add e pos) (sAugS fo fi fe) := by
  refine PS.mono (ps_augS ho hi pget_list he ip_add (pset_or set_list (set_dict (by omega))) ha) fun D σ H ⟨fr, S, m, rf, rs, p⟩ => ?_
  refine rd_bind rf rs p fun x S1 m1 H1 e1 rf1 rs1 p1 xv hx => ?_
  refine rd_bind rf1 rs1 p1 fun y S2 m2 H2 e2 rf2 rs2 p2 yv hy => ?_
  have hx2 := hx.mono e2
  unfold getL at p2
  split at p2
  · rename_i n k
    split at p2
    · rename_i hk
      split at p2
      · rename_i l hl
        split at p2
        · rename_i v hv
          cases hx2 with
          | @ref _ a ha =>
            cases hy
            obtain ⟨xs, q1, q2⟩ := rs2.lst ha hl
            obtain ⟨z, hz, rz⟩ := q2.ix hv
            refine ⟨a, k, xs, z, rfl, rfl, hk.1, hk.2, q1, hz, ?_⟩
            refine rd_bind rf2 rs2 p2 fun w S4 m4 H4 e4 rf4 rs4 p4 wv hw => ?_
            have rz4 := rz.mono e4
            unfold oAddI at p4
            split at p4
            · rename_i i1 i2
              cases rz4
              cases hw
              refine ⟨i1, i2, rfl, rfl, ?_⟩
              have hx4 : RelD X.K H4 m4 (.ref n) (.ref a) := (RelD.ref (K := X.K) (H := H2) ha).mono e4
              rcases look_put rs4 hx4 (.int k) (.int (i1 + i2)) (post_bind p4) with h | ⟨b, H', e0, g, S', m', e3, rs3, q⟩
              · left
                obtain ⟨p0, xs', k', j, h1, h2, h3, h4, S', m', e3, rs3, q⟩ := h
                exact ⟨p0, xs', k', j, h1, h2, h3, h4, q.here rs3 σ (rf4.mono e3)⟩
              · exact .inr ⟨b, H', e0, g, q.here rs3 σ (rf4.mono e3)⟩
            · exact p4.elim
        · exact p2.elim
      · exact p2.elim
    · exact p2.elim
  · exact p2.elim
end
end Sm

set_option Elab.async false
set_option linter.all false
set_option maxRecDepth 100000
set_option maxHeartbeats 2000000
/-! calls with keywords, against the layer -/
namespace Sm
open PySem PySem.Spec PyProof.Rows L2 Mi
section
variable {X : Cx} {E : XK} {kpos : Pos} {e : Expr} {fa : EM} {nm : Option Str}
theorem PK.mono {kws : List Keyword} {t t' : TA} (h : PK X kws t) (f : ∀ σ H Q, t' σ H Q → t σ H Q) : PK X kws t' := ⟨fun pos pins s σ H Q I q => h.run pos pins s σ H Q I (f σ H Q q)⟩
theorem sk_nil : PK X [] (rdA (cx X) E aNil) := PK.mono pk_nil fun σ H Q ⟨fr, S, m, rf, rs, p⟩ => p.here rs [] .nil
theorem sk_cons {kws : List Keyword} {fs : AM} (ha : SE X E e fa) (hr : PK X kws (rdA (cx X) E fs)) : PK X (⟨nm, e, kpos⟩ :: kws) (rdA (cx X) E (aCons fa fs)) := by
  refine PK.mono (pk_cons ha hr) fun σ H Q ⟨fr, S, m, rf, rs, p⟩ => ?_
  refine rd_bind rf rs p fun x S1 m1 H1 e1 rf1 rs1 p1 v hv => ?_
  refine rdA_bind rf1 rs1 p1 fun xs S2 m2 H2 e2 rf2 rs2 p2 vs hvs => ?_
  exact p2.here rs2 _ (.cons (hv.mono e2) hvs)
end
section
variable {X : Cx} {E : XK} {pos : Pos} {e : Expr}
theorem se_callK {CX : CXT} {k n kn : Nat} {f : Addr} {fd : FuncData} {ps ks : List Str} {g : Fn} {x : Str} {p : Pos} {es : List Expr} {kws : List Keyword} {fs f2 : AM} (F : FnOk X.prog X.w X.K X.mg X.base CX k f fd ps (spM (cx X) g)) (hr : Room k X.A) (hg : Gl X x) (hm : X.mg x = some (.ref f)) (hk : PySem.W.keepIn X.K (.ref f) = true)
    (hb : KBn X.K fd ps n ks (fun us ws => us ++ ws) (fun vs zs => vs ++ zs)) (hx : Passes CX X E) (ha : SA X E (e :: es) fs) (h2 : PK X kws (rdA (cx X) E f2))
    (hkn : ks.length = kn := by rfl) (hall : (backToKw pos (keywordEach kws X.env)).all (·.1.isSome) = true := by rfl) (hks : (backToKw pos (keywordEach kws X.env)).filterMap (·.1) = ks := by rfl)
    (hdb : (x == ("__debug__" : Str)) = false := by decide) (he : starEach (e :: es) X.env = (false, eval e X.env) :: starEach es X.env := by rfl)
    (hpl : ((backTo pos (starEach (e :: es) X.env)).any (·.1) || (backToKw pos (keywordEach kws X.env)).any (·.1.isNone)) = false := by rfl) :
    SE X E (.Call (.Name x p) (e :: es) kws pos) (mCall g (aKw n kn fs f2)) := by
  subst hkn
  refine PE.mono (pe_callN F hr hg hm hk hb hx ha h2 hall hks hdb he hpl) fun σ H Q ⟨fr, S, m, rf, rs, q⟩ => ?_
  have q : Post (cx X) E m H ((aKw n ks.length fs f2 fr S).bind g) (kE (cx X) Q) := q
  rw [aKw_bind] at q
  refine rdA_bind rf rs q fun ds S1 m1 H1 e1 rf1 rs1 p1 vs hv => ?_
  refine rdA_bind rf1 rs1 p1 fun es S2 m2 H2 e2 rf2 rs2 p2 zs hz => ?_
  split at p2
  · rename_i hl
    exact ⟨hv.len.symm.trans hl.1, hz.len.symm.trans hl.2, _, S2, m2, (hv.mono e2).app hz, rs2, p2⟩
  · exact p2.elim
end
section
variable {K : PySem.W.Frag} {x qual : Str} {params : Arguments} {body : List Stmt} {scope : Scope} {d : V} {dvs : List V} {f : Addr} {fd : FuncData} {ps : List Str}
theorem fnD_kw (F : FunD K x qual params body scope (d :: dvs) [] f fd) (n : Nat) (ks : List Str)
    (h : ∀ (T : Addr) (kV doc pm : Value) (an : Option Addr) (cdv ct : Value) (us its ws : List Value), us.length = n → its.length = (d :: dvs).length → ws.length = ks.length →
      ∃ k, bindArgs (PySem.W.fnOf x qual params body scope (.ref T) kV doc pm an cdv ct) ⟨us, ks.zip ws⟩ = seqItems? (.ref T) >>= k ∧ k (some its.toArray) = pure (ps.zip (us ++ ws))) : KBn K fd ps n ks (fun us ws => us ++ ws) (fun vs zs => vs ++ zs) := by
  obtain ⟨oc, od, dV, kV, doc, pm, an, cdv, ct, osl, rfl, lk, hcd, hD, hK⟩ := F.ex
  rcases hD with ⟨e, _⟩ | ⟨_, T, o, its, m, rfl, lT, oT, rT⟩
  · cases e
  · refine ⟨fun s us ws X l1 l2 => ?_, fun r1 r2 => r1.append r2⟩
    obtain ⟨k, e1, e2⟩ := h T kV doc pm an cdv ct us its ws l1 rT.length.symm l2
    refine BindsTo.of_looks fun M => ?_
    rw [e1]
    exact looks_items X lT oT (.of_pure e2)
end
section
variable {X : Cx} {E : XK}
theorem om_and1 : OpM X E (binaryOp .BitAnd) oAnd1 := by
  refine ⟨_, op_andM, fun x y v u S m H Q rs hv hw p => ?_⟩
  cases hv <;> cases hw <;> first
    | exact p.elim
    | (rename_i i j
       unfold oAnd1 at p
       dsimp only at p
       split at p
       · rename_i h
         subst h
         exact ⟨i, 1, rfl, rfl, post_int rs p⟩
       · exact p.elim)
end
end Sm

set_option Elab.async false
set_option linter.all false
set_option maxRecDepth 100000
set_option maxHeartbeats 2000000
/-! displays, slices and sums of tuples known as they stand, against the layer -/
namespace Sm
open PySem PySem.Spec PyProof.Rows L2 Mi
section
variable {X : Cx} {E : XK} {pos : Pos}
/-- (e, ..), known as it stands -/
def tTupX (t : TA) : TE := fun σ H Q => t σ H fun xs H1 => xs.length ≤ sizeLine ∧ ∀ (a : Addr) (o : Obj), o.dict = none → H1 a = none → Q (.ref a) (upd H1 a (.frz o (.tup xs)))
theorem pe_tupX {es : List Expr} {t : TA} {x1} (h : PA X es t) : PE X (.Tuple es x1 pos) (tTupX t) := by
  refine ⟨fun pins s σ H Q I hq => ?_⟩
  refine wpAny_Tuple_spliced (thn (h.run pos pins s σ H _ I hq) fun us s1 ⟨xs, H1, I1, r, z, q⟩ => ⟨by rw [← r.length]; exact z, ?_⟩)
  have hf : H1 s1.heap.objs.size = none := I1.hok.fresh (Nat.le_refl _)
  refine ⟨.ref s1.heap.objs.size, upd H1 s1.heap.objs.size (.frz { cls := .type "tuple", data := .seq us.toArray } (.tup xs)), I1.laid (t' := s1.toks) (fun b u e => Heap.get?_push_of_some _ e) (Nat.le_refl _) ?_, rfl, q _ _ rfl hf⟩
  exact ⟨Heap.get?_push_size _ rfl, z, us, r, ⟨_, Heap.get?_push_size _ rfl, rfl, _, rfl⟩⟩
theorem se_tupX {es : List Expr} {fs : AM} {x1} (h : SA X E es fs) : SE X E (.Tuple es x1 pos) (mTupX fs) := by
  refine PE.mono (pe_tupX h) fun σ H Q ⟨fr, S, m, rf, rs, p⟩ => ?_
  refine rdA_bind rf rs p fun xs S1 m1 H1 e1 rf1 rs1 p1 vs hv => ?_
  split at p1
  · rename_i hl
    exact ⟨by rw [← hv.len, line_eq]; exact hl, fun a o ho ha => post_wtp rs1 p1 ha ho hv⟩
  · exact p1.elim
/-- t + u, known as it stands -/
def rCatW (K : PySem.W.Frag) : R2 := fun x y H Q => ∃ a b xs ys, x = .ref a ∧ y = .ref b ∧ SqT K H a xs ∧ SqT K H b ys ∧ xs.length + ys.length ≤ sizeLine ∧
  (xs = [] → Q (.ref b) H) ∧ (xs ≠ [] → ys = [] → Q (.ref a) H) ∧ (xs ≠ [] → ys ≠ [] → ∀ (p : Addr) (o : Obj), o.dict = none → H p = none → Q (.ref p) (upd H p (.frz o (.tup (xs ++ ys)))))
theorem op_catW : OpR X (binaryOp .Add) (rCatW X.K) := by
  intro pins s σ H x y v u Q I rx ry h
  obtain ⟨a, b, xs, ys, rfl, rfl, ha, hb, hz, q0, q1, q2⟩ := h
  cases rx
  cases ry
  obtain ⟨its, r1, p1, _⟩ := I.tuple ha
  obtain ⟨its2, r2, p2, _⟩ := I.tuple hb
  by_cases hx : xs = []
  · subst hx
    cases r1
    exact cat_tup0 p1 p2 ⟨.ref b, H, I, rfl, q0 rfl⟩
  · refine HT.cat_tup p1 p2 (fun z => hx (r1.nil_iff.mp z)) (fun z => ⟨.ref a, H, I, rfl, q1 hx (r2.nil_iff.mp z)⟩) (fun z => ?_) (by rw [← r1.length, ← r2.length]; exact hz)
    refine ⟨.ref s.heap.objs.size, upd H s.heap.objs.size (.frz { cls := .type "tuple", data := .seq (its ++ its2).toArray } (.tup (xs ++ ys))), I.laid (t' := s.toks) (fun b ob q => Heap.get?_push_of_some _ q) (Nat.le_refl _) ?_, rfl, q2 hx (fun w => z (r2.nil_iff.mpr w)) _ _ rfl (I.hok.fresh (Nat.le_refl _))⟩
    exact ⟨Heap.get?_push_size _ rfl, by rw [List.length_append]; exact hz, _, r1.append r2, IsTup.new _ _⟩
theorem om_addW : OpM X E (binaryOp .Add) oAddW := by
  refine ⟨_, op_catW, fun x y v u S m H Q rs hv hw p => ?_⟩
  unfold oAddW at p
  split at p
  · rename_i a b
    split at p
    · rename_i hl
      cases hv with
      | @wtp _ ad xs ha r1 =>
        cases hw with
        | @wtp _ bd ys hb r2 =>
          refine ⟨ad, bd, xs, ys, rfl, rfl, ha.sq, hb.sq, by rw [← r1.len, ← r2.len, line_eq]; exact hl, fun z => ?_, fun _ z => ?_, fun _ _ q o ho hq => post_wtp rs p hq ho (r1.app r2)⟩
          · have e : a = [] := List.length_eq_zero_iff.mp (by rw [r1.len, z]; rfl)
            subst e
            exact p.here rs _ (.wtp hb r2)
          · have e : b = [] := List.length_eq_zero_iff.mp (by rw [r2.len, z]; rfl)
            subst e
            rw [List.append_nil] at p
            exact p.here rs _ (.wtp ha r1)
    · exact p.elim
  · exact p.elim
/-- t[lo:hi], known as it stands -/
def rSlW (K : PySem.W.Frag) : V → Option Int → Option Int → Hp → VK → Prop := fun x lo hi H Q => ∃ a xs, x = .ref a ∧ SqT K H a xs ∧
  (HT.sIx xs.length 0 lo = 0 ∧ HT.sIx xs.length xs.length hi = xs.length → Q (.ref a) H) ∧ (¬ (HT.sIx xs.length 0 lo = 0 ∧ HT.sIx xs.length xs.length hi = xs.length) → ∀ (p : Addr) (o : Obj), o.dict = none → H p = none → Q (.ref p) (upd H p (.frz o (.tup (cutV xs lo hi)))))
theorem sl_tupW : SlR X (rSlW X.K) := by
  intro pins s σ H x v vl vu lo hi sl Q I rx hs pl pu h
  obtain ⟨a, xs, rfl, hx, q1, q2⟩ := h
  cases rx
  obtain ⟨its, r, ht, hz⟩ := I.tuple hx
  have hlen : its.toArray.size = xs.length := by rw [List.size_toArray]; exact r.length.symm
  refine ⟨"tuple", _, PyProof.Rows.slot_tuple_getitem.lookup, ht.typeIs, ?_⟩
  by_cases hw : HT.sIx xs.length 0 lo = 0 ∧ HT.sIx xs.length xs.length hi = xs.length
  · exact getItem_tuple_whole ht hs pl pu (by rw [hlen]; exact hw) ⟨.ref a, H, I, rfl, q1 hw⟩
  · refine HT.getItem_tuple_cut ht hs pl pu (by rw [hlen]; exact hw) ?_ (by rw [hlen]; exact hz)
    rw [hlen]
    refine ⟨.ref s.heap.objs.size, upd H s.heap.objs.size (.frz _ (.tup (cutV xs lo hi))), I.laid (t' := s.toks) (fun b ob q => Heap.get?_push_of_some _ q) (Nat.le_refl _) (show ObjOk X.prog X.w _ _ _ (.frz _ (.tup (cutV xs lo hi))) from ⟨Heap.get?_push_size _ rfl, Nat.le_trans (cutV_length xs lo hi) hz, _, (r.drop (HT.sIx xs.length 0 lo)).take (HT.sIx xs.length xs.length hi - HT.sIx xs.length 0 lo), IsTup.new _ _⟩), rfl, q2 hw _ _ rfl (I.hok.fresh (Nat.le_refl _))⟩
theorem slmW : SlM X E oSlW := by
  refine ⟨_, sl_tupW, fun x lo hi v S m H Q rs hv p => ?_⟩
  unfold oSlW at p
  split at p
  · rename_i l
    cases hv with
    | @wtp _ ad xs ha r1 =>
      refine ⟨ad, xs, rfl, ha.sq, fun z => ?_, fun _ q o ho hq => post_wtp rs p hq ho (cut_rel r1 lo hi)⟩
      have e : cut l lo hi = l := by
        unfold cut
        have z1 : sIx l.length 0 lo = 0 := by rw [r1.len]; exact z.1
        have z2 : sIx l.length l.length hi = l.length := by rw [r1.len]; exact z.2
        rw [z1, z2, List.drop_zero, Nat.sub_zero, List.take_length]
      rw [e] at p
      exact p.here rs _ (.wtp ha r1)
  · exact p.elim
theorem se_slW {a : Expr} {fa : EM} {lo hi : Option Expr} {fl fh : PM} {p2 : Pos} (ha : SE X E a fa) (hl : SO X E lo fl) (hh : SO X E hi fh) : SE X E (.Subscript a (.Slice lo hi none p2) pos) (mSlW fa fl fh) := by
  obtain ⟨r, ho, hr⟩ := slmW (X := X) (E := E)
  refine PE.mono (pe_slice ho ha hl hh) fun σ H Q ⟨fr, S, m, rf, rs, p⟩ => ?_
  refine rd_bind rf rs p fun x S1 m1 H1 e1 rf1 rs1 p1 v hv => ?_
  refine rdP_bind rf1 rs1 p1 fun l S2 m2 H2 e2 rf2 rs2 p2 => ?_
  refine rdP_bind rf2 rs2 p2 fun h S3 m3 H3 e3 rf3 rs3 p3 => ?_
  exact hr x l h v S3 m3 H3 Q rs3 ((hv.mono e2).mono e3) p3
end
end Sm

set_option Elab.async false
set_option linter.all false
set_option maxRecDepth 100000
set_option maxHeartbeats 2000000
/-! instances of own classes, against the layer -/
namespace Sm
open PySem PySem.Spec PyProof.Rows L2 Mi
section
variable {c : Ct} {m : List Addr} {S : Store} {H : Hp} {E : XK}
theorem lkF_non {K : PySem.W.Frag} (f : Tx) : ∀ {l : List (Tx × D)} {fs : List (Str × V)}, RelK K H m sOf l fs → lkF l f = none → fs.lookup (sOf f) = none
  | _, _, .nil, h => rfl
  | (g, dg) :: l, (gs, vg) :: fs, .cons h t, e => by
    obtain ⟨h1, h2⟩ := h
    have h1 : sOf g = gs := h1
    subst h1
    rw [lookup_put]
    by_cases hg : g = f
    · subst hg
      exfalso
      simp [lkF] at e
    · rw [if_neg fun z => hg (sOf_inj z).symm]
      refine lkF_non f t ?_
      rw [← e]
      simp [lkF, hg]
theorem fPut_rel {K : PySem.W.Frag} (f : Tx) {d : D} {v : V} (hv : RelD K H m d v) : ∀ {l : List (Tx × D)} {fs : List (Str × V)}, RelK K H m sOf l fs → RelK K H m sOf (fPut f d l) (putF (sOf f) v fs)
  | _, _, .nil => .cons ⟨rfl, hv⟩ .nil
  | (g, dg) :: l, (gs, vg) :: fs, .cons h t => by
    obtain ⟨h1, h2⟩ := h
    have h1 : sOf g = gs := h1
    subst h1
    unfold fPut putF
    by_cases hg : g = f
    · rw [if_pos hg, if_pos (by rw [hg])]
      exact .cons ⟨rfl, hv⟩ t
    · rw [if_neg hg, if_neg fun z => hg (sOf_inj z)]
      exact .cons ⟨rfl, h2⟩ (fPut_rel f hv t)
theorem RelK.len {K : PySem.W.Frag} {κ κ' : Type} {g : κ → κ'} : ∀ {l : List (κ × D)} {fs : List (κ' × V)}, RelK K H m g l fs → l.length = fs.length
  | _, _, .nil => rfl
  | _ :: _, _ :: _, .cons _ t => congrArg Nat.succ (RelK.len t)
/-- an instance known -/
theorem ins_of (rs : RS c m S H) {cn : String} {x : D} {v : V} {n : Nat} {fs : List (Tx × D)} (hv : RelD c.K H m x v) (h : insOf cn S x = some (n, fs)) : ∃ (a Ca dx : Addr) (gs : List (Str × V)), x = .ref n ∧ v = .ref a ∧ m[n]? = some a ∧ S[n]? = some (.ins cn fs) ∧ c.mg (cn : Str) = some (.ref Ca) ∧ H a = some (.ins Ca dx gs) ∧ RelK c.K H m sOf fs gs := by
  unfold insOf at h
  split at h
  · rename_i k
    split at h
    · rename_i C gs hs
      split at h
      · rename_i hc
        cases h
        subst hc
        cases hv with
        | @ref _ a ha =>
          obtain ⟨Ca, dx, ws, h1, h2, h3⟩ := rs.ob _ _ _ ha hs
          exact ⟨a, Ca, dx, ws, rfl, rfl, ha, hs, h1, h2, h3⟩
      · cases h
    · cases h
  · cases h
end
section
variable {X : Cx} {E : XK} {pos : Pos} {e : Expr} {fa : EM}
theorem se_fld {cn : String} {f : Tx} {nm : Str} {C : Addr} (hm : X.mg (cn : Str) = some (.ref C)) (c : Cls X.K C) (n : NoAttr X.K C nm) (hn : nm = sOf f) (he : SE X E e fa) (hb : attributeBase e nm X.env (eval e X.env) = eval e X.env := by rfl) : SE X E (.Attribute e nm pos) (mFld cn f fa) := by
  refine PE.mono (pe_fld he hb) fun σ H Q ⟨fr, S, m, rf, rs, p⟩ => ?_
  refine rd_bind rf rs p fun x S1 m1 H1 e1 rf1 rs1 p1 v hv => ?_
  split at p1
  · rename_i k fs hi
    obtain ⟨a, Ca, dx, gs, rfl, rfl, ha, hs, h1, h2, h3⟩ := ins_of rs1 hv hi
    have e : Ca = C := by
      have := h1.symm.trans hm
      cases this
      rfl
    subst e
    split at p1
    · rename_i dv hdv
      obtain ⟨v, hv1, hv2⟩ := lkF_rel f h3 dv hdv
      rw [← hn] at hv1
      exact ⟨a, Ca, dx, gs, v, rfl, h2, c, n, hv1, p1.here rs1 v hv2⟩
    · exact p1.elim
  · exact p1.elim
theorem ss_fld {cn : String} {f : Tx} {nm : Str} {C : Addr} {o value : Expr} {pos' : Pos} {fo fv : EM} (hm : X.mg (cn : Str) = some (.ref C)) (c : Cls X.K C) (n : NoAttr X.K C nm) (hn : nm = sOf f) (hv : SE X E value fv) (ho : SE X E o fo) (hsw : swapsWith value (some (.Attribute o nm pos')) pos.line X.env = pure false := by rfl) : SS X E (.Assign [.Attribute o nm pos'] value pos) (sFldM cn f fv fo) := by
  refine PS.mono (ps_fld ho hv hsw) fun D σ H ⟨fr, S, m, rf, rs, p⟩ => ?_
  refine rd_bind rf rs p fun y S1 m1 H1 e1 rf1 rs1 p1 v hv => ?_
  refine rd_bind rf1 rs1 p1 fun x S2 m2 H2 e2 rf2 rs2 p2 w hw => ?_
  split at p2
  · rename_i k fs hi
    split at p2
    · rename_i hl
      obtain ⟨a, Ca, dx, gs, rfl, rfl, ha, hs, h1, h2, h3⟩ := ins_of rs2 hw hi
      have e : Ca = C := by
        have := h1.symm.trans hm
        cases this
        rfl
      subst e
      subst hn
      refine ⟨a, Ca, dx, gs, rfl, h2, c, n, by rw [← RelK.len h3]; exact hl, ?_⟩
      obtain ⟨rs', e'⟩ := rs2.set (o' := .ins cn (fPut f y fs)) (u := .ins Ca dx (putF (sOf f) v gs)) ha hs trivial trivial fun e' => ⟨Ca, dx, _, h1, upd_same, RelK.mono e' (fPut_rel f (hv.mono e2) h3)⟩
      exact p2 _ _ e' rs' σ (rf2.mono e')
    · exact p2.elim
  · exact p2.elim
theorem se_meth {CX : CXT} {k : Nat} {f C : Addr} {fd : FuncData} {ps : List Str} {g : Fn} {cn : String} {mn : Tx} {nm : Str} {apos : Pos} {o : Expr} {es : List Expr} {fo : EM} {fs : AM} (hm : X.mg (cn : Str) = some (.ref C)) (c : Cls X.K C) (M : Meth X.K C nm f) (hn : nm = sOf mn) (F : FnOk X.prog X.w X.K X.mg X.base CX k f fd ps (spM (cx X) g)) (hr : Room k X.A) (hb : Binds X.K fd ps []) (hx : Passes CX X E)
    (ho : SE X E o fo) (ha : SA X E (e :: es) fs)
    (hst : starEach (e :: es) X.env = (false, eval e X.env) :: starEach es X.env := by rfl) (hpl : (backTo pos (starEach es X.env)).any (·.1) = false := by rfl)
    {pl : Sem Bool} (ht : eval (.Call (.Attribute o nm apos) (e :: es) [] pos) X.env = (do
      let ov ← eval o X.env
      standAt apos.atName
      let (f, first) ← holding [ov] (getMethod ov nm pl)
      callWith pos f first (backTo pos (starEach (e :: es) X.env)) (backToKw pos (keywordEach [] X.env))) := by rfl) :
    SE X E (.Call (.Attribute o nm apos) (e :: es) [] pos) (mMeth cn mn g fo fs) := by
  refine PE.mono (pe_meth ho c M F hr hb .nil hx ha hst hpl ht) fun σ H Q ⟨fr, S, m, rf, rs, p⟩ => ?_
  refine rd_bind rf rs p fun x S1 m1 H1 e1 rf1 rs1 p1 v hv => ?_
  split at p1
  · rename_i k fs hi
    obtain ⟨a, Ca, dx, gs, rfl, rfl, ha, hs, h1, h2, h3⟩ := ins_of rs1 hv hi
    have e : Ca = C := by
      have := h1.symm.trans hm
      cases this
      rfl
    subst e
    split at p1
    · rename_i hl
      refine ⟨a, dx, gs, rfl, h2, by rw [hn]; exact lkF_non mn h3 hl, ?_⟩
      refine rdA_bind rf1 rs1 p1 fun ds S2 m2 H2 e2 rf2 rs2 p2 vs hvs => ?_
      refine ⟨_, S2, m2, ?_, rs2, p2⟩
      rw [List.append_nil]
      exact .cons (hv.mono e2) hvs
    · exact p1.elim
  · exact p1.elim
theorem se_meth0 {CX : CXT} {k : Nat} {f C : Addr} {fd : FuncData} {ps : List Str} {g : Fn} {cn : String} {mn : Tx} {nm : Str} {apos : Pos} {o : Expr} {fo : EM} (hm : X.mg (cn : Str) = some (.ref C)) (c : Cls X.K C) (M : Meth X.K C nm f) (hn : nm = sOf mn) (F : FnOk X.prog X.w X.K X.mg X.base CX k f fd ps (spM (cx X) g)) (hr : Room k X.A) (hb : Binds X.K fd ps []) (hx : Passes CX X E)
    (ho : SE X E o fo)
    {pl : Sem Bool} (ht : eval (.Call (.Attribute o nm apos) [] [] pos) X.env = (do
      let ov ← eval o X.env
      standAt apos.atName
      let (f, first) ← holding [ov] (getMethod ov nm pl)
      callWith pos f first (backTo pos (starEach [] X.env)) (backToKw pos (keywordEach [] X.env))) := by rfl) :
    SE X E (.Call (.Attribute o nm apos) [] [] pos) (mMeth cn mn g fo aNil) := by
  refine PE.mono (pe_meth0 ho c M F hr hb .nil hx ht) fun σ H Q ⟨fr, S, m, rf, rs, p⟩ => ?_
  refine rd_bind rf rs p fun x S1 m1 H1 e1 rf1 rs1 p1 v hv => ?_
  split at p1
  · rename_i k fs hi
    obtain ⟨a, Ca, dx, gs, rfl, rfl, ha, hs, h1, h2, h3⟩ := ins_of rs1 hv hi
    have e : Ca = C := by
      have := h1.symm.trans hm
      cases this
      rfl
    subst e
    split at p1
    · rename_i hl
      refine ⟨a, dx, gs, rfl, h2, by rw [hn]; exact lkF_non mn h3 hl, ?_⟩
      exact ⟨_, S1, m1, .cons hv .nil, rs1, p1⟩
    · exact p1.elim
  · exact p1.elim
theorem se_make {CX : CXT} {k : Nat} {f C : Addr} {fd : FuncData} {ps : List Str} {g : Fn} {cn : String} {x : Str} {p : Pos} {es : List Expr} {fs : AM} (M : Mk X.K C f) (F : FnOk X.prog X.w X.K X.mg X.base CX k f fd ps (spM (cx X) g)) (hr : Room (k + 1) X.A) (hg : Gl X x) (hxc : x = (cn : Str)) (hm : X.mg x = some (.ref C)) (hb : Binds X.K fd ps []) (hx : Passes CX X E)
    (ha : SA X E (e :: es) fs) (hdb : (x == ("__debug__" : Str)) = false := by decide) (he : starEach (e :: es) X.env = (false, eval e X.env) :: starEach es X.env := by rfl) (hpl : (backTo pos (starEach es X.env)).any (·.1) = false := by rfl) :
    SE X E (.Call (.Name x p) (e :: es) [] pos) (mMake cn g fs) := by
  refine PE.mono (pe_make M F hr hg hm hb .nil hx ha hdb he hpl) fun σ H Q ⟨fr, S, m, rf, rs, q⟩ => ?_
  refine rdA_bind rf rs q fun ds S1 m1 H1 e1 rf1 rs1 p1 vs hvs => ?_
  intro a dx ha1 hd1 hne
  have rs2 := rs1.fresh (u := .own a) hd1
  have e2 : Ext m1 H1 m1 (upd H1 dx (.own a)) := ⟨⟨fun _ _ z => z, tstay_new hd1⟩, fstay_new hd1⟩
  have ha2 : upd H1 dx (.own a) a = none := by rw [upd_ne hne.symm]; exact ha1
  obtain ⟨rs3, e3⟩ := rs2.push (o := .ins cn []) (u := .ins C dx []) ha2 ⟨C, dx, [], by rw [← hxc]; exact hm, upd_same, .nil⟩
  have e13 := e2.trans e3
  have hmN : (m1 ++ [a])[S1.length]? = some a := by
    rw [← rs1.len, List.getElem?_append_right (Nat.le_refl _), Nat.sub_self]
    rfl
  refine ⟨_, _, _, .cons (.ref hmN) (by rw [List.append_nil]; exact hvs.mono e13), rs3, ?_⟩
  have p2 := Post.ext p1 e13
  refine (post_bind p2).imp fun d S4 m4 H4 e4 rs4 p4 v hv => ?_
  split at p4
  · rename_i hd
    refine ⟨?_, p4.here rs4 _ ((RelD.ref hmN : RelD (cx X).K _ (m1 ++ [a]) (.ref S1.length) (.ref a)).mono e4)⟩
    cases d <;> first | (cases hv; rfl) | (exact absurd hd (by decide)) | (simp [isN] at hd)
  · exact p4.elim
end
end Sm

set_option Elab.async false
set_option linter.all false
set_option maxRecDepth 100000
set_option maxHeartbeats 2000000
/-! C() without arguments, s.isalpha(), against the layer -/
namespace Sm
open PySem PySem.Spec PyProof.Rows L2 Mi
section
variable {X : Cx} {E : XK} {pos : Pos}
theorem alp_ok : ∀ c, c < 128 → Txt.isalpha (sOf [c]) = alpC c := by decide +kernel
theorem mm_isalpha : MtMm X E "str.isalpha" sAlpha := by
  refine ⟨_, mt_isalpha, fun x ds v vs S m H Q rs hv hvs p => ?_⟩
  unfold sAlpha at p
  split at p
  · rename_i c
    cases hv
    split at p
    · cases hvs
      split at p
      · rename_i h
        refine ⟨sOf [c], rfl, rfl, trivial, ?_⟩
        rw [alp_ok c h]
        exact post_bl rs p
      · exact p.elim
    · exact p.elim
  · exact p.elim
theorem se_make0 {CX : CXT} {k : Nat} {f C : Addr} {fd : FuncData} {ps : List Str} {g : Fn} {cn : String} {x : Str} {p : Pos} (M : Mk X.K C f) (F : FnOk X.prog X.w X.K X.mg X.base CX k f fd ps (spM (cx X) g)) (hr : Room (k + 1) X.A) (hg : Gl X x) (hxc : x = (cn : Str)) (hm : X.mg x = some (.ref C)) (hb : Binds X.K fd ps []) (hx : Passes CX X E)
    (hdb : (x == ("__debug__" : Str)) = false := by decide) :
    SE X E (.Call (.Name x p) [] [] pos) (mMake cn g aNil) := by
  refine PE.mono (pe_make0 M F hr hg hm hb .nil hx hdb) fun σ H Q ⟨fr, S1, m1, rf, rs1, p1⟩ => ?_
  show ∀ a dx, H a = none → H dx = none → dx ≠ a → _
  intro a dx ha1 hd1 hne
  have rs2 := rs1.fresh (u := .own a) hd1
  have e2 : Ext m1 H m1 (upd H dx (.own a)) := ⟨⟨fun _ _ z => z, tstay_new hd1⟩, fstay_new hd1⟩
  have ha2 : upd H dx (.own a) a = none := by rw [upd_ne hne.symm]; exact ha1
  obtain ⟨rs3, e3⟩ := rs2.push (o := .ins cn []) (u := .ins C dx []) ha2 ⟨C, dx, [], by rw [← hxc]; exact hm, upd_same, .nil⟩
  have e13 := e2.trans e3
  have hmN : (m1 ++ [a])[S1.length]? = some a := by
    rw [← rs1.len, List.getElem?_append_right (Nat.le_refl _), Nat.sub_self]
    rfl
  refine ⟨_, _, _, .cons (.ref hmN) .nil, rs3, ?_⟩
  have p1 : Post (cx X) E m1 H ((g [.ref S1.length] (S1 ++ [.ins cn []])).bind fun d S2 => if isN d then .ok (.ref S1.length) S2 else .bad) (kE (cx X) Q) := p1
  have p2 := Post.ext p1 e13
  refine (post_bind p2).imp fun d S4 m4 H4 e4 rs4 p4 v hv => ?_
  split at p4
  · rename_i hd
    refine ⟨?_, p4.here rs4 _ ((RelD.ref hmN : RelD (cx X).K _ (m1 ++ [a]) (.ref S1.length) (.ref a)).mono e4)⟩
    cases d <;> first | (cases hv; rfl) | (exact absurd hd (by decide)) | (simp [isN] at hd)
  · exact p4.elim
end
end Sm

set_option Elab.async false
set_option linter.all false
set_option maxRecDepth 100000
set_option maxHeartbeats 2000000
/-! list(d.values()), against the layer -/
namespace Sm
open PySem PySem.Spec PyProof.Rows L2 Mi
section
variable {X : Cx} {e : Expr} {te : TE} {p apos cpos pos : Pos}
theorem vals_at {κ : Type} : ∀ {kvs : List (κ × V)} {vs : List (κ × Value)} {us : List Value}, KV kvs vs → us.length = vs.length → (∀ (j : Nat) (v : Value), us[j]? = some v → ∃ k : κ, vs[j]? = some (k, v)) → Vals (kvs.map fun p => p.2) us
  | _, _, [], .nil, _, _ => .nil
  | _, _, u :: us, .cons h t, hl, hh => by
    obtain ⟨k, e1⟩ := hh 0 u rfl
    have e1' := Option.some.inj e1
    subst e1'
    exact .cons h.2 (vals_at t (by simpa using hl) fun j v e => by
      obtain ⟨k, a⟩ := hh (j + 1) v (by simpa using e)
      exact ⟨k, by simpa using a⟩)
def tValsL (te : TE) : TE := fun σ H Q => te σ H fun x H1 => ∃ (d : Addr) (kvs : List (L2.Key × V)), x = .ref d ∧ H1 d = some (.dK kvs) ∧ ∀ a, H1 a = none → Q (.ref a) (upd H1 a (.lst (kvs.map fun p => p.2)))
theorem pe_valsL (hc : X.calm = true) (he : PE X e te) (hg : Gl X "list") (hm : X.mg "list" = none) (hbase : attributeBase e "values" X.env (eval e X.env) = eval e X.env := by rfl) (hline : (apos.endLine == cpos.line) = true := by rfl)
    (hv : bootBuiltins "list" = some (.type "list") := by rfl) (hs : starEach [.Call (.Attribute e "values" apos) [] [] cpos] X.env = (false, eval (.Call (.Attribute e "values" apos) [] [] cpos) X.env) :: starEach [] X.env := by rfl) :
    PE X (.Call (.Name "list" p) [.Call (.Attribute e "values" apos) [] [] cpos] [] pos) (tValsL te) := by
  refine ⟨fun pins s σ H Q I hq => ?_⟩
  refine wpAny_Call_Name_kw (ld_blt I hg hm hv ?_)
  refine PyProof.Rows.callWith_type1 ?_ hs rfl
  rw [hs]
  show wpAny _ _ (spliced ((false, eval (.Call (.Attribute e "values" apos) [] [] cpos) X.env) :: backTo pos (starEach [] X.env))) _ _ s
  refine Calls.spliced_cons ?_
  refine wpAny_Call_method (T := "dict") (id := "dict.values") hbase rfl hline F.plainAttrs_dict F.slot_dict_values F.type_dict_values (thn (he.run pins s σ H _ I hq) fun u s1 ⟨x, H1, I1, rx, d, kvs, ex, hd, q⟩ => ?_)
  subst ex
  obtain rfl : u = Value.ref d := rx
  obtain ⟨hz, hs0, vs, kv, hdo⟩ := I1.hok d _ hd
  obtain ⟨ep, hat⟩ := hdo.dictAt
  have lk : kvs.length = vs.length := Paired.length kv
  have I2 : Inv X pins σ H1 { s1 with heap := s1.heap.push { cls := .type "dict_values", data := .fields #[.ref d] } } := I1.kept (t' := s1.toks) fun b ob q => Heap.get?_push_of_some _ q
  refine ⟨hdo.typeIs, hdo.mapOf.noDict, ?_⟩
  show wpAny _ _ (callWith cpos (.builtin "dict.values") [.ref d] [] []) _ X.xe s1
  refine method_meetsIn F.slot_dict_values F.entry_dict_values rfl (PySem.evalArgs_none ⟨rfl, hdo.typeIs, F.args_dict_values_1 _, _, meets_dict_values (mixKind X.prog X.w) d hs0, ⟨vs, hdo⟩, ?_⟩)
  refine Calls.spliced_nil ?_
  refine PySem.W.kdl_call (PySem.W.kdl_values (knd := mixKind X.prog X.w) (r := s1.heap.objs.size) (d := d) (kvs := vs) (ep := ep)) (I1.ok.hd hc) ⟨⟨_, Heap.get?_push_size _ rfl, rfl, rfl⟩, hat.push _⟩ (by omega) fun h' tk acc c hk hD hacc => ?_
  have hvv : Vals (kvs.map fun p => p.2) acc.toList := vals_at kv (by rw [Array.length_toList]; exact hacc.1) fun j v e => hacc.2 j v (by rw [← Array.getElem?_toList]; exact e)
  refine ⟨.ref _, _, I2.laid (t' := tk) (o := .lst (kvs.map fun p => p.2)) hk (Nat.le_refl _) ?_, rfl, q _ ?_⟩
  · exact ⟨by rw [List.length_map]; exact hz, acc.toList, c, hvv, by rw [Array.toArray_toList]; exact hD⟩
  · exact I2.hok.fresh (Nat.le_refl _)
end
section
variable {X : Cx} {E : XK} {pos : Pos}
theorem RelK.vals {c : Ct} {H : Hp} {m : List Addr} {κ κ' : Type} {f : κ → κ'} {k : List (κ × D)} {kv : List (κ' × V)} (h : RelK c.K H m f k kv) : RelL c.K H m (k.map fun p => p.2) (kv.map fun p => p.2) := by
  induction h with
  | nil => exact .nil
  | @cons p q ps qs h t ih =>
    rw [List.map_cons, List.map_cons]
    exact .cons h.2 ih
theorem se_valsL {e : Expr} {fe : EM} {p apos cpos : Pos} (hc : X.calm = true) (he : SE X E e fe) (hg : Gl X "list") (hm : X.mg "list" = none) (hbase : attributeBase e "values" X.env (eval e X.env) = eval e X.env := by rfl) (hline : (apos.endLine == cpos.line) = true := by rfl)
    (hs : starEach [.Call (.Attribute e "values" apos) [] [] cpos] X.env = (false, eval (.Call (.Attribute e "values" apos) [] [] cpos) X.env) :: starEach [] X.env := by rfl) :
    SE X E (.Call (.Name "list" p) [.Call (.Attribute e "values" apos) [] [] cpos] [] pos) (mValL fe) := by
  refine PE.mono (pe_valsL hc he hg hm hbase hline rfl hs) fun σ H Q ⟨fr, S, m, rf, rs, q⟩ => ?_
  refine rd_bind rf rs q fun x S1 m1 H1 e1 rf1 rs1 p1 v hv => ?_
  unfold uVals at p1
  split at p1
  · rename_i n
    cases hv with
    | ref ha =>
      split at p1
      · rename_i k hk
        obtain ⟨kv, h1, h2⟩ := rs1.ob _ _ _ ha hk
        exact ⟨_, kv, rfl, h1, fun b hb => post_new rs1 p1 hb fun e => ⟨_, upd_same, (RelK.vals h2).mono e⟩⟩
      · exact p1.elim
  · exact p1.elim
end
end Sm

set_option Elab.async false
set_option linter.all false
set_option maxRecDepth 100000
set_option maxHeartbeats 2000000
/-! == of tuples whose items are equal: texts, numbers, lists, dicts -/
namespace Sm
open PySem PySem.Spec PyProof.Rows L2 Mi
open PySem.AutoSeq1 (wpAny_loadPart')
open PySem.SeqAt
section
variable {prog : Program} {w : World}
theorem tupEq_in (l b : Addr) (xs ys : Array Value) (n n2 : Nat) (dd dd2 : Option Addr) (sl sl2 : Array (Option Value)) (hsz : xs.size = ys.size) :
    MeetsIn prog w (Builtin.«tuple.__eq__» ⟨[.ref l, .ref b], []⟩)
      (fun A R s => s.heap.get? l = some { cls := .type "tuple", dict := dd, data := .seq xs n, slots := sl } ∧ s.heap.get? b = some { cls := .type "tuple", dict := dd2, data := .seq ys n2, slots := sl2 } ∧
        (∀ j (h1 : j < xs.size) (h2 : j < ys.size), EqP prog w A.in1 s xs[j] ys[j] true) ∧ R (.ok (.ret (.bool true))) s) := by
  intro A R s h
  obtain ⟨hp, g, d, tk, os⟩ := s
  obtain ⟨hl, hb, he, h⟩ := h
  have f := AutoSeq1.sub_tuple_tuple
  have len : (xs.toList.zip ys.toList).length = xs.size := by simp [hsz]
  wp_walk using wpAny_loadPart' hl, wpAny_loadPart' hb, wpAny_forIn_list _ (fun rest b s' => b.1 = none ∧ s' = ⟨hp, g, d, tk, os⟩ ∧ ∃ i, rest = (xs.toList.zip ys.toList).drop i) _
  case turn =>
    rintro ⟨y, x⟩ rest b s' ⟨hb', rfl, i, hz⟩
    have hi : i < (xs.toList.zip ys.toList).length := by
      apply Decidable.byContradiction
      intro hn
      rw [List.drop_of_length_le (Nat.le_of_not_lt hn)] at hz
      cases hz
    have h1 : i < xs.size := by omega
    have h2 : i < ys.size := by omega
    rw [List.drop_eq_getElem_cons hi, List.cons.injEq] at hz
    obtain ⟨hyx, hrest⟩ := hz
    have e := Prod.mk.inj (hyx.trans (by simp : _ = (xs[i], ys[i])))
    obtain ⟨rfl, rfl⟩ := e
    refine wpAny_bind (he i h1 h2 _ _ ?_)
    wp_walk
    exact ⟨rfl, rfl, i + 1, hrest⟩
  case fin =>
    rintro ⟨b1, b2⟩ s' ⟨hb', rfl, i, hz⟩
    simp only at hb'
    subst hb'
    wp_walk
    simpa [Builtin.Tuple.tupleCompareSizes, hsz] using h
  case h =>
    exact ⟨rfl, rfl, 0, rfl⟩
theorem rcP_tups {A : Around} {s : Shared} {l b : Addr} {xs ys : Array Value} (hl : s.heap.IsTuple l xs) (hb : s.heap.IsTuple b ys) (hsz : xs.size = ys.size) (hu : A.units < cLine)
    (he : ∀ j (h1 : j < xs.size) (h2 : j < ys.size), EqP prog w A.in1 s xs[j] ys[j] true) (E Q : Value → Shared → Prop) (h : Q (.bool true) s) : wpAny (model prog w) A (richCompare .Eq (.ref l) (.ref b)) Q E s := by
  obtain ⟨⟨cls, dd, data, sl⟩, ho, hc, n, hd⟩ := id hl
  obtain ⟨⟨cls2, dd2, data2, sl2⟩, ho2, hc2, n2, hd2⟩ := id hb
  simp only at hc hd hc2 hd2
  subst hc hd hc2 hd2
  have ta : s.TypeIs (.ref l) "tuple" := ⟨_, ho, rfl⟩
  have tb : s.TypeIs (.ref b) "tuple" := ⟨_, ho2, rfl⟩
  exact wpAny_richCompare_same_room (op := .Eq) ta tb F.slot_tuple_eq (call_meetsIn F.slot_tuple_eq ta F.entry_tuple_eq (F.args_tuple_eq_2 _ _) (tupEq_in l b xs ys n n2 dd dd2 sl sl2 hsz)
    ⟨ho, ho2, he, show Value.bool true ≠ Value.notImplemented ∧ Q (.bool true) s from ⟨(fun x => nomatch x), h⟩⟩) hu
theorem tupNe_in (l b : Addr) (xs ys : Array Value) (n n2 : Nat) (dd dd2 : Option Addr) (sl sl2 : Array (Option Value)) (hsz : xs.size = ys.size) :
    MeetsIn prog w (Builtin.«tuple.__ne__» ⟨[.ref l, .ref b], []⟩)
      (fun A R s => s.heap.get? l = some { cls := .type "tuple", dict := dd, data := .seq xs n, slots := sl } ∧ s.heap.get? b = some { cls := .type "tuple", dict := dd2, data := .seq ys n2, slots := sl2 } ∧
        (∀ j (h1 : j < xs.size) (h2 : j < ys.size), EqP prog w A.in1 s xs[j] ys[j] true) ∧ R (.ok (.ret (.bool false))) s) := by
  intro A R s h
  obtain ⟨hp, g, d, tk, os⟩ := s
  obtain ⟨hl, hb, he, h⟩ := h
  have f := AutoSeq1.sub_tuple_tuple
  have len : (xs.toList.zip ys.toList).length = xs.size := by simp [hsz]
  wp_walk using wpAny_loadPart' hl, wpAny_loadPart' hb, wpAny_forIn_list _ (fun rest b s' => b.1 = none ∧ s' = ⟨hp, g, d, tk, os⟩ ∧ ∃ i, rest = (xs.toList.zip ys.toList).drop i) _
  case turn =>
    rintro ⟨y, x⟩ rest b s' ⟨hb', rfl, i, hz⟩
    have hi : i < (xs.toList.zip ys.toList).length := by
      apply Decidable.byContradiction
      intro hn
      rw [List.drop_of_length_le (Nat.le_of_not_lt hn)] at hz
      cases hz
    have h1 : i < xs.size := by omega
    have h2 : i < ys.size := by omega
    rw [List.drop_eq_getElem_cons hi, List.cons.injEq] at hz
    obtain ⟨hyx, hrest⟩ := hz
    have e := Prod.mk.inj (hyx.trans (by simp : _ = (xs[i], ys[i])))
    obtain ⟨rfl, rfl⟩ := e
    refine wpAny_bind (he i h1 h2 _ _ ?_)
    wp_walk
    exact ⟨rfl, rfl, i + 1, hrest⟩
  case fin =>
    rintro ⟨b1, b2⟩ s' ⟨hb', rfl, i, hz⟩
    simp only at hb'
    subst hb'
    wp_walk
    simpa [Builtin.Tuple.tupleCompareSizes, hsz] using h
  case h =>
    exact ⟨rfl, rfl, 0, rfl⟩
theorem rcP_tupsNe {A : Around} {s : Shared} {l b : Addr} {xs ys : Array Value} (hl : s.heap.IsTuple l xs) (hb : s.heap.IsTuple b ys) (hsz : xs.size = ys.size) (hu : A.units < cLine)
    (he : ∀ j (h1 : j < xs.size) (h2 : j < ys.size), EqP prog w A.in1 s xs[j] ys[j] true) (E Q : Value → Shared → Prop) (h : Q (.bool false) s) : wpAny (model prog w) A (richCompare .NotEq (.ref l) (.ref b)) Q E s := by
  obtain ⟨⟨cls, dd, data, sl⟩, ho, hc, n, hd⟩ := id hl
  obtain ⟨⟨cls2, dd2, data2, sl2⟩, ho2, hc2, n2, hd2⟩ := id hb
  simp only at hc hd hc2 hd2
  subst hc hd hc2 hd2
  have ta : s.TypeIs (.ref l) "tuple" := ⟨_, ho, rfl⟩
  have tb : s.TypeIs (.ref b) "tuple" := ⟨_, ho2, rfl⟩
  exact wpAny_richCompare_same_room (op := .NotEq) ta tb F.slot_tuple_ne (call_meetsIn F.slot_tuple_ne ta F.entry_tuple_ne (F.args_tuple_ne_2 _ _) (tupNe_in l b xs ys n n2 dd dd2 sl sl2 hsz)
    ⟨ho, ho2, he, show Value.bool false ≠ Value.notImplemented ∧ Q (.bool false) s from ⟨(fun x => nomatch x), h⟩⟩) hu
end
section
variable {X : Cx} {E : XK} {pos : Pos}
theorem isTup_of {h : Heap} {t : Addr} {items : Array Value} (x : IsTup h t items) : h.IsTuple t items := let ⟨o, ho, hc, n, hd⟩ := x; ⟨o, ho, hc, n, hd⟩
def rEqT (K : PySem.W.Frag) (b : Bool) : R2 := fun x y H Q => ∃ a c xs ys, x = .ref a ∧ y = .ref c ∧ SqT K H a xs ∧ SqT K H c ys ∧ Paired (EqV K H 2) xs ys ∧ Q (.bl b) H
theorem op_eqT (hu : X.A.units + 64 < cLine) : OpR X (compareOp .Eq) (rEqT X.K true) := by
  intro pins s σ H x y v u Q I rx ry h
  obtain ⟨a, c, xs, ys, rfl, rfl, h1, h2, hp, q⟩ := h
  cases (show v = Value.ref a from rx)
  cases (show u = Value.ref c from ry)
  obtain ⟨us, r1, p1, _⟩ := I.tuple h1
  obtain ⟨ws, r2, p2, _⟩ := I.tuple h2
  have hsz : us.toArray.size = ws.toArray.size := by
    rw [List.size_toArray, List.size_toArray, ← r1.length, ← r2.length]
    exact Paired.length hp
  refine rcP_tups (A := X.A) (isTup_of p1) (isTup_of p2) hsz (by omega) (fun j h1 h2 => ?_) _ _ ⟨.bl true, H, I, rfl, q⟩
  have k := items_run (eqV_run I 2 X.A.in1 (by show X.A.units + 1 + 2 < cLine; omega)) hp r1 r2 j (by simpa using h1) (by simpa using h2)
  simpa using k
theorem op_neT (hu : X.A.units + 64 < cLine) : OpR X (compareOp .NotEq) (rEqT X.K false) := by
  intro pins s σ H x y v u Q I rx ry h
  obtain ⟨a, c, xs, ys, rfl, rfl, h1, h2, hp, q⟩ := h
  cases (show v = Value.ref a from rx)
  cases (show u = Value.ref c from ry)
  obtain ⟨us, r1, p1, _⟩ := I.tuple h1
  obtain ⟨ws, r2, p2, _⟩ := I.tuple h2
  have hsz : us.toArray.size = ws.toArray.size := by
    rw [List.size_toArray, List.size_toArray, ← r1.length, ← r2.length]
    exact Paired.length hp
  refine rcP_tupsNe (A := X.A) (isTup_of p1) (isTup_of p2) hsz (by omega) (fun j h1 h2 => ?_) _ _ ⟨.bl false, H, I, rfl, q⟩
  have k := items_run (eqV_run I 2 X.A.in1 (by show X.A.units + 1 + 2 < cLine; omega)) hp r1 r2 j (by simpa using h1) (by simpa using h2)
  simpa using k
theorem paired_same {K : PySem.W.Frag} {H : Hp} : ∀ ns : List Int, Paired (EqV K H 1) (ns.map V.int) (ns.map V.int)
  | [] => .nil
  | n :: r => .cons (.inl ⟨rfl, rfl⟩) (paired_same r)
theorem eqI_ok {c : Ct} {H : Hp} {m : List Addr} {S : Store} {x y : D} {v w : V} (rs : RS c m S H) (hv : RelD c.K H m x v) (hw : RelD c.K H m y w) (h : eqI x y S = true) : EqV c.K H 2 v w := by
  unfold eqI at h
  split at h
  · rename_i n n'
    rw [Bool.or_eq_true] at h
    rcases h with h | h
    · split at h
      · rename_i k l hk hl
        have hs : oSame (.ref n) (.ref n') S = true := by
          unfold oSame
          dsimp only
          rw [hk, hl]
          exact h
        rcases same_cases rs hv hw hs with ⟨a, b, ks, ls, e1, e2, e3, e4, e5, e6⟩ | ⟨a, b, ks, ls, e1, e2, e3, e4, e5, e6⟩
        · exact .inr (.inr (.inr ⟨a, b, ks, ls, e1, e2, e3, e4, e5, fun p hp => ⟨p.2, (e6 p hp).1, .inl ⟨rfl, (e6 p hp).2⟩⟩⟩))
        · cases hv with
          | ref h1 =>
            obtain ⟨kv, q, _⟩ := rs.ob _ _ _ h1 hk
            cases e1
            have e3' := e3
            rw [q] at e3'
            cases e3'
      · cases h
    · split at h
      · rename_i a b ha hb
        split at h
        · rename_i u v' hu hv'
          have e := of_decide_eq_true h
          subst e
          cases hv with
          | ref h1 => cases hw with
            | ref h2 =>
              obtain ⟨xs, q1, q2⟩ := rs.lst h1 ha
              obtain ⟨ys, q3, q4⟩ := rs.lst h2 hb
              have e1 := ints_rel q2 hu
              have e2 := ints_rel q4 hv'
              subst e1
              subst e2
              exact .inr (.inr (.inl ⟨_, _, _, _, rfl, rfl, q1, q3, paired_same u⟩))
        · cases h
      · cases h
  · simp only [Bool.and_eq_true, decide_eq_true_eq] at h
    obtain ⟨rfl, f⟩ := flat_same (H' := H) hv hw h.2 h.1.1 h.1.2
    exact .inl ⟨rfl, f⟩
theorem eqIs_ok {c : Ct} {H : Hp} {m : List Addr} {S : Store} (rs : RS c m S H) : ∀ {xs ys : List D} {vs ws : List V}, RelL c.K H m xs vs → RelL c.K H m ys ws → eqIs xs ys S = true → Paired (EqV c.K H 2) vs ws
  | _, _, _, _, .nil, .nil, _ => .nil
  | _, _, _, _, .cons h t, .cons h' t', e => by
    unfold eqIs at e
    rw [Bool.and_eq_true] at e
    exact .cons (eqI_ok rs h h' e.1) (eqIs_ok rs t t' e.2)
  | _, _, _, _, .nil, .cons _ _, e => by cases e
  | _, _, _, _, .cons _ _, .nil, e => by cases e
theorem oTup_ok {c : Ct} {H : Hp} {m : List Addr} {S : Store} {x y : D} {v w : V} (rs : RS c m S H) (hv : RelD c.K H m x v) (hw : RelD c.K H m y w) (h : oTup x y S = true) : ∃ a b xs ys, v = .ref a ∧ w = .ref b ∧ SqT c.K H a xs ∧ SqT c.K H b ys ∧ Paired (EqV c.K H 2) xs ys := by
  unfold oTup at h
  split at h
  · cases hv with
    | @tup _ a xs ha r1 =>
      cases hw with
      | @tup _ b ys hb r2 => exact ⟨a, b, xs, ys, rfl, rfl, .inl (.inl ha), .inl (.inl hb), eqIs_ok rs r1 r2 h⟩
  · cases h
theorem om_eqT (hu : X.A.units + 65 < cLine) : OpM X E (compareOp .Eq) oEqT := by
  obtain ⟨r, h1, h2⟩ := om_eq (X := X) (E := E) hu
  refine ⟨_, opr_or h1 (op_eqT (by omega)), fun x y v u S m H Q rs hv hw p => ?_⟩
  unfold oEqT at p
  split at p
  · rename_i h
    obtain ⟨a, b, xs, ys, e1, e2, e3, e4, e5⟩ := oTup_ok rs hv hw h
    exact .inr ⟨a, b, xs, ys, e1, e2, e3, e4, e5, post_bl rs p⟩
  · exact .inl (h2 _ _ _ _ S m H Q rs hv hw p)
theorem om_neT (hu : X.A.units + 65 < cLine) : OpM X E (compareOp .NotEq) oNeT := by
  obtain ⟨r, h1, h2⟩ := om_ne (X := X) (E := E) hu
  refine ⟨_, opr_or h1 (op_neT (by omega)), fun x y v u S m H Q rs hv hw p => ?_⟩
  unfold oNeT at p
  split at p
  · rename_i h
    obtain ⟨a, b, xs, ys, e1, e2, e3, e4, e5⟩ := oTup_ok rs hv hw h
    exact .inr ⟨a, b, xs, ys, e1, e2, e3, e4, e5, post_bl rs p⟩
  · exact .inl (h2 _ _ _ _ S m H Q rs hv hw p)
theorem cm_sort2 : CallM X E (.builtin "sorted") bSort2 := by
  refine ⟨_, cr_sorted, fun ds vs S m H Q rs hv p => ?_⟩
  unfold bSort2 at p
  split at p
  · rename_i n
    obtain ⟨v, rfl, h⟩ := rel1 hv
    split at p
    · rename_i i j hl
      cases h with
      | ref ha =>
        obtain ⟨xs, h1, h2⟩ := rs.lst ha hl
        have e := ints_rel (ns := [i, j]) h2 rfl
        subst e
        refine ⟨_, [i, j], rfl, h1, by simp, fun ns' b hperm hpw hb => ?_⟩
        have e : ns' = if i ≤ j then [i, j] else [j, i] := by
          have hlen := hperm.length_eq
          match ns', hlen, hperm, hpw with
          | [a, b], _, hperm, hpw =>
            have ab : a ≤ b := by simpa using hpw
            have ma : a ∈ [i, j] := hperm.subset (by simp)
            have mb : b ∈ [i, j] := hperm.subset (by simp)
            have mi : i ∈ [a, b] := hperm.symm.subset (by simp)
            have mj : j ∈ [a, b] := hperm.symm.subset (by simp)
            simp at ma mb mi mj
            split
            · rename_i hij
              have e1 : a = i := by omega
              have e2 : b = j := by omega
              rw [e1, e2]
            · rename_i hij
              have e1 : a = j := by omega
              have e2 : b = i := by omega
              rw [e1, e2]
        subst e
        refine post_new rs p hb fun e => ⟨_, upd_same, ?_⟩
        split
        · exact .cons (.int _) (.cons (.int _) .nil)
        · exact .cons (.int _) (.cons (.int _) .nil)
      | _ => exact p.elim
    · exact p.elim
  · exact p.elim
end
end Sm

set_option Elab.async false
set_option linter.all false
set_option maxRecDepth 100000
set_option maxHeartbeats 4000000
/-! len(set(l)); sorted of pairs of numbers -/
namespace Sm
open PySem PySem.Spec PyProof.Rows L2 Mi
/-- the two numbers of a pair, by the heap -/
def kP (H : Hp) : V → Int × Int
  | .ref t => (match H t with
    | some (.tup [.int i, .int j]) => (i, j)
    | _ => (0, 0))
  | _ => (0, 0)
theorem kP_at {H : Hp} {t : Addr} {i j : Int} (h : H t = some (.tup [.int i, .int j])) : kP H (.ref t) = (i, j) := by simp only [kP, h]
/-! ### one sorted list -/
theorem leP_tot (p q : Int × Int) : leP p q = true ∨ leP q p = true := by
  unfold leP; simp only [decide_eq_true_eq]; omega
theorem leP_tr (p q r : Int × Int) : leP p q = true → leP q r = true → leP p r = true := by
  unfold leP; simp only [decide_eq_true_eq]; omega
theorem leP_as {p q : Int × Int} (h : leP p q = true) (k : leP q p = true) : p = q := by
  unfold leP at h k; simp only [decide_eq_true_eq] at h k
  have h1 : p.1 = q.1 := by omega
  have h2 : p.2 = q.2 := by omega
  exact Prod.ext h1 h2
theorem leP_refl (p : Int × Int) : leP p p = true := by unfold leP; simp
theorem srt_one : ∀ {l m : List (Int × Int)}, l.Pairwise (fun x y => leP x y = true) → m.Pairwise (fun x y => leP x y = true) → l.Perm m → l = m
  | [], m, _, _, h => (List.Perm.eq_nil h.symm).symm
  | x :: l, [], _, _, h => absurd h.length_eq (by simp)
  | x :: l, y :: m, hl, hm, h => by
    have e : x = y := by
      have h1 : leP x y = true := by
        rcases List.mem_cons.mp (h.mem_iff.mpr (List.mem_cons_self (a := y) (l := m))) with z | z
        · rw [z]; exact leP_refl _
        · exact (List.pairwise_cons.mp hl).1 y z
      have h2 : leP y x = true := by
        rcases List.mem_cons.mp (h.mem_iff.mp (List.mem_cons_self (a := x) (l := l))) with z | z
        · rw [z]; exact leP_refl _
        · exact (List.pairwise_cons.mp hm).1 x z
      exact leP_as h1 h2
    subst e
    rw [srt_one (List.pairwise_cons.mp hl).2 (List.pairwise_cons.mp hm).2 h.cons_inv]
theorem ltP_le {k : V → Int × Int} {x y : V} (h : ltP k y x = false) : leP (k x) (k y) = true := by
  have a := SrtO.lexB_no.mp h
  unfold leP; simp only [decide_eq_true_eq]; omega
/-- what is told of the sorted list -/
theorem sort_map {k : V → Int × Int} {xs ys : List V} (hs : SrtO.Srtd (ltP k) ys) (hb : SrtO.Stb (ltP k) ys xs) : ys.map k = (xs.map k).mergeSort leP := by
  refine srt_one ?_ ?_ ?_
  · refine List.pairwise_map.mpr (List.Pairwise.imp ?_ hs)
    intro a b h
    exact ltP_le h
  · have q := List.pairwise_mergeSort (le := leP) (fun a b c => leP_tr a b c) (fun a b => by
      rcases leP_tot a b with z | z <;> simp [z]) (xs.map k)
    exact q
  · exact (hb.perm.map k).trans (List.mergeSort_perm _ _).symm
section
variable {X : Cx} {E : XK}
/-- pairs by the layer -/
theorem pairsD_rel {K : PySem.W.Frag} {H : Hp} {m : List Addr} : ∀ {l : List D} {xs : List V} {ps : List (Int × Int)}, RelL K H m l xs → pairsD l = some ps → xs.map (kP H) = ps ∧ ∀ x ∈ xs, ∃ t, x = V.ref t ∧ H t = some (.tup [.int (kP H x).1, .int (kP H x).2])
  | _, _, _, .nil, e => by simp only [pairsD, Option.some.injEq] at e; subst e; exact ⟨rfl, fun _ h => nomatch h⟩
  | d :: l, v :: xs, ps, .cons h t, e => by
    rw [pairsD] at e
    obtain ⟨p, e1, e2⟩ := Option.bind_eq_some_iff.mp e
    obtain ⟨r, e3, e4⟩ := Option.map_eq_some_iff.mp e2
    obtain ⟨q1, q2⟩ := pairsD_rel t e3
    unfold prOf at e1
    split at e1
    · rename_i i j
      obtain rfl := Option.some.inj e1
      cases h with
      | tup ha r =>
        obtain ⟨a, b, rfl, h1, h2⟩ := rel2 r
        cases h1
        cases h2
        rename_i ad
        have e5 : kP H (.ref ad) = (i, j) := kP_at ha
        refine ⟨by rw [List.map_cons, e5, q1, e4], fun x hx => ?_⟩
        rcases List.mem_cons.mp hx with z | z
        · subst z
          exact ⟨ad, rfl, by rw [e5]; exact ha⟩
        · exact q2 x z
    · cases e1
theorem relL_pr {K : PySem.W.Frag} {H : Hp} {m : List Addr} : ∀ {ys : List V}, (∀ y ∈ ys, ∃ t, y = V.ref t ∧ H t = some (.tup [.int (kP H y).1, .int (kP H y).2])) → RelL K H m ((ys.map (kP H)).map prD) ys
  | [], _ => .nil
  | y :: ys, h => by
    obtain ⟨t, e, ht⟩ := h y List.mem_cons_self
    subst e
    exact .cons (.tup ht (.cons (.int _) (.cons (.int _) .nil))) (relL_pr fun z hz => h z (List.mem_cons_of_mem _ hz))
theorem keys_pairs {H : Hp} {kvs : List (List Key × V)} {bs : List Addr} (hp : ∀ p ∈ kvs, ∃ i j, p.1 = [Sum.inl i, Sum.inl j]) (hK : IsKeys H kvs bs) : ∀ b ∈ bs, H b = some (.tup [.int (kP H (.ref b)).1, .int (kP H (.ref b)).2]) := by
  intro b hb
  induction hK with
  | nil => cases hb
  | @cons p b' kvs' bs' h1 t ih =>
    rcases List.mem_cons.mp hb with z | z
    · subst z
      obtain ⟨i, j, e⟩ := hp p List.mem_cons_self
      rw [e] at h1
      have h1' : H b = some (.tup [.int i, .int j]) := h1
      rw [kP_at h1']
      exact h1'
    · exact ih (fun x hx => hp x (List.mem_cons_of_mem _ hx)) z
/-- sorted(d), d a dict whose keys are pairs of ints -/
theorem call_sorted_dT (hc : X.calm = true) : CallR X (.builtin "sorted") (fun xs H Q => ∃ d kvs, xs = [V.ref d] ∧ Rd H d (.dT kvs) ∧ (∀ p ∈ kvs, ∃ i j, p.1 = [Sum.inl i, Sum.inl j]) ∧
    ∀ p bs ys, H p = none → IsKeys H kvs bs → SrtO.Srtd (ltP (kP H)) ys → SrtO.Stb (ltP (kP H)) ys (bs.map V.ref) → Q (.ref p) (upd H p (.lst ys))) := by
  intro pins s σ H xs us Q I r h
  obtain ⟨d, kvs, rfl, hd, hp, q⟩ := h
  obtain ⟨u, rfl, rx⟩ := r.one
  cases rx
  obtain ⟨z, hs, ks, pr, o, es, ep, ho, hx, hdt, he, hn⟩ := (show ObjOk X.prog X.w H s.heap d (.dT kvs) from hd.ok I.hok)
  have l1 : es.size = ks.length := size_of_entries he
  have l2 : kvs.length = ks.length := Paired.length pr
  have hK : IsKeys H kvs (ks.map fun x => x.2.1) := isKeys_of pr
  refine Calls.call_function_entry PyProof.Rows.kind_sorted PyProof.Rows.plain_sorted PyProof.Rows.entry_sorted (PyProof.Rows.args_sorted1 _) ?_
  unfold Builtin.«sorted»
  refine wpAny_bind (m := checkCount "sorted" 1 1 _) (wpAny_pure ?_)
  refine wpAny_bind (PySem.W.kdu_collect (A := X.A.in1) (kdl_raw hs hx hdt) (I.ok.hd hc) ho (by omega) fun h' tk acc' kp it => ?_)
  have ea : acc'.toList = ks.map fun x => Value.ref x.2.1 := by
    have hl : acc'.toList.length = ks.length := by rw [Array.length_toList, it.1]; exact l1
    apply List.ext_getElem?
    intro j
    rw [List.getElem?_map]
    cases hj : acc'.toList[j]? with
    | none =>
      have h1 := List.getElem?_eq_none_iff.mp hj
      rw [List.getElem?_eq_none (by omega)]
      all_goals rfl
    | some v =>
      obtain ⟨en, hen, hv⟩ := it.2 j v (by rw [← Array.getElem?_toList]; exact hj)
      have qe := entry_at he j
      rw [hen] at qe
      cases hb : ks[j]? with
      | none =>
        rw [hb] at qe
        exact nomatch (show some en = none from qe)
      | some b =>
        rw [hb] at qe
        have e2 : en = entryOfKey (tupleKind (mixKind X.prog X.w)) b := Option.some.inj qe
        rw [hv, e2]
        all_goals rfl
  have eb : acc'.toList = (ks.map fun x => x.2.1).map Value.ref := by rw [ea, List.map_map]; all_goals rfl
  generalize (ks.map fun x => x.2.1) = bs at eb hK
  have lb : bs.length = ks.length := by
    have e := congrArg List.length eb
    have e2 := congrArg List.length ea
    rw [List.length_map] at e e2
    omega
  have I1 : Inv X pins σ H { s with heap := h', toks := tk } := I.kept kp
  have pairs := keys_pairs hp hK
  have hz : acc'.toList.length ≤ sizeLine := by rw [eb, List.length_map]; omega
  refine wpAny_bind (wpAny_newList ?_ hz)
  have hoL : (h'.push (seqObj "list" acc'.toList.toArray 0)).get? h'.objs.size = some (seqObj "list" acc'.toList.toArray 0) := Heap.get?_push_size _ rfl
  show wpAny _ _ _ _ _ { s with heap := h'.push (seqObj "list" acc'.toList.toArray 0), toks := tk }
  have hpv : ∀ v ∈ acc'.toList, Srt.IsPair (h'.push (seqObj "list" acc'.toList.toArray 0)) v (kP H (backV v)).1 (kP H (backV v)).2 := by
    intro v hv
    rw [eb] at hv
    obtain ⟨b, hb, rfl⟩ := List.mem_map.mp hv
    have ht := pairs b hb
    obtain ⟨_, its2, r2, o, ho, hc, n, hd⟩ := I1.hok _ _ ht
    obtain ⟨u1, u2, rfl, ri, rj⟩ := vals2 r2
    obtain ⟨t1, rfl⟩ := ri
    obtain ⟨t2, rfl⟩ := rj
    exact ⟨b, o, t1, t2, n, rfl, Heap.get?_push_of_some _ ho, hc, hd⟩
  refine wpAny_bind (wpAny_holding (wpAny_call_entry PyProof.Rows.slot_list_sort ⟨_, hoL, rfl⟩ PyProof.Rows.entry_list_sort
    (SrtO.list_sort_ord (s := { s with heap := h'.push (seqObj "list" acc'.toList.toArray 0), toks := tk }) (SrtO.swo_lex fun v => kP H (backV v)) hoL hz (fun h2 => SrtO.pairs_sortableO (by omega) hpv fun o e => ?_) fun out g1 g2 => ⟨_, rfl, ?_⟩) (PyProof.Rows.args_list_sort _)))
  · have e' : some o = some (seqObj "list" acc'.toList.toArray 0) := e.symm.trans hoL
    cases e'
    intro c
    exact absurd (Value.type.inj c) (by decide)
  obtain ⟨e', he'⟩ := PyProof.Rows.sortedHeap_at (vs := acc'.toList) (out := out.toArray) hoL
  have h3 : ∀ u ∈ out, ∃ a, u = Value.ref a := fun u hu => by
    have := g2.perm.mem_iff.mp hu
    rw [eb] at this
    obtain ⟨b, _, rfl⟩ := List.mem_map.mp this
    exact ⟨b, rfl⟩
  have em : acc'.toList.map backV = bs.map V.ref := by
    rw [eb, List.map_map]
    rfl
  have hb : SrtO.Stb (ltP (kP H)) (out.map backV) (bs.map V.ref) := by
    rw [← em]
    exact SrtO.Stb.map (ltP_swo (kP H)) backV g2
  have hlen : (out.map backV).length ≤ sizeLine := by
    rw [hb.len, List.length_map]; omega
  refine wpAny_pure ⟨_, rfl, .ref h'.objs.size, upd H h'.objs.size (.lst (out.map backV)), I1.laid (t' := tk) (fun b u e => ?_) (Nat.le_refl _)
    (show ObjOk X.prog X.w _ _ _ (.lst (out.map backV)) from ⟨hlen, out, e', vals_back h3, he'⟩), rfl, q _ bs _ (I1.hok.fresh (Nat.le_refl _)) hK (SrtO.srtd_map g1) hb⟩
  have hb : b < h'.objs.size := Heap.lt_size e
  rw [PyProof.Rows.sortedHeap_old (Nat.ne_of_lt hb) (by rw [size_push']; exact Nat.lt_succ_of_lt hb)]
  exact Heap.get?_push_of_some _ e
theorem RelL.keysT' {K : PySem.W.Frag} {H : Hp} {m : List Addr} {k : List (List Ky × D)} {ps : List (Int × Int)} {kv : List (List Key × V)} (h : RelK K H m (fun x => x.map kyK) k kv) (e : pairsD (k.map fun p => .tup (p.1.map kyD)) = some ps) : ∀ p ∈ kv, ∃ i j, p.1 = [Sum.inl i, Sum.inl j] := by
  induction h generalizing ps with
  | nil => intro p hp; cases hp
  | @cons p q pp qq h t ih =>
    rw [List.map_cons, pairsD] at e
    obtain ⟨w, e1, e2⟩ := Option.bind_eq_some_iff.mp e
    obtain ⟨r, e3, e4⟩ := Option.map_eq_some_iff.mp e2
    intro x hx
    rcases List.mem_cons.mp hx with z | z
    · subst z
      rw [← h.1]
      unfold prOf at e1
      split at e1
      · rename_i i j hj
        have hj' : p.1.map kyD = [.int i, .int j] := D.tup.inj hj
        generalize p.1 = a at hj'
        match a, hj' with
        | [.inl i, .inl j], _ => exact ⟨i, j, rfl⟩
        | [.inr _, _], z => cases z
        | [.inl _, .inr _], z => cases z
      · cases e1
    · exact ih e3 x z
theorem cm_sortP (hc : X.calm = true) : CallM X E (.builtin "sorted") bSortP := by
  refine ⟨_, callr_or cr_sortedPO (call_sorted_dT hc), fun ds vs S m H Q rs hv p => ?_⟩
  unfold bSortP at p
  split at p
  · rename_i n
    obtain ⟨v, rfl, h⟩ := rel1 hv
    cases h with
    | @ref _ a ha =>
      split at p
      · rename_i k hs
        obtain ⟨kv, h1, h2⟩ := rs.ob _ _ _ ha hs
        split at p
        · rename_i l hl
          refine .inr ⟨a, kv, rfl, .inl h1, RelL.keysT' h2 hl, fun b bs ys hb hk g1 g2 => ?_⟩
          obtain ⟨q1, q2⟩ := pairsD_rel (RelL.keysT h2 hk) hl
          have em := sort_map g1 g2
          rw [q1] at em
          refine post_new rs p hb fun e => ⟨ys, upd_same, RelL.mono e ?_⟩
          show RelL _ _ _ ((l.mergeSort leP).map prD) ys
          rw [← em]
          exact relL_pr fun y hy => q2 y (g2.perm.mem_iff.mp hy)
        · exact p.elim
      · split at p
        · rename_i l hl
          obtain ⟨u, hu, hl⟩ := Option.bind_eq_some_iff.mp hl
          obtain ⟨xs, h1, h2⟩ := rs.lst ha hu
          obtain ⟨q1, q2⟩ := pairsD_rel h2 hl
          refine .inl ⟨a, xs, kP H, rfl, h1, q2, fun ys b g1 g2 hb => ?_⟩
          have em := sort_map g1 g2
          rw [q1] at em
          refine post_new rs p hb fun e => ⟨ys, upd_same, RelL.mono e ?_⟩
          show RelL _ _ _ ((l.mergeSort leP).map prD) ys
          rw [← em]
          exact relL_pr fun y hy => q2 y (g2.perm.mem_iff.mp hy)
        · exact p.elim
  · exact p.elim
/-- len(set(l)) -/
theorem se_lenSet {a : Expr} {fa : EM} {p p2 q pos : Pos} (hg : Gl X "len") (hm : X.mg "len" = none) (hg2 : Gl X "set") (hm2 : X.mg "set" = none) (ha : SE X E a fa) (hc : X.calm = true := by rfl)
    (na : starEach [a] X.env = (false, eval a X.env) :: starEach [] X.env := by rfl) : SE X E (.Call (.Name "len" p) [.Call (.Name "set" p2) [a] [] q] [] pos) (mLenSet fa) := by
  refine PE.mono (RZ.pe_lenSetI hg hm hg2 hm2 ha hc na) fun σ H Q ⟨fr, S, m, rf, rs, p⟩ => ?_
  refine rd_bind rf rs p fun x S1 m1 H1 e1 rf1 rs1 p1 v hv => ?_
  cases hv with
  | @ref n a ha =>
    dsimp only at p1
    split at p1
    · rename_i ns hns
      obtain ⟨l, hl, hi⟩ := Option.bind_eq_some_iff.mp hns
      obtain ⟨xs, h1, h2⟩ := rs1.lst ha hl
      obtain rfl := ints_rel h2 hi
      split at p1
      · rename_i hh
        exact ⟨a, ns, rfl, h1, hh.1, hh.2, p1.here rs1 _ (.int _)⟩
      · exact p1.elim
    · exact p1.elim
  | _ => exact p1.elim
end
end Sm

set_option Elab.async false
set_option linter.all false
set_option maxRecDepth 100000
set_option maxHeartbeats 4000000
/-! list(range(..)) -/
namespace Sm
open PySem PySem.Spec PyProof.Rows L2 Mi
theorem rg_rel {K : PySem.W.Frag} {H : Hp} {m : List Addr} (a : Int) : ∀ n : Nat, RelL K H m ((List.range n).map fun k => .int (a + (k : Nat))) ((List.range n).map fun i => V.int (a + (i : Nat)))
  | 0 => .nil
  | n + 1 => by
    rw [List.range_succ, List.map_append, List.map_append]
    exact (rg_rel a n).app (.one (.int _))
section
variable {X : Cx} {E : XK} {pos : Pos} {a b : Expr} {fa fb : EM}
theorem se_listRg1 {p p2 q : Pos} (hc : X.calm = true) (hg : Gl X "list") (hm : X.mg "list" = none) (hg2 : Gl X "range") (hm2 : X.mg "range" = none) (ha : SE X E a fa)
    (na : starEach [a] X.env = (false, eval a X.env) :: starEach [] X.env := by rfl)
    (nb : starEach [.Call (.Name "range" p2) [a] [] q] X.env = (false, eval (.Call (.Name "range" p2) [a] [] q) X.env) :: starEach [] X.env := by rfl) : SE X E (.Call (.Name "list" p) [.Call (.Name "range" p2) [a] [] q] [] pos) (mLstRg1 fa) := by
  refine PE.mono (pe_listRg hc hg hm (prg_1 hg2 hm2 ha na) nb) fun σ H Q ⟨fr, S, m, rf, rs, p⟩ => ?_
  refine rd_bind rf rs p fun x S1 m1 H1 e1 rf1 rs1 p1 v hv => ?_
  cases hv with
  | int j =>
    dsimp only at p1
    split at p1
    · rename_i h
      exact ⟨j, rfl, RgOk.of_le (Int.le_refl _) h.2 (by omega) h.1, fun c hc => post_new rs1 p1 hc fun e => ⟨_, upd_same, by
        unfold rgV rng
        rw [Int.sub_zero]
        exact rg_rel 0 _⟩⟩
    · exact p1.elim
  | _ => exact p1.elim
theorem se_listRg2 {p p2 q : Pos} (hc : X.calm = true) (hg : Gl X "list") (hm : X.mg "list" = none) (hg2 : Gl X "range") (hm2 : X.mg "range" = none) (ha : SE X E a fa) (hb : SE X E b fb)
    (na : starEach [a, b] X.env = (false, eval a X.env) :: starEach [b] X.env := by rfl) (nb : starEach [b] X.env = (false, eval b X.env) :: starEach [] X.env := by rfl) (hp : (backTo q (starEach [b] X.env)).any (·.1) = false := by rfl)
    (nc : starEach [.Call (.Name "range" p2) [a, b] [] q] X.env = (false, eval (.Call (.Name "range" p2) [a, b] [] q) X.env) :: starEach [] X.env := by rfl) : SE X E (.Call (.Name "list" p) [.Call (.Name "range" p2) [a, b] [] q] [] pos) (mLstRg2 fa fb) := by
  refine PE.mono (pe_listRg hc hg hm (prg_2 hg2 hm2 ha hb na nb hp) nc) fun σ H Q ⟨fr, S, m, rf, rs, p⟩ => ?_
  refine rd_bind rf rs p fun x S1 m1 H1 e1 rf1 rs1 p1 v hv => ?_
  refine rd_bind rf1 rs1 p1 fun y S2 m2 H2 e2 rf2 rs2 p2 w hw => ?_
  cases hv with
  | int i => cases hw with
    | int j =>
      dsimp only at p2
      split at p2
      · rename_i h
        exact ⟨i, j, rfl, rfl, RgOk.of_le h.1 h.2.2.2 h.2.1 h.2.2.1, fun c hc => post_new rs2 p2 hc fun e => ⟨_, upd_same, rg_rel i _⟩⟩
      · exact p2.elim
    | _ => exact p2.elim
  | _ => cases hw <;> exact p2.elim
end
end Sm

set_option Elab.async false
set_option linter.all false
set_option maxRecDepth 100000
set_option maxHeartbeats 4000000
/-! a caught exception kept as a value behind the suite: its class asked, its fields read -/
namespace Sm
open PySem PySem.Spec PyProof.Rows L2 Mi
/-! ### an object that stands is tracked -/
section
variable {X : Cx} {pins : List (Addr × Obj)} {σ : L2.St} {H : Hp} {s : Shared}
theorem xO_new {P : Program} {w : World} {G : Hp} {h : Heap} {a : Addr} {cls : Value} {d : Option Addr} {ob : Obj} {ws : Array Value} (e : h.get? a = some ob) (z : Zc cls d ob) (f : ob.data = .fields ws) : ObjOk P w G h a (XO cls d a) :=
  ⟨⟨ob, ws, e, z, f⟩, ⟨ob, e⟩, fun _ _ ⟨o1, w1, e1, r1⟩ k => ⟨o1, w1, k o1 e1, r1⟩⟩
theorem inv_track {a : Addr} {o : HO} (I : Inv X pins σ H s) (na : H a = none) (nl : a ≠ X.env.locals) (nc : ∀ x c, X.env.cells.lookup x = some c → c ≠ a) (np : ∀ p ∈ X.pn ++ pins, p.1 ≠ a) (nx : ∀ ob, X.s_0.heap.get? a = some ob → a ∈ X.ex)
    (new : ObjOk X.prog X.w (upd H a o) s.heap a o) : Inv X pins σ (upd H a o) s where
  ok := I.ok
  os := I.os
  bare := I.bare
  base := ⟨I.base.keep, I.base.slot, fun b u q n x => by
      have hb : b ≠ a := fun z => x (by rw [z]; rw [z] at q; exact nx u q)
      rw [upd_ne hb]
      exact I.base.free b u q n x, I.base.there, fun b ys q => by
      have r := I.base.tups b ys q
      rw [upd_ne (ne_of_none r na)]
      exact r, fun b u ys q => by
      have r := I.base.frzs b u ys q
      rw [upd_ne (ne_of_none r na)]
      exact r, fun b ys q => by
      obtain ⟨more, r⟩ := I.base.tbls b ys q
      exact ⟨more, by rw [upd_ne (ne_of_none r na)]; exact r⟩⟩
  loc := I.loc
  cell := I.cell
  free := by rw [upd_ne (Ne.symm nl)]; exact I.free
  freeC := fun x c e => by rw [upd_ne (nc x c e)]; exact I.freeC x c e
  pin := fun p hp => by
    obtain ⟨q1, q2, q3, q4, q5⟩ := I.pin p hp
    exact ⟨q1, by rw [upd_ne (np p hp)]; exact q2, q3, q4, q5⟩
  hok := fun b u e => by
    by_cases hb : b = a
    · subst hb
      rw [upd_same] at e
      cases e
      exact new
    · rw [upd_ne hb] at e
      exact (I.hok b u e).stay (fun _ _ _ q => q) (fun c q => by rw [upd_ne (ne_of_none q na)]; exact q) fun c ys q => by rw [upd_ne (ne_of_none q na)]; exact q
  len := I.len
end
/-! ### try: body / except x as n: suite, the exception tracked behind it -/
/-- what a suite that hands its exception on wishes -/
def wKeep (K : PySem.W.Frag) (c : Value) (i : Nat) (ts : Addr → Value → Option Addr → TS) (Wout : WX) (D : Ends) : WX := fun cls d σ H =>
  ∃ b, PySem.W.exmOne K cls c = some b ∧ (b = true → ∀ a, H a = none → ts a cls d { nx := fun σ' H' => H' a = none → D.nx (σ'.set i none) (upd H' a (XO cls d a)), rt := fun _ _ => False, bk := fun _ _ => False, ct := fun _ _ => False } (σ.set i (some (.ref a))) H) ∧
    (b = false → Wout cls d σ H)
section
variable {X : Cx} {x n : Str} {c : Value} {i : Nat} {body suite : List Stmt} {b₀ : Stmt} {np pos pos' : Pos} {tb : WX → TS} {ts : Addr → Value → Option Addr → TS} {Wout : WX}
theorem ps_try_keep (hs : X.stack = X.env :: X.outer) (hf : X.env.frame = some X.env.locals) (hN : X.N.Nodup) (hi : X.N[i]? = some n) (hln : X.env.kindOf n = some .local) (hc : Names X x c) (tk : Takes X Wout)
    (hb : ∀ (W : WX) (pn : List (Addr × Obj)) (xe : Value → Shared → Prop), Takes (X.tr pn xe) W → PassesOwn (model X.prog X.w) X.A X.env xe → PSs (X.tr pn xe) body (tb W))
    (hsu : ∀ (a : Addr) (ob : Obj) (cls : Value) (d : Option Addr) (pn : List (Addr × Obj)), Zc cls d ob → (∃ ws, ob.data = .fields ws) → PSs (X.suite a ((a, ob) :: pn)) (b₀ :: suite) (ts a cls d)) :
    PS X (.Try body [.ExceptHandler (some (.Name x np)) (some n) (b₀ :: suite) pos'] [] [] pos) (fun D σ H => tb (wKeep X.K c i ts Wout D) D σ H) := by
  constructor
  intro pins s σ H D I h
  have stk : X.A.frames = some (X.env :: X.outer) := by rw [I.ok.frames, hs]
  have lcl : Loc X.env.scope n := .inl hln
  apply wpAny_Try_except
  let caught : Value → Shared → Prop := fun e s₁ => wpAny (model X.prog X.w) X.A (noteFrame e X.env) (fun _ s₂ => wpAny (model X.prog X.w) X.A (setFlight e none) (fun _ s₃ =>
      wpAny (model X.prog X.w) X.A (handleBy e X.env [.ExceptHandler (some (.Name x np)) (some n) (b₀ :: suite) pos']) (SP X pins D) X.xe s₃) X.xe s₂) X.xe s₁
  have catch_ : Takes (X.tr (X.pn ++ pins) caught) (wKeep X.K c i ts Wout D) := by
    intro u st hx
    obtain ⟨a, B, s0, pins', σ1, H1, cls, d, eu, I1, gr, up, sky, na, os, ag, b, hb1, yes, no⟩ := hx
    subst eu
    have J : Inv X pins σ1 H1 s0 := I1.ofTry I.ok
    rw [show (X.tr (X.pn ++ pins) caught).stack = X.env :: X.outer from hs] at sky
    show wpAny (model X.prog X.w) X.A (noteFrame (.ref a) X.env) _ _ _
    refine Sky.land Zc.steady stk hf sky fun h3 l3 u3 => ?_
    have J3 : Inv X pins σ1 H1 { st with heap := h3 } := J.landed gr l3.1 (up.trans u3) os ag
    obtain ⟨o3, w3, g3, z3, d3⟩ := l3.there
    have out : a ∉ frs (X.env :: X.outer) := fun hm => by
      obtain ⟨_, o', e', q⟩ := l3.2.2.1.mem hm
      have e2 := g3.symm.trans e'
      cases e2
      exact q _ d3
    have nl : a ≠ X.env.locals := fun z => out (List.mem_filterMap.mpr ⟨X.env, List.mem_cons_self, by rw [hf, z]⟩)
    have nf : a ∉ X.fs := fun hm => by
      obtain ⟨e, he, q⟩ := List.mem_filterMap.mp hm
      exact out (List.mem_filterMap.mpr ⟨e, List.mem_cons_of_mem _ he, q⟩)
    -- at the raise the object was not there
    have fresh : ∀ ob, s0.heap.get? a ≠ some ob := fun ob q => by
      have r := gr a ob q (by rw [show (X.tr (X.pn ++ pins) caught).stack = X.env :: X.outer from hs]; exact out)
      have hB : B.get? a = none := l3.2.1
      rw [hB] at r
      cases r
    have S3 := J3.suite g3 d3 na nl nf
    refine wpAny_handleBy_cons (codeAny_handlers_test ?_) (fun q => nomatch q)
    have looks := PySem.W.exm_one (M := model X.prog X.w) J3.kIn (show PySem.W.Looks (model X.prog X.w) h3 (typeOf (.ref a)) cls from fun A Q E s k q => wpAny_typeOf_ref (k _ _ g3) (by rw [z3.1]; exact q)) hb1
    have clause : ∀ {Q : Value → Shared → Prop} {E : Value → Shared → Prop}, Q c { st with heap := h3 } → wpAny (model X.prog X.w) (X.A.mark (some (.ref a))) (eval (.Name x np) X.env) Q E { st with heap := h3 } := by
      intro Q E q
      obtain ⟨hg, hd, hm⟩ := hc
      rcases hm with hm | ⟨hm, hv, hn⟩
      · exact ld_glob (X := X.suite a ((a, o3) :: (X.pn ++ pins))) S3 hg hm q hd
      · exact ld_blt (X := X.suite a ((a, o3) :: (X.pn ++ pins))) S3 hg hm hv q hn hd
    refine clause (looks.here ?_)
    cases b with
    | true =>
      refine codeAny_handlers_suite_as (HandSPX.lands_againZ l3 fun h4 l4 u4 => ?_)
      have J4 : Inv X pins σ1 H1 { st with heap := h4 } := J.landed gr l4.1 ((up.trans u3).trans u4) os ag
      obtain ⟨o4, w4, g4, z4, d4⟩ := l4.there
      refine store_ok (X := X.suite a ((a, o4) :: (X.pn ++ pins))) (v := .ref a) (J4.suite g4 d4 na nl nf) hN hi lcl rfl (fun s5 S5 => ?_) (.inr hln)
      have run5 := (hsu a o4 cls d (X.pn ++ pins) z4 ⟨_, d4⟩).run [] s5 _ H1 _ S5 (yes rfl a na)
      refine wpAny_mono run5 (fun f s6 sp => ?_) (fun _ _ z => z.elim)
      cases f with
      | next =>
        obtain ⟨σ6, H6, S6, q6⟩ := sp
        refine gone_ok (M := model X.prog X.w) (A := X.A) (E := X.xe) (X := X.suite a ((a, o4) :: (X.pn ++ pins))) S6 hN hi hln fun s7 S7 => ?_
        obtain ⟨g7, na7, _⟩ := S7.pin (a, o4) (List.mem_append_left _ List.mem_cons_self)
        have J7 : Inv X pins (σ6.set i none) H6 s7 := S7.unsuite I.ok
        have J8 := inv_track (o := XO cls d a) J7 na7 nl (fun y k e z => by
            subst z
            obtain ⟨v, hv⟩ := J.cell y _ e
            obtain ⟨ok, e1, _⟩ := hv
            exact fresh _ e1) (fun p hp z => by
            have e1 := (J.pin p hp).1
            rw [z] at e1
            exact fresh _ e1) (fun ob q => Classical.byContradiction fun z => by
            obtain ⟨o', e1⟩ := J.base.there a ob q z
            exact fresh _ e1) (xO_new g7 z4 d4)
        exact ⟨_, _, J8, q6 na7⟩
      | brk =>
        obtain ⟨_, _, _, z⟩ := sp
        exact z.elim
      | cont =>
        obtain ⟨_, _, _, z⟩ := sp
        exact z.elim
      | ret u =>
        obtain ⟨_, _, _, _, _, z⟩ := sp
        exact z.elim
    | false =>
      refine wpAny_handleBy_nil ?_
      obtain ⟨_, _, _, o5, w5, T, oT, t5, g5, z5, d5, e5, r5⟩ := id l3
      unfold PySem.passOn
      refine wpAny_bind (wpAny_field g5 d5 e5 ?_)
      rw [if_neg (by simp : ¬ (Value.ref T == Value.none) = true)]
      have on : wpAny (model X.prog X.w) X.A (setFlight (.ref a) X.env.frame) (fun _ s4 => wpAny (model X.prog X.w) X.A (throw (.ref a) : Sem Flow) (SP X pins D) X.xe s4) X.xe { st with heap := h3 } := by
        rw [hf]
        refine HandSPX.setFlight_upZ l3 fun h4 hh4 u4 => wpAny_throw (tk _ _ ⟨a, B, s0, pins, σ1, H1, cls, d, rfl, J, gr, (up.trans u3).trans u4, .inr (.inr (by rw [hs]; exact hh4)), na, os, ag, no rfl⟩)
      first
        | exact wpAny_bind (wpAny_pure (wpAny_bind on))
        | exact wpAny_bind on
  have run := (hb (wKeep X.K c i ts Wout D) (X.pn ++ pins) caught catch_ PassesOwn.looking).run [] s σ H D (I.toTry _) h
  refine wpAny_mono run (fun f s1 sp => ?_) (fun e s1 z => z)
  cases f with
  | next =>
    obtain ⟨σ1, H1, J, q⟩ := sp
    exact wpAny_execs_nil ⟨σ1, H1, J.ofTry I.ok, q⟩
  | brk =>
    obtain ⟨σ1, H1, J, q⟩ := sp
    exact ⟨σ1, H1, J.ofTry I.ok, q⟩
  | cont =>
    obtain ⟨σ1, H1, J, q⟩ := sp
    exact ⟨σ1, H1, J.ofTry I.ok, q⟩
  | ret u =>
    obtain ⟨v, σ1, H1, J, r, q⟩ := sp
    exact ⟨v, σ1, H1, J.ofTry I.ok, r, q⟩
end
end Sm

set_option Elab.async false
set_option linter.all false
set_option maxRecDepth 100000
set_option maxHeartbeats 4000000
/-! the steps with an exception as a value -/
namespace Sm
open PySem PySem.Spec PyProof.Rows L2 Mi
section
variable {X : Cx} {E : XK}
/-- the exception is one more object of the store -/
theorem keep_push {c : Ct} {m : List Addr} {S : Store} {H : Hp} {x : Exn} {cls : Value} {d : Option Addr} {a : Addr} (rs : RS c m S H) (rx : RelX c H m x cls d) (na : H a = none) :
    RS c (m ++ [a]) (S ++ [.exn x.cls x.fs]) (upd H a (XO cls d a)) ∧ Ext m H (m ++ [a]) (upd H a (XO cls d a)) := by
  obtain ⟨C, h1, h2, da, fs, h3, h4, h5⟩ := rx
  subst h2 h3
  have e0 : Ext m H (m ++ [a]) (upd H a (XO (.ref C) (some da) a)) := ⟨⟨mext_push m a, tstay_new na⟩, fstay_new na⟩
  exact rs.push na ⟨C, da, fs, h1, upd_same, by rw [upd_ne (ne_of_none h4 na)]; exact h4, RelK.mono e0 h5⟩
theorem set_off (σ : L2.St) {i j : Nat} (h : j ≠ i) (u v : Option V) : ((σ.set i u).set j v).set i none = (σ.set i none).set j v := by
  rw [List.set_comm _ _ h, List.set_set]
theorem ss_tryK {x n y : Str} {i j : Nat} {cc : Value} {sub : String → Option Bool} {body : List Stmt} {np n2 py ap pos pos' : Pos} {b : SM} (hs : X.stack = X.env :: X.outer) (hf : X.env.frame = some X.env.locals) (hN : X.N.Nodup) (hi : X.N[i]? = some n) (hln : X.env.kindOf n = some .local) (hj : X.N[j]? = some y) (hij : j ≠ i) (hy : Loc X.env.scope y)
    (hc : Names X x cc) (tk : Takes X fun cls d _ H => E cls d H) (hsub : Sub (cx X) cc sub)
    (hb : ∀ (W : WX) (pn : List (Addr × Obj)) (xe : Value → Shared → Prop), Takes (X.tr pn xe) W → PassesOwn (model X.prog X.w) X.A X.env xe → SB (X.tr pn xe) W body b)
    (hv : Vis X.env.scope n := by first | exact Or.inl rfl | exact Or.inr (Or.inl rfl) | exact Or.inr (Or.inr rfl)) (hd : (n == ("__debug__" : Str)) = false := by decide) (hcd : (n == ("__classdict__" : Str)) = false := by decide)
    (hw : swapsWith (.Name n n2) (some (.Name y py)) ap.line X.env = pure false := by rfl) (hfn : X.fn y = true ∨ X.env.scope.names.lookup y = some .local := by first | exact .inl rfl | exact .inr rfl) :
    SS X E (.Try body [.ExceptHandler (some (.Name x np)) (some n) [.Assign [.Name y py] (.Name n n2) ap] pos'] [] [] pos) (sTryK sub i j b) := by
  refine PS.mono (ps_try_keep (i := i) (tb := fun W D σ H => rdS (cx X) (WE W σ) b D σ H) (ts := fun a cls d D σ H => tAsg (tVar i) (L2.gName j) D σ H) (Wout := fun cls d _ H => E cls d H) hs hf hN hi hln hc tk (fun W pn xe t1 t2 => hb W pn xe t1 t2)
    (fun a ob cls d pn hz hd' => pss_one (ps_set hN hj hy (pe_var hi hv hd hcd) hw hfn))) fun D σ H ⟨fr, S, m, rf, rs, p⟩ => ?_
  refine ⟨fr, S, m, rf, rs, ?_⟩
  unfold sTryK at p
  generalize b fr S = r at p
  cases r with
  | ok o S' => exact p
  | bad => exact p.elim
  | exc x S' =>
    intro m' H' e' rs' cls da rx
    unfold tryK at p
    dsimp only at p
    obtain ⟨C, hC, hcls, _⟩ := id rx
    subst hcls
    split at p
    · rename_i hb'
      split at p
      · rename_i hlt
        have rf' := rf.mono e'
        refine ⟨true, hsub _ _ hb' C hC, fun _ a ha => ?_, fun z => nomatch z⟩
        have hls : i < σ.length := by rw [← rf.len]; exact hlt
        refine ⟨.ref a, by rw [List.getElem?_set_self hls], fun _ => ?_⟩
        obtain ⟨rs2, e2⟩ := keep_push rs' rx ha
        have p2 := (p.ext e') _ _ e2 rs2
        have q := p2 ((σ.set i none).set j (some (.ref a))) (((rf'.none i).mono e2).set (.ref (by rw [← rs'.len, List.getElem?_append_right (Nat.le_refl _), Nat.sub_self]; rfl)) j)
        rw [← set_off σ hij (some (.ref a)) (some (.ref a))] at q
        exact q
      · exact p.elim
    · rename_i hb'
      exact ⟨false, hsub _ _ hb' C hC, fun z => (nomatch z), fun _ => p m' H' e' rs' _ _ rx⟩
    · exact p.elim
theorem ss_tryT {x n y s0 : Str} {s : Tx} {i j k0 : Nat} {cc : Value} {sub : String → Option Bool} {body : List Stmt} {np n2 py ap pos pos' ps pt : Pos} {b : SM} {x1} (hs : X.stack = X.env :: X.outer) (hf : X.env.frame = some X.env.locals) (hN : X.N.Nodup) (hi : X.N[i]? = some n) (hln : X.env.kindOf n = some .local) (hj : X.N[j]? = some y) (hij : j ≠ i) (hy : Loc X.env.scope y)
    (hc : Names X x cc) (tk : Takes X fun cls d _ H => E cls d H) (hsub : Sub (cx X) cc sub) (hst : s0 = sOf s)
    (hb : ∀ (W : WX) (pn : List (Addr × Obj)) (xe : Value → Shared → Prop), Takes (X.tr pn xe) W → PassesOwn (model X.prog X.w) X.A X.env xe → SB (X.tr pn xe) W body b)
    (hv : Vis X.env.scope n := by first | exact Or.inl rfl | exact Or.inr (Or.inl rfl) | exact Or.inr (Or.inr rfl)) (hd : (n == ("__debug__" : Str)) = false := by decide) (hcd : (n == ("__classdict__" : Str)) = false := by decide)
    (ha1 : starEach [.Constant (.str s0) k0 ps, .Name n n2] X.env = (false, eval (.Constant (.str s0) k0 ps) X.env) :: starEach [.Name n n2] X.env := by rfl) (ha2 : starEach [.Name n n2] X.env = (false, eval (.Name n n2) X.env) :: starEach [] X.env := by rfl)
    (hw : swapsWith (.Tuple [.Constant (.str s0) k0 ps, .Name n n2] x1 pt) (some (.Name y py)) ap.line X.env = pure false := by rfl) (hfn : X.fn y = true ∨ X.env.scope.names.lookup y = some .local := by first | exact .inl rfl | exact .inr rfl) :
    SS X E (.Try body [.ExceptHandler (some (.Name x np)) (some n) [.Assign [.Name y py] (.Tuple [.Constant (.str s0) k0 ps, .Name n n2] x1 pt) ap] pos'] [] [] pos) (sTryT sub i j s b) := by
  refine PS.mono (ps_try_keep (i := i) (tb := fun W D σ H => rdS (cx X) (WE W σ) b D σ H) (ts := fun a cls d D σ H => tAsg (tTup (tCons (tC (.str s0)) (tCons (tVar i) tNil))) (L2.gName j) D σ H) (Wout := fun cls d _ H => E cls d H) hs hf hN hi hln hc tk (fun W pn xe t1 t2 => hb W pn xe t1 t2)
    (fun a ob cls d pn hz hd' => pss_one (ps_set hN hj hy (pe_tup (pa_cons pe_str (pa_cons (pe_var hi hv hd hcd) pa_nil ha2) ha1)) hw hfn))) fun D σ H ⟨fr, S, m, rf, rs, p⟩ => ?_
  refine ⟨fr, S, m, rf, rs, ?_⟩
  unfold sTryT at p
  generalize b fr S = r at p
  cases r with
  | ok o S' => exact p
  | bad => exact p.elim
  | exc x S' =>
    intro m' H' e' rs' cls da rx
    unfold tryK at p
    dsimp only at p
    obtain ⟨C, hC, hcls, _⟩ := id rx
    subst hcls
    split at p
    · rename_i hb'
      split at p
      · rename_i hlt
        have rf' := rf.mono e'
        refine ⟨true, hsub _ _ hb' C hC, fun _ a ha => ?_, fun z => nomatch z⟩
        have hls : i < σ.length := by rw [← rf.len]; exact hlt
        refine ⟨.ref a, by rw [List.getElem?_set_self hls], by rw [sizeLine_eq]; show 2 ≤ 16777216; decide, fun t ht na2 => ?_⟩
        have hta : a ≠ t := fun z => by rw [z, upd_same] at na2; cases na2
        have e1 : Ext m' H' m' (upd H' t (.tup [.str s0, .ref a])) := ⟨⟨fun _ _ z => z, tstay_new ht⟩, fstay_new ht⟩
        obtain ⟨rs2, e2⟩ := keep_push (rs'.fresh (u := .tup [.str s0, .ref a]) ht) (rx.mono e1) na2
        have p2 := (p.ext e') _ _ (e1.trans e2) rs2
        have hm : (m' ++ [a])[S'.length]? = some a := by rw [← rs'.len, List.getElem?_append_right (Nat.le_refl _), Nat.sub_self]; rfl
        have q := p2 ((σ.set i none).set j (some (.ref t))) (((rf'.none i).mono (e1.trans e2)).set (.tup (by rw [upd_ne (Ne.symm hta), upd_same]) (.cons (by rw [hst]; exact .str s) (.cons (.ref hm) .nil))) j)
        rw [← set_off σ hij (some (.ref a)) (some (.ref t))] at q
        exact q
      · exact p.elim
    · rename_i hb'
      exact ⟨false, hsub _ _ hb' C hC, fun z => (nomatch z), fun _ => p m' H' e' rs' _ _ rx⟩
    · exact p.elim
/-! ### its class, its fields -/
theorem exn_at {P : Program} {w : World} {H : Hp} {h : Heap} {a C dd : Addr} {fs : List (Str × V)} (ok : HOk P w H h) (ha : H a = some (XO (.ref C) (some dd) a)) (hd : H dd = some (.xd fs)) :
    ∃ (ob od : Obj), PySem.W.InstAt h a ob C (some od) ∧ ∃ mA : Str → Option Value, (∀ name, L2.RelO (fs.lookup name) (mA name)) ∧ ∀ name, PySem.W.lookIn name od = some (mA name) := by
  obtain ⟨⟨ob, ws, g, z, f⟩, _, _⟩ := ok a _ ha
  obtain ⟨mA, hns, hr⟩ := (show ObjOk P w H h dd (.xd fs) from ok dd _ hd)
  obtain ⟨od, ho, hl⟩ := lookIn_ns hns
  refine ⟨ob, od, ⟨g, z.1, ?_, by rw [z.2]; exact ho⟩, mA, hr, hl⟩
  unfold PySem.W.notCls
  rw [f] <;> rfl
def rIsX (K : PySem.W.Frag) : List V → Hp → VK → Prop := fun xs H Q => ∃ (a D dd : Addr) (fs : List (Str × V)) (c : V) (cv : Value) (b : Bool), xs = [.ref a, c] ∧ H a = some (XO (.ref D) (some dd) a) ∧ H dd = some (.xd fs) ∧ (∀ u, RelV c u → u = cv) ∧ ExcC K D ∧ PySem.W.kitOne K (.ref D) cv = some b ∧ Q (.bl b) H
theorem call_isX : CallR X (.builtin "isinstance") (rIsX X.K) := by
  intro pins s σ H xs us Q I r h
  obtain ⟨a, D, dd, fs, c, cv, b, rfl, ha, hd, hcv, C, e, q⟩ := h
  obtain ⟨u, ru, rfl, r1, r2⟩ : ∃ u ru, us = [u, ru] ∧ RelV (.ref a) u ∧ RelV c ru := by
    obtain ⟨u1, u2, e, r1, r2⟩ := vals2 r
    exact ⟨u1, u2, e, r1, r2⟩
  obtain rfl : u = Value.ref a := r1
  obtain rfl := hcv _ r2
  obtain ⟨ob, od, J, _⟩ := exn_at I.hok ha hd
  have hcl : (PySem.W.clsIn X.K D).isSome = true := by
    obtain ⟨cd, h1, _⟩ := PySem.W.any_some C.hd
    rw [h1]; rfl
  exact PySem.W.kia_one (PySem.W.kitx_exc hcl C.hg C.hk C.hs C.ha C.hn C.ht C.hm) I.kIn J e (fun z => nomatch z) fun tk => ⟨.bl b, H, I.kept (t' := tk) fun _ _ z => z, rfl, q⟩
/-- a class asked for, by the classes' names -/
def SubI (c : Ct) (cv : Value) (sub : String → Option Bool) : Prop := ∀ n b, sub n = some b → ∀ C : Addr, c.mg (n : Str) = some (.ref C) → ExcC c.K C ∧ PySem.W.kitOne c.K (.ref C) cv = some b
theorem exn_rel {c : Ct} {m : List Addr} {S : Store} {H : Hp} (rs : RS c m S H) {d : D} {v : V} {C : String} {fs : List (Tx × D)} (h : RelD c.K H m d v) (e : exnOf S d = some (C, fs)) :
    ∃ (a Ca da : Addr) (gs : List (Str × V)), v = .ref a ∧ c.mg (C : Str) = some (.ref Ca) ∧ H a = some (XO (.ref Ca) (some da) a) ∧ H da = some (.xd gs) ∧ RelK c.K H m sOf fs gs := by
  unfold exnOf at e
  split at e
  · rename_i n
    split at e
    · rename_i C' f' hs
      cases e
      cases h with
      | ref ha =>
        obtain ⟨Ca, da, gs, h0, h1, h2, h3⟩ := rs.ob _ _ _ ha hs
        exact ⟨_, Ca, da, gs, rfl, h0, h1, h2, h3⟩
    · cases e
  · cases e
theorem se_isX {a : Expr} {fa : EM} {p p2 pos : Pos} {y : Str} {c : V} {cv : Value} {sub : String → Option Bool} (hg : Gl X "isinstance") (hm : X.mg "isinstance" = none) (hy : PE X (.Name y p2) (tC c)) (hcv : ∀ u, RelV c u → u = cv) (hsub : SubI (cx X) cv sub) (ha : SE X E a fa)
    (he : starEach [a, .Name y p2] X.env = (false, eval a X.env) :: starEach [.Name y p2] X.env := by rfl) (he2 : starEach [.Name y p2] X.env = (false, eval (.Name y p2) X.env) :: starEach [] X.env := by rfl) (hpl : (backTo pos (starEach [.Name y p2] X.env)).any (·.1) = false := by rfl) :
    SE X E (.Call (.Name "isinstance" p) [a, .Name y p2] [] pos) (mUn (uIsX sub) fa) := by
  refine PE.mono (pe_callB call_isX hg hm PyProof.Rows.boot_isinstance (pa_cons ha (pa_cons hy pa_nil he2) he) (by decide) (by decide) he hpl) fun σ H Q ⟨fr, S, m, rf, rs, p⟩ => ?_
  refine rd_bind rf rs p fun x S1 m1 H1 e1 rf1 rs1 p1 v hv => ?_
  unfold uIsX at p1
  split at p1
  · rename_i C fs hx
    obtain ⟨ad, Ca, da, gs, rfl, h0, h1, h2, _⟩ := exn_rel rs1 hv hx
    split at p1
    · rename_i b hb
      obtain ⟨k1, k2⟩ := hsub C b hb Ca h0
      exact ⟨ad, Ca, da, gs, c, cv, b, rfl, h1, h2, hcv, k1, k2, post_bl rs1 p1⟩
    · exact p1.elim
  · exact p1.elim
def tXv (C : Addr) (f : Str) (te : TE) : TE := fun σ H Q => te σ H fun x H1 => ∃ (a dd : Addr) (fs : List (Str × V)) (v : V), x = .ref a ∧ H1 a = some (XO (.ref C) (some dd) a) ∧ H1 dd = some (.xd fs) ∧ fs.lookup f = some v ∧ Q v H1
theorem pe_xv {C : Addr} {e : Expr} {te : TE} {pos : Pos} {n : Str} (T : XfC X.K C) (hno : PySem.W.findIn X.K (.ref C) n = some none) (he : PE X e te) (hb : attributeBase e n X.env (eval e X.env) = eval e X.env := by rfl) :
    PE X (.Attribute e n pos) (tXv C n te) := by
  refine ⟨fun pins s σ H Q I h => attr_of hb (thn (he.run pins s σ H _ I h) fun u s1 hh => ?_)⟩
  obtain ⟨x, H1, I1, rx, a, dd, fs, v, ex, ha, hd, l, q⟩ := hh
  subst ex
  obtain rfl : u = Value.ref a := rx
  obtain ⟨ob, od, J, mA, hr, hl⟩ := exn_at I1.hok ha hd
  obtain ⟨w, hw, rw'⟩ := L2.RelO.some_of (v := v) (o := mA n) (by rw [← l]; exact hr n)
  exact HandSPX.exc_get I1.kIn J T.ga T.gg T.exC (PySem.W.findObj_own T.hdC hno rfl (by rw [hl, hw])) (handed_of rw') ⟨v, H1, I1.tok _, rw', q⟩
theorem se_xv {C : Addr} {cn : String} {e : Expr} {fe : EM} {nm : Str} {f : Tx} {pos : Pos} (T : XfC X.K C) (hno : PySem.W.findIn X.K (.ref C) nm = some none) (hn : nm = sOf f) (hm : X.mg (cn : Str) = some (.ref C)) (he : SE X E e fe) (hb : attributeBase e nm X.env (eval e X.env) = eval e X.env := by rfl) :
    SE X E (.Attribute e nm pos) (mUn (uXv cn f) fe) := by
  refine PE.mono (pe_xv T hno he hb) fun σ H Q ⟨fr, S, m, rf, rs, p⟩ => ?_
  refine rd_bind rf rs p fun x S1 m1 H1 e1 rf1 rs1 p1 v hv => ?_
  unfold uXv at p1
  split at p1
  · rename_i C' fs hx
    obtain ⟨ad, Ca, da, gs, rfl, h0, h1, h2, h3⟩ := exn_rel rs1 hv hx
    split at p1
    · rename_i hcn
      rw [hcn] at h0
      have e2 : Ca = C := by
        have z := h0.symm.trans hm
        cases z
        rfl
      subst e2
      split at p1
      · rename_i dv hdv
        obtain ⟨u, hu1, hu2⟩ := lkF_rel f h3 dv hdv
        rw [← hn] at hu1
        exact ⟨ad, da, gs, u, rfl, h1, h2, hu1, p1.here rs1 u hu2⟩
      · exact p1.elim
    · exact p1.elim
  · exact p1.elim
end
end Sm

set_option Elab.async false
set_option linter.all false
set_option maxRecDepth 100000
set_option maxHeartbeats 4000000
/-! which classes are caught and asked for; calls of what may raise, from where nothing is raised; a tuple in a try's body -/
namespace Sm
open PySem PySem.Spec PyProof.Rows L2 Mi
theorem sub_nil {c : Ct} {cc : Value} : Sub c cc (fun _ => none) := fun n b h => nomatch h
theorem sub_cons {c : Ct} {cc : Value} {cn : String} {C : Addr} {b : Bool} {sub : String → Option Bool} (hm : c.mg (cn : Str) = some (.ref C)) (em : PySem.W.exmOne c.K (.ref C) cc = some b) (r : Sub c cc sub) : Sub c cc (fun n => if n = cn then some b else sub n) := by
  intro n b' h C' hC'
  dsimp only at h
  split at h
  · rename_i e
    subst e
    cases h
    rw [hm] at hC'
    cases hC'
    exact em
  · exact r n b' h C' hC'
theorem subI_nil {c : Ct} {cv : Value} : SubI c cv (fun _ => none) := fun n b h => nomatch h
theorem subI_cons {c : Ct} {cv : Value} {cn : String} {C : Addr} {b : Bool} {sub : String → Option Bool} (hm : c.mg (cn : Str) = some (.ref C)) (ex : ExcC c.K C) (em : PySem.W.kitOne c.K (.ref C) cv = some b) (r : SubI c cv sub) : SubI c cv (fun n => if n = cn then some b else sub n) := by
  intro n b' h C' hC'
  dsimp only at h
  split at h
  · rename_i e
    subst e
    cases h
    rw [hm] at hC'
    cases hC'
    exact ⟨ex, em⟩
  · exact r n b' h C' hC'
section
variable {X : Cx} {E : XK}
theorem passesF : Passes (L2.CX X.prog X.w) X EF := fun _ _ _ _ _ _ _ ⟨_, _, _, _, _, _, _, _, _, _, _, _, z⟩ => z.elim
theorem se_callQ {k : Nat} {f : Addr} {fd : FuncData} {ps : List Str} {g : Fn} {x : Str} {p pos : Pos} {e : Expr} {es : List Expr} {fs : AM} (F : FnOk X.prog X.w X.K X.mg X.base (L2.CX X.prog X.w) k f fd ps (spM (cx X) g)) (hr : Room k X.A) (hg : Gl X x) (hm : X.mg x = some (.ref f)) (hk : PySem.W.keepIn X.K (.ref f) = true) (hb : Binds X.K fd ps [])
    (ha : SA X E (e :: es) fs) (hdb : (x == ("__debug__" : Str)) = false := by decide) (he : starEach (e :: es) X.env = (false, eval e X.env) :: starEach es X.env := by rfl) (hpl : (backTo pos (starEach es X.env)).any (·.1) = false := by rfl) :
    SE X E (.Call (.Name x p) (e :: es) [] pos) (mCall (mQt g) fs) := by
  refine PE.mono (pe_call F hr hg hm hk hb .nil passesF ha hdb he hpl) fun σ H Q ⟨fr, S, m, rf, rs, p⟩ => ?_
  show rdA (cx X) E fs σ H fun vs H1 => spM (cx X) g (vs ++ []) H1 Q EF
  have h : rdA (cx X) E fs σ H fun vs H1 => spM (cx X) g vs H1 Q EF := rdA_bind rf rs p fun ds S1 m1 H1 e1 rf1 rs1 p1 vs hv => ⟨ds, S1, m1, hv, rs1, post_quiet p1⟩
  simpa only [List.append_nil] using h
/-! ### in a try's body -/
theorem wE_of {W : WX} {e : Expr} {f : EM} (h : ∀ E, SE X E e f) : PE X e (fun σ H Q => rdE (cx X) (WE W σ) f σ H Q) := ⟨fun pins s σ H Q I q => (h (WE W σ)).run pins s σ H Q I q⟩
theorem wA_nil {W : WX} : PA X [] (fun σ H Q => rdA (cx X) (WE W σ) aNil σ H Q) := ⟨fun pos pins s σ H Q I q => (sa_nil (E := WE W σ)).run pos pins s σ H Q I q⟩
theorem wA_cons {W : WX} {e : Expr} {es : List Expr} {fa : EM} {fs : AM} (ha : PE X e (fun σ H Q => rdE (cx X) (WE W σ) fa σ H Q)) (hr : PA X es (fun σ H Q => rdA (cx X) (WE W σ) fs σ H Q)) (hs : starEach (e :: es) X.env = (false, eval e X.env) :: starEach es X.env := by rfl) :
    PA X (e :: es) (fun σ H Q => rdA (cx X) (WE W σ) (aCons fa fs) σ H Q) := by
  refine PA.mono (pa_cons ha hr hs) fun σ H Q ⟨fr, S, m, rf, rs, p⟩ => ?_
  refine rd_bind rf rs p fun x S1 m1 H1 e1 rf1 rs1 p1 v hv => ?_
  refine rdA_bind rf1 rs1 p1 fun xs S2 m2 H2 e2 rf2 rs2 p2 vs hvs => ?_
  exact p2.here rs2 _ (.cons (hv.mono e2) hvs)
theorem wE_tup {W : WX} {es : List Expr} {fs : AM} {x1} {pos : Pos} (h : PA X es (fun σ H Q => rdA (cx X) (WE W σ) fs σ H Q)) : PE X (.Tuple es x1 pos) (fun σ H Q => rdE (cx X) (WE W σ) (mTup fs) σ H Q) := by
  refine PE.mono (pe_tup h) fun σ H Q ⟨fr, S, m, rf, rs, p⟩ => ?_
  refine rdA_bind rf rs p fun xs S1 m1 H1 e1 rf1 rs1 p1 vs hv => ?_
  split at p1
  · rename_i hl
    exact ⟨by rw [← hv.len, line_eq]; exact hl, fun a ha => post_tup rs1 p1 ha hv⟩
  · exact p1.elim
end
end Sm

set_option Elab.async false
set_option linter.all false
set_option maxRecDepth 100000
set_option maxHeartbeats 4000000
/-! list(reversed(l)) -/
namespace Sm
open PySem PySem.Spec PySem.Calls PyProof.Rows L2 Mi RT
section
variable {prog : Program} {w : World} {A : Around} {E : Value → Shared → Prop} {s : Shared}
/-- the items walked backwards come behind one another in the new list -/
theorem revL_ext {S it l : Addr} {c : Nat} {items : Array Value} {R : Result → Shared → Prop} (hh : A.handled = none) (nt : s.heap.IsRevIter it l ((items.size : Int) - 1)) (ls : s.heap.IsList l items) (hne : l ≠ it) (hn : items.size ≤ sizeLine) (ni : S ≠ it) (nl : S ≠ l)
    (new : s.heap.get? S = some { cls := .type "list", data := .seq #[] c })
    (hR : ∀ (h' : Heap) (tk : Nat) (ac : Array Value) (c' : Nat), (∀ b o, b ≠ S → b ≠ it → s.heap.get? b = some o → h'.get? b = some o) → h'.get? S = some { cls := .type "list", dict := none, data := .seq ac c', slots := #[] } →
      ItemsOf (fun i v => items[items.size - 1 - i]? = some v) ac items.size → R (.ok (.ret .none)) { s with heap := h', toks := tk }) :
    wpAny (model prog w) A.in1 (Builtin.List.listExtendWith (.ref S) (.ref it) .none)
      (fun fin s' => match fin with | .done f => R (.ok f) s' | .again c' => c'.quiet = true ∧ codeAny (model prog w) A c' R s') (fun e s' => R (.error e) s') s := by
  have wk := (Walks.listRev (prog := prog) (w := w) (A := A.in1) hh it l hne items).toS
  have out : S ∉ [it, l] := fun z => by
    rcases List.mem_cons.mp z with z | z
    · exact ni z
    · exact nl (List.mem_singleton.mp z)
  have ty : s.TypeIs (.ref it) "list_reverseiterator" := nt.typeIs
  have same : Builtin.List.listSameRef (.ref S) (.ref it) = false := by simp [Builtin.List.listSameRef, ni]
  unfold Builtin.List.listExtendWith
  refine wpAny_bind (wpAny_typeOf ty ?_)
  rw [if_neg (by rw [same]; decide)]
  refine wpAny_bind (wpAny_pyIter_revIter nt (wpAny_bind (wpAny_holding ?_)))
  unfold Builtin.List.listLengthHint
  refine wpAny_bind (wpAny_specialOf ty nolen_lri ?_)
  show wpAny _ A.in1 (specialOf (Value.ref it) (Str.ofString "__length_hint__") >>= _) _ _ _
  refine wpAny_bind (wpAny_specialOf ty hint_lri ?_)
  generalize hz : ("list_reverseiterator.__length_hint__" : String) = z0
  wp_delta
  rw [show splitId z0 = some ("list_reverseiterator", "__length_hint__") from by subst hz; decide +kernel]
  subst hz
  refine wpAny_bind (wpAny_isInstance (b := true) ty (by rw [isSubtype_type]; kernel_rfl) (wpAny_pure ?_))
  rw [if_neg (by decide)]
  have e0 : ((items.size : Nat) : Int) - 1 - ((0 : Nat) : Int) = (items.size : Int) - 1 := by omega
  refine wpAny_pure ⟨plainId_quiet F.plain_extend_loop _, codeAny_extend_loopS wk hn S out .none items.size 0 _ _ _ rfl (Nat.zero_le _) ⟨Nat.zero_le _, by rw [e0]; exact nt, ls⟩ new (ItemsOf.nil _) fun s' ac c' mv at_ its => ?_⟩
  rw [Moved.eq_with mv]
  refine hR s'.heap s'.toks ac c' (fun b o b1 b2 e => mv.heap b o (fun z => ?_) e) at_ its
  rcases List.mem_cons.mp z with z | z
  · exact b1 z
  · exact b2 (List.mem_singleton.mp z)
theorem call_listRev {it l : Addr} {items : Array Value} {Q : Value → Shared → Prop} (hh : A.handled = none) (nt : s.heap.IsRevIter it l ((items.size : Int) - 1)) (ls : s.heap.IsList l items) (hne : l ≠ it) (hn : items.size ≤ sizeLine)
    (hQ : ∀ (h' : Heap) (tk : Nat) (ac : Array Value) (c' : Nat), (∀ b o, b ≠ it → s.heap.get? b = some o → h'.get? b = some o) → h'.get? s.heap.objs.size = some { cls := .type "list", dict := none, data := .seq ac c', slots := #[] } →
      ItemsOf (fun i v => items[items.size - 1 - i]? = some v) ac items.size → Q (.ref s.heap.objs.size) { s with heap := h', toks := tk }) :
    wpAny (model prog w) A (call (.type "list") [.ref it]) Q E s := by
  refine callType_codes (Q₁ := fun ob s1 => ob = .ref s.heap.objs.size ∧ s1 = { s with heap := s.heap.push { cls := .type "list", data := .seq #[] } }) PySem.F.called_list (PySem.F.typeCall_list_1 _) PySem.F.entry_list_init (code_list_new _ ⟨rfl, rfl⟩) fun ob s1 h1 => ?_
  obtain ⟨rfl, rfl⟩ := h1
  obtain ⟨oi, hoi, _⟩ := id nt
  obtain ⟨ol, hol, _⟩ := id ls
  have ni : s.heap.objs.size ≠ it := Nat.ne_of_gt (Heap.lt_size hoi)
  have nl : s.heap.objs.size ≠ l := Nat.ne_of_gt (Heap.lt_size hol)
  have g0 : (s.heap.push { cls := .type "list", data := .seq #[] }).get? s.heap.objs.size = some { cls := .type "list", data := .seq #[] } := Heap.get?_push_size _ rfl
  refine ⟨⟨_, g0, rfl⟩, PySem.F.args_list_init_2 _ _, ?_⟩
  show wpAny _ _ (do let old ← Builtin.List.listItems (.ref s.heap.objs.size); Builtin.List.listUpdate (.ref s.heap.objs.size) (fun _ => #[]); letGo old.toList.reverse; Builtin.List.listExtendWith (.ref s.heap.objs.size) (.ref it) .none) _ _ _
  refine wpAny_bind ?_
  unfold Builtin.List.listItems
  refine wpAny_bind (wpAny_seqItems g0 rfl (wpAny_pure (wpAny_bind (wpAny_updateSeq g0 rfl (wpAny_bind (wpAny_letGo ?_))))))
  have g1 := Heap.get?_update_self (Obj.mapSeq (fun _ => (#[] : Array Value))) g0 rfl
  have oth : ∀ b o, b ≠ s.heap.objs.size → s.heap.get? b = some o → ((s.heap.push { cls := .type "list", data := .seq #[] }).update s.heap.objs.size (Obj.mapSeq (fun _ => (#[] : Array Value)))).get? b = some o :=
    fun b o nb e => (Heap.get?_update_other _ _ (Ne.symm nb)).trans (Heap.get?_push_of_some _ e)
  refine revL_ext (l := l) hh (nt.at fun o e => oth _ _ (Ne.symm ni) e) (ls.at fun o e => oth _ _ (Ne.symm nl) e) hne hn ni nl g1 fun h' tk ac c' kp at_ its => ?_
  exact ⟨rfl, hQ h' tk ac c' (fun b o nb e => kp b o (Nat.ne_of_lt (Heap.lt_size e)) nb (oth b o (Nat.ne_of_lt (Heap.lt_size e)) e)) at_ its⟩
end
section
variable {X : Cx} {E : XK}
def tLstRev (K : PySem.W.Frag) (te : TE) : TE := fun σ H Q => te σ H fun v H1 => ∃ (a : Addr) (xs : List V), v = .ref a ∧ SqL K H1 a xs ∧ ∀ q, H1 q = none → Q (.ref q) (upd H1 q (.lst xs.reverse))
theorem pe_lstRev {e : Expr} {te : TE} {p p2 pos pos2 : Pos} (hc : X.calm = true) (hg : Gl X "list") (hm : X.mg "list" = none) (hg2 : Gl X "reversed") (hm2 : X.mg "reversed" = none) (he : PE X e te)
    (hs : starEach [e] X.env = (false, eval e X.env) :: starEach [] X.env := by rfl)
    (hs2 : starEach [.Call (.Name "reversed" p2) [e] [] pos2] X.env = (false, eval (.Call (.Name "reversed" p2) [e] [] pos2) X.env) :: starEach [] X.env := by rfl) :
    PE X (.Call (.Name "list" p) [.Call (.Name "reversed" p2) [e] [] pos2] [] pos) (tLstRev X.K te) := by
  constructor
  intro pins s σ H Q I h
  refine Call_ (ld_blt I hg hm boot_list (PyProof.Rows.callWith_type1 (args_cons (Call_ (ld_blt I hg2 hm2 PyProof.Rows.boot_reversed (PyProof.Rows.callWith_type1 (args_cons (thn (he.run pins s σ H _ I h) fun u s1 ⟨v, H1, I1, r1, q1⟩ => args_nil ?_) hs) hs rfl))) hs2) hs2 rfl))
  obtain ⟨a, xs, ev, hq, q⟩ := q1
  subst ev
  obtain rfl : u = Value.ref a := r1
  obtain ⟨its, rv, p', hz⟩ := I1.list hq
  have ls := p'.isList
  refine call_reversed_list ls (args_nil ?_)
  obtain ⟨ol, hol, _⟩ := id ls
  have grown : ∀ b o, s1.heap.get? b = some o → (s1.heap.push (revObj a ((its.toArray.size : Int) - 1))).get? b = some o := fun b o e => Heap.get?_push_of_some _ e
  have I2 : Inv X pins σ H1 { s1 with heap := s1.heap.push (revObj a ((its.toArray.size : Int) - 1)) } := I1.kept (t' := s1.toks) grown
  have ne : a ≠ s1.heap.objs.size := Nat.ne_of_lt (Heap.lt_size hol)
  refine call_listRev (s := { s1 with heap := s1.heap.push (revObj a ((its.toArray.size : Int) - 1)) }) (I1.ok.hd hc) ⟨_, Heap.get?_push_size _ rfl, rfl, rfl⟩ (ls.push _) ne (by rw [List.size_toArray, ← rv.length]; exact hz) fun h' tk ac c' kp at_ hi => ?_
  obtain ⟨f0, f1, f2, f3, f4, f5⟩ := I1.fpOk (H' := H1) (b := s1.heap.objs.size) (Nat.le_refl _) (I1.hok.fresh (Nat.le_refl _))
  have I3 : Inv X pins σ H1 { s1 with heap := h', toks := tk } := I2.turned (t' := tk) (fun b o nb e => kp b o nb e) f0 f1 f3 f4 f5
  have no : ∀ o, s1.heap.get? (s1.heap.push (revObj a ((its.toArray.size : Int) - 1))).objs.size ≠ some o := fun o e => by
    have h1 := Heap.lt_size e
    rw [size_push'] at h1
    exact Nat.lt_irrefl _ (Nat.lt_trans (Nat.lt_succ_self _) h1)
  have na : H1 (s1.heap.push (revObj a ((its.toArray.size : Int) - 1))).objs.size = none := I1.hok.fresh (by rw [size_push']; exact Nat.le_succ _)
  have I4 := inv_track (o := .lst xs.reverse) I3 na (fun z => by
      obtain ⟨m, hn, _⟩ := I1.loc
      obtain ⟨oL, _, _, hoL, _⟩ := hn
      rw [← z] at hoL
      exact no _ hoL) (fun y k e z => by
      obtain ⟨v, oc, e1, _⟩ := I1.cell y k e
      rw [z] at e1
      exact no _ e1) (fun p hp z => by
      have e1 := (I1.pin p hp).1
      rw [z] at e1
      exact no _ e1) (fun ob q => Classical.byContradiction fun z => by
      obtain ⟨o', e1⟩ := I1.base.there _ ob q z
      exact no _ e1) (show ObjOk X.prog X.w _ _ _ (.lst xs.reverse) from ⟨by rw [List.length_reverse]; exact hz, ac.toList, c', RT.vals_rev rv hi, by rw [Array.toArray_toList]; exact at_⟩)
  exact ⟨.ref _, _, I4, rfl, q _ na⟩
theorem rel_rev {c : Ct} {H : Hp} {m : List Addr} {l : List D} {xs : List V} (h : RelL c.K H m l xs) : RelL c.K H m l.reverse xs.reverse := h.rev
theorem se_lstRev {e : Expr} {fe : EM} {p p2 pos pos2 : Pos} (hc : X.calm = true) (hg : Gl X "list") (hm : X.mg "list" = none) (hg2 : Gl X "reversed") (hm2 : X.mg "reversed" = none) (he : SE X E e fe)
    (hs : starEach [e] X.env = (false, eval e X.env) :: starEach [] X.env := by rfl)
    (hs2 : starEach [.Call (.Name "reversed" p2) [e] [] pos2] X.env = (false, eval (.Call (.Name "reversed" p2) [e] [] pos2) X.env) :: starEach [] X.env := by rfl) :
    SE X E (.Call (.Name "list" p) [.Call (.Name "reversed" p2) [e] [] pos2] [] pos) (mUn uLstRev fe) := by
  refine PE.mono (pe_lstRev hc hg hm hg2 hm2 he hs hs2) fun σ H Q ⟨fr, S, m, rf, rs, q⟩ => ?_
  refine rd_bind rf rs q fun x S1 m1 H1 e1 rf1 rs1 p1 v hv => ?_
  unfold uLstRev at p1
  split at p1
  · cases hv with
    | ref ha =>
      split at p1
      · rename_i l hl
        obtain ⟨xs, h1, h2⟩ := rs1.lst ha hl
        exact ⟨_, xs, rfl, h1, fun b hb => post_new rs1 p1 hb fun e => ⟨_, upd_same, (rel_rev h2).mono e⟩⟩
      · exact p1.elim
  · exact p1.elim
end
/-! ### isinstance of the exception that the suite holds -/
section
variable {X : Cx} {a : Addr} {oe : Obj} {cls : Value} {d : Option Addr} {pn : List (Addr × Obj)} {x : Exn} {i : Nat}
theorem pin_at {pins : List (Addr × Obj)} {σ : L2.St} {H : Hp} {s : Shared} {D dd : Addr} {fs : List (Str × V)} (I : Inv (X.suite a ((a, oe) :: pn)) pins σ H s) (hz : Zc (.ref D) (some dd) oe) (hf : ∃ ws, oe.data = .fields ws) (hd : H dd = some (.xd fs)) :
    ∃ od : Obj, PySem.W.InstAt s.heap a oe D (some od) := by
  obtain ⟨g, _⟩ := I.pin (a, oe) (List.mem_append_left _ List.mem_cons_self)
  obtain ⟨ws, f⟩ := hf
  obtain ⟨mA, hns, _⟩ := (show ObjOk X.prog X.w H s.heap dd (.xd fs) from I.hok dd _ hd)
  obtain ⟨od, ho, _⟩ := lookIn_ns hns
  refine ⟨od, ⟨g, hz.1, ?_, by rw [hz.2]; exact ho⟩⟩
  unfold PySem.W.notCls
  rw [f] <;> rfl
/-- one class, or a tuple of classes -/
def rIsP (K : PySem.W.Frag) (D dd a : Addr) : List V → Hp → VK → Prop := fun xs H Q => ∃ (fs : List (Str × V)) (c : V) (b : Bool), xs = [.ref a, c] ∧ H dd = some (.xd fs) ∧ ExcC K D ∧ Q (.bl b) H ∧
  ((∃ cv, (∀ u, RelV c u → u = cv) ∧ PySem.W.kitOne K (.ref D) cv = some b) ∨ ∃ (t : Addr) (vs : List V) (cs : List Value), c = .ref t ∧ H t = some (.tup vs) ∧ (∀ us, Vals vs us → us = cs) ∧ PySem.W.kitAny K (.ref D) cs = some b)
theorem call_isP {D dd : Addr} (hz : Zc (.ref D) (some dd) oe) (hf : ∃ ws, oe.data = .fields ws) : CallR (X.suite a ((a, oe) :: pn)) (.builtin "isinstance") (rIsP X.K D dd a) := by
  intro pins s σ H xs us Q I r h
  obtain ⟨fs, c, b, rfl, hd, C, q, h⟩ := h
  obtain ⟨u, ru, rfl, r1, r2⟩ : ∃ u ru, us = [u, ru] ∧ RelV (.ref a) u ∧ RelV c ru := by
    obtain ⟨u1, u2, e, r1, r2⟩ := vals2 r
    exact ⟨u1, u2, e, r1, r2⟩
  obtain rfl : u = Value.ref a := r1
  obtain ⟨od, J⟩ := pin_at I hz hf hd
  have hcl : (PySem.W.clsIn X.K D).isSome = true := by
    obtain ⟨cd, h1, _⟩ := PySem.W.any_some C.hd
    rw [h1]; rfl
  have kx := PySem.W.kitx_exc (x := a) (ox := oe) (od := some od) hcl C.hg C.hk C.hs C.ha C.hn C.ht C.hm
  rcases h with ⟨cv, hcv, e⟩ | ⟨t, vs, cs, rfl, ht, hcs, e⟩
  · obtain rfl := hcv _ r2
    exact PySem.W.kia_one kx I.kIn J e (fun z => nomatch z) fun tk => ⟨.bl b, H, I.kept (t' := tk) fun _ _ z => z, rfl, q⟩
  · obtain rfl : ru = Value.ref t := r2
    obtain ⟨hz2, its, rv, o, ho, hc, n, hdt⟩ := I.hok _ _ ht
    obtain rfl := hcs _ rv
    obtain ⟨oc, od2, oda, osl⟩ := o
    dsimp only at hc hdt
    subst hc hdt
    exact PySem.W.kia_tup kx I.kIn J ho e (fun z => nomatch z) fun tk => ⟨.bl b, H, I.kept (t' := tk) fun _ _ z => z, rfl, q⟩
/-- classes asked for, by the classes' names -/
def SubA (c : Ct) (cs : List Value) (sub : String → Option Bool) : Prop := ∀ n b, sub n = some b → ∀ C : Addr, c.mg (n : Str) = some (.ref C) → ExcC c.K C ∧ PySem.W.kitAny c.K (.ref C) cs = some b
theorem subA_nil {c : Ct} {cs : List Value} : SubA c cs (fun _ => none) := fun n b h => nomatch h
theorem subA_cons {c : Ct} {cs : List Value} {cn : String} {C : Addr} {b : Bool} {sub : String → Option Bool} (hm : c.mg (cn : Str) = some (.ref C)) (ex : ExcC c.K C) (em : PySem.W.kitAny c.K (.ref C) cs = some b) (r : SubA c cs sub) : SubA c cs (fun n => if n = cn then some b else sub n) := by
  intro n b' h C' hC'
  dsimp only at h
  split at h
  · rename_i e
    subst e
    cases h
    rw [hm] at hC'
    cases hC'
    exact ⟨ex, em⟩
  · exact r n b' h C' hC'
theorem kit_two {K : PySem.W.Frag} {t c1 c2 : Value} (h1 : PySem.W.kitOne K t c1 = some false) (h2 : PySem.W.kitOne K t c2 = some false) : PySem.W.kitAny K t [c1, c2] = some false := by
  unfold PySem.W.kitAny
  rw [h1]
  unfold PySem.W.kitAny
  rw [h2]
  rfl
theorem xe_isI {p p2 p3 pos : Pos} {n y : Str} {c : V} {cv : Value} {sub : String → Option Bool} (hz : Zc cls d oe) (hf : ∃ ws, oe.data = .fields ws) (hN : (X.suite a ((a, oe) :: pn)).N[i]? = some n) (hg : Gl X "isinstance") (hm : X.mg "isinstance" = none) (hy : PE (X.suite a ((a, oe) :: pn)) (.Name y p2) (tC c)) (hcv : ∀ u, RelV c u → u = cv) (hsub : SubI (cx X) cv sub)
    (hv : Vis X.env.scope n := by first | exact Or.inl rfl | exact Or.inr (Or.inl rfl) | exact Or.inr (Or.inr rfl)) (hd : (n == ("__debug__" : Str)) = false := by decide) (hcd : (n == ("__classdict__" : Str)) = false := by decide)
    (he : starEach [.Name n p3, .Name y p2] X.env = (false, eval (.Name n p3) X.env) :: starEach [.Name y p2] X.env := by rfl) (he2 : starEach [.Name y p2] X.env = (false, eval (.Name y p2) X.env) :: starEach [] X.env := by rfl) (hpl : (backTo pos (starEach [.Name y p2] X.env)).any (·.1) = false := by rfl) :
    PE (X.suite a ((a, oe) :: pn)) (.Call (.Name "isinstance" p) [.Name n p3, .Name y p2] [] pos) (rdXE (cx X) a i cls d x (mXi x sub)) := by
  refine ⟨fun pins s σ H Q I h => ?_⟩
  obtain ⟨fr, S, m, rf, rs, rx, hσ, q⟩ := h
  obtain ⟨C, h1, h2, dd, fs, h3, h4, h5⟩ := rx
  subst h2 h3
  unfold mXi at q
  split at q
  · rename_i b hb
    obtain ⟨k1, k2⟩ := hsub _ b hb C h1
    refine (pe_callB (call_isP hz hf) hg hm PyProof.Rows.boot_isinstance (pa_cons (pe_var hN hv hd hcd) (pa_cons hy pa_nil he2) he) (by decide) (by decide) he hpl).run pins s σ H Q I ?_
    exact ⟨.ref a, hσ, fs, c, b, rfl, h4, k1, q.here rs _ (.bl b), .inl ⟨cv, hcv, k2⟩⟩
  · exact q.elim
theorem xe_isT {p p2 p3 p4 p5 pos : Pos} {n y y2 : Str} {c1 c2 : V} {v1 v2 : Value} {x1} {sub : String → Option Bool} (hz : Zc cls d oe) (hf : ∃ ws, oe.data = .fields ws) (hN : (X.suite a ((a, oe) :: pn)).N[i]? = some n) (hg : Gl X "isinstance") (hm : X.mg "isinstance" = none) (hy : PE (X.suite a ((a, oe) :: pn)) (.Name y p2) (tC c1)) (hy2 : PE (X.suite a ((a, oe) :: pn)) (.Name y2 p4) (tC c2)) (hcv : ∀ u, RelV c1 u → u = v1) (hcv2 : ∀ u, RelV c2 u → u = v2) (hsub : SubA (cx X) [v1, v2] sub)
    (hv : Vis X.env.scope n := by first | exact Or.inl rfl | exact Or.inr (Or.inl rfl) | exact Or.inr (Or.inr rfl)) (hd : (n == ("__debug__" : Str)) = false := by decide) (hcd : (n == ("__classdict__" : Str)) = false := by decide)
    (t1 : starEach [.Name y p2, .Name y2 p4] X.env = (false, eval (.Name y p2) X.env) :: starEach [.Name y2 p4] X.env := by rfl) (t2 : starEach [.Name y2 p4] X.env = (false, eval (.Name y2 p4) X.env) :: starEach [] X.env := by rfl)
    (he : starEach [.Name n p3, .Tuple [.Name y p2, .Name y2 p4] x1 p5] X.env = (false, eval (.Name n p3) X.env) :: starEach [.Tuple [.Name y p2, .Name y2 p4] x1 p5] X.env := by rfl) (he2 : starEach [.Tuple [.Name y p2, .Name y2 p4] x1 p5] X.env = (false, eval (.Tuple [.Name y p2, .Name y2 p4] x1 p5) X.env) :: starEach [] X.env := by rfl) (hpl : (backTo pos (starEach [.Tuple [.Name y p2, .Name y2 p4] x1 p5] X.env)).any (·.1) = false := by rfl) :
    PE (X.suite a ((a, oe) :: pn)) (.Call (.Name "isinstance" p) [.Name n p3, .Tuple [.Name y p2, .Name y2 p4] x1 p5] [] pos) (rdXE (cx X) a i cls d x (mXi x sub)) := by
  refine ⟨fun pins s σ H Q I h => ?_⟩
  obtain ⟨fr, S, m, rf, rs, rx, hσ, q⟩ := h
  obtain ⟨C, h1, h2, dd, fs, h3, h4, h5⟩ := rx
  subst h2 h3
  unfold mXi at q
  split at q
  · rename_i b hb
    obtain ⟨k1, k2⟩ := hsub _ b hb C h1
    refine (pe_callB (call_isP hz hf) hg hm PyProof.Rows.boot_isinstance (pa_cons (pe_var hN hv hd hcd) (pa_cons (pe_tup (pa_cons hy (pa_cons hy2 pa_nil t2) t1)) pa_nil he2) he) (by decide) (by decide) he hpl).run pins s σ H Q I ?_
    refine ⟨.ref a, hσ, by rw [sizeLine_eq]; show 2 ≤ 16777216; decide, fun t ht => ?_⟩
    have e1 : Ext m H m (upd H t (.tup [c1, c2])) := ⟨⟨fun _ _ z => z, tstay_new ht⟩, fstay_new ht⟩
    refine ⟨fs, .ref t, b, rfl, by rw [upd_ne (ne_of_none h4 ht)]; exact h4, k1, (q.ext e1).here (rs.fresh ht) _ (.bl b), .inr ⟨t, [c1, c2], [v1, v2], rfl, upd_same, fun us r => ?_, k2⟩⟩
    obtain ⟨u1, u2, e, r1, r2⟩ := vals2 r
    rw [e, hcv _ r1, hcv2 _ r2]
  · exact q.elim
end
/-! ### what isinstance answers, by the classes' own lines -/
theorem kit_ref {K : PySem.W.Frag} {D C : Addr} {b : Bool} (h1 : PySem.W.isClsIn K C = true) (h2 : PySem.W.typeIn K (.ref C) = some (.type "type")) (h3 : PySem.W.subIn K (.ref D) (.ref C) = some b) (h4 : PySem.W.subIn K (.ref D) (.ref D) = some true) : PySem.W.kitOne K (.ref D) (.ref C) = some b := by
  unfold PySem.W.kitOne
  by_cases e : D = C
  · subst e
    rw [h4] at h3
    cases h3
    rw [if_pos (by simp)]
  · rw [if_neg (by simpa using e)]
    have e2 : ((PySem.W.clsIn K C).isSome && PySem.W.typeIn K (.ref C) == some (.type "type")) = true := by
      have h1' : (PySem.W.clsIn K C).isSome = true := h1
      rw [h1', h2] <;> rfl
    show (if ((PySem.W.clsIn K C).isSome && PySem.W.typeIn K (.ref C) == some (.type "type")) = true then PySem.W.subIn K (.ref D) (.ref C) else none) = some b
    rw [if_pos e2]
    exact h3
theorem kit_bt {K : PySem.W.Frag} {D : Addr} {T : String} {b : Bool} (h1 : PySem.W.kitMeta T = true) (h3 : PySem.W.subIn K (.ref D) (.type T) = some b) : PySem.W.kitOne K (.ref D) (.type T) = some b := by
  unfold PySem.W.kitOne
  rw [if_neg (by simp)]
  show (if PySem.W.kitMeta T = true then PySem.W.subIn K (.ref D) (.type T) else none) = some b
  rw [if_pos h1]
  exact h3
end Sm

set_option Elab.async false
set_option linter.all false
set_option maxRecDepth 100000
set_option maxHeartbeats 4000000
/-! x is True -/
namespace Sm
open PySem PySem.Spec PyProof.Rows L2 Mi
section
variable {X : Cx} {E : XK}
def trV : V → Option Bool
  | .bl b => some b
  | .non => some false
  | .int _ => some false
  | .str _ => some false
  | _ => none
theorem op_isTr : OpR X (compareOp .Is) (fun x y H Q => y = .bl true ∧ ∃ b, trV x = some b ∧ Q (.bl b) H) := by
  intro pins s σ H x y v u Q I rx ry h
  obtain ⟨rfl, b, hb, q⟩ := h
  cases ry
  show wpAny _ _ ((isSame v (Value.bool true)) >>= fun z => pure (Value.bool z)) _ _ s
  have key : ∀ c : Bool, plainIs v (.bool true) = true → (v == Value.bool true) = c → b = c → wpAny (model X.prog X.w) X.A ((isSame v (Value.bool true)) >>= fun z => pure (Value.bool z)) (fun z s' => ∃ y H', Inv X pins σ H' s' ∧ RelV y z ∧ Q y H') X.xe s := by
    intro c h1 h2 h3
    subst h3
    exact wpAny_bind (wpAny_isSame_plain h1 (by rw [h2]; exact wpAny_pure ⟨.bl b, H, I, rfl, q⟩))
  cases x with
  | bl c =>
    cases rx
    cases hb
    cases b <;> exact key _ rfl rfl rfl
  | non =>
    cases rx
    cases hb
    exact key _ rfl rfl rfl
  | int i =>
    obtain ⟨t, rfl⟩ := rx
    cases hb
    exact key _ rfl rfl rfl
  | str z =>
    obtain ⟨t, rfl⟩ := rx
    cases hb
    exact key _ rfl rfl rfl
  | _ => cases hb
theorem om_istr : OpM X E (compareOp .Is) oIsTr := by
  refine ⟨_, op_isTr, fun x y v u S m H Q rs hv hw p => ?_⟩
  unfold oIsTr at p
  split at p
  · cases hw
    split at p
    · cases hv; exact ⟨rfl, _, rfl, post_bl rs p⟩
    · cases hv; exact ⟨rfl, _, rfl, post_bl rs p⟩
    · cases hv; exact ⟨rfl, _, rfl, post_bl rs p⟩
    · cases hv; exact ⟨rfl, _, rfl, post_bl rs p⟩
    · exact p.elim
  · exact p.elim
end
end Sm

set_option Elab.async false
set_option linter.all false
set_option maxRecDepth 100000
set_option maxHeartbeats 2000000
/-! s.strip(c) against the layer -/
namespace Sm
open PySem PySem.Spec PyProof.Rows L2 Mi
section
variable {X : Cx} {E : XK} {pos : Pos}
theorem goes_C (c : Nat) : (sOf [c]).cps.contains = fun d => d == c := by
  funext d
  have e : (sOf [c]).cps = #[c] := rfl
  rw [e, Bool.eq_iff_iff]
  simp
theorem strip_C (c : Nat) (a : Tx) : Txt.stripChars (sOf a) (sOf [c]) = sOf (stripT c a) := by
  have lo : stripLo (sOf [c]).cps.contains true (sOf a) = stLo c a := by
    rw [goes_C]
    unfold stripLo stLo
    rw [if_pos rfl]
    rfl
  have hi : ∀ k, stripHi (sOf [c]).cps.contains true (sOf a) k = stHi c a k := fun k => by
    rw [goes_C]
    unfold stripHi stHi
    rw [if_pos rfl]
    rfl
  refine TL.ext_tl ?_
  unfold Txt.stripChars Txt.stripBy
  by_cases h : stripSame (sOf [c]).cps.contains true true (sOf a) = true
  · rw [if_pos h, tl_s, tl_s]
    unfold stripSame at h
    rw [lo, hi, Bool.and_eq_true] at h
    have h1 : stLo c a = 0 := by simpa using h.1
    have h2 : stHi c a (stLo c a) = a.length := by simpa [sOf_len] using h.2
    unfold stripT
    rw [h2, h1]
    simp
  · rw [if_neg h, tl_s]
    unfold stripped
    rw [lo, hi, TL.tl_strSub, tl_s]
    rfl
theorem mm_strip : MtMm X E "str.strip" sStrip := by
  refine ⟨_, mt_stripChars, fun x ds v vs S m H Q rs hv hvs p => ?_⟩
  unfold sStrip at p
  cases hv with
  | str a =>
    dsimp only at p
    split at p
    · rename_i c
      obtain ⟨w, rfl, hw⟩ := rel1 hvs
      cases hw
      split at p
      · rename_i hl
        refine ⟨sOf a, sOf [c], rfl, rfl, by rw [sOf_len, line_eq]; exact hl, ?_⟩
        rw [strip_C]
        exact post_str rs p
      · exact p.elim
    · exact p.elim
  | _ => exact p.elim
end
end Sm

set_option Elab.async false
set_option linter.all false
/-! laws of the small language -/
namespace Mi
/-! ### stores -/
theorem get_app {α : Type} (S L : List α) (n : Nat) : (S ++ L)[n]? = S[n]?.or (L[n - S.length]?) := by
  rw [List.getElem?_append]
  split
  · rename_i h
    rw [List.getElem?_eq_getElem h]; rfl
  · rename_i h
    rw [List.getElem?_eq_none (l := S) (by omega)]; rfl
theorem get_len {α : Type} (S : List α) : S[S.length]? = none := List.getElem?_eq_none (Nat.le_refl _)
theorem get_len_add {α : Type} (S : List α) (k : Nat) : S[S.length + k]? = none := List.getElem?_eq_none (Nat.le_add_right _ _)
/-- the old part stands -/
def Pre (S S' : Store) : Prop := ∃ G, S' = S ++ G
theorem Pre.refl (S : Store) : Pre S S := ⟨[], by simp⟩
theorem Pre.trans {S S1 S2 : Store} (a : Pre S S1) (b : Pre S1 S2) : Pre S S2 := by
  obtain ⟨G, rfl⟩ := a
  obtain ⟨G', rfl⟩ := b
  exact ⟨G ++ G', by rw [List.append_assoc]⟩
theorem Pre.app (S G : Store) : Pre S (S ++ G) := ⟨G, rfl⟩
theorem Pre.get {S S' : Store} {n : Nat} {o : O} (p : Pre S S') (h : S[n]? = some o) : S'[n]? = some o := by
  obtain ⟨G, rfl⟩ := p
  rw [List.getElem?_append_left (List.getElem?_eq_some_iff.mp h).1]; exact h
theorem Pre.len {S S' : Store} (p : Pre S S') : S.length ≤ S'.length := by
  obtain ⟨G, rfl⟩ := p
  rw [List.length_append]; omega
/-- it ends well, the old part standing -/
def Gives {α : Type} (r : Res α) (S : Store) (P : α → Store → Prop) : Prop := ∃ a S', r = .ok a S' ∧ Pre S S' ∧ P a S'
theorem Gives.ok {α : Type} {a : α} {S : Store} {P : α → Store → Prop} (h : P a S) : Gives (.ok a S) S P := ⟨a, S, rfl, Pre.refl S, h⟩
theorem Gives.bind {α β : Type} {r : Res α} {S : Store} {P : α → Store → Prop} {f : α → Store → Res β} {Q : β → Store → Prop} (h : Gives r S P) (k : ∀ a S', Pre S S' → P a S' → Gives (f a S') S' Q) : Gives (r.bind f) S Q := by
  obtain ⟨a, S', rfl, p, q⟩ := h
  obtain ⟨b, S2, e, p2, q2⟩ := k a S' p q
  exact ⟨b, S2, e, p.trans p2, q2⟩
theorem Gives.mono {α : Type} {r : Res α} {S : Store} {P Q : α → Store → Prop} (h : Gives r S P) (k : ∀ a S', Pre S S' → P a S' → Q a S') : Gives r S Q := by
  obtain ⟨a, S', e, p, q⟩ := h
  exact ⟨a, S', e, p, k a S' p q⟩
/-! ### what stands -/
@[simp] theorem dec_nil (S : Store) : dec (stands [] S) = true := dec_true fun _ h => by cases h
theorem dec_one {S : Store} {n : Nat} {l : List D} (h : lstOf S n = some l) : dec (stands [(n, l)] S) = true := dec_true fun p hp => by
  have e : p = (n, l) := by simpa using hp
  subst e; exact h
/-! ### while -/
theorem whileN_mono {t : TM} {b : SM} : ∀ (n : Nat) (fr : Fr) (S : Store), whileN t b n fr S ≠ .bad → whileN t b (n + 1) fr S = whileN t b n fr S
  | 0, fr, S, h => absurd rfl h
  | n + 1, fr, S, h => by
    rw [whileN]
    conv => rhs; rw [whileN]
    unfold whileN at h
    cases ht : t fr S with
    | ok c S1 =>
      rw [ht] at h
      simp only [bind_ok] at h ⊢
      cases c with
      | false => rfl
      | true =>
        simp only [if_true] at h ⊢
        cases hb : b fr S1 with
        | ok o S2 =>
          rw [hb] at h
          simp only [bind_ok] at h ⊢
          cases o with
          | nx fr' => exact whileN_mono n fr' S2 h
          | ct fr' => exact whileN_mono n fr' S2 h
          | bk fr' => rfl
          | rt d => rfl
        | exc x S2 => rfl
        | bad => rfl
    | exc x S1 => rfl
    | bad => rfl
theorem whileN_le {t : TM} {b : SM} {n k : Nat} {fr : Fr} {S : Store} (h : whileN t b n fr S ≠ .bad) : whileN t b (n + k) fr S = whileN t b n fr S := by
  induction k with
  | zero => rfl
  | succ k ih => rw [← Nat.add_assoc, whileN_mono _ _ _ (by rw [ih]; exact h), ih]
theorem sWhile_of {t : TM} {b : SM} {n : Nat} {fr : Fr} {S : Store} (h : whileN t b n fr S ≠ .bad) : sWhile t b fr S = whileN t b n fr S := by
  have hex : ∃ n, whileN t b n fr S ≠ .bad := ⟨n, h⟩
  unfold sWhile
  rw [dif_pos hex]
  have h2 := Classical.choose_spec hex
  have e1 := whileN_le (k := n) h2
  have e2 := whileN_le (k := Classical.choose hex) h
  rw [← e1, Nat.add_comm, e2]
/-- one turn of a while -/
theorem sWhile_eq (t : TM) (b : SM) (fr : Fr) (S : Store) : sWhile t b fr S = (t fr S).bind fun c S1 => if c then (b fr S1).bind (goOn (sWhile t b)) else .ok (.nx fr) S1 := by
  have nbad : (∀ n, whileN t b (n + 1) fr S = .bad) → sWhile t b fr S = .bad := fun h => by
    unfold sWhile
    rw [dif_neg]
    rintro ⟨n, hn⟩
    cases n with
    | zero => exact hn rfl
    | succ n => exact hn (h n)
  cases ht : t fr S with
  | ok c S1 =>
    simp only [bind_ok]
    cases c with
    | false =>
      have one : whileN t b 1 fr S = .ok (.nx fr) S1 := by unfold whileN; rw [ht]; rfl
      rw [sWhile_of (n := 1) (by rw [one]; simp), one]; rfl
    | true =>
      simp only [if_true]
      cases hb : b fr S1 with
      | ok o S2 =>
        have one : ∀ n, whileN t b (n + 1) fr S = goOn (whileN t b n) o S2 := fun n => by
          rw [whileN, ht]
          simp only [bind_ok, if_true]
          rw [hb, bind_ok]
        have go : ∀ fr', (∀ n, whileN t b (n + 1) fr S = whileN t b n fr' S2) → sWhile t b fr S = sWhile t b fr' S2 := fun fr' one => by
          by_cases hex : ∃ n, whileN t b n fr' S2 ≠ .bad
          · obtain ⟨n, hn⟩ := hex
            rw [sWhile_of hn, sWhile_of (n := n + 1) (by rw [one]; exact hn), one]
          · have h1 : sWhile t b fr' S2 = .bad := by unfold sWhile; rw [dif_neg hex]
            rw [h1]
            exact nbad fun n => by rw [one]; exact Classical.byContradiction fun z => hex ⟨n, z⟩
        rw [bind_ok]
        cases o with
        | nx fr' => exact go fr' one
        | ct fr' => exact go fr' one
        | bk fr' => rw [sWhile_of (n := 1) (by rw [one]; simp [goOn]), one]; rfl
        | rt d => rw [sWhile_of (n := 1) (by rw [one]; simp [goOn]), one]; rfl
      | exc x S2 =>
        have one : whileN t b 1 fr S = .exc x S2 := by
          rw [whileN, ht]
          simp only [bind_ok, if_true]
          rw [hb]; rfl
        rw [sWhile_of (n := 1) (by rw [one]; simp), one]; rfl
      | bad =>
        rw [nbad fun n => by
          rw [whileN, ht]
          simp only [bind_ok, if_true]
          rw [hb]; rfl]
        rfl
  | exc x S1 =>
    have one : whileN t b 1 fr S = .exc x S1 := by rw [whileN, ht]; rfl
    rw [sWhile_of (n := 1) (by rw [one]; simp), one]; rfl
  | bad =>
    rw [nbad fun n => by rw [whileN, ht]; rfl]
    rfl
/-! ### for -/
/-- an invariant over the turn's number; no way out -/
theorem loop_inv {hs : List (Nat × List D)} {turn : D → SM} (I : Nat → Fr → Store → Prop) : ∀ (items : List D) (k : Nat) (fr : Fr) (S : Store), I k fr S →
    (∀ i fr S, I i fr S → stands hs S) →
    (∀ i d fr S, items[i]? = some d → I (k + i) fr S → ∃ fr' S', (turn d fr S = .ok (.nx fr') S' ∨ turn d fr S = .ok (.ct fr') S') ∧ I (k + i + 1) fr' S') →
    ∃ fr' S', loopM hs turn items fr S = .ok (.nx fr') S' ∧ I (k + items.length) fr' S'
  | [], k, fr, S, h, st, _ => ⟨fr, S, by rw [loopM, dec_true (st k fr S h)]; rfl, h⟩
  | d :: ds, k, fr, S, h, st, step => by
    obtain ⟨fr', S', e, h'⟩ := step 0 d fr S rfl h
    obtain ⟨fr2, S2, e2, h2⟩ := loop_inv I ds (k + 1) fr' S' h' st fun i d fr S hd hi => by
      have q := step (i + 1) d fr S hd (by rw [show k + (i + 1) = k + 1 + i by omega]; exact hi)
      rw [show k + (i + 1) = k + 1 + i by omega] at q
      exact q
    refine ⟨fr2, S2, ?_, by rw [List.length_cons, show k + (ds.length + 1) = k + 1 + ds.length by omega]; exact h2⟩
    rw [loopM, dec_true (st k fr S h)]
    rcases e with e | e <;> rw [e] <;> exact e2
/-- an invariant; a way out by return that is as is wanted -/
theorem loop_ret {hs : List (Nat × List D)} {turn : D → SM} (I : Nat → Fr → Store → Prop) (R : D → Store → Prop) : ∀ (items : List D) (k : Nat) (fr : Fr) (S : Store), I k fr S →
    (∀ i fr S, I i fr S → stands hs S) →
    (∀ i d fr S, items[i]? = some d → I (k + i) fr S → (∃ fr' S', (turn d fr S = .ok (.nx fr') S' ∨ turn d fr S = .ok (.ct fr') S') ∧ I (k + i + 1) fr' S') ∨ ∃ x S', turn d fr S = .ok (.rt x) S' ∧ R x S') →
    (∃ fr' S', loopM hs turn items fr S = .ok (.nx fr') S' ∧ I (k + items.length) fr' S') ∨ ∃ x S', loopM hs turn items fr S = .ok (.rt x) S' ∧ R x S'
  | [], k, fr, S, h, st, _ => .inl ⟨fr, S, by rw [loopM, dec_true (st k fr S h)]; rfl, h⟩
  | d :: ds, k, fr, S, h, st, step => by
    have un : loopM hs turn (d :: ds) fr S = (turn d fr S).bind (goOn (loopM hs turn ds)) := by rw [loopM, dec_true (st k fr S h)]; rfl
    rcases step 0 d fr S rfl h with ⟨fr', S', e, h'⟩ | ⟨x, S', e, h'⟩
    · have un2 : loopM hs turn (d :: ds) fr S = loopM hs turn ds fr' S' := by rw [un]; rcases e with e | e <;> rw [e] <;> rfl
      rw [un2]
      have := loop_ret I R ds (k + 1) fr' S' h' st fun i d fr S hd hi => by
        have q := step (i + 1) d fr S hd (by rw [show k + (i + 1) = k + 1 + i by omega]; exact hi)
        rw [show k + (i + 1) = k + 1 + i by omega] at q
        exact q
      rw [List.length_cons, show k + (ds.length + 1) = k + 1 + ds.length by omega]
      exact this
    · exact .inr ⟨x, S', by rw [un, e]; rfl, h'⟩
/-! ### comprehensions -/
/-- elements that change nothing that stood -/
theorem lc_map {hs : List (Nat × List D)} {g : GM} {t : TM} {e : EM} {fr : Fr} {S1 : Store} (f : D → Option D) :
    ∀ (items : List D) (acc : List D) (G : Store), (∀ p, p ∈ hs → lstOf S1 p.1 = some p.2) → acc.length + items.length ≤ LINE →
    (∀ d, d ∈ items → ∀ acc G, ∃ fr' G', g d fr (S1 ++ .lst acc :: G) = .ok fr' (S1 ++ .lst acc :: G) ∧
      ((f d = none ∧ t fr' (S1 ++ .lst acc :: G) = .ok false (S1 ++ .lst acc :: (G ++ G'))) ∨ ∃ x G'', f d = some x ∧ t fr' (S1 ++ .lst acc :: G) = .ok true (S1 ++ .lst acc :: (G ++ G'')) ∧ e fr' (S1 ++ .lst acc :: (G ++ G'')) = .ok x (S1 ++ .lst acc :: (G ++ G')))) →
    ∃ G', lcLoop hs S1.length g t e fr items (S1 ++ .lst acc :: G) = .ok (.ref S1.length) (S1 ++ .lst (acc ++ items.filterMap f) :: (G ++ G')) := by
  have stand : ∀ acc G, (∀ p, p ∈ hs → lstOf S1 p.1 = some p.2) → stands hs (S1 ++ .lst acc :: G) := fun acc G h p hp => by
    have q := h p hp
    unfold lstOf at q ⊢
    have hlt : p.1 < S1.length := by
      cases hh : S1[p.1]? with
      | none => rw [hh] at q; cases q
      | some o => exact (List.getElem?_eq_some_iff.mp hh).1
    rw [List.getElem?_append_left hlt]; exact q
  intro items
  induction items with
  | nil => exact fun acc G h _ _ => ⟨[], by rw [lcLoop, dec_true (stand acc G h)]; simp⟩
  | cons d ds ih =>
    intro acc G h hl step
    rw [List.length_cons] at hl
    obtain ⟨fr', G', e1, e2⟩ := step d List.mem_cons_self acc G
    have step' := fun d' hd' => step d' (List.mem_cons_of_mem _ hd')
    rcases e2 with ⟨ef, e2⟩ | ⟨x, G'', ef, e2, e3⟩
    · obtain ⟨G2, q⟩ := ih acc (G ++ G') h (by omega) step'
      refine ⟨G' ++ G2, ?_⟩
      rw [lcLoop, dec_true (stand acc G h)]
      simp only [if_true, e1, bind_ok, e2, if_neg Bool.false_ne_true]
      rw [q, List.filterMap_cons_none ef, List.append_assoc]
    · obtain ⟨G2, q⟩ := ih (acc ++ [x]) (G ++ G') h (by rw [List.length_append, List.length_singleton]; omega) step'
      refine ⟨G' ++ G2, ?_⟩
      rw [lcLoop, dec_true (stand acc G h)]
      have hget : (S1 ++ O.lst acc :: (G ++ G'))[S1.length]? = some (.lst acc) := by rw [List.getElem?_append_right (Nat.le_refl _), Nat.sub_self]; rfl
      have hset : (S1 ++ O.lst acc :: (G ++ G')).set S1.length (.lst (acc ++ [x])) = S1 ++ .lst (acc ++ [x]) :: (G ++ G') := by
        rw [List.set_append_right _ _ (Nat.le_refl _), Nat.sub_self, List.set_cons_zero]
      simp only [if_true, e1, bind_ok, e2, e3, hget]
      rw [if_pos (by omega), hset, q, List.filterMap_cons_some ef, List.append_assoc]
      simp
end Mi

set_option Elab.async false
set_option linter.all false
/-! the small language step by step: each step's continuation by a name, so that simp stops where a test is open -/
namespace Mi
variable {α β : Type}
/-! ### expressions -/
def varK (S : Store) : Option (Option D) → Res D
  | some (some d) => .ok d S
  | _ => .bad
@[simp] theorem varK_s (S : Store) (d : D) : varK S (some (some d)) = .ok d S := (rfl)
@[simp] theorem mVar_s (i : Nat) (fr : Fr) (S : Store) : mVar i fr S = varK S fr[i]? := (rfl)
@[simp] theorem mC_s (d : D) (fr : Fr) (S : Store) : mC d fr S = .ok d S := (rfl)
def opK2 (g : Op2) (x : D) (r : Res D) : Res D := r.bind fun y S2 => g x y S2
def opK1 (g : Op2) (b : EM) (fr : Fr) (r : Res D) : Res D := r.bind fun x S1 => opK2 g x (b fr S1)
@[simp] theorem opK2_s (g : Op2) (x y : D) (S : Store) : opK2 g x (.ok y S) = g x y S := (rfl)
@[simp] theorem opK1_s (g : Op2) (b : EM) (fr : Fr) (x : D) (S : Store) : opK1 g b fr (.ok x S) = opK2 g x (b fr S) := (rfl)
@[simp] theorem mOp_s (g : Op2) (a b : EM) (fr : Fr) (S : Store) : mOp g a b fr S = opK1 g b fr (a fr S) := (rfl)
def unK (g : D → Store → Res D) (r : Res D) : Res D := r.bind fun x S1 => g x S1
@[simp] theorem unK_s (g : D → Store → Res D) (x : D) (S : Store) : unK g (.ok x S) = g x S := (rfl)
@[simp] theorem mUn_s (g : D → Store → Res D) (a : EM) (fr : Fr) (S : Store) : mUn g a fr S = unK g (a fr S) := (rfl)
def notK (r : Res D) : Res D := r.bind fun x S1 => (toB x S1).bind fun b S2 => .ok (.bl (!b)) S2
@[simp] theorem notK_s (b : Bool) (S : Store) : notK (.ok (.bl b) S) = .ok (.bl (!b)) S := (rfl)
@[simp] theorem mNot_s (a : EM) (fr : Fr) (S : Store) : mNot a fr S = notK (a fr S) := (rfl)
def andK (b : EM) (fr : Fr) (r : Res D) : Res D := r.bind fun x S1 => (toB x S1).bind fun c S2 => if c then b fr S2 else .ok (.bl false) S2
@[simp] theorem andK_t (b : EM) (fr : Fr) (S : Store) : andK b fr (.ok (.bl true) S) = b fr S := (rfl)
@[simp] theorem andK_f (b : EM) (fr : Fr) (S : Store) : andK b fr (.ok (.bl false) S) = .ok (.bl false) S := (rfl)
@[simp] theorem mAnd_s (a b : EM) (fr : Fr) (S : Store) : mAnd a b fr S = andK b fr (a fr S) := (rfl)
def orK (b : EM) (fr : Fr) (r : Res D) : Res D := r.bind fun x S1 => (toB x S1).bind fun c S2 => if c then .ok (.bl true) S2 else b fr S2
@[simp] theorem orK_t (b : EM) (fr : Fr) (S : Store) : orK b fr (.ok (.bl true) S) = .ok (.bl true) S := (rfl)
@[simp] theorem orK_f (b : EM) (fr : Fr) (S : Store) : orK b fr (.ok (.bl false) S) = b fr S := (rfl)
@[simp] theorem mOr_s (a b : EM) (fr : Fr) (S : Store) : mOr a b fr S = orK b fr (a fr S) := (rfl)
def truB (S : Store) : Option Bool → Res Bool
  | some b => .ok b S
  | none => .bad
@[simp] theorem truB_s (S : Store) (b : Bool) : truB S (some b) = .ok b S := (rfl)
def truK (r : Res D) : Res Bool := r.bind fun x S1 => truB S1 (truth x S1)
@[simp] theorem truK_s (x : D) (S : Store) : truK (.ok x S) = truB S (truth x S) := (rfl)
@[simp] theorem tTru_s (a : EM) (fr : Fr) (S : Store) : tTru a fr S = truK (a fr S) := by
  unfold tTru truK
  congr 1
def blK (r : Res D) : Res Bool := r.bind fun x S1 => toB x S1
@[simp] theorem blK_s (b : Bool) (S : Store) : blK (.ok (.bl b) S) = .ok b S := (rfl)
@[simp] theorem tBl_s (a : EM) (fr : Fr) (S : Store) : tBl a fr S = blK (a fr S) := (rfl)
def tandK (b : TM) (fr : Fr) (r : Res Bool) : Res Bool := r.bind fun c S1 => if c then b fr S1 else .ok false S1
@[simp] theorem tandK_t (b : TM) (fr : Fr) (S : Store) : tandK b fr (.ok true S) = b fr S := (rfl)
@[simp] theorem tandK_f (b : TM) (fr : Fr) (S : Store) : tandK b fr (.ok false S) = .ok false S := (rfl)
@[simp] theorem tAnd_s (a b : TM) (fr : Fr) (S : Store) : tAnd a b fr S = tandK b fr (a fr S) := (rfl)
def torK (b : TM) (fr : Fr) (r : Res Bool) : Res Bool := r.bind fun c S1 => if c then .ok true S1 else b fr S1
@[simp] theorem torK_t (b : TM) (fr : Fr) (S : Store) : torK b fr (.ok true S) = .ok true S := (rfl)
@[simp] theorem torK_f (b : TM) (fr : Fr) (S : Store) : torK b fr (.ok false S) = b fr S := (rfl)
@[simp] theorem tOr_s (a b : TM) (fr : Fr) (S : Store) : tOr a b fr S = torK b fr (a fr S) := (rfl)
def tnotK (r : Res Bool) : Res Bool := r.bind fun c S1 => .ok (!c) S1
@[simp] theorem tnotK_s (b : Bool) (S : Store) : tnotK (.ok b S) = .ok (!b) S := (rfl)
@[simp] theorem tNot_s (a : TM) (fr : Fr) (S : Store) : tNot a fr S = tnotK (a fr S) := (rfl)
@[simp] theorem tYes_s (fr : Fr) (S : Store) : tYes fr S = .ok true S := (rfl)
def ifeK (a b : EM) (fr : Fr) (r : Res Bool) : Res D := r.bind fun c S1 => if c then a fr S1 else b fr S1
@[simp] theorem ifeK_t (a b : EM) (fr : Fr) (S : Store) : ifeK a b fr (.ok true S) = a fr S := (rfl)
@[simp] theorem ifeK_f (a b : EM) (fr : Fr) (S : Store) : ifeK a b fr (.ok false S) = b fr S := (rfl)
@[simp] theorem mIfE_s (t : TM) (a b : EM) (fr : Fr) (S : Store) : mIfE t a b fr S = ifeK a b fr (t fr S) := (rfl)
def chK3 (h : Op2) (y : D) (c : EM) (fr : Fr) (r : Res D) : Res D := r.bind fun z S3 => (toB z S3).bind fun k S4 => if k then opK2 h y (c fr S4) else .ok (.bl false) S4
def chK2 (g h : Op2) (x : D) (c : EM) (fr : Fr) (r : Res D) : Res D := r.bind fun y S2 => chK3 h y c fr (g x y S2)
def chK1 (g h : Op2) (b c : EM) (fr : Fr) (r : Res D) : Res D := r.bind fun x S1 => chK2 g h x c fr (b fr S1)
@[simp] theorem chK3_t (h : Op2) (y : D) (c : EM) (fr : Fr) (S : Store) : chK3 h y c fr (.ok (.bl true) S) = opK2 h y (c fr S) := (rfl)
@[simp] theorem chK3_f (h : Op2) (y : D) (c : EM) (fr : Fr) (S : Store) : chK3 h y c fr (.ok (.bl false) S) = .ok (.bl false) S := (rfl)
@[simp] theorem chK2_s (g h : Op2) (x y : D) (c : EM) (fr : Fr) (S : Store) : chK2 g h x c fr (.ok y S) = chK3 h y c fr (g x y S) := (rfl)
@[simp] theorem chK1_s (g h : Op2) (x : D) (b c : EM) (fr : Fr) (S : Store) : chK1 g h b c fr (.ok x S) = chK2 g h x c fr (b fr S) := (rfl)
@[simp] theorem mChain_s (g h : Op2) (a b c : EM) (fr : Fr) (S : Store) : mChain g h a b c fr S = chK1 g h b c fr (a fr S) := (rfl)
def acK2 (x : D) (r : Res (List D)) : Res (List D) := r.bind fun xs S2 => .ok (x :: xs) S2
def acK1 (q : AM) (fr : Fr) (r : Res D) : Res (List D) := r.bind fun x S1 => acK2 x (q fr S1)
@[simp] theorem acK2_s (x : D) (xs : List D) (S : Store) : acK2 x (.ok xs S) = .ok (x :: xs) S := (rfl)
@[simp] theorem acK1_s (q : AM) (fr : Fr) (x : D) (S : Store) : acK1 q fr (.ok x S) = acK2 x (q fr S) := (rfl)
@[simp] theorem aNil_s (fr : Fr) (S : Store) : aNil fr S = .ok [] S := (rfl)
@[simp] theorem aCons_s (a : EM) (q : AM) (fr : Fr) (S : Store) : aCons a q fr S = acK1 q fr (a fr S) := (rfl)
def tupK (r : Res (List D)) : Res D := r.bind fun xs S1 => if xs.length ≤ LINE then .ok (.tup xs) S1 else .bad
@[simp] theorem tupK_s (xs : List D) (S : Store) : tupK (.ok xs S) = if xs.length ≤ LINE then .ok (.tup xs) S else .bad := (rfl)
@[simp] theorem mTup_s (a : AM) (fr : Fr) (S : Store) : mTup a fr S = tupK (a fr S) := (rfl)
def lstK (r : Res (List D)) : Res D := r.bind fun xs S1 => if xs.length ≤ LINE then new (.lst xs) S1 else .bad
@[simp] theorem lstK_s (xs : List D) (S : Store) : lstK (.ok xs S) = if xs.length ≤ LINE then .ok (.ref S.length) (S ++ [.lst xs]) else .bad := (rfl)
@[simp] theorem mLst_s (a : AM) (fr : Fr) (S : Store) : mLst a fr S = lstK (a fr S) := (rfl)
def callK (f : Fn) (r : Res (List D)) : Res D := r.bind f
@[simp] theorem callK_s (f : Fn) (ds : List D) (S : Store) : callK f (.ok ds S) = f ds S := (rfl)
@[simp] theorem mCall_s (f : Fn) (a : AM) (fr : Fr) (S : Store) : mCall f a fr S = callK f (a fr S) := (rfl)
def mtB (f : D → Fn) (x : D) (a : AM) (fr : Fr) (S : Store) : Bool → Res D
  | true => callK (f x) (a fr S)
  | false => .bad
@[simp] theorem mtB_s (f : D → Fn) (x : D) (a : AM) (fr : Fr) (S : Store) : mtB f x a fr S true = callK (f x) (a fr S) := (rfl)
def mtK (T : D → Store → Bool) (f : D → Fn) (a : AM) (fr : Fr) (r : Res D) : Res D := r.bind fun x S1 => mtB f x a fr S1 (T x S1)
@[simp] theorem mtK_s (T : D → Store → Bool) (f : D → Fn) (a : AM) (fr : Fr) (x : D) (S : Store) : mtK T f a fr (.ok x S) = mtB f x a fr S (T x S) := (rfl)
@[simp] theorem mMt_s (T : D → Store → Bool) (f : D → Fn) (o : EM) (a : AM) (fr : Fr) (S : Store) : mMt T f o a fr S = mtK T f a fr (o fr S) := by
  unfold mMt mtK
  congr 1
  funext x S1
  cases T x S1 <;> rfl
@[simp] theorem mNewK_s (fr : Fr) (S : Store) : mNewK fr S = .ok (.ref S.length) (S ++ [.dK []]) := (rfl)
@[simp] theorem mNewT_s (fr : Fr) (S : Store) : mNewT fr S = .ok (.ref S.length) (S ++ [.dT []]) := (rfl)
def psK (r : Res D) : Res (Option Int) := r.bind fun x S1 => match x with
  | .int i => .ok (some i) S1
  | _ => .bad
@[simp] theorem psK_s (i : Int) (S : Store) : psK (.ok (.int i) S) = .ok (some i) S := (rfl)
@[simp] theorem pNo_s (fr : Fr) (S : Store) : pNo fr S = .ok none S := (rfl)
@[simp] theorem pSome_s (a : EM) (fr : Fr) (S : Store) : pSome a fr S = psK (a fr S) := (rfl)
def slK3 (x : D) (l : Option Int) (r : Res (Option Int)) : Res D := r.bind fun h S3 => oSl x l h S3
def slK2 (x : D) (hi : PM) (fr : Fr) (r : Res (Option Int)) : Res D := r.bind fun l S2 => slK3 x l (hi fr S2)
def slK1 (lo hi : PM) (fr : Fr) (r : Res D) : Res D := r.bind fun x S1 => slK2 x hi fr (lo fr S1)
@[simp] theorem slK3_s (x : D) (l h : Option Int) (S : Store) : slK3 x l (.ok h S) = oSl x l h S := (rfl)
@[simp] theorem slK2_s (x : D) (hi : PM) (fr : Fr) (l : Option Int) (S : Store) : slK2 x hi fr (.ok l S) = slK3 x l (hi fr S) := (rfl)
@[simp] theorem slK1_s (lo hi : PM) (fr : Fr) (x : D) (S : Store) : slK1 lo hi fr (.ok x S) = slK2 x hi fr (lo fr S) := (rfl)
@[simp] theorem mSl_s (a : EM) (lo hi : PM) (fr : Fr) (S : Store) : mSl a lo hi fr S = slK1 lo hi fr (a fr S) := (rfl)

/-! ### targets -/
@[simp] theorem gName_s (i : Nat) (d : D) (fr : Fr) (S : Store) : gName i d fr S = .ok (fr.set i (some d)) S := (rfl)
@[simp] theorem gNil_s (fr : Fr) (S : Store) : gNil [] fr S = .ok fr S := (rfl)
def gcK (gs : GMs) (q : List D) (r : Res Fr) : Res Fr := r.bind fun fr' S' => gs q fr' S'
@[simp] theorem gcK_s (gs : GMs) (q : List D) (fr : Fr) (S : Store) : gcK gs q (.ok fr S) = gs q fr S := (rfl)
@[simp] theorem gCons_s (g : GM) (gs : GMs) (d : D) (q : List D) (fr : Fr) (S : Store) : gCons g gs (d :: q) fr S = gcK gs q (g d fr S) := (rfl)
def gtK (n : Nat) (g : GMs) (fr : Fr) (S : Store) : Option (List D) → Res Fr
  | some l => if l.length = n then g l fr S else .bad
  | none => .bad
@[simp] theorem gtK_s (n : Nat) (g : GMs) (fr : Fr) (S : Store) (l : List D) : gtK n g fr S (some l) = if l.length = n then g l fr S else .bad := (rfl)
@[simp] theorem gTup_s (n : Nat) (g : GMs) (d : D) (fr : Fr) (S : Store) : gTup n g d fr S = gtK n g fr S (seqOf S d) := by
  unfold gTup gtK
  cases seqOf S d <;> rfl
def fuK (fr : Fr) (r : Res Unit) : Res Fr := r.bind fun _ S3 => .ok fr S3
def gsK2 (x v : D) (fr : Fr) (r : Res D) : Res Fr := r.bind fun y S2 => fuK fr (setIx x y v S2)
def gsK1 (i : EM) (v : D) (fr : Fr) (r : Res D) : Res Fr := r.bind fun x S1 => gsK2 x v fr (i fr S1)
@[simp] theorem fuK_s (fr : Fr) (u : Unit) (S : Store) : fuK fr (.ok u S) = .ok fr S := (rfl)
@[simp] theorem gsK2_s (x v y : D) (fr : Fr) (S : Store) : gsK2 x v fr (.ok y S) = fuK fr (setIx x y v S) := (rfl)
@[simp] theorem gsK1_s (i : EM) (v x : D) (fr : Fr) (S : Store) : gsK1 i v fr (.ok x S) = gsK2 x v fr (i fr S) := (rfl)
@[simp] theorem gSub_s (o i : EM) (v : D) (fr : Fr) (S : Store) : gSub o i v fr S = gsK1 i v fr (o fr S) := (rfl)

/-! ### statements -/
@[simp] theorem sNx_s (fr : Fr) (S : Store) : sNx fr S = .ok (.nx fr) S := (rfl)
def seqK (b : SM) (r : Res Out) : Res Out := r.bind fun o S1 => match o with
  | .nx fr' => b fr' S1
  | o => .ok o S1
@[simp] theorem seqK_n (b : SM) (fr : Fr) (S : Store) : seqK b (.ok (.nx fr) S) = b fr S := (rfl)
@[simp] theorem seqK_r (b : SM) (d : D) (S : Store) : seqK b (.ok (.rt d) S) = .ok (.rt d) S := (rfl)
@[simp] theorem seqK_b (b : SM) (fr : Fr) (S : Store) : seqK b (.ok (.bk fr) S) = .ok (.bk fr) S := (rfl)
@[simp] theorem seqK_c (b : SM) (fr : Fr) (S : Store) : seqK b (.ok (.ct fr) S) = .ok (.ct fr) S := (rfl)
@[simp] theorem sSeq_s (a b : SM) (fr : Fr) (S : Store) : sSeq a b fr S = seqK b (a fr S) := (rfl)
def nxK (r : Res Fr) : Res Out := r.bind fun fr' S2 => .ok (.nx fr') S2
def asK (g : GM) (fr : Fr) (r : Res D) : Res Out := r.bind fun x S1 => nxK (g x fr S1)
@[simp] theorem nxK_s (fr : Fr) (S : Store) : nxK (.ok fr S) = .ok (.nx fr) S := (rfl)
@[simp] theorem asK_s (g : GM) (fr : Fr) (x : D) (S : Store) : asK g fr (.ok x S) = nxK (g x fr S) := (rfl)
@[simp] theorem sAsg_s (e : EM) (g : GM) (fr : Fr) (S : Store) : sAsg e g fr S = asK g fr (e fr S) := (rfl)
def auK2 (i : Nat) (fr : Fr) (r : Res D) : Res Out := r.bind fun z S2 => .ok (.nx (fr.set i (some z))) S2
def auK1 (i : Nat) (g : Op2) (x : D) (fr : Fr) (r : Res D) : Res Out := r.bind fun y S1 => auK2 i fr (g x y S1)
def auK0 (i : Nat) (g : Op2) (e : EM) (fr : Fr) (S : Store) : Option (Option D) → Res Out
  | some (some x) => auK1 i g x fr (e fr S)
  | _ => .bad
@[simp] theorem auK2_s (i : Nat) (fr : Fr) (z : D) (S : Store) : auK2 i fr (.ok z S) = .ok (.nx (fr.set i (some z))) S := (rfl)
@[simp] theorem auK1_s (i : Nat) (g : Op2) (x y : D) (fr : Fr) (S : Store) : auK1 i g x fr (.ok y S) = auK2 i fr (g x y S) := (rfl)
@[simp] theorem auK0_s (i : Nat) (g : Op2) (e : EM) (fr : Fr) (S : Store) (x : D) : auK0 i g e fr S (some (some x)) = auK1 i g x fr (e fr S) := (rfl)
@[simp] theorem sAug_s (i : Nat) (g : Op2) (e : EM) (fr : Fr) (S : Store) : sAug i g e fr S = auK0 i g e fr S fr[i]? := by
  unfold sAug auK0
  cases fr[i]? with
  | none => rfl
  | some o => cases o <;> rfl
@[simp] theorem oAddI_s (a b : Int) (S : Store) : oAddI (.int a) (.int b) S = .ok (.int (a + b)) S := (rfl)
def exK (fr : Fr) (r : Res D) : Res Out := r.bind fun _ S1 => .ok (.nx fr) S1
@[simp] theorem exK_s (fr : Fr) (x : D) (S : Store) : exK fr (.ok x S) = .ok (.nx fr) S := (rfl)
@[simp] theorem sExp_s (e : EM) (fr : Fr) (S : Store) : sExp e fr S = exK fr (e fr S) := (rfl)
def reK (r : Res D) : Res Out := r.bind fun x S1 => .ok (.rt x) S1
@[simp] theorem reK_s (x : D) (S : Store) : reK (.ok x S) = .ok (.rt x) S := (rfl)
@[simp] theorem sRet_s (e : EM) (fr : Fr) (S : Store) : sRet e fr S = reK (e fr S) := (rfl)
@[simp] theorem sRetN_s (fr : Fr) (S : Store) : sRetN fr S = .ok (.rt .non) S := (rfl)
@[simp] theorem sBrk_s (fr : Fr) (S : Store) : sBrk fr S = .ok (.bk fr) S := (rfl)
@[simp] theorem sCnt_s (fr : Fr) (S : Store) : sCnt fr S = .ok (.ct fr) S := (rfl)
def ifK (a b : SM) (fr : Fr) (r : Res Bool) : Res Out := r.bind fun c S1 => if c then a fr S1 else b fr S1
@[simp] theorem ifK_t (a b : SM) (fr : Fr) (S : Store) : ifK a b fr (.ok true S) = a fr S := (rfl)
@[simp] theorem ifK_f (a b : SM) (fr : Fr) (S : Store) : ifK a b fr (.ok false S) = b fr S := (rfl)
@[simp] theorem sIf_s (t : TM) (a b : SM) (fr : Fr) (S : Store) : sIf t a b fr S = ifK a b fr (t fr S) := (rfl)
/-- a turn of a for -/
def tuK (b : SM) (r : Res Fr) : Res Out := r.bind fun fr' S' => b fr' S'
@[simp] theorem tuK_s (b : SM) (fr : Fr) (S : Store) : tuK b (.ok fr S) = b fr S := (rfl)
def turnM (g : GM) (b : SM) (d : D) (fr : Fr) (S : Store) : Res Out := tuK b (g d fr S)
theorem turnM_s (g : GM) (b : SM) (d : D) (fr : Fr) (S : Store) : turnM g b d fr S = tuK b (g d fr S) := (rfl)
noncomputable def forK (g : GM) (b : SM) (fr : Fr) (r : Res Its) : Res Out := r.bind fun I S1 => loopM I.hs (turnM g b) I.items fr S1
@[simp] theorem forK_s (g : GM) (b : SM) (fr : Fr) (l : List D) (hs : List (Nat × List D)) (S : Store) : forK g b fr (.ok ⟨l, hs⟩ S) = loopM hs (turnM g b) l fr S := (rfl)
@[simp] theorem sFor_s (i : IM) (g : GM) (b : SM) (fr : Fr) (S : Store) : sFor i g b fr S = forK g b fr (i fr S) := (rfl)
/-- the rest of a for -/
noncomputable def loK (hs : List (Nat × List D)) (turn : D → SM) (ds : List D) (r : Res Out) : Res Out := r.bind (goOn (loopM hs turn ds))
@[simp] theorem loK_n (hs : List (Nat × List D)) (turn : D → SM) (ds : List D) (fr : Fr) (S : Store) : loK hs turn ds (.ok (.nx fr) S) = loopM hs turn ds fr S := (rfl)
@[simp] theorem loK_c (hs : List (Nat × List D)) (turn : D → SM) (ds : List D) (fr : Fr) (S : Store) : loK hs turn ds (.ok (.ct fr) S) = loopM hs turn ds fr S := (rfl)
@[simp] theorem loK_b (hs : List (Nat × List D)) (turn : D → SM) (ds : List D) (fr : Fr) (S : Store) : loK hs turn ds (.ok (.bk fr) S) = .ok (.nx fr) S := (rfl)
@[simp] theorem loK_r (hs : List (Nat × List D)) (turn : D → SM) (ds : List D) (d : D) (S : Store) : loK hs turn ds (.ok (.rt d) S) = .ok (.rt d) S := (rfl)
theorem loop_nil {hs : List (Nat × List D)} {turn : D → SM} {fr : Fr} {S : Store} (h : stands hs S) : loopM hs turn [] fr S = .ok (.nx fr) S := by rw [loopM, dec_true h]; rfl
theorem loop_cons {hs : List (Nat × List D)} {turn : D → SM} {d : D} {ds : List D} {fr : Fr} {S : Store} (h : stands hs S) : loopM hs turn (d :: ds) fr S = loK hs turn ds (turn d fr S) := by rw [loopM, dec_true h]; rfl
theorem stands_nil (S : Store) : stands [] S := fun _ h => by cases h
theorem stands_one {S : Store} {n : Nat} {l : List D} (h : lstOf S n = some l) : stands [(n, l)] S := fun p hp => by
  have e : p = (n, l) := by simpa using hp
  subst e; exact h
/-- a while -/
noncomputable def whK (t : TM) (b : SM) (r : Res Out) : Res Out := r.bind (goOn (sWhile t b))
noncomputable def whT (t : TM) (b : SM) (fr : Fr) (r : Res Bool) : Res Out := r.bind fun c S1 => if c then whK t b (b fr S1) else .ok (.nx fr) S1
theorem while_s (t : TM) (b : SM) (fr : Fr) (S : Store) : sWhile t b fr S = whT t b fr (t fr S) := sWhile_eq t b fr S
@[simp] theorem whT_t (t : TM) (b : SM) (fr : Fr) (S : Store) : whT t b fr (.ok true S) = whK t b (b fr S) := (rfl)
@[simp] theorem whT_f (t : TM) (b : SM) (fr : Fr) (S : Store) : whT t b fr (.ok false S) = .ok (.nx fr) S := (rfl)
@[simp] theorem whK_n (t : TM) (b : SM) (fr : Fr) (S : Store) : whK t b (.ok (.nx fr) S) = sWhile t b fr S := (rfl)
@[simp] theorem whK_c (t : TM) (b : SM) (fr : Fr) (S : Store) : whK t b (.ok (.ct fr) S) = sWhile t b fr S := (rfl)
@[simp] theorem whK_b (t : TM) (b : SM) (fr : Fr) (S : Store) : whK t b (.ok (.bk fr) S) = .ok (.nx fr) S := (rfl)
@[simp] theorem whK_r (t : TM) (b : SM) (d : D) (S : Store) : whK t b (.ok (.rt d) S) = .ok (.rt d) S := (rfl)
/-- a def -/
@[simp] theorem quiet_s (a : α) (S : Store) : quiet (.ok a S) = .ok a S := (rfl)
def deK (r : Res Out) : Res D := r.bind fun o S1 => match o with
  | .rt x => .ok x S1
  | .nx _ => .ok .non S1
  | _ => .bad
@[simp] theorem deK_r (x : D) (S : Store) : deK (.ok (.rt x) S) = .ok x S := (rfl)
@[simp] theorem deK_n (fr : Fr) (S : Store) : deK (.ok (.nx fr) S) = .ok .non S := (rfl)
theorem mDef_s (np n : Nat) (b : SM) (ds : List D) (S : Store) (h : ds.length = np) : mDef np n b ds S = quiet (deK (b (startF n ds) S)) := by
  unfold mDef mDefX
  rw [if_pos h]; rfl
@[simp] theorem mDef_1 (n : Nat) (b : SM) (x0 : D) (S : Store) : mDef 1 n b [x0] S = quiet (deK (b ([some x0] ++ List.replicate (n - 1) none) S)) := (rfl)
@[simp] theorem mDef_2 (n : Nat) (b : SM) (x0 x1 : D) (S : Store) : mDef 2 n b [x0, x1] S = quiet (deK (b ([some x0, some x1] ++ List.replicate (n - 2) none) S)) := (rfl)
@[simp] theorem mDef_3 (n : Nat) (b : SM) (x0 x1 x2 : D) (S : Store) : mDef 3 n b [x0, x1, x2] S = quiet (deK (b ([some x0, some x1, some x2] ++ List.replicate (n - 3) none) S)) := (rfl)
@[simp] theorem mDef_4 (n : Nat) (b : SM) (x0 x1 x2 x3 : D) (S : Store) : mDef 4 n b [x0, x1, x2, x3] S = quiet (deK (b ([some x0, some x1, some x2, some x3] ++ List.replicate (n - 4) none) S)) := (rfl)
@[simp] theorem mDef_5 (n : Nat) (b : SM) (x0 x1 x2 x3 x4 : D) (S : Store) : mDef 5 n b [x0, x1, x2, x3, x4] S = quiet (deK (b ([some x0, some x1, some x2, some x3, some x4] ++ List.replicate (n - 5) none) S)) := (rfl)
@[simp] theorem mDef_6 (n : Nat) (b : SM) (x0 x1 x2 x3 x4 x5 : D) (S : Store) : mDef 6 n b [x0, x1, x2, x3, x4, x5] S = quiet (deK (b ([some x0, some x1, some x2, some x3, some x4, some x5] ++ List.replicate (n - 6) none) S)) := (rfl)
@[simp] theorem startF_s (n : Nat) (ds : List D) : startF n ds = ds.map some ++ List.replicate (n - ds.length) none := (rfl)

/-! ### what is walked -/
def isK (r : Res D) : Res Its := r.bind fun x S1 => match x with
  | .tup l => .ok ⟨l, []⟩ S1
  | .wtp l => .ok ⟨l, []⟩ S1
  | .ref n => match lstOf S1 n with
    | some l => .ok ⟨l, [(n, l)]⟩ S1
    | none => .bad
  | _ => .bad
def isR (n : Nat) (S : Store) : Option (List D) → Res Its
  | some l => .ok ⟨l, [(n, l)]⟩ S
  | none => .bad
@[simp] theorem isR_s (n : Nat) (S : Store) (l : List D) : isR n S (some l) = .ok ⟨l, [(n, l)]⟩ S := (rfl)
@[simp] theorem isK_t (l : List D) (S : Store) : isK (.ok (.tup l) S) = .ok ⟨l, []⟩ S := (rfl)
@[simp] theorem isK_w (l : List D) (S : Store) : isK (.ok (.wtp l) S) = .ok ⟨l, []⟩ S := (rfl)
@[simp] theorem isK_r (n : Nat) (S : Store) : isK (.ok (.ref n) S) = isR n S (lstOf S n) := by
  show (match lstOf S n with | some l => (.ok ⟨l, [(n, l)]⟩ S : Res Its) | none => .bad) = _
  cases lstOf S n <;> rfl
@[simp] theorem iSeq_s (e : EM) (fr : Fr) (S : Store) : iSeq e fr S = isK (e fr S) := (rfl)
def istK (r : Res D) : Res Its := r.bind fun x S1 => match x with
  | .str z => .ok ⟨z.map fun c => .str [c], []⟩ S1
  | _ => .bad
@[simp] theorem istK_s (z : Tx) (S : Store) : istK (.ok (.str z) S) = .ok ⟨z.map fun c => .str [c], []⟩ S := (rfl)
@[simp] theorem iStr_s (e : EM) (fr : Fr) (S : Store) : iStr e fr S = istK (e fr S) := (rfl)
def ir1K (r : Res (List D)) : Res Its := r.bind fun ds S1 => match ds with
  | [.int j] => if far j then .ok ⟨rng 0 j.toNat, []⟩ S1 else .bad
  | _ => .bad
@[simp] theorem ir1K_s (j : Int) (S : Store) : ir1K (.ok [.int j] S) = if far j then .ok ⟨rng 0 j.toNat, []⟩ S else .bad := (rfl)
@[simp] theorem iRng1_s (a : AM) (fr : Fr) (S : Store) : iRng1 a fr S = ir1K (a fr S) := (rfl)
def ir2K (r : Res (List D)) : Res Its := r.bind fun ds S1 => match ds with
  | [.int i, .int j] => if far i ∧ far j then .ok ⟨rng i (j - i).toNat, []⟩ S1 else .bad
  | _ => .bad
@[simp] theorem ir2K_s (i j : Int) (S : Store) : ir2K (.ok [.int i, .int j] S) = if far i ∧ far j then .ok ⟨rng i (j - i).toNat, []⟩ S else .bad := (rfl)
@[simp] theorem iRng2_s (a : AM) (fr : Fr) (S : Store) : iRng2 a fr S = ir2K (a fr S) := (rfl)
def irdK (r : Res (List D)) : Res Its := r.bind fun ds S1 => match ds with
  | [.int i, .int j, .int c] => if far i ∧ far j ∧ c = -1 then .ok ⟨(List.range (i - j).toNat).map fun k => .int (i - (k : Nat)), []⟩ S1 else .bad
  | _ => .bad
@[simp] theorem irdK_s (i j c : Int) (S : Store) : irdK (.ok [.int i, .int j, .int c] S) = if far i ∧ far j ∧ c = -1 then .ok ⟨(List.range (i - j).toNat).map fun k => .int (i - (k : Nat)), []⟩ S else .bad := (rfl)
@[simp] theorem iRngD_s (a : AM) (fr : Fr) (S : Store) : iRngD a fr S = irdK (a fr S) := (rfl)
def irrK (r : Res D) : Res Its := r.bind fun x S1 => match x with
  | .int j => if far j then .ok ⟨(List.range j.toNat).map fun k => .int ((j.toNat : Int) - 1 - (k : Nat)), []⟩ S1 else .bad
  | _ => .bad
@[simp] theorem irrK_s (j : Int) (S : Store) : irrK (.ok (.int j) S) = if far j then .ok ⟨(List.range j.toNat).map fun k => .int ((j.toNat : Int) - 1 - (k : Nat)), []⟩ S else .bad := (rfl)
@[simp] theorem iRevR_s (a : EM) (fr : Fr) (S : Store) : iRevR a fr S = irrK (a fr S) := (rfl)
def ienR (n : Nat) (S : Store) : Option (List D) → Res Its
  | some l => .ok ⟨prs 0 l, [(n, l)]⟩ S
  | none => .bad
def ienK (r : Res (List D)) : Res Its := r.bind fun ds S1 => match ds with
  | [.ref n] => ienR n S1 (lstOf S1 n)
  | _ => .bad
@[simp] theorem ienR_s (n : Nat) (S : Store) (l : List D) : ienR n S (some l) = .ok ⟨prs 0 l, [(n, l)]⟩ S := (rfl)
@[simp] theorem ienK_s (n : Nat) (S : Store) : ienK (.ok [.ref n] S) = ienR n S (lstOf S n) := (rfl)
@[simp] theorem iEnum_s (a : AM) (fr : Fr) (S : Store) : iEnum a fr S = ienK (a fr S) := by
  unfold iEnum ienK
  congr 1
def irvR (n : Nat) (S : Store) : Option (List D) → Res Its
  | some l => .ok ⟨l.reverse, [(n, l)]⟩ S
  | none => .bad
def irvK (r : Res (List D)) : Res Its := r.bind fun ds S1 => match ds with
  | [.ref n] => irvR n S1 (lstOf S1 n)
  | _ => .bad
@[simp] theorem irvR_s (n : Nat) (S : Store) (l : List D) : irvR n S (some l) = .ok ⟨l.reverse, [(n, l)]⟩ S := (rfl)
@[simp] theorem irvK_s (n : Nat) (S : Store) : irvK (.ok [.ref n] S) = irvR n S (lstOf S n) := (rfl)
@[simp] theorem iRev_s (a : AM) (fr : Fr) (S : Store) : iRev a fr S = irvK (a fr S) := by
  unfold iRev irvK
  congr 1
/-! ### comprehensions -/
noncomputable def lcK (vs : List Nat) (g : GM) (t : TM) (e : EM) (fr : Fr) (r : Res Its) : Res D := r.bind fun I S1 => lcLoop I.hs S1.length g (fun fr S => quiet (t fr S)) (fun fr S => quiet (e fr S)) (unset vs fr) I.items (S1 ++ [.lst []])
theorem lcK_s (vs : List Nat) (g : GM) (t : TM) (e : EM) (fr : Fr) (l : List D) (hs : List (Nat × List D)) (S : Store) : lcK vs g t e fr (.ok ⟨l, hs⟩ S) = lcLoop hs S.length g (fun fr S => quiet (t fr S)) (fun fr S => quiet (e fr S)) (unset vs fr) l (S ++ [.lst []]) := (rfl)
@[simp] theorem mLc_s (vs : List Nat) (i : IM) (g : GM) (t : TM) (e : EM) (fr : Fr) (S : Store) : mLc vs i g t e fr S = lcK vs g t e fr (i fr S) := (rfl)
/-- a comprehension whose elements change nothing that stood -/
theorem lc_is {vs : List Nat} {g : GM} {t : TM} {e : EM} {fr : Fr} {l : List D} {hs : List (Nat × List D)} {S : Store} (f : D → Option D) (h1 : ∀ p, p ∈ hs → lstOf S p.1 = some p.2) (h2 : l.length ≤ LINE)
    (h3 : ∀ d, d ∈ l → ∀ acc G, ∃ fr' G', g d (unset vs fr) (S ++ .lst acc :: G) = .ok fr' (S ++ .lst acc :: G) ∧
      ((f d = none ∧ t fr' (S ++ .lst acc :: G) = .ok false (S ++ .lst acc :: (G ++ G'))) ∨ ∃ x G'', f d = some x ∧ t fr' (S ++ .lst acc :: G) = .ok true (S ++ .lst acc :: (G ++ G'')) ∧ e fr' (S ++ .lst acc :: (G ++ G'')) = .ok x (S ++ .lst acc :: (G ++ G')))) :
    ∃ G', lcK vs g t e fr (.ok ⟨l, hs⟩ S) = .ok (.ref S.length) (S ++ .lst (l.filterMap f) :: G') := by
  have q := lc_map (g := g) (t := fun fr S => quiet (t fr S)) (e := fun fr S => quiet (e fr S)) (fr := unset vs fr) f l [] [] h1 (by simpa using h2) fun d hd acc G => by
    obtain ⟨fr', G', e1, e2⟩ := h3 d hd acc G
    refine ⟨fr', G', e1, ?_⟩
    rcases e2 with ⟨a, b⟩ | ⟨x, G'', a, b, c⟩
    · exact .inl ⟨a, by rw [b]; rfl⟩
    · exact .inr ⟨x, G'', a, by rw [b]; rfl, by rw [c]; rfl⟩
  exact q
/-! ### operators by their operands -/
section
variable (S : Store)
@[simp] theorem oAdd_i (i j : Int) : oAdd (.int i) (.int j) S = .ok (.int (i + j)) S := (rfl)
@[simp] theorem oAdd_s (a b : Tx) : oAdd (.str a) (.str b) S = if a.length + b.length ≤ LINE then .ok (.str (a ++ b)) S else .bad := (rfl)
@[simp] theorem oAdd_t (a b : List D) : oAdd (.tup a) (.tup b) S = if a ≠ [] ∧ a.length + b.length ≤ LINE then .ok (.tup (a ++ b)) S else .bad := (rfl)
def catK : Option O → Option O → Res D
  | some (.lst a), some (.lst b) => if a.length + b.length ≤ LINE then new (.lst (a ++ b)) S else .bad
  | _, _ => .bad
@[simp] theorem catK_s (a b : List D) : catK S (some (.lst a)) (some (.lst b)) = if a.length + b.length ≤ LINE then .ok (.ref S.length) (S ++ [.lst (a ++ b)]) else .bad := (rfl)
@[simp] theorem oAdd_r (m n : Nat) : oAdd (.ref m) (.ref n) S = catK S S[m]? S[n]? := by
  unfold oAdd catK
  rfl
@[simp] theorem oSub_i (i j : Int) : oSub (.int i) (.int j) S = .ok (.int (i - j)) S := (rfl)
@[simp] theorem oMul_i (i j : Int) : oMul (.int i) (.int j) S = if mulOk i j then .ok (.int (i * j)) S else .bad := (rfl)
def repK (k : Int) : Option O → Res D
  | some (.lst a) => if -(2 ^ 63) ≤ k ∧ k < 2 ^ 63 ∧ a.length * k.toNat ≤ LINE then new (.lst (List.replicate k.toNat a).flatten) S else .bad
  | _ => .bad
@[simp] theorem repK_s (k : Int) (a : List D) : repK S k (some (.lst a)) = if -(2 ^ 63) ≤ k ∧ k < 2 ^ 63 ∧ a.length * k.toNat ≤ LINE then .ok (.ref S.length) (S ++ [.lst (List.replicate k.toNat a).flatten]) else .bad := (rfl)
@[simp] theorem oMul_r (m : Nat) (k : Int) : oMul (.ref m) (.int k) S = repK S k S[m]? := by
  unfold oMul repK
  rfl
@[simp] theorem oDiv_i (i j : Int) : oDiv (.int i) (.int j) S = if divOk j then .ok (.int (i / j)) S else .bad := (rfl)
@[simp] theorem oMod_i (i j : Int) : oMod (.int i) (.int j) S = if 0 < j then .ok (.int (i % j)) S else .bad := (rfl)
@[simp] theorem oPow_i (i j : Int) : oPow (.int i) (.int j) S = if powOk i j then .ok (.int (i ^ j.toNat)) S else .bad := (rfl)
@[simp] theorem oShl_i (i j : Int) : oShl (.int i) (.int j) S = if powOk i j then .ok (.int (i * 2 ^ j.toNat)) S else .bad := (rfl)
@[simp] theorem oShr_i (i j : Int) : oShr (.int i) (.int j) S = if 0 ≤ j then .ok (.int (i / 2 ^ j.toNat)) S else .bad := (rfl)
@[simp] theorem oAnd_i (i j : Int) : oAnd (.int i) (.int j) S = if 0 ≤ i ∧ 0 ≤ j then .ok (.int (i.toNat &&& j.toNat : Nat)) S else .bad := (rfl)
@[simp] theorem oOr_i (i j : Int) : oOr (.int i) (.int j) S = if 0 ≤ i ∧ 0 ≤ j then .ok (.int (i.toNat ||| j.toNat : Nat)) S else .bad := (rfl)
@[simp] theorem oXor_i (i j : Int) : oXor (.int i) (.int j) S = if 0 ≤ i ∧ 0 ≤ j then .ok (.int (i.toNat ^^^ j.toNat : Nat)) S else .bad := (rfl)
@[simp] theorem oLt_i (i j : Int) : oLt (.int i) (.int j) S = .ok (.bl (decide (i < j))) S := (rfl)
@[simp] theorem oLe_i (i j : Int) : oLe (.int i) (.int j) S = .ok (.bl (decide (i ≤ j))) S := (rfl)
@[simp] theorem oGt_i (i j : Int) : oGt (.int i) (.int j) S = .ok (.bl (decide (j < i))) S := (rfl)
@[simp] theorem oGe_i (i j : Int) : oGe (.int i) (.int j) S = .ok (.bl (decide (j ≤ i))) S := (rfl)
@[simp] theorem uNeg_i (i : Int) : uNeg (.int i) S = .ok (.int (-i)) S := (rfl)
@[simp] theorem oIs_n (x : D) : oIs x .non S = .ok (.bl (isN x)) S := (rfl)
@[simp] theorem oIsNot_n (x : D) : oIsNot x .non S = .ok (.bl (!isN x)) S := (rfl)
@[simp] theorem isN_n : isN .non = true := (rfl)
@[simp] theorem isN_b (b : Bool) : isN (.bl b) = false := (rfl)
@[simp] theorem isN_i (b : Int) : isN (.int b) = false := (rfl)
@[simp] theorem isN_s (b : Tx) : isN (.str b) = false := (rfl)
@[simp] theorem isN_t (b : List D) : isN (.tup b) = false := (rfl)
@[simp] theorem isN_r (b : Nat) : isN (.ref b) = false := (rfl)
@[simp] theorem oEq_i (i j : Int) : oEq (.int i) (.int j) S = .ok (.bl (decide (i = j))) S := (rfl)
@[simp] theorem oEq_s (i j : Tx) : oEq (.str i) (.str j) S = .ok (.bl (decide (i = j))) S := (rfl)
@[simp] theorem oEq_b (i j : Bool) : oEq (.bl i) (.bl j) S = .ok (.bl (decide (i = j))) S := (rfl)
@[simp] theorem oEq_nn : oEq .non .non S = .ok (.bl true) S := (rfl)
@[simp] theorem oEq_sn (i : Tx) : oEq (.str i) .non S = .ok (.bl false) S := (rfl)
@[simp] theorem oEq_ns (i : Tx) : oEq .non (.str i) S = .ok (.bl false) S := (rfl)
@[simp] theorem oEq_is (i : Int) (j : Tx) : oEq (.int i) (.str j) S = .ok (.bl false) S := (rfl)
@[simp] theorem oEq_si (i : Int) (j : Tx) : oEq (.str j) (.int i) S = .ok (.bl false) S := (rfl)
@[simp] theorem oNe_i (i j : Int) : oNe (.int i) (.int j) S = .ok (.bl (!decide (i = j))) S := (rfl)
@[simp] theorem oNe_s (i j : Tx) : oNe (.str i) (.str j) S = .ok (.bl (!decide (i = j))) S := (rfl)
@[simp] theorem oNe_b (i j : Bool) : oNe (.bl i) (.bl j) S = .ok (.bl (!decide (i = j))) S := (rfl)
@[simp] theorem oNe_nn : oNe .non .non S = .ok (.bl false) S := (rfl)
@[simp] theorem oNe_sn (i : Tx) : oNe (.str i) .non S = .ok (.bl true) S := (rfl)
@[simp] theorem oNe_ns (i : Tx) : oNe .non (.str i) S = .ok (.bl true) S := (rfl)
def eqK (f : Bool → Bool) : Option Bool → Res D
  | some b => .ok (.bl (f b)) S
  | none => .bad
@[simp] theorem eqK_s (f : Bool → Bool) (b : Bool) : eqK S f (some b) = .ok (.bl (f b)) S := (rfl)
/-- not simp: where data of some depth are compared -/
theorem oEq_g (x y : D) : oEq x y S = eqK S (fun b => b) (pyEq x y S) := by
  unfold oEq eqK
  cases pyEq x y S <;> rfl
theorem oNe_g (x y : D) : oNe x y S = eqK S (fun b => !b) (pyEq x y S) := by
  unfold oNe eqK
  cases pyEq x y S <;> rfl
@[simp] theorem oIn_g (x y : D) : oIn x y S = eqK S (fun b => b) (isIn x y S) := by
  unfold oIn eqK
  cases isIn x y S <;> rfl
@[simp] theorem oNotIn_g (x y : D) : oNotIn x y S = eqK S (fun b => !b) (isIn x y S) := by
  unfold oNotIn eqK
  cases isIn x y S <;> rfl
@[simp] theorem isIn_t (x : D) (l : List D) : isIn x (.tup l) S = inSeq x l S := (rfl)
@[simp] theorem isIn_w (x : D) (l : List D) : isIn x (.wtp l) S = inSeq x l S := (rfl)
@[simp] theorem isIn_s (c : Nat) (z : Tx) : isIn (.str [c]) (.str z) S = some (decide (c ∈ z)) := (rfl)
def inR (x : D) : Option O → Option Bool
  | some (.lst l) => inSeq x l S
  | some (.fls l) => inSeq x l S
  | some (.dK kvs) => (kyOf x).map fun k => (dGet kvs k).isSome
  | some (.dT kvs) => (ktOf x).map fun k => (dGet kvs k).isSome
  | _ => none
@[simp] theorem inR_l (x : D) (l : List D) : inR S x (some (.lst l)) = inSeq x l S := (rfl)
@[simp] theorem inR_f (x : D) (l : List D) : inR S x (some (.fls l)) = inSeq x l S := (rfl)
@[simp] theorem inR_k (x : D) (l : List (Ky × D)) : inR S x (some (.dK l)) = (kyOf x).map fun k => (dGet l k).isSome := (rfl)
@[simp] theorem inR_t (x : D) (l : List (List Ky × D)) : inR S x (some (.dT l)) = (ktOf x).map fun k => (dGet l k).isSome := (rfl)
@[simp] theorem isIn_r (x : D) (n : Nat) : isIn x (.ref n) S = inR S x S[n]? := by
  show (match S[n]? with
    | some (.lst l) => inSeq x l S
    | some (.fls l) => inSeq x l S
    | some (.dK kvs) => (kyOf x).map fun k => (dGet kvs k).isSome
    | some (.dT kvs) => (ktOf x).map fun k => (dGet kvs k).isSome
    | _ => none) = _
  cases S[n]? with
  | none => rfl
  | some o => cases o <;> rfl
@[simp] theorem flat_n : flatD .non = true := (rfl)
@[simp] theorem flat_b (b : Bool) : flatD (.bl b) = true := (rfl)
@[simp] theorem flat_i (b : Int) : flatD (.int b) = true := (rfl)
@[simp] theorem flat_s (b : Tx) : flatD (.str b) = true := (rfl)
@[simp] theorem eqF_nn : eqF .non .non = true := (rfl)
@[simp] theorem eqF_ii (a b : Int) : eqF (.int a) (.int b) = (a == b) := (rfl)
@[simp] theorem eqF_ss (a b : Tx) : eqF (.str a) (.str b) = (a == b) := (rfl)
@[simp] theorem eqF_bb (a b : Bool) : eqF (.bl a) (.bl b) = (a == b) := (rfl)
@[simp] theorem eqF_is (a : Int) (b : Tx) : eqF (.int a) (.str b) = false := (rfl)
@[simp] theorem eqF_si (a : Int) (b : Tx) : eqF (.str b) (.int a) = false := (rfl)
@[simp] theorem eqF_ns (b : Tx) : eqF .non (.str b) = false := (rfl)
@[simp] theorem eqF_sn (b : Tx) : eqF (.str b) .non = false := (rfl)
@[simp] theorem eqF_ni (b : Int) : eqF .non (.int b) = false := (rfl)
@[simp] theorem eqF_in (b : Int) : eqF (.int b) .non = false := (rfl)
theorem inSeq_f {x : D} {l : List D} (h1 : flatD x = true) (h2 : l.all flatD = true) : inSeq x l S = some (l.any fun y => eqF y x) := by
  unfold inSeq
  rw [if_pos ⟨h1, h2⟩]
@[simp] theorem inSeq_nil {x : D} (h1 : flatD x = true) : inSeq x [] S = some false := inSeq_f S h1 rfl
@[simp] theorem inSeq_cons {x y : D} {l : List D} (h1 : flatD x = true) (h2 : flatD y = true) (h3 : l.all flatD = true) : inSeq x (y :: l) S = some (eqF y x || l.any fun y => eqF y x) := by
  rw [inSeq_f S h1 (by rw [List.all_cons, h2, h3]; rfl), List.any_cons]
def ixA (S : Store) : Option D → Res D
  | some v => .ok v S
  | none => .bad
@[simp] theorem ixA_s (v : D) : ixA S (some v) = .ok v S := (rfl)
def ixC (S : Store) : Option Nat → Res D
  | some c => .ok (.str [c]) S
  | none => .bad
@[simp] theorem ixC_s (v : Nat) : ixC S (some v) = .ok (.str [v]) S := (rfl)
@[simp] theorem oIx_t (l : List D) (i : Int) : oIx (.tup l) (.int i) S = ixA S (atI l i) := by
  show (match atI l i with | some v => Res.ok v S | none => .bad) = _
  cases atI l i <;> rfl
@[simp] theorem oIx_w (l : List D) (i : Int) : oIx (.wtp l) (.int i) S = ixA S (atI l i) := by
  show (match atI l i with | some v => Res.ok v S | none => .bad) = _
  cases atI l i <;> rfl
@[simp] theorem oIx_s (l : Tx) (i : Int) : oIx (.str l) (.int i) S = if l.length ≤ LINE then ixC S (atI l i) else .bad := by
  show (if l.length ≤ LINE then (match atI l i with | some c => (.ok (.str [c]) S : Res D) | none => .bad) else .bad) = _
  split
  · cases atI l i <;> rfl
  · rfl
def ixR (n : Nat) (k : D) : Option O → Res D
  | some (.lst l) => (match k with
    | .int i => ixA S (atI l i)
    | _ => .bad)
  | some (.fls l) => (match k with
    | .int i => ixA S (atI l i)
    | _ => .bad)
  | some (.dK kvs) => ixA S ((kyOf k).bind (dGet kvs))
  | some (.dT kvs) => ixA S ((ktOf k).bind (dGet kvs))
  | some (.zK kvs) => ixA S ((kyOf k).bind (dGet kvs))
  | some (.zT kvs) => ixA S ((ktOf k).bind (dGet kvs))
  | _ => .bad
@[simp] theorem ixR_zk (n : Nat) (k : D) (l : List (Ky × D)) : ixR S n k (some (.zK l)) = ixA S ((kyOf k).bind (dGet l)) := (rfl)
@[simp] theorem ixR_zt (n : Nat) (k : D) (l : List (List Ky × D)) : ixR S n k (some (.zT l)) = ixA S ((ktOf k).bind (dGet l)) := (rfl)
@[simp] theorem ixR_l (n : Nat) (i : Int) (l : List D) : ixR S n (.int i) (some (.lst l)) = ixA S (atI l i) := (rfl)
@[simp] theorem ixR_f (n : Nat) (i : Int) (l : List D) : ixR S n (.int i) (some (.fls l)) = ixA S (atI l i) := (rfl)
@[simp] theorem ixR_k (n : Nat) (k : D) (l : List (Ky × D)) : ixR S n k (some (.dK l)) = ixA S ((kyOf k).bind (dGet l)) := (rfl)
@[simp] theorem ixR_t (n : Nat) (k : D) (l : List (List Ky × D)) : ixR S n k (some (.dT l)) = ixA S ((ktOf k).bind (dGet l)) := (rfl)
@[simp] theorem oIx_r (n : Nat) (k : D) : oIx (.ref n) k S = ixR S n k S[n]? := by
  have e : oIx (.ref n) k S = (match S[n]? with
    | some (.lst l) => (match k with
      | .int i => (match atI l i with
        | some v => .ok v S
        | none => .bad)
      | _ => .bad)
    | some (.fls l) => (match k with
      | .int i => (match atI l i with
        | some v => .ok v S
        | none => .bad)
      | _ => .bad)
    | _ => match dLook S n k with
      | some (some v) => .ok v S
      | _ => .bad) := by
    unfold oIx
    cases k <;> rfl
  rw [e]
  unfold dLook
  cases h : S[n]? with
  | none => rfl
  | some o =>
    cases o with
    | lst l =>
      cases k with
      | int i => show (match atI l i with | some v => Res.ok v S | none => .bad) = ixA S (atI l i); cases atI l i <;> rfl
      | _ => rfl
    | fls l =>
      cases k with
      | int i => show (match atI l i with | some v => Res.ok v S | none => .bad) = ixA S (atI l i); cases atI l i <;> rfl
      | _ => rfl
    | dK l =>
      show (match (kyOf k).map (dGet l) with | some (some v) => Res.ok v S | _ => .bad) = ixA S ((kyOf k).bind (dGet l))
      cases kyOf k with
      | none => rfl
      | some q =>
        show (match some (dGet l q) with | some (some v) => Res.ok v S | _ => .bad) = ixA S (dGet l q)
        cases dGet l q <;> rfl
    | dT l =>
      show (match (ktOf k).map (dGet l) with | some (some v) => Res.ok v S | _ => .bad) = ixA S ((ktOf k).bind (dGet l))
      cases ktOf k with
      | none => rfl
      | some q =>
        show (match some (dGet l q) with | some (some v) => Res.ok v S | _ => .bad) = ixA S (dGet l q)
        cases dGet l q <;> rfl
    | zK l =>
      show (match (kyOf k).map (dGet l) with | some (some v) => Res.ok v S | _ => .bad) = ixA S ((kyOf k).bind (dGet l))
      cases kyOf k with
      | none => rfl
      | some q =>
        show (match some (dGet l q) with | some (some v) => Res.ok v S | _ => .bad) = ixA S (dGet l q)
        cases dGet l q <;> rfl
    | zT l =>
      show (match (ktOf k).map (dGet l) with | some (some v) => Res.ok v S | _ => .bad) = ixA S ((ktOf k).bind (dGet l))
      cases ktOf k with
      | none => rfl
      | some q =>
        show (match some (dGet l q) with | some (some v) => Res.ok v S | _ => .bad) = ixA S (dGet l q)
        cases dGet l q <;> rfl
    | ins C f => rfl
    | exn C f => rfl
@[simp] theorem lstOf_s (n : Nat) : lstOf S n = (S[n]?).bind fun o => match o with
    | .lst l => some l
    | .fls l => some l
    | _ => none := by
  unfold lstOf
  cases S[n]? with
  | none => rfl
  | some o => cases o <;> rfl
@[simp] theorem seqOf_t (l : List D) : seqOf S (.tup l) = some l := (rfl)
@[simp] theorem seqOf_w (l : List D) : seqOf S (.wtp l) = some l := (rfl)
@[simp] theorem seqOf_r (n : Nat) : seqOf S (.ref n) = lstOf S n := (rfl)
@[simp] theorem truth_n : truth .non S = some false := (rfl)
@[simp] theorem truth_b (b : Bool) : truth (.bl b) S = some b := (rfl)
@[simp] theorem truth_i (i : Int) : truth (.int i) S = some (i != 0) := (rfl)
@[simp] theorem truth_t (l : List D) : truth (.tup l) S = some (!l.isEmpty) := (rfl)
/-! ### slices -/
@[simp] theorem oSl_s (z : Tx) (lo hi : Option Int) : oSl (.str z) lo hi S = if z.length ≤ LINE then .ok (.str (cut z lo hi)) S else .bad := (rfl)
@[simp] theorem oSl_t (l : List D) (lo hi : Option Int) : oSl (.tup l) lo hi S = if (cut l lo hi).length < l.length then .ok (.tup (cut l lo hi)) S else .bad := (rfl)
def slR (lo hi : Option Int) : Option (List D) → Res D
  | some l => new (.lst (cut l lo hi)) S
  | none => .bad
@[simp] theorem slR_s (lo hi : Option Int) (l : List D) : slR S lo hi (some l) = .ok (.ref S.length) (S ++ [.lst (cut l lo hi)]) := (rfl)
@[simp] theorem oSl_r (n : Nat) (lo hi : Option Int) : oSl (.ref n) lo hi S = slR S lo hi (lstOf S n) := by
  unfold oSl slR
  dsimp only
  all_goals cases lstOf S n <;> rfl
/-! ### stores -/
def stL (n : Nat) (v : D) (l : List D) : Option Nat → Res Unit
  | some j => .ok () (S.set n (.lst (l.set j v)))
  | none => .bad
@[simp] theorem stL_s (n : Nat) (v : D) (l : List D) (j : Nat) : stL S n v l (some j) = .ok () (S.set n (.lst (l.set j v))) := (rfl)
def stK (n : Nat) (v : D) (kvs : List (Ky × D)) : Option Ky → Res Unit
  | some k => if kvs.length < LINE then .ok () (S.set n (.dK (dPut kvs k v))) else .bad
  | none => .bad
@[simp] theorem stK_s (n : Nat) (v : D) (kvs : List (Ky × D)) (k : Ky) : stK S n v kvs (some k) = if kvs.length < LINE then .ok () (S.set n (.dK (dPut kvs k v))) else .bad := (rfl)
def stT (n : Nat) (v : D) (kvs : List (List Ky × D)) : Option (List Ky) → Res Unit
  | some k => if kvs.length < LINE then .ok () (S.set n (.dT (dPut kvs k v))) else .bad
  | none => .bad
@[simp] theorem stT_s (n : Nat) (v : D) (kvs : List (List Ky × D)) (k : List Ky) : stT S n v kvs (some k) = if kvs.length < LINE then .ok () (S.set n (.dT (dPut kvs k v))) else .bad := (rfl)
def stR (n : Nat) (i v : D) : Option O → Res Unit
  | some (.lst l) => (match i with
    | .int k => stL S n v l (ixN l.length k)
    | _ => .bad)
  | some (.dK kvs) => stK S n v kvs (kyOf i)
  | some (.dT kvs) => stT S n v kvs (ktOf i)
  | _ => .bad
@[simp] theorem stR_l (n : Nat) (k : Int) (v : D) (l : List D) : stR S n (.int k) v (some (.lst l)) = stL S n v l (ixN l.length k) := (rfl)
@[simp] theorem stR_k (n : Nat) (i v : D) (l : List (Ky × D)) : stR S n i v (some (.dK l)) = stK S n v l (kyOf i) := (rfl)
@[simp] theorem stR_t (n : Nat) (i v : D) (l : List (List Ky × D)) : stR S n i v (some (.dT l)) = stT S n v l (ktOf i) := (rfl)
@[simp] theorem setIx_r (n : Nat) (i v : D) : setIx (.ref n) i v S = stR S n i v S[n]? := by
  unfold setIx stR
  dsimp only
  cases S[n]? with
  | none => rfl
  | some o =>
    cases o with
    | lst l => cases i <;> first | rfl | (rename_i k; dsimp only; cases ixN l.length k <;> rfl)
    | dK l => dsimp only; cases kyOf i <;> rfl
    | dT l => dsimp only; cases ktOf i <;> rfl
    | _ => rfl
@[simp] theorem kyOf_i (i : Int) : kyOf (.int i) = some (.inl i) := (rfl)
@[simp] theorem kyOf_s (i : Tx) : kyOf (.str i) = some (.inr i) := (rfl)
/-! ### built-ins -/
@[simp] theorem bLen_s (s : Tx) : bLen [.str s] S = if s.length ≤ LINE then .ok (.int (s.length : Nat)) S else .bad := (rfl)
@[simp] theorem bLen_t (l : List D) : bLen [.tup l] S = .ok (.int (l.length : Nat)) S := (rfl)
@[simp] theorem bLen_w (l : List D) : bLen [.wtp l] S = .ok (.int (l.length : Nat)) S := (rfl)
def lenK : Option O → Res D
  | some (.lst l) => .ok (.int (l.length : Nat)) S
  | some (.fls l) => .ok (.int (l.length : Nat)) S
  | some (.dK k) => .ok (.int (k.length : Nat)) S
  | some (.dT k) => .ok (.int (k.length : Nat)) S
  | _ => .bad
@[simp] theorem lenK_l (l : List D) : lenK S (some (.lst l)) = .ok (.int (l.length : Nat)) S := (rfl)
@[simp] theorem lenK_f (l : List D) : lenK S (some (.fls l)) = .ok (.int (l.length : Nat)) S := (rfl)
@[simp] theorem lenK_k (l : List (Ky × D)) : lenK S (some (.dK l)) = .ok (.int (l.length : Nat)) S := (rfl)
@[simp] theorem lenK_t (l : List (List Ky × D)) : lenK S (some (.dT l)) = .ok (.int (l.length : Nat)) S := (rfl)
@[simp] theorem bLen_r (n : Nat) : bLen [.ref n] S = lenK S S[n]? := by
  unfold bLen lenK
  dsimp only
  all_goals cases S[n]? with
  | none => rfl
  | some o => cases o <;> rfl
@[simp] theorem bAbs_s (i : Int) : bAbs [.int i] S = .ok (.int (if i < 0 then -i else i)) S := (rfl)
@[simp] theorem bInt_i (i : Int) : bInt [.int i] S = .ok (.int i) S := (rfl)
@[simp] theorem bInt_b (i : Bool) : bInt [.bl i] S = .ok (.int (if i then 1 else 0)) S := (rfl)
@[simp] theorem bMax_s (i j : Int) : bMax [.int i, .int j] S = .ok (.int (if j > i then j else i)) S := (rfl)
@[simp] theorem bMin_s (i j : Int) : bMin [.int i, .int j] S = .ok (.int (if j < i then j else i)) S := (rfl)
def liK : Option (List D) → Res D
  | some l => new (.lst l) S
  | none => .bad
@[simp] theorem liK_s (l : List D) : liK S (some l) = .ok (.ref S.length) (S ++ [.lst l]) := (rfl)
theorem bList_q {x : D} {l : List D} (h : seqOf S x = some l) : bList [x] S = .ok (.ref S.length) (S ++ [.lst l]) := by
  unfold bList
  dsimp only
  rw [h]; rfl
@[simp] theorem bTuple_t (l : List D) : bTuple [.tup l] S = .ok (.tup l) S := (rfl)
theorem bTuple_r {n : Nat} {l : List D} (h : lstOf S n = some l) : bTuple [.ref n] S = .ok (.tup l) S := by
  unfold bTuple
  dsimp only
  rw [h]
theorem bAny_r {n : Nat} {l : List D} {bs : List Bool} (h : lstOf S n = some l) (hb : blsOf l = some bs) : bAny [.ref n] S = .ok (.bl (bs.any id)) S := by
  unfold bAny
  dsimp only
  rw [h, Option.bind_some, hb]
theorem bAll_r {n : Nat} {l : List D} {bs : List Bool} (h : lstOf S n = some l) (hb : blsOf l = some bs) : bAll [.ref n] S = .ok (.bl (bs.all id)) S := by
  unfold bAll
  dsimp only
  rw [h, Option.bind_some, hb]
theorem bSum_r {n : Nat} {l : List D} {bs : List Int} (h : lstOf S n = some l) (hb : intsOf l = some bs) : bSum [.ref n] S = .ok (.int bs.sum) S := by
  unfold bSum
  dsimp only
  rw [h, Option.bind_some, hb]
theorem bls_map (bs : List Bool) : blsOf (bs.map .bl) = some bs := by
  induction bs with
  | nil => rfl
  | cons b r ih => show (blsOf (r.map .bl)).map _ = _; rw [ih]; rfl
theorem ints_map (bs : List Int) : intsOf (bs.map .int) = some bs := by
  induction bs with
  | nil => rfl
  | cons b r ih => show (intsOf (r.map .int)).map _ = _; rw [ih]; rfl
theorem txs_map (bs : List Tx) : txsOf (bs.map .str) = some bs := by
  induction bs with
  | nil => rfl
  | cons b r ih => show (txsOf (r.map .str)).map _ = _; rw [ih]; rfl
def isiK : Option Bool → Res D
  | some b => .ok (.bl b) S
  | none => .bad
@[simp] theorem isiK_s (b : Bool) : isiK S (some b) = .ok (.bl b) S := (rfl)
@[simp] theorem bIsI_s (T : Ty) (x : D) : bIsI T x S = isiK S (isI T x S) := by
  unfold bIsI isiK
  cases isI T x S <;> rfl
def tyR : Option O → Option Ty
  | some (.lst _) => some .list
  | some (.fls _) => some .list
  | some (.dK _) => some .dict
  | some (.dT _) => some .dict
  | _ => none
@[simp] theorem tyR_l (l : List D) : tyR (some (.lst l)) = some .list := (rfl)
@[simp] theorem tyR_f (l : List D) : tyR (some (.fls l)) = some .list := (rfl)
@[simp] theorem tyR_k (l : List (Ky × D)) : tyR (some (.dK l)) = some .dict := (rfl)
@[simp] theorem tyR_t (l : List (List Ky × D)) : tyR (some (.dT l)) = some .dict := (rfl)
def isU (T : Ty) (U : Option Ty) : Option Bool := U.map fun U => decide (U = T) || (decide (U = .bool) && decide (T = .int))
@[simp] theorem isU_s (T U : Ty) : isU T (some U) = some (decide (U = T) || (decide (U = .bool) && decide (T = .int))) := (rfl)
@[simp] theorem isI_n (T : Ty) : isI T .non S = some false := (rfl)
@[simp] theorem isI_b (T : Ty) (b : Bool) : isI T (.bl b) S = isU T (some .bool) := (rfl)
@[simp] theorem isI_i (T : Ty) (b : Int) : isI T (.int b) S = isU T (some .int) := (rfl)
@[simp] theorem isI_s (T : Ty) (b : Tx) : isI T (.str b) S = isU T (some .str) := (rfl)
@[simp] theorem isI_t (T : Ty) (b : List D) : isI T (.tup b) S = isU T (some .tuple) := (rfl)
theorem tyOf_r (n : Nat) : tyOf S (.ref n) = tyR S[n]? := by
  show (match S[n]? with
    | some (.lst _) => some Ty.list
    | some (.fls _) => some Ty.list
    | some (.dK _) => some Ty.dict
    | some (.dT _) => some Ty.dict
    | _ => none) = _
  cases S[n]? with
  | none => rfl
  | some o => cases o <;> rfl
@[simp] theorem isI_r (T : Ty) (n : Nat) : isI T (.ref n) S = isU T (tyR S[n]?) := by
  rw [← tyOf_r]; rfl
/-! ### methods -/
@[simp] theorem isLst_r (n : Nat) : isLst (.ref n) S = (lstOf S n).isSome := (rfl)
@[simp] theorem isStr_s (s : Tx) : isStr (.str s) S = true := (rfl)
def dcR : Option O → Bool
  | some (.dK _) => true
  | some (.dT _) => true
  | _ => false
@[simp] theorem dcR_k (l : List (Ky × D)) : dcR (some (.dK l)) = true := (rfl)
@[simp] theorem dcR_t (l : List (List Ky × D)) : dcR (some (.dT l)) = true := (rfl)
@[simp] theorem isDct_r (n : Nat) : isDct (.ref n) S = dcR S[n]? := by
  unfold isDct dcR
  dsimp only
  all_goals cases S[n]? with
  | none => rfl
  | some o => cases o <;> rfl
def muK (n : Nat) (f : Nat → List D → Res D) : Option O → Res D
  | some (.lst l) => f n l
  | _ => .bad
@[simp] theorem muK_s (n : Nat) (f : Nat → List D → Res D) (l : List D) : muK n f (some (.lst l)) = f n l := (rfl)
theorem mutL_r (n : Nat) (f : Nat → List D → Res D) : mutL (.ref n) S f = muK n f S[n]? := by
  unfold mutL muK
  dsimp only
  all_goals cases S[n]? with
  | none => rfl
  | some o => cases o <;> rfl
def apF (x : D) : Nat → List D → Res D := fun n l => if l.length < LINE then .ok .non (S.set n (.lst (l ++ [x]))) else .bad
@[simp] theorem apF_s (x : D) (n : Nat) (l : List D) : apF S x n l = if l.length < LINE then .ok .non (S.set n (.lst (l ++ [x]))) else .bad := (rfl)
@[simp] theorem lAppend_s (n : Nat) (x : D) : lAppend (.ref n) [x] S = muK n (apF S x) S[n]? := by
  show mutL (.ref n) S (apF S x) = _
  exact mutL_r S n _
def poA (n : Nat) (l : List D) : Option D → Res D
  | some y => .ok y (S.set n (.lst l.dropLast))
  | none => .bad
@[simp] theorem poA_s (n : Nat) (l : List D) (y : D) : poA S n l (some y) = .ok y (S.set n (.lst l.dropLast)) := (rfl)
def poF : Nat → List D → Res D := fun n l => poA S n l l[l.length - 1]?
@[simp] theorem poF_s (n : Nat) (l : List D) : poF S n l = poA S n l l[l.length - 1]? := (rfl)
@[simp] theorem lPop_s (n : Nat) : lPop (.ref n) [] S = muK n (poF S) S[n]? := by
  show mutL (.ref n) S (fun k l => match l[l.length - 1]? with | some y => .ok y (S.set k (.lst l.dropLast)) | none => .bad) = _
  rw [mutL_r]
  congr 1
/-- pop(0) -/
def p0F : Nat → List D → Res D := fun n l => match l with
  | y :: r => .ok y (S.set n (.lst r))
  | [] => .bad
@[simp] theorem p0F_s (n : Nat) (y : D) (r : List D) : p0F S n (y :: r) = .ok y (S.set n (.lst r)) := (rfl)
@[simp] theorem lPop_0 (n : Nat) : lPop (.ref n) [.int 0] S = muK n (p0F S) S[n]? := by
  show mutL (.ref n) S (fun n l => if -(2 ^ 63) ≤ (0 : Int) ∧ (0 : Int) < 2 ^ 63 then (match (ixN l.length 0) with
    | some k => (match l[k]? with
      | some y => .ok y (S.set n (.lst (l.eraseIdx k)))
      | none => .bad)
    | none => .bad) else .bad) = _
  rw [mutL_r]
  congr 1
  funext k l
  cases l with
  | nil => rfl
  | cons y r =>
    have h : ixN (y :: r).length 0 = some 0 := by
      unfold ixN
      rw [if_pos (Int.le_refl 0), if_pos (by rw [List.length_cons]; omega)]
      rfl
    show (if _ then _ else _) = _
    rw [if_pos (by decide), h]
    rfl
def rvF : Nat → List D → Res D := fun n l => .ok .non (S.set n (.lst l.reverse))
@[simp] theorem rvF_s (n : Nat) (l : List D) : rvF S n l = .ok .non (S.set n (.lst l.reverse)) := (rfl)
@[simp] theorem lReverse_s (n : Nat) : lReverse (.ref n) [] S = muK n (rvF S) S[n]? := by
  show mutL (.ref n) S (rvF S) = _
  exact mutL_r S n _
def clF : Nat → List D → Res D := fun n _ => .ok .non (S.set n (.lst []))
@[simp] theorem clF_s (n : Nat) (l : List D) : clF S n l = .ok .non (S.set n (.lst [])) := (rfl)
@[simp] theorem lClear_s (n : Nat) : lClear (.ref n) [] S = muK n (clF S) S[n]? := by
  show mutL (.ref n) S (clF S) = _
  exact mutL_r S n _
def inF (i : Int) (x : D) : Nat → List D → Res D := fun n l => if l.length < LINE ∧ 0 ≤ i ∧ i < 2 ^ 63 then .ok .non (S.set n (.lst (l.take i.toNat ++ [x] ++ l.drop i.toNat))) else .bad
@[simp] theorem inF_s (i : Int) (x : D) (n : Nat) (l : List D) : inF S i x n l = if l.length < LINE ∧ 0 ≤ i ∧ i < 2 ^ 63 then .ok .non (S.set n (.lst (l.take i.toNat ++ [x] ++ l.drop i.toNat))) else .bad := (rfl)
@[simp] theorem lInsert_s (n : Nat) (i : Int) (x : D) : lInsert (.ref n) [.int i, x] S = muK n (inF S i x) S[n]? := by
  show mutL (.ref n) S (inF S i x) = _
  exact mutL_r S n _
def joK (a : Tx) : Option (List Tx) → Res D
  | some ys => if (ys.map List.length).sum + ys.length * a.length ≤ LINE then .ok (.str (joinT a ys)) S else .bad
  | none => .bad
@[simp] theorem joK_s (a : Tx) (ys : List Tx) : joK S a (some ys) = if (ys.map List.length).sum + ys.length * a.length ≤ LINE then .ok (.str (joinT a ys)) S else .bad := (rfl)
@[simp] theorem sJoin_s (a : Tx) (d : D) : sJoin (.str a) [d] S = joK S a ((seqOf S d).bind txsOf) := by
  show (match (seqOf S d).bind txsOf with | some ys => _ | none => _) = _
  cases (seqOf S d).bind txsOf <;> rfl
end
/-- one step of a store's look -/
theorem set_get {S : Store} {n : Nat} {o u : O} (h : S[n]? = some o) : (S.set n u)[n]? = some u := by
  rw [List.getElem?_set_self (List.getElem?_eq_some_iff.mp h).1]
end Mi

set_option Elab.async false
set_option linter.all false
set_option maxRecDepth 100000
/-! the defs of the text as steps of the small language (printed by gen.py) -/
namespace Lk15
open Mi
abbrev t_x0_abcdefghijkl : Tx := [97, 98, 99, 100, 101, 102, 103, 104, 105, 106, 107, 108, 109, 110, 111, 112, 113, 114, 115, 116, 117, 118, 119, 120, 121, 122]
abbrev t_x1_0123456789 : Tx := [48, 49, 50, 51, 52, 53, 54, 55, 56, 57]
abbrev t_x2_ : Tx := []
abbrev t_x3_0 : Tx := [48]
abbrev t_copy : Tx := [99, 111, 112, 121]
abbrev t_reckon : Tx := [114, 101, 99, 107, 111, 110]
abbrev t_end : Tx := [101, 110, 100]
abbrev t_say : Tx := [115, 97, 121]
abbrev t_go : Tx := [103, 111]
abbrev t_part : Tx := [112, 97, 114, 116]
abbrev t_x10_ : Tx := [61]
abbrev t_x11_ : Tx := [10]
abbrev t_x12_ : Tx := [35]
abbrev t_x13_ : Tx := [32]
abbrev t_line : Tx := [108, 105, 110, 101]
abbrev t_x15_abcdefghijkl : Tx := [97, 98, 99, 100, 101, 102, 103, 104, 105, 106, 107, 108, 109, 110, 111, 112, 113, 114, 115, 116, 117, 118, 119, 120, 121, 122, 48, 49, 50, 51, 52, 53, 54, 55, 56, 57]
abbrev t_x16_ : Tx := [43, 45, 42, 38, 124, 94, 60, 61]
abbrev t_x17_0 : Tx := [45, 48]
abbrev t_x18_01 : Tx := [48, 49]
abbrev t_x19_10 : Tx := [49, 95, 48]
abbrev t_x20_1 : Tx := [43, 49]
abbrev t_x21_1e3 : Tx := [49, 101, 51]
abbrev t_x22_x : Tx := [120, 46]
abbrev t_x23_ab : Tx := [97, 95, 98]
abbrev t_x24_ : Tx := [43]
abbrev t_x25_1 : Tx := [45, 49]
abbrev t_x26_007 : Tx := [48, 48, 55]
abbrev t_abcdefghi : Tx := [97, 98, 99, 100, 101, 102, 103, 104, 105]
abbrev t_x28_9a : Tx := [57, 97]
abbrev t_x29_a : Tx := [65]
abbrev t_x30_go12 : Tx := [103, 111, 32, 49, 32, 50]
abbrev t_x31_gox : Tx := [103, 111, 32, 120]
abbrev t_x32_sayxy : Tx := [115, 97, 121, 32, 120, 32, 121]
abbrev t_x33_x3 : Tx := [120, 32, 61, 61, 32, 51]
abbrev t_x34_x34 : Tx := [120, 32, 61, 32, 51, 32, 52]
abbrev t_x35_x3 : Tx := [120, 32, 61, 32, 43, 32, 51]
abbrev t_x36_x3 : Tx := [120, 32, 61, 32, 51, 32, 43]
abbrev t_x37_3 : Tx := [61, 32, 51]
abbrev t_x38_x : Tx := [120, 32, 61]
abbrev t_x : Tx := [120]
abbrev t_x40_go1 : Tx := [103, 111, 32, 45, 49]
abbrev t_x41_partx12 : Tx := [112, 97, 114, 116, 32, 120, 32, 49, 32, 50]
abbrev t_x42_go01 : Tx := [103, 111, 32, 48, 49]
abbrev t_x43_xyz : Tx := [120, 32, 61, 32, 121, 32, 62, 32, 122]
abbrev t_x44_say3 : Tx := [115, 97, 121, 32, 61, 32, 51]
abbrev t_x45_x3 : Tx := [120, 61, 51]
abbrev t_x46_end : Tx := [69, 110, 100]
abbrev t_x47_end0 : Tx := [101, 110, 100, 32, 48]
abbrev t_x48_partxy : Tx := [112, 97, 114, 116, 32, 120, 32, 121]
abbrev t_x49_part1 : Tx := [112, 97, 114, 116, 32, 49]
abbrev t_x50_ : Tx := [33]
abbrev t_x51_x1 : Tx := [120, 32, 61, 32, 43, 49]
abbrev t_x52_say0 : Tx := [115, 97, 121, 32, 45, 48]
abbrev t_x53_partx01 : Tx := [112, 97, 114, 116, 32, 120, 32, 48, 49]
abbrev t_x54_go10 : Tx := [103, 111, 32, 49, 95, 48]
abbrev t_x55_go1 : Tx := [103, 111, 32, 43, 49]
abbrev t_x56_x34 : Tx := [120, 32, 61, 32, 51, 32, 43, 32, 43, 32, 52]
abbrev t_x57_x34 : Tx := [120, 32, 61, 32, 51, 32, 42, 124, 32, 52]
abbrev t_x58_x34 : Tx := [120, 32, 61, 32, 51, 32, 43, 45, 32, 52]
abbrev t_x59_g3 : Tx := [103, 32, 51]
abbrev t_x60_endend : Tx := [101, 110, 100, 32, 101, 110, 100]
abbrev t_x61_x34 : Tx := [120, 32, 61, 32, 51, 44, 32, 52]
abbrev t_x62_partx3 : Tx := [112, 97, 114, 116, 32, 120, 44, 32, 51]
abbrev t_x63_saysay3 : Tx := [115, 97, 121, 115, 97, 121, 32, 51]
abbrev t_x64_sa3 : Tx := [115, 97, 32, 51]
abbrev t_x65_7 : Tx := [32, 32, 32, 35, 32, 55]
abbrev t_x66_xy : Tx := [35, 32, 120, 32, 61, 32, 61, 32, 121]
abbrev t_x67_ : Tx := [32, 32]
abbrev t_x68_go3 : Tx := [103, 111, 32, 51]
abbrev t_x69_end : Tx := [32, 32, 35, 32, 101, 110, 100]
abbrev t_x70_x3 : Tx := [35, 120, 32, 61, 32, 51]
abbrev t_x71_ : Tx := [45]
abbrev t_x72_ : Tx := [42]
abbrev t_x73_ : Tx := [38]
abbrev t_x74_ : Tx := [124]
abbrev t_x75_ : Tx := [94]
abbrev t_x76_ : Tx := [60]
abbrev w_SIGNS : List D := [.str t_x24_, .str t_x71_, .str t_x72_, .str t_x73_, .str t_x74_, .str t_x75_, .str t_x76_, .str t_x10_]
abbrev w_TAKEN : List D := [.str t_say, .str t_go, .str t_part, .str t_end]
/-- 0 thing 1 sign -/
noncomputable def l_is_name_1 : SM := sIf (tAnd (tBl (mOp oNotIn (mVar 1) (mC (.str t_x0_abcdefghijkl)))) (tBl (mOp oNotIn (mVar 1) (mC (.str t_x1_0123456789))))) (sRet (mC (.bl false))) (sNx)
noncomputable def b_is_name : SM := sSeq (sIf (tOr (tNot (tTru (mUn (bIsI .str) (mVar 0)))) (tOr (tNot (tBl (mChain oLe oLe (mC (.int 1)) (mCall bLen (aCons (mVar 0) aNil)) (mC (.int 8))))) (tBl (mOp oIn (mVar 0) (mC (.wtp w_TAKEN)))))) (sRet (mC (.bl false))) (sNx)) (sSeq (sFor (iStr (mVar 0)) (gName 1) (l_is_name_1)) (sRet (mOp oIn (mOp oIx (mVar 0) (mC (.int 0))) (mC (.str t_x0_abcdefghijkl)))))
noncomputable def m_is_name : Fn := mDef 1 2 b_is_name
/-- 0 word 1 sign -/
noncomputable def l_number_of_1 : SM := sIf (tBl (mOp oNotIn (mVar 1) (mC (.str t_x1_0123456789)))) (sRet (mC .non)) (sNx)
noncomputable def b_number_of : SM := sSeq (sFor (iStr (mVar 0)) (gName 1) (l_number_of_1)) (sSeq (sIf (tOr (tBl (mOp oEq (mVar 0) (mC (.str t_x2_)))) (tAnd (tBl (mOp oEq (mOp oIx (mVar 0) (mC (.int 0))) (mC (.str t_x3_0)))) (tBl (mOp oNe (mVar 0) (mC (.str t_x3_0)))))) (sRet (mC .non)) (sNx)) (sRet (mCall bIntS (aCons (mVar 0) aNil))))
noncomputable def m_number_of : Fn := mDef 1 2 b_number_of
/-- 0 word 1 number -/
noncomputable def b_operand_of : SM := sSeq (sIf (tTru (mCall m_is_name (aCons (mVar 0) aNil))) (sRet (mVar 0)) (sNx)) (sSeq (sAsg (mCall m_number_of (aCons (mVar 0) aNil)) (gName 1)) (sSeq (sIf (tAnd (tBl (mOp oIsNot (mVar 1) (mC .non))) (tBl (mOp oGe (mVar 1) (mC (.int 18446744073709551616))))) (sRet (mC .non)) (sNx)) (sRet (mVar 1))))
noncomputable def m_operand_of : Fn := mDef 1 2 b_operand_of
/-- 0 row -/
noncomputable def b_whole_row : SM := sSeq (sIf (tBl (mOp oIn (mC .non) (mVar 0))) (sRet (mC .non)) (sNx)) (sRet (mVar 0))
noncomputable def m_whole_row : Fn := mDef 1 1 b_whole_row
/-- 0 words -/
noncomputable def b_given_row : SM := sSeq (sIf (tBl (mOp oEq (mCall bLen (aCons (mVar 0) aNil)) (mC (.int 3)))) (sRet (mCall m_whole_row (aCons (mTup (aCons (mC (.str t_copy)) (aCons (mOp oIx (mVar 0) (mC (.int 0))) (aCons (mCall m_operand_of (aCons (mOp oIx (mVar 0) (mC (.int 2))) aNil)) aNil)))) aNil))) (sNx)) (sSeq (sIf (tOr (tBl (mOp oNe (mCall bLen (aCons (mVar 0) aNil)) (mC (.int 5)))) (tBl (mOp oNotIn (mOp oIx (mVar 0) (mC (.int 3))) (mC (.wtp w_SIGNS))))) (sRet (mC .non)) (sNx)) (sRet (mCall m_whole_row (aCons (mTup (aCons (mC (.str t_reckon)) (aCons (mOp oIx (mVar 0) (mC (.int 0))) (aCons (mOp oIx (mVar 0) (mC (.int 3))) (aCons (mCall m_operand_of (aCons (mOp oIx (mVar 0) (mC (.int 2))) aNil)) (aCons (mCall m_operand_of (aCons (mOp oIx (mVar 0) (mC (.int 4))) aNil)) aNil)))))) aNil))))
noncomputable def m_given_row : Fn := mDef 1 1 b_given_row
/-- 0 words -/
noncomputable def b_row_of : SM := sSeq (sIf (tBl (mOp oEq (mVar 0) (mLst (aCons (mC (.str t_end)) aNil)))) (sRet (mTup (aCons (mC (.str t_end)) aNil))) (sNx)) (sSeq (sIf (tAnd (tBl (mOp oEq (mOp oIx (mVar 0) (mC (.int 0))) (mC (.str t_say)))) (tBl (mOp oEq (mCall bLen (aCons (mVar 0) aNil)) (mC (.int 2))))) (sRet (mCall m_whole_row (aCons (mTup (aCons (mC (.str t_say)) (aCons (mCall m_operand_of (aCons (mOp oIx (mVar 0) (mC (.int 1))) aNil)) aNil))) aNil))) (sNx)) (sSeq (sIf (tAnd (tBl (mOp oEq (mOp oIx (mVar 0) (mC (.int 0))) (mC (.str t_go)))) (tBl (mOp oEq (mCall bLen (aCons (mVar 0) aNil)) (mC (.int 2))))) (sRet (mCall m_whole_row (aCons (mTup (aCons (mC (.str t_go)) (aCons (mCall m_number_of (aCons (mOp oIx (mVar 0) (mC (.int 1))) aNil)) aNil))) aNil))) (sNx)) (sSeq (sIf (tAnd (tBl (mOp oEq (mOp oIx (mVar 0) (mC (.int 0))) (mC (.str t_part)))) (tBl (mOp oEq (mCall bLen (aCons (mVar 0) aNil)) (mC (.int 3))))) (sRet (mCall m_whole_row (aCons (mTup (aCons (mC (.str t_part)) (aCons (mCall m_operand_of (aCons (mOp oIx (mVar 0) (mC (.int 1))) aNil)) (aCons (mCall m_number_of (aCons (mOp oIx (mVar 0) (mC (.int 2))) aNil)) aNil)))) aNil))) (sNx)) (sSeq (sIf (tAnd (tTru (mCall m_is_name (aCons (mOp oIx (mVar 0) (mC (.int 0))) aNil))) (tAnd (tBl (mOp oGt (mCall bLen (aCons (mVar 0) aNil)) (mC (.int 1)))) (tBl (mOp oEq (mOp oIx (mVar 0) (mC (.int 1))) (mC (.str t_x10_)))))) (sRet (mCall m_given_row (aCons (mVar 0) aNil))) (sNx)) (sRet (mC .non))))))
noncomputable def m_row_of : Fn := mDef 1 1 b_row_of
/-- 0 text 1 rows 2 line 3 written 4 words 5 word 6 row -/
noncomputable def c_read_1 : TM := tBl (mOp oNe (mVar 5) (mC (.str t_x2_)))
noncomputable def e_read_2 : EM := mVar 5
noncomputable def l_read_3 : SM := sSeq (sAsg (mLc [5] (iSeq (mMt isStr sSplit (mOp oIx (mMt isStr sPartition (mVar 3) (aCons (mC (.str t_x12_)) aNil)) (mC (.int 0))) (aCons (mC (.str t_x13_)) aNil))) (gName 5) (c_read_1) (e_read_2)) (gName 4)) (sIf (tBl (mOp oNe (mVar 4) (mLst (aNil)))) (sSeq (sAsg (mCall m_row_of (aCons (mVar 4) aNil)) (gName 6)) (sSeq (sIf (tBl (mOp oIs (mVar 6) (mC .non))) (sRaise "NoText" [t_line] (aCons (mVar 2) aNil)) (sNx)) (sExp (mMt isLst lAppend (mVar 1) (aCons (mVar 6) aNil))))) (sNx))
noncomputable def b_read : SM := sSeq (sAsg (mLst (aNil)) (gName 1)) (sSeq (sFor (iEnum (aCons (mMt isStr sSplit (mVar 0) (aCons (mC (.str t_x11_)) aNil)) aNil)) (gTup 2 (gCons (gName 2) (gCons (gName 3) gNil))) (l_read_3)) (sSeq (sIf (tBl (mOp oEq (mVar 1) (mLst (aNil)))) (sRaise "NoText" [t_line] (aCons (mC (.int 0)) aNil)) (sNx)) (sRet (mVar 1))))
noncomputable def m_read : Fn := mDefX 1 7 b_read
/-- 0 script 1 k 2 many_here -/
noncomputable def b_law_cell : SM := sSeq (sIf (tBl (mOp oLt (mVar 1) (mCall bLen (aCons (mVar 0) aNil)))) (sRet (mOp oIx (mVar 0) (mVar 1))) (sNx)) (sSeq (sAsg (mCall bLen (aCons (mVar 0) aNil)) (gName 2)) (sSeq (sIf (tBl (mOp oEq (mVar 2) (mC (.int 0)))) (sRet (mOp oMul (mVar 1) (mC (.int 7919)))) (sNx)) (sRet (mOp oAdd (mOp oMul (mOp oMod (mCall bAbs (aCons (mOp oIx (mVar 0) (mOp oMod (mVar 1) (mVar 2))) aNil)) (mC (.int 1000003))) (mOp oAdd (mVar 1) (mC (.int 2)))) (mOp oMul (mVar 1) (mC (.int 7919)))))))
noncomputable def m_law_cell : Fn := mDef 2 3 b_law_cell
/-- 0 cell_here 1 many_here 2 signs 3 size 4 spot 5 some 6 j 7 found 8 k 9 name -/
noncomputable def e_law_names_1 : EM := mOp oIx (mVar 2) (mOp oMod (mOp oDiv (mVar 0) (mOp oAdd (mC (.int 64)) (mOp oMul (mC (.int 5)) (mVar 6)))) (mOp oIx (mLst (aCons (mC (.int 26)) (aCons (mC (.int 36)) aNil))) (mCall bInt (aCons (mOp oGt (mVar 6) (mC (.int 0))) aNil))))
noncomputable def l_law_names_2 : SM := sSeq (sAsg (mOp oIx (mVar 2) (mOp oMod (mOp oAdd (mOp oDiv (mVar 0) (mC (.int 64))) (mVar 8)) (mC (.int 26)))) (gSub (mVar 5) (mVar 4))) (sSeq (sAsg (mMt isStr sJoin (mC (.str t_x2_)) (aCons (mVar 5) aNil)) (gName 9)) (sSeq (sIf (tBl (mOp oIn (mVar 9) (mTup (aCons (mC (.str t_say)) (aCons (mC (.str t_go)) (aCons (mC (.str t_part)) (aCons (mC (.str t_end)) aNil))))))) (sAsg (mOp oAdd (mVar 9) (mC (.str t_x3_0))) (gName 9)) (sNx)) (sExp (mMt isLst lAppend (mVar 7) (aCons (mVar 9) aNil)))))
noncomputable def b_law_names : SM := sSeq (sAsg (mC (.str t_x15_abcdefghijkl)) (gName 2)) (sSeq (sAsg (mOp oAdd (mC (.int 1)) (mOp oMod (mVar 0) (mC (.int 8)))) (gName 3)) (sSeq (sAsg (mOp oMod (mOp oDiv (mVar 0) (mC (.int 8))) (mVar 3)) (gName 4)) (sSeq (sAsg (mLc [6] (iRng1 (aCons (mVar 3) aNil)) (gName 6) (tYes) (e_law_names_1)) (gName 5)) (sSeq (sAsg (mLst (aNil)) (gName 7)) (sSeq (sFor (iRng1 (aCons (mVar 1) aNil)) (gName 8) (l_law_names_2)) (sRet (mVar 7)))))))
noncomputable def m_law_names : Fn := mDef 2 10 b_law_names
/-- 0 cell_here 1 sizes 2 number 3 found 4 size -/
noncomputable def l_law_digits_1 : SM := sSeq (sExp (mMt isLst lAppend (mVar 3) (aCons (mOp oMod (mVar 2) (mVar 4)) aNil))) (sAsg (mOp oDiv (mVar 2) (mVar 4)) (gName 2))
noncomputable def b_law_digits : SM := sSeq (sAsg (mOp oMod (mOp oMul (mVar 0) (mC (.int 48271))) (mC (.int 2147483647))) (gName 2)) (sSeq (sAsg (mLst (aNil)) (gName 3)) (sSeq (sFor (iSeq (mVar 1)) (gName 4) (l_law_digits_1)) (sRet (mVar 3))))
noncomputable def m_law_digits : Fn := mDef 2 5 b_law_digits
/-- 0 digit 1 cell_here 2 names_here -/
noncomputable def b_law_operand : SM := sSeq (sIf (tBl (mOp oLt (mVar 0) (mCall bLen (aCons (mVar 2) aNil)))) (sRet (mOp oIx (mVar 2) (mVar 0))) (sNx)) (sSeq (sIf (tBl (mOp oEq (mVar 0) (mCall bLen (aCons (mVar 2) aNil)))) (sRet (mOp oMod (mVar 1) (mC (.int 3)))) (sNx)) (sSeq (sIf (tBl (mOp oEq (mOp oMod (mVar 1) (mC (.int 3))) (mC (.int 0)))) (sRet (mOp oSub (mC (.int 18446744073709551615)) (mOp oMod (mOp oDiv (mVar 1) (mC (.int 3))) (mC (.int 9))))) (sNx)) (sRet (mOp oMod (mOp oMul (mVar 1) (mC (.int 48271))) (mC (.int 18446744073709551616))))))
noncomputable def m_law_operand : Fn := mDef 3 3 b_law_operand
/-- 0 cell_here 1 names_here 2 wide 3 kind 4 x 5 s 6 one 7 other 8 words -/
noncomputable def b_law_line : SM := sSeq (sAsg (mOp oAdd (mCall bLen (aCons (mVar 1) aNil)) (mC (.int 2))) (gName 2)) (sSeq (sAsg (mCall m_law_digits (aCons (mVar 0) (aCons (mLst (aCons (mC (.int 8)) (aCons (mCall bLen (aCons (mVar 1) aNil)) (aCons (mC (.int 8)) (aCons (mVar 2) (aCons (mVar 2) aNil)))))) aNil))) (gTup 5 (gCons (gName 3) (gCons (gName 4) (gCons (gName 5) (gCons (gName 6) (gCons (gName 7) gNil))))))) (sSeq (sAsg (mLst (aCons (mCall bStr (aCons (mCall m_law_operand (aCons (mVar 6) (aCons (mVar 0) (aCons (mVar 1) aNil)))) aNil)) (aCons (mCall bStr (aCons (mCall m_law_operand (aCons (mVar 7) (aCons (mOp oDiv (mVar 0) (mC (.int 7))) (aCons (mVar 1) aNil)))) aNil)) aNil))) (gName 8)) (sSeq (sIf (tBl (mOp oLt (mVar 3) (mC (.int 3)))) (sRet (mLst (aCons (mOp oIx (mVar 1) (mVar 4)) (aCons (mC (.str t_x10_)) (aCons (mOp oIx (mVar 8) (mC (.int 0))) (aCons (mOp oIx (mC (.str t_x16_)) (mVar 5)) (aCons (mOp oIx (mVar 8) (mC (.int 1))) aNil))))))) (sNx)) (sSeq (sIf (tBl (mOp oLt (mVar 3) (mC (.int 5)))) (sRet (mLst (aCons (mOp oIx (mVar 1) (mVar 4)) (aCons (mC (.str t_x10_)) (aCons (mOp oIx (mVar 8) (mC (.int 0))) aNil))))) (sNx)) (sRet (mOp oIx (mLst (aCons (mLst (aCons (mC (.str t_say)) (aCons (mOp oIx (mVar 8) (mC (.int 0))) aNil))) (aCons (mLst (aCons (mC (.str t_go)) (aCons (mCall bStr (aCons (mOp oMod (mVar 0) (mC (.int 70))) aNil)) aNil))) (aCons (mLst (aCons (mC (.str t_part)) (aCons (mOp oIx (mVar 8) (mC (.int 0))) (aCons (mCall bStr (aCons (mOp oMod (mVar 0) (mC (.int 70))) aNil)) aNil)))) aNil)))) (mOp oSub (mVar 3) (mC (.int 5)))))))))
noncomputable def m_law_line : Fn := mDef 2 9 b_law_line
/-- 0 cell_here 1 far 2 some -/
noncomputable def b_law_bad_word : SM := sSeq (sAsg (mCall bStr (aCons (mOp oAdd (mC (.int 18446744073709551616)) (mOp oMod (mOp oDiv (mVar 0) (mC (.int 12))) (mC (.int 9)))) aNil)) (gName 1)) (sSeq (sAsg (mLst (aCons (mC (.str t_x29_a)) (aCons (mC (.str t_x28_9a)) (aCons (mC (.str t_abcdefghi)) (aCons (mC (.str t_x26_007)) (aCons (mC (.str t_x25_1)) (aCons (mC (.str t_x24_)) (aCons (mC (.str t_x10_)) (aCons (mC (.str t_x23_ab)) (aCons (mVar 1) (aCons (mC (.str t_x22_x)) (aCons (mC (.str t_x21_1e3)) (aCons (mC (.str t_end)) (aCons (mC (.str t_x20_1)) (aCons (mC (.str t_x19_10)) (aCons (mC (.str t_x18_01)) (aCons (mC (.str t_x17_0)) aNil))))))))))))))))) (gName 2)) (sRet (mOp oIx (mVar 2) (mOp oMod (mVar 0) (mC (.int 16))))))
noncomputable def m_law_bad_word : Fn := mDef 1 3 b_law_bad_word
/-- 0 cell_here 1 names_here 2 some 3 words 4 way 5 spot -/
noncomputable def b_law_none : SM := sSeq (sAsg (mLst (aCons (mC (.str t_x)) (aCons (mC (.str t_x38_x)) (aCons (mC (.str t_x37_3)) (aCons (mC (.str t_x36_x3)) (aCons (mC (.str t_x35_x3)) (aCons (mC (.str t_x34_x34)) (aCons (mC (.str t_x33_x3)) (aCons (mC (.str t_say)) (aCons (mC (.str t_x32_sayxy)) (aCons (mC (.str t_go)) (aCons (mC (.str t_x31_gox)) (aCons (mC (.str t_x30_go12)) aNil))))))))))))) (gName 2)) (sSeq (sAsg (mOp oAdd (mVar 2) (mLst (aCons (mC (.str t_x49_part1)) (aCons (mC (.str t_x48_partxy)) (aCons (mC (.str t_x47_end0)) (aCons (mC (.str t_x46_end)) (aCons (mC (.str t_x45_x3)) (aCons (mC (.str t_x44_say3)) (aCons (mC (.str t_x43_xyz)) (aCons (mC (.str t_x42_go01)) (aCons (mC (.str t_x41_partx12)) (aCons (mC (.str t_x40_go1)) aNil)))))))))))) (gName 2)) (sSeq (sAsg (mCall m_law_line (aCons (mOp oDiv (mVar 0) (mC (.int 7))) (aCons (mVar 1) aNil))) (gName 3)) (sSeq (sAsg (mOp oMod (mVar 0) (mC (.int 7))) (gName 4)) (sSeq (sAsg (mOp oMod (mOp oDiv (mVar 0) (mC (.int 7))) (mCall bLen (aCons (mVar 3) aNil))) (gName 5)) (sSeq (sIf (tBl (mOp oEq (mVar 4) (mC (.int 0)))) (sRet (mMt isStr sJoin (mC (.str t_x13_)) (aCons (mOp oAdd (mVar 3) (mLst (aCons (mC (.str t_x)) aNil))) aNil))) (sNx)) (sSeq (sIf (tAnd (tBl (mOp oEq (mVar 4) (mC (.int 1)))) (tOr (tBl (mOp oNe (mCall bLen (aCons (mVar 3) aNil)) (mC (.int 5)))) (tBl (mOp oEq (mVar 5) (mC (.int 1)))))) (sRet (mMt isStr sJoin (mC (.str t_x13_)) (aCons (mOp oAdd (mSl (mVar 3) (pNo) (pSome (mUn uNeg (mC (.int 1))))) (mLst (aCons (mC (.str t_x50_)) aNil))) aNil))) (sNx)) (sSeq (sIf (tBl (mOp oEq (mVar 4) (mC (.int 1)))) (sRet (mMt isStr sJoin (mC (.str t_x13_)) (aCons (mOp oAdd (mSl (mVar 3) (pNo) (pSome (mVar 5))) (mSl (mVar 3) (pSome (mOp oAdd (mVar 5) (mC (.int 1)))) (pNo))) aNil))) (sNx)) (sSeq (sIf (tAnd (tBl (mOp oEq (mVar 4) (mC (.int 2)))) (tAnd (tBl (mOp oNe (mVar 5) (mC (.int 1)))) (tAnd (tBl (mOp oNe (mOp oIx (mVar 3) (mC (.int 0))) (mC (.str t_part)))) (tNot (tAnd (tBl (mOp oEq (mCall bLen (aCons (mVar 3) aNil)) (mC (.int 5)))) (tBl (mOp oEq (mVar 5) (mC (.int 3))))))))) (sRet (mMt isStr sJoin (mC (.str t_x13_)) (aCons (mOp oAdd (mOp oAdd (mSl (mVar 3) (pNo) (pSome (mVar 5))) (mLst (aCons (mCall m_law_bad_word (aCons (mOp oDiv (mVar 0) (mC (.int 49))) aNil)) aNil))) (mSl (mVar 3) (pSome (mOp oAdd (mVar 5) (mC (.int 1)))) (pNo))) aNil))) (sNx)) (sSeq (sAsg (mOp oAdd (mVar 2) (mLst (aCons (mC (.str t_x58_x34)) (aCons (mC (.str t_x57_x34)) (aCons (mC (.str t_x56_x34)) (aCons (mC (.str t_x55_go1)) (aCons (mC (.str t_x54_go10)) (aCons (mC (.str t_x53_partx01)) (aCons (mC (.str t_x52_say0)) (aCons (mC (.str t_x51_x1)) aNil)))))))))) (gName 2)) (sSeq (sAsg (mOp oAdd (mVar 2) (mLst (aCons (mC (.str t_x64_sa3)) (aCons (mC (.str t_x63_saysay3)) (aCons (mC (.str t_x62_partx3)) (aCons (mC (.str t_x61_x34)) (aCons (mC (.str t_x60_endend)) (aCons (mC (.str t_x59_g3)) aNil)))))))) (gName 2)) (sRet (mOp oIx (mVar 2) (mOp oMod (mOp oDiv (mVar 0) (mC (.int 7))) (mC (.int 36)))))))))))))))
noncomputable def m_law_none : Fn := mDef 2 6 b_law_none
/-- 0 text 1 line_here 2 told 3 e -/
noncomputable def b_law_refused : SM := sSeq (sAsg (mC .non) (gName 2)) (sSeq (sTryK (fun n => if n = "NoText" then some true else (fun _ => none) n) 3 2 (sAsg (mCall m_read (aCons (mVar 0) aNil)) (gName 2))) (sSeq (sIf (tOr (tNot (tTru (mUn (uIsX (fun n => if n = "NoText" then some true else (fun _ => none) n)) (mVar 2)))) (tOr (tTru (mUn (uIsX (fun n => if n = "NoText" then some false else (fun _ => none) n)) (mVar 2))) (tTru (mUn (uIsX (fun n => if n = "NoText" then some false else (fun _ => none) n)) (mVar 2))))) (sRet (mC (.bl false))) (sNx)) (sRet (mAnd (mUn (uIsX (fun n => if n = "NoText" then some true else (fun _ => none) n)) (mVar 2)) (mAnd (mOp oEq (mUn (uXv "NoText" t_line) (mVar 2)) (mVar 1)) (mNot (mUn (bIsI .bool) (mUn (uXv "NoText" t_line) (mVar 2)))))))))
noncomputable def m_law_refused : Fn := mDef 2 4 b_law_refused
/-- 0 lines 1 line_here -/
noncomputable def c_law_many_1 : TM := tBl (mOp oNe (mMt isStr sStrip (mOp oIx (mMt isStr sSplit (mVar 1) (aCons (mC (.str t_x12_)) aNil)) (mC (.int 0))) (aCons (mC (.str t_x13_)) aNil)) (mC (.str t_x2_)))
noncomputable def e_law_many_2 : EM := mVar 1
noncomputable def b_law_many : SM := sRet (mCall bLen (aCons (mLc [1] (iSeq (mVar 0)) (gName 1) (c_law_many_1) (e_law_many_2)) aNil))
noncomputable def m_law_many : Fn := mDef 1 2 b_law_many
/-- 0 lines 1 words 2 many_here 3 k -/
noncomputable def e_law_more_1 : EM := mMt isStr sJoin (mC (.str t_x13_)) (aCons (mVar 1) aNil)
noncomputable def b_law_more : SM := sRet (mOp oAdd (mVar 0) (mLc [3] (iRng1 (aCons (mCall bMax (aCons (mOp oSub (mVar 2) (mCall m_law_many (aCons (mVar 0) aNil))) (aCons (mC (.int 0)) aNil))) aNil)) (gName 3) (tYes) (e_law_more_1)))
noncomputable def m_law_more : Fn := mDef 3 4 b_law_more
/-- 0 script 1 names_here 2 cell_here 3 lines 4 k 5 one 6 full 7 over 8 bad 9 spot 10 text 11 empty -/
noncomputable def l_law_1 : SM := sSeq (sIf (tBl (mOp oEq (mOp oMod (mVar 5) (mC (.int 6))) (mC (.int 5)))) (sExp (mMt isLst lAppend (mVar 3) (aCons (mOp oIx (mLst (aCons (mC (.str t_x2_)) (aCons (mC (.str t_x67_)) (aCons (mC (.str t_x66_xy)) (aCons (mC (.str t_x65_7)) aNil))))) (mOp oMod (mOp oDiv (mVar 5) (mC (.int 6))) (mC (.int 4)))) aNil))) (sNx)) (sExp (mMt isLst lAppend (mVar 3) (aCons (mMt isStr sJoin (mC (.str t_x13_)) (aCons (mCall m_law_line (aCons (mOp oDiv (mVar 5) (mC (.int 6))) (aCons (mVar 1) aNil))) aNil)) aNil)))
noncomputable def b_law : SM := sSeq (sAsg (mCall m_law_names (aCons (mCall m_law_cell (aCons (mVar 0) (aCons (mC (.int 0)) aNil))) (aCons (mC (.int 4)) aNil))) (gName 1)) (sSeq (sAsg (mCall m_law_cell (aCons (mVar 0) (aCons (mC (.int 1)) aNil))) (gName 2)) (sSeq (sAsg (mLst (aNil)) (gName 3)) (sSeq (sFor (iEnum (aCons (mSl (mVar 0) (pSome (mC (.int 3))) (pSome (mC (.int 59)))) aNil)) (gTup 2 (gCons (gName 4) (gCons (gName 5) gNil))) (l_law_1)) (sSeq (sAsg (mCall m_law_more (aCons (mVar 3) (aCons (mLst (aCons (mC (.str t_end)) aNil)) (aCons (mOp oAdd (mC (.int 60)) (mOp oMod (mVar 2) (mC (.int 100)))) aNil)))) (gName 6)) (sSeq (sAsg (mOp oAdd (mVar 6) (mLst (aCons (mC (.str t_x68_go3)) aNil))) (gName 7)) (sSeq (sAsg (mCall m_law_none (aCons (mCall m_law_cell (aCons (mVar 0) (aCons (mC (.int 2)) aNil))) (aCons (mVar 1) aNil))) (gName 8)) (sSeq (sAsg (mOp oMod (mOp oDiv (mVar 2) (mC (.int 4))) (mOp oAdd (mCall bLen (aCons (mVar 3) aNil)) (mC (.int 1)))) (gName 9)) (sSeq (sAsg (mMt isStr sJoin (mC (.str t_x11_)) (aCons (mOp oAdd (mOp oAdd (mSl (mVar 3) (pNo) (pSome (mVar 9))) (mLst (aCons (mVar 8) aNil))) (mSl (mVar 3) (pSome (mVar 9)) (pNo))) aNil)) (gName 10)) (sSeq (sAsg (mMt isStr sJoin (mC (.str t_x11_)) (aCons (mSl (mLst (aCons (mC (.str t_x2_)) (aCons (mC (.str t_x13_)) (aCons (mC (.str t_x70_x3)) (aCons (mC (.str t_x69_end)) aNil))))) (pNo) (pSome (mOp oMod (mOp oDiv (mVar 2) (mC (.int 4))) (mC (.int 5))))) aNil)) (gName 11)) (sSeq (sIf (tOr (tNot (tTru (mCall m_law_refused (aCons (mVar 10) (aCons (mVar 9) aNil))))) (tNot (tTru (mCall m_law_refused (aCons (mVar 11) (aCons (mC (.int 0)) aNil)))))) (sRet (mC (.bl false))) (sNx)) (sSeq (sIf (tOr (tBl (mOp oNe (mCall bLen (aCons (mCall (mQt m_read) (aCons (mMt isStr sJoin (mC (.str t_x11_)) (aCons (mVar 7) aNil)) aNil)) aNil)) (mOp oAdd (mC (.int 61)) (mOp oMod (mVar 2) (mC (.int 100)))))) (tNot (tTru (mCall m_law_refused (aCons (mMt isStr sJoin (mC (.str t_x11_)) (aCons (mOp oAdd (mVar 7) (mLst (aCons (mVar 8) aNil))) aNil)) (aCons (mCall bLen (aCons (mVar 7) aNil)) aNil)))))) (sRet (mC (.bl false))) (sNx)) (sSeq (sIf (tNot (tTru (mCall m_law_refused (aCons (mMt isStr sJoin (mC (.str t_x11_)) (aCons (mOp oAdd (mOp oAdd (mOp oAdd (mSl (mVar 3) (pNo) (pSome (mVar 9))) (mLst (aCons (mVar 8) aNil))) (mSl (mVar 7) (pSome (mVar 9)) (pNo))) (mLst (aCons (mVar 8) aNil))) aNil)) (aCons (mVar 9) aNil))))) (sRet (mC (.bl false))) (sNx)) (sSeq (sIf (tAnd (tBl (mOp oGt (mCall bLen (aCons (mVar 3) aNil)) (mC (.int 0)))) (tBl (mOp oNe (mCall bLen (aCons (mCall (mQt m_read) (aCons (mMt isStr sJoin (mC (.str t_x11_)) (aCons (mVar 3) aNil)) aNil)) aNil)) (mCall m_law_many (aCons (mVar 3) aNil))))) (sRet (mC (.bl false))) (sNx)) (sRet (mCall m_law_refused (aCons (mVar 10) (aCons (mVar 9) aNil)))))))))))))))))
noncomputable def m_law : Fn := mDef 1 12 b_law
end Lk15

set_option Elab.async false
set_option linter.all false
/-! rows, operands, reckonings as values of the small language; data by their keys -/
namespace Mi
/-! ### at a written place -/
theorem at_of {α : Type} {l : List α} {k : Nat} {d : α} (h : l[k]? = some d) : atI l (k : Int) = some d := by
  have hk := (List.getElem?_eq_some_iff.mp h).1
  unfold atI ixN
  rw [if_pos (Int.natCast_nonneg k), if_pos (by omega), Option.bind_some, Int.toNat_natCast, h]
@[simp] theorem at0 {α : Type} (a : α) (l : List α) : atI (a :: l) 0 = some a := at_of (k := 0) rfl
@[simp] theorem at1 {α : Type} (a b : α) (l : List α) : atI (a :: b :: l) 1 = some b := at_of (k := 1) rfl
@[simp] theorem at2 {α : Type} (a b c : α) (l : List α) : atI (a :: b :: c :: l) 2 = some c := at_of (k := 2) rfl
@[simp] theorem at3 {α : Type} (a b c d : α) (l : List α) : atI (a :: b :: c :: d :: l) 3 = some d := at_of (k := 3) rfl
@[simp] theorem at4 {α : Type} (a b c d e : α) (l : List α) : atI (a :: b :: c :: d :: e :: l) 4 = some e := at_of (k := 4) rfl
@[simp] theorem at5 {α : Type} (a b c d e f : α) (l : List α) : atI (a :: b :: c :: d :: e :: f :: l) 5 = some f := at_of (k := 5) rfl
theorem at_last {α : Type} (l : List α) (a : α) : atI (l ++ [a]) (-1) = some a := by
  have e : ixN (l ++ [a]).length (-1) = some l.length := by
    unfold ixN
    rw [if_neg (by decide), if_pos (by rw [List.length_append]; simp; omega)]
    congr 1
    rw [List.length_append, List.length_singleton]
    omega
  unfold atI
  rw [e]; simp
theorem div_ok {j : Int} (h : 0 < j) (h2 : j < 2 ^ 64) : divOk j := ⟨h, by
  have : j.natAbs < 2 ^ 64 := by omega
  have : j.natAbs.log2 < 64 := (Nat.log2_lt (by omega)).mpr this
  omega⟩
theorem mul_r {i j : Int} (h : small j) : mulOk i j := .inr (.inl h)
theorem mul_l {i j : Int} (h : small i) : mulOk i j := .inl h
theorem rng_at {lo : Int} {n i : Nat} {d : D} (h : (rng lo n)[i]? = some d) : i < n ∧ d = .int (lo + i) := by
  unfold rng at h
  rw [List.getElem?_map] at h
  by_cases hi : i < n
  · rw [List.getElem?_range hi] at h
    exact ⟨hi, (Option.some.inj h).symm⟩
  · rw [List.getElem?_eq_none (by simpa using hi)] at h
    cases h
@[simp] theorem rng_len (lo : Int) (n : Nat) : (rng lo n).length = n := by simp [rng]
/-- a look behind the old part -/
theorem get_at {α : Type} (S : List α) (x : α) (G : List α) : (S ++ x :: G)[S.length]? = some x := by
  rw [List.getElem?_append_right (Nat.le_refl _), Nat.sub_self]; rfl
theorem set_at {α : Type} (S : List α) (x y : α) (G : List α) : (S ++ x :: G).set S.length y = S ++ y :: G := by
  rw [List.set_append_right _ _ (Nat.le_refl _), Nat.sub_self, List.set_cons_zero]
theorem beq_dec {α : Type} [DecidableEq α] (a b : α) : (a == b) = decide (a = b) := by
  by_cases h : a = b
  · subst h; simp
  · simp [h]
theorem str_dec (a b : Tx) : ((⟨a.toArray⟩ : PySem.Str) == ⟨b.toArray⟩) = decide (a = b) := by
  rw [beq_dec]
  congr 1
  simp
theorem dec_false {p : Prop} (h : ¬ p) : dec p = false := @decide_eq_false p (Classical.propDecidable p) h
@[simp] theorem dec_iff {p : Prop} : (dec p = true) = p := propext ⟨of_dec, dec_true⟩
/-! ### keys -/
abbrev kp : Ky → PySem.PyData
  | .inl i => .int i
  | .inr s => .str ⟨s.toArray⟩
@[simp] theorem kyD_l (i : Int) : kyD (.inl i) = .int i := (rfl)
@[simp] theorem kyD_r (s : Tx) : kyD (.inr s) = .str s := (rfl)
def kOk : Ky → Bool
  | .inl _ => true
  | .inr s => s.all (· < 0x110000)
def kt (l : List Ky) : D := .tup (l.map kyD)
@[simp] theorem kyOf_kyD (k : Ky) : kyOf (kyD k) = some k := by cases k <;> rfl
@[simp] theorem kysOf_map (l : List Ky) : kysOf (l.map kyD) = some l := by
  induction l with
  | nil => rfl
  | cons k r ih => show (kyOf (kyD k)).bind _ = _; rw [kyOf_kyD, Option.bind_some, ih]; rfl
@[simp] theorem ktOf_t (l : List D) : ktOf (.tup l) = kysOf l := (rfl)
@[simp] theorem ktOf_kt (l : List Ky) : ktOf (kt l) = some l := kysOf_map l
@[simp] theorem flat_k (k : Ky) : flatD (kyD k) = true := by cases k <;> rfl
theorem eqF_k (a b : Ky) : eqF (kyD a) (kyD b) = decide (a = b) := by
  have h2 : ∀ s t : Tx, (s == t) = decide (s = t) := fun s t => by
    by_cases h : s = t
    · subst h; simp
    · simp [h]
  cases a <;> cases b <;> simp [kyD, eqF, beq_dec, h2]
theorem toP_k (rd : Nat → Option PySem.PyData) (k : Ky) : toP rd (kyD k) = some (kp k) := by cases k <;> rfl
theorem toPs_k (rd : Nat → Option PySem.PyData) (l : List Ky) : toPs rd (l.map kyD) = some (l.map kp) := by
  induction l with
  | nil => rfl
  | cons k r ih => rw [List.map_cons, toPs, toP_k, Option.bind_some, ih]; rfl
theorem toP_kt (rd : Nat → Option PySem.PyData) (l : List Ky) : toP rd (kt l) = some (.tuple (l.map kp)) := by
  unfold kt
  rw [toP, toPs_k]; rfl
theorem toPs_kt (rd : Nat → Option PySem.PyData) (L : List (List Ky)) : toPs rd (L.map kt) = some (L.map fun l => .tuple (l.map kp)) := by
  induction L with
  | nil => rfl
  | cons k r ih => rw [List.map_cons, toPs, toP_kt, Option.bind_some, ih]; rfl
theorem eqv_k (a b : Ky) : PySem.PyData.eqv (kp a) (kp b) = decide (a = b) := by
  cases a <;> cases b <;> simp [kp, PySem.PyData.eqv, beq_dec, str_dec]
theorem eqv_ks (a b : List Ky) : PySem.PyData.eqvAll (a.map kp) (b.map kp) = decide (a = b) := by
  induction a generalizing b with
  | nil => cases b <;> simp [PySem.PyData.eqvAll]
  | cons x r ih =>
    cases b with
    | nil => simp [PySem.PyData.eqvAll]
    | cons y q => simp [PySem.PyData.eqvAll, eqv_k, ih]
theorem eqv_kt (a b : List Ky) : PySem.PyData.eqv (.tuple (a.map kp)) (.tuple (b.map kp)) = decide (a = b) := by
  unfold PySem.PyData.eqv; exact eqv_ks a b
theorem eqv_kts (a b : List (List Ky)) : PySem.PyData.eqvAll (a.map fun l => .tuple (l.map kp)) (b.map fun l => .tuple (l.map kp)) = decide (a = b) := by
  induction a generalizing b with
  | nil => cases b <;> simp [PySem.PyData.eqvAll]
  | cons x r ih =>
    cases b with
    | nil => simp [PySem.PyData.eqvAll]
    | cons y q => simp [PySem.PyData.eqvAll, eqv_kt, ih]
theorem lay_k {k : Ky} (h : kOk k = true) : PySem.PyData.canLay0 (kp k) = true := by
  cases k with
  | inl i => simp [PySem.PyData.canLay0]
  | inr s =>
    simp only [PySem.PyData.canLay0, PySem.PyData.strOk]
    simpa [kOk] using h
theorem lay_ks {l : List Ky} (h : l.all kOk = true) : PySem.PyData.canLayAll0 (l.map kp) = true := by
  induction l with
  | nil => simp [PySem.PyData.canLayAll0]
  | cons k r ih =>
    rw [List.all_cons, Bool.and_eq_true] at h
    simp only [List.map_cons, PySem.PyData.canLayAll0, lay_k h.1, ih h.2, Bool.and_self]
theorem dep_ks (l : List Ky) : PySem.PyData.depthAll (l.map kp) = 0 := by
  induction l with
  | nil => simp [PySem.PyData.depthAll]
  | cons k r ih =>
    cases k <;> simp [PySem.PyData.depthAll, PySem.PyData.depth, ih]
theorem shp_kt {l : List Ky} (h : l.all kOk = true) : shp (.tuple (l.map kp)) = true := by
  unfold shp PySem.SeqAt.shaped
  simp [PySem.PyData.canLay0, PySem.PyData.depth, lay_ks h, dep_ks]
theorem lay_kts {L : List (List Ky)} (h : L.all (fun l => l.all kOk) = true) : PySem.PyData.canLayAll0 (L.map fun l => .tuple (l.map kp)) = true := by
  induction L with
  | nil => simp [PySem.PyData.canLayAll0]
  | cons k r ih =>
    rw [List.all_cons, Bool.and_eq_true] at h
    simp only [List.map_cons, PySem.PyData.canLayAll0, PySem.PyData.canLay0, lay_ks h.1, ih h.2, Bool.and_self]
theorem dep_kts (L : List (List Ky)) : PySem.PyData.depthAll (L.map fun l => .tuple (l.map kp)) ≤ 1 := by
  induction L with
  | nil => simp [PySem.PyData.depthAll]
  | cons k r ih =>
    simp only [List.map_cons, PySem.PyData.depthAll, PySem.PyData.depth, dep_ks]
    omega
theorem shp_kts {L : List (List Ky)} (h : L.all (fun l => l.all kOk) = true) : shp (.list (L.map fun l => .tuple (l.map kp))) = true := by
  unfold shp PySem.SeqAt.shaped
  have := dep_kts L
  simp only [PySem.PyData.canLay0, PySem.PyData.depth, lay_kts h, Bool.true_and, decide_eq_true_eq]
  exact decide_eq_true (Nat.le_trans (Nat.add_le_add_right this 1) (show 1 + 1 ≤ 64 by decide))
theorem eq_kt {a b : List Ky} (S : Store) (ha : a.all kOk = true) (hb : b.all kOk = true) : pyEq (kt a) (kt b) S = some (decide (a = b)) := by
  unfold pyEq
  have e : scq (kt a) (kt b) = none := rfl
  rw [e]
  simp only [pd, toP_kt, shp_kt ha, shp_kt hb, and_self, if_true, eqv_kt]
theorem in_kts {x : List Ky} {L : List (List Ky)} (S : Store) (hx : x.all kOk = true) (hL : L.all (fun l => l.all kOk) = true) : inSeq (kt x) (L.map kt) S = some (dec (x ∈ L)) := by
  unfold inSeq
  rw [if_neg (by unfold kt flatD; simp)]
  simp only [pd, toP_kt, toPs_kt, shp_kt hx, shp_kts hL, and_self, if_true, List.any_map]
  congr 1
  induction L with
  | nil => exact (dec_false (by simp)).symm
  | cons y r ih =>
    rw [List.all_cons, Bool.and_eq_true] at hL
    simp only [List.any_cons, Function.comp, eqv_kt] at ih ⊢
    rw [ih hL.2]
    by_cases h : y = x
    · subst h; simp [dec_true]
    · have : ¬ x = y := fun q => h q.symm
      simp [h, this]
theorem in_ks (x : Ky) (l : List Ky) (S : Store) : inSeq (kyD x) (l.map kyD) S = some (dec (x ∈ l)) := by
  rw [inSeq_f S (flat_k x) (by simp), List.any_map]
  congr 1
  induction l with
  | nil => exact (dec_false (by simp)).symm
  | cons y r ih =>
    simp only [List.any_cons, Function.comp, eqF_k] at ih ⊢
    rw [ih]
    by_cases h : y = x
    · subst h; simp [dec_true]
    · have : ¬ x = y := fun q => h q.symm
      simp [h, this]
/-- lists of such tuples against one another -/
theorem eq_lkts {m n : Nat} {A B : List (List Ky)} {S : Store} (ha : lstOf S m = some (A.map kt)) (hb : lstOf S n = some (B.map kt)) (hA : A.all (fun l => l.all kOk) = true) (hB : B.all (fun l => l.all kOk) = true) : pyEq (.ref m) (.ref n) S = some (decide (A = B)) := by
  have look : ∀ {n A}, lstOf S n = some (List.map kt A) → lookP 8 S n = some (.list (A.map fun l => .tuple (l.map kp))) := fun {n A} h => by
    unfold lookP
    unfold lstOf at h
    cases hn : S[n]? with
    | none => rw [hn] at h; cases h
    | some o =>
      rw [hn] at h
      cases o with
      | lst l => dsimp only at h ⊢; obtain rfl := Option.some.inj h; rw [toPs_kt]; rfl
      | fls l => dsimp only at h ⊢; obtain rfl := Option.some.inj h; rw [toPs_kt]; rfl
      | _ => cases h
  unfold pyEq
  have e : scq (.ref m) (.ref n) = none := rfl
  rw [e]
  simp only [pd, toP, look ha, look hb, shp_kts hA, shp_kts hB, and_self, if_true]
  unfold PySem.PyData.eqv
  rw [eqv_kts]
/-! ### stores by what is found in them -/
theorem Pre.lt {S S' : Store} {n : Nat} {o : O} (h : S[n]? = some o) : n < S.length := (List.getElem?_eq_some_iff.mp h).1
theorem Pre.set {S S' : Store} {p : Nat} {x : O} (h : Pre S S') (hp : S.length ≤ p) : Pre S (S'.set p x) := by
  obtain ⟨G, rfl⟩ := h
  rw [List.set_append_right _ _ hp]
  exact ⟨_, rfl⟩
theorem set_ne {S : Store} {p q : Nat} {x : O} (h : p ≠ q) : (S.set p x)[q]? = S[q]? := List.getElem?_set_ne h
theorem app_get {S : Store} {n : Nat} {o : O} {G : Store} (h : S[n]? = some o) : (S ++ G)[n]? = some o := (Pre.app S G).get h
theorem app_new (S : Store) (o : O) (G : Store) : (S ++ o :: G)[S.length]? = some o := get_at S o G
theorem ne_new {S : Store} {n : Nat} {o : O} (h : S[n]? = some o) : S.length ≠ n := by have := Pre.lt (S' := S) h; omega
theorem ixN_of {n : Nat} {i : Int} (h : 0 ≤ i) (h2 : i < n) : ixN n i = some i.toNat := by
  unfold ixN
  rw [if_pos h, if_pos h2]
theorem at_nat {α : Type} {l : List α} {i : Int} {d : α} (h0 : 0 ≤ i) (h : l[i.toNat]? = some d) : atI l i = some d := by
  have := at_of h
  rw [Int.toNat_of_nonneg h0] at this
  exact this
/-! ### texts of single signs -/
abbrev sgn (c : Nat) : D := .str [c]
theorem txs_sgn (cs : Tx) : txsOf (cs.map sgn) = some (cs.map fun c => [c]) := by
  have := txs_map (cs.map fun c => [c])
  rw [List.map_map] at this
  exact this
theorem join_nil (ys : List Tx) : joinT [] ys = ys.flatten := by
  induction ys with
  | nil => rfl
  | cons y r ih =>
    cases r with
    | nil => simp [joinT]
    | cons z q => rw [joinT, ih]; simp
theorem flat_sgn (cs : Tx) : (cs.map fun c => [c]).flatten = cs := by
  induction cs with
  | nil => rfl
  | cons c r ih => simp [ih]
theorem sum_sgn (cs : Tx) : ((cs.map fun c => [c]).map List.length).sum = cs.length := by
  induction cs with
  | nil => rfl
  | cons c r ih => simp at ih ⊢; omega
theorem join_sgn {S : Store} {p : Nat} {cs : Tx} (h : S[p]? = some (.lst (cs.map sgn))) (hl : cs.length ≤ LINE) : sJoin (.str []) [.ref p] S = .ok (.str cs) S := by
  rw [sJoin_s, seqOf_r, lstOf_s, h]
  simp only [Option.bind_some, txs_sgn, joK_s, sum_sgn, join_nil, flat_sgn, List.length_nil, Nat.mul_zero, Nat.add_zero, hl, if_true]
/-- a row -/
inductive Row where
  | rk (n s : Tx) (a b : Ky) | cp (n : Tx) (a : Ky) | sy (a : Ky) | go (t : Int) | pt (a : Ky) (t : Int) | en
abbrev w_rk : Tx := [114, 101, 99, 107, 111, 110]
abbrev w_cp : Tx := [99, 111, 112, 121]
abbrev w_sy : Tx := [115, 97, 121]
abbrev w_go : Tx := [103, 111]
abbrev w_pt : Tx := [112, 97, 114, 116]
abbrev w_en : Tx := [101, 110, 100]
def Row.ks : Row → List Ky
  | .rk n s a b => [.inr w_rk, .inr n, .inr s, a, b]
  | .cp n a => [.inr w_cp, .inr n, a]
  | .sy a => [.inr w_sy, a]
  | .go t => [.inr w_go, .inl t]
  | .pt a t => [.inr w_pt, a, .inl t]
  | .en => [.inr w_en]
def Row.d (r : Row) : D := kt r.ks
abbrev SG : Tx := [97, 98, 99, 100, 101, 102, 103, 104, 105, 106, 107, 108, 109, 110, 111, 112, 113, 114, 115, 116, 117, 118, 119, 120, 121, 122, 48, 49, 50, 51, 52, 53, 54, 55, 56, 57]
abbrev S8 : Tx := [43, 45, 42, 38, 124, 94, 60, 61]
/-- a name -/
structure Nm (t : Tx) : Prop where
  lo : 1 ≤ t.length
  hi : t.length ≤ 8
  fst : ∃ c, t[0]? = some c ∧ 97 ≤ c ∧ c ≤ 122
  all : ∀ c ∈ t, c ∈ SG
  no : t ≠ w_sy ∧ t ≠ w_go ∧ t ≠ w_pt ∧ t ≠ w_en
theorem Nm.ok {t : Tx} (h : Nm t) : kOk (.inr t) = true := by
  show t.all _ = true
  rw [List.all_eq_true]
  intro c hc
  have : ∀ c ∈ SG, decide (c < 0x110000) = true := by decide
  exact this c (h.all c hc)
/-- what a name's signs are -/
structure Cs (cs : Tx) : Prop where
  lo : 1 ≤ cs.length
  hi : cs.length ≤ 8
  fst : ∃ c, cs[0]? = some c ∧ 97 ≤ c ∧ c ≤ 122
  all : ∀ c ∈ cs, c ∈ SG
theorem Cs.set {cs : Tx} (h : Cs cs) (i c : Nat) (hc : 97 ≤ c ∧ c ≤ 122) (hs : c ∈ SG) : Cs (cs.set i c) := by
  refine ⟨by simpa using h.lo, by simpa using h.hi, ?_, ?_⟩
  · obtain ⟨d, e, q⟩ := h.fst
    rw [List.getElem?_set]
    by_cases h0 : i = 0
    · subst h0
      rw [if_pos rfl, if_pos (Nat.lt_of_lt_of_le Nat.zero_lt_one h.lo)]
      exact ⟨c, rfl, hc⟩
    · rw [if_neg h0]; exact ⟨d, e, q⟩
  · intro d hd
    rcases List.mem_or_eq_of_mem_set hd with z | z
    · exact h.all d z
    · exact z ▸ hs
/-- the name of such signs -/
def nmOf (cs : Tx) : Tx := if cs = w_sy ∨ cs = w_go ∨ cs = w_pt ∨ cs = w_en then cs ++ [48] else cs
theorem Cs.nm {cs : Tx} (h : Cs cs) : Nm (nmOf cs) := by
  unfold nmOf
  split
  · rename_i q
    rcases q with rfl | rfl | rfl | rfl <;> exact ⟨by decide, by decide, ⟨_, rfl, by decide⟩, by decide, by decide⟩
  · rename_i q
    refine ⟨h.lo, h.hi, h.fst, h.all, ?_⟩
    refine ⟨fun e => q (.inl e), fun e => q (.inr (.inl e)), fun e => q (.inr (.inr (.inl e))), fun e => q (.inr (.inr (.inr e)))⟩
theorem sg_lt {i : Int} (h0 : 0 ≤ i) (h : i < 36) : ∃ c, atI SG i = some c ∧ c ∈ SG ∧ (i < 26 → 97 ≤ c ∧ c ≤ 122) := by
  have hl : i.toNat < SG.length := by show i.toNat < 36; omega
  refine ⟨SG[i.toNat], at_nat h0 (List.getElem?_eq_getElem hl), List.getElem_mem _, fun h2 => ?_⟩
  have all : ∀ k : Nat, k < 26 → ∀ c, SG[k]? = some c → 97 ≤ c ∧ c ≤ 122 := by decide
  exact all i.toNat (by omega) _ (List.getElem?_eq_getElem hl)
/-! ### comprehensions whose elements are told by a property -/
theorem lc_rel_go {hs : List (Nat × List D)} {g : GM} {t : TM} {e : EM} {fr : Fr} {S1 : Store} (P : D → D → Prop) :
    ∀ (items : List D) (acc : List D) (S : Store), Pre S1 S → S[S1.length]? = some (.lst acc) → (∀ p, p ∈ hs → lstOf S1 p.1 = some p.2) → acc.length + items.length ≤ LINE →
    (∀ d, d ∈ items → ∀ S, Pre S1 S → S1.length < S.length → ∃ fr' S', g d fr S = .ok fr' S ∧ t fr' S = .ok true S ∧ ∃ x, e fr' S = .ok x S' ∧ Pre S S' ∧ P d x) →
    ∃ xs S', lcLoop hs S1.length g t e fr items S = .ok (.ref S1.length) S' ∧ Pre S1 S' ∧ S'[S1.length]? = some (.lst (acc ++ xs)) ∧ xs.length = items.length ∧ ∀ (i : Nat) (d x : D), items[i]? = some d → xs[i]? = some x → P d x := by
  have stand : ∀ S, Pre S1 S → (∀ p, p ∈ hs → lstOf S1 p.1 = some p.2) → stands hs S := fun S pr h p hp => by
    have q := h p hp
    unfold lstOf at q ⊢
    cases hh : S1[p.1]? with
    | none => rw [hh] at q; cases q
    | some o => rw [pr.get hh]; rw [hh] at q; exact q
  intro items
  induction items with
  | nil => exact fun acc S pr ha h _ _ => ⟨[], S, by rw [lcLoop, dec_true (stand S pr h)]; rfl, pr, by rw [List.append_nil]; exact ha, rfl, fun i d x hd _ => by cases hd⟩
  | cons d ds ih =>
    intro acc S pr ha h hl step
    rw [List.length_cons] at hl
    obtain ⟨fr', S', e1, e2, x, e3, pr2, px⟩ := step d List.mem_cons_self S pr (Pre.lt (S' := S) ha)
    have ha' : S'[S1.length]? = some (.lst acc) := pr2.get ha
    obtain ⟨xs, S2, q, pr3, hx, hxl, hp⟩ := ih (acc ++ [x]) (S'.set S1.length (.lst (acc ++ [x]))) ((pr.trans pr2).set (Nat.le_refl _)) (set_get ha') h (by rw [List.length_append, List.length_singleton]; omega) fun d' hd' => step d' (List.mem_cons_of_mem _ hd')
    refine ⟨x :: xs, S2, ?_, pr3, by rw [hx, List.append_assoc]; rfl, by rw [List.length_cons, List.length_cons, hxl], ?_⟩
    · rw [lcLoop, dec_true (stand S pr h)]
      simp only [if_true, e1, bind_ok, e2, e3, ha']
      rw [if_pos (by omega), q]
    · intro i d' x' hd hx
      cases i with
      | zero => obtain rfl := Option.some.inj hd; obtain rfl := Option.some.inj hx; exact px
      | succ i => exact hp i d' x' hd hx
theorem lc_rel {vs : List Nat} {g : GM} {e : EM} {fr : Fr} {l : List D} {hs : List (Nat × List D)} {S : Store} (P : D → D → Prop) (h1 : ∀ p, p ∈ hs → lstOf S p.1 = some p.2) (h2 : l.length ≤ LINE)
    (h3 : ∀ d, d ∈ l → ∀ S', Pre S S' → ∃ fr' S2, g d (unset vs fr) S' = .ok fr' S' ∧ ∃ x, e fr' S' = .ok x S2 ∧ Pre S' S2 ∧ P d x) :
    ∃ xs S', lcK vs g tYes e fr (.ok ⟨l, hs⟩ S) = .ok (.ref S.length) S' ∧ Pre S S' ∧ S'[S.length]? = some (.lst xs) ∧ xs.length = l.length ∧ ∀ (i : Nat) (d x : D), l[i]? = some d → xs[i]? = some x → P d x := by
  obtain ⟨xs, S', q, pr, hx, hxl, hp⟩ := lc_rel_go (g := g) (t := fun fr S => quiet (tYes fr S)) (e := fun fr S => quiet (e fr S)) (fr := unset vs fr) P l [] (S ++ [.lst []]) (Pre.app _ _) (app_new _ _ _) h1 (by simpa using h2) fun d hd S' pr _ => by
    obtain ⟨fr', S2, e1, x, e2, pr2, px⟩ := h3 d hd S' pr
    exact ⟨fr', S2, e1, rfl, x, by rw [e2]; rfl, pr2, px⟩
  exact ⟨xs, S', q, pr, hx, hxl, hp⟩
theorem lc_fil_go {α : Type} {hs : List (Nat × List D)} {g : GM} {t : TM} {e : EM} {fr : Fr} {S1 : Store} (F H : α → D) (keep : α → Bool) :
    ∀ (items : List α) (acc : List D) (S : Store), Pre S1 S → S[S1.length]? = some (.lst acc) → (∀ p, p ∈ hs → lstOf S1 p.1 = some p.2) → acc.length + items.length ≤ LINE →
    (∀ a, a ∈ items → ∀ S, Pre S1 S → ∃ fr' S2, g (F a) fr S = .ok fr' S ∧ t fr' S = .ok (keep a) S2 ∧ Pre S S2 ∧ (keep a = true → ∃ S3, e fr' S2 = .ok (H a) S3 ∧ Pre S2 S3)) →
    ∃ S', lcLoop hs S1.length g t e fr (items.map F) S = .ok (.ref S1.length) S' ∧ Pre S1 S' ∧ S'[S1.length]? = some (.lst (acc ++ (items.filter keep).map H)) := by
  have stand : ∀ S, Pre S1 S → (∀ p, p ∈ hs → lstOf S1 p.1 = some p.2) → stands hs S := fun S pr h p hp => by
    have q := h p hp
    unfold lstOf at q ⊢
    cases hh : S1[p.1]? with
    | none => rw [hh] at q; cases q
    | some o => rw [pr.get hh]; rw [hh] at q; exact q
  intro items
  induction items with
  | nil => exact fun acc S pr ha h _ _ => ⟨S, by rw [List.map_nil, lcLoop, dec_true (stand S pr h)]; rfl, pr, by simpa using ha⟩
  | cons a as ih =>
    intro acc S pr ha h hl step
    rw [List.length_cons] at hl
    obtain ⟨fr', S2, e1, e2, pr2, e3⟩ := step a List.mem_cons_self S pr
    have ha' : S2[S1.length]? = some (.lst acc) := pr2.get ha
    cases hk : keep a with
    | false =>
      obtain ⟨S', q, pr3, hx⟩ := ih acc S2 (pr.trans pr2) ha' h (by omega) fun d' hd' => step d' (List.mem_cons_of_mem _ hd')
      refine ⟨S', ?_, pr3, by rw [hx, List.filter_cons_of_neg (by rw [hk]; exact Bool.false_ne_true)]⟩
      rw [List.map_cons, lcLoop, dec_true (stand S pr h)]
      rw [hk] at e2
      simp only [if_true, e1, bind_ok, e2, Bool.false_eq_true, if_false]
      exact q
    | true =>
      obtain ⟨S3, e4, pr4⟩ := e3 hk
      have ha2 : S3[S1.length]? = some (.lst acc) := pr4.get ha'
      obtain ⟨S', q, pr3, hx⟩ := ih (acc ++ [H a]) (S3.set S1.length (.lst (acc ++ [H a]))) (((pr.trans pr2).trans pr4).set (Nat.le_refl _)) (set_get ha2) h (by rw [List.length_append, List.length_singleton]; omega) fun d' hd' => step d' (List.mem_cons_of_mem _ hd')
      refine ⟨S', ?_, pr3, by rw [hx, List.filter_cons_of_pos hk, List.append_assoc]; rfl⟩
      rw [List.map_cons, lcLoop, dec_true (stand S pr h)]
      rw [hk] at e2
      simp only [if_true, e1, bind_ok, e2, e4, ha2]
      rw [if_pos (by omega)]
      exact q
/-- a comprehension over values of a kind -/
theorem lc_fil {α : Type} {vs : List Nat} {g : GM} {t : TM} {e : EM} {fr : Fr} {l : List D} {hs : List (Nat × List D)} {S : Store} (as : List α) (F H : α → D) (keep : α → Bool) (hl : l = as.map F) (h1 : ∀ p, p ∈ hs → lstOf S p.1 = some p.2) (h2 : as.length ≤ LINE)
    (h3 : ∀ a, a ∈ as → ∀ S', Pre S S' → ∃ fr' S2, g (F a) (unset vs fr) S' = .ok fr' S' ∧ t fr' S' = .ok (keep a) S2 ∧ Pre S' S2 ∧ (keep a = true → ∃ S3, e fr' S2 = .ok (H a) S3 ∧ Pre S2 S3)) :
    ∃ S', lcK vs g t e fr (.ok ⟨l, hs⟩ S) = .ok (.ref S.length) S' ∧ Pre S S' ∧ S'[S.length]? = some (.lst ((as.filter keep).map H)) := by
  subst hl
  obtain ⟨S', q, pr, hx⟩ := lc_fil_go (g := g) (t := fun fr S => quiet (t fr S)) (e := fun fr S => quiet (e fr S)) (fr := unset vs fr) (hs := hs) F H keep as [] (S ++ [.lst []]) (Pre.app _ _) (app_new _ _ _) h1 (by simpa using h2) fun a ha S' pr => by
    obtain ⟨fr', S2, e1, e2, pr2, k⟩ := h3 a ha S' pr
    refine ⟨fr', S2, e1, by rw [e2]; rfl, pr2, fun hk => ?_⟩
    obtain ⟨S3, e3, pr3⟩ := k hk
    exact ⟨S3, by rw [e3]; rfl, pr3⟩
  exact ⟨S', q, pr, hx⟩
theorem stand_one {S : Store} {n : Nat} {l : List D} (h : lstOf S n = some l) : ∀ p, p ∈ [(n, l)] → lstOf S p.1 = some p.2 := stands_one h
theorem lst_of {S : Store} {n : Nat} {l : List D} (h : S[n]? = some (.lst l)) : lstOf S n = some l := by rw [lstOf_s, h]; rfl
/-- such a list, as values of a kind -/
theorem of_rel {α : Type} {f : α → D} {l xs : List D} {Q : α → Prop} (hl : xs.length = l.length) (h : ∀ (i : Nat) (d x : D), l[i]? = some d → xs[i]? = some x → ∃ a, x = f a ∧ Q a) : ∃ as : List α, xs = as.map f ∧ as.length = l.length ∧ ∀ a ∈ as, Q a := by
  induction xs generalizing l with
  | nil => exact ⟨[], rfl, by simpa using hl, by simp⟩
  | cons x r ih =>
    cases l with
    | nil => simp at hl
    | cons d q =>
      obtain ⟨as, rfl, hl2, ha⟩ := ih (l := q) (by simpa using hl) fun i d x h1 h2 => h (i + 1) d x h1 h2
      obtain ⟨a, rfl, qa⟩ := h 0 d x rfl rfl
      refine ⟨a :: as, rfl, by simp [hl2], ?_⟩
      intro b hb
      rcases List.mem_cons.mp hb with z | z
      · exact z ▸ qa
      · exact ha b z
/-! ### reckonings -/
@[simp] theorem oEq_sk (n : Tx) (k : Ky) (S : Store) : oEq (.str n) (kyD k) S = .ok (.bl (decide (k = .inr n))) S := by
  cases k with
  | inl i => simp [kyD]
  | inr s => simp [kyD, eq_comm]
@[simp] theorem eqF_ks (n : Tx) (k : Ky) : eqF (kyD k) (.str n) = decide (k = .inr n) := eqF_k k (.inr n)
theorem oEq_kt {a b : List Ky} (S : Store) (ha : a.all kOk = true) (hb : b.all kOk = true) : oEq (kt a) (kt b) S = .ok (.bl (decide (a = b))) S := by
  rw [oEq_g, eq_kt S ha hb]; rfl
theorem oNe_kt {a b : List Ky} (S : Store) (ha : a.all kOk = true) (hb : b.all kOk = true) : oNe (kt a) (kt b) S = .ok (.bl (!decide (a = b))) S := by
  rw [oNe_g, eq_kt S ha hb]; rfl
theorem dGet_map {κ α : Type} [DecidableEq κ] (l : List κ) (k : κ) (v : α) : dGet (l.map fun k => (k, v)) k = if k ∈ l then some v else none := by
  unfold dGet
  rw [List.find?_map]
  induction l with
  | nil => simp
  | cons x r ih =>
    by_cases h : x = k
    · subst h; simp
    · have : ¬ k = x := fun e => h e.symm
      simp [h, this] at ih ⊢
      exact ih
theorem dPut_map {κ α : Type} [DecidableEq κ] (l : List κ) (k : κ) (v : α) : dPut (l.map fun k => (k, v)) k v = (if dec (k ∈ l) = true then l else l ++ [k]).map fun k => (k, v) := by
  unfold dPut
  by_cases h : k ∈ l
  · rw [if_pos (by simpa using h), if_pos (dec_true h), List.map_map]
    apply List.map_congr_left
    intro x _
    simp only [Function.comp]
    split <;> rfl
  · rw [if_neg (by simpa using h), if_neg (by rw [dec_false h]; exact Bool.false_ne_true)]; simp
def Row.rkg : Row → Option (List Ky)
  | .rk _ s a b => some [.inr s, a, b]
  | _ => none
noncomputable def addK (acc : List (List Ky)) (r : Row) : List (List Ky) := match r.rkg with
  | some k => if dec (k ∈ acc) = true then acc else acc ++ [k]
  | none => acc
/-- an operand: one of the names, or a worth -/
def Opd (l : List Tx) (k : Ky) : Prop := (∃ t, t ∈ l ∧ k = .inr t) ∨ ∃ w : Int, k = .inl w ∧ 0 ≤ w ∧ w < 18446744073709551616
theorem Opd.ok {l : List Tx} {k : Ky} (h : Opd l k) (hl : ∀ t ∈ l, Nm t) : kOk k = true := by
  rcases h with ⟨t, ht, rfl⟩ | ⟨w, rfl, _⟩
  · exact (hl t ht).ok
  · rfl
/-- a reckoning -/
structure Rkg (l : List Tx) (s a b : Ky) : Prop where
  s1 : ∃ c, c ∈ S8 ∧ s = .inr [c]
  a1 : Opd l a
  b1 : Opd l b
end Mi

set_option Elab.async false
set_option linter.all false
/-! programs as they are built by the laws: what may stand in them, how each row is come to, how each leads to an end -/
namespace Mi
def Row.seq : Row → Bool
  | .go _ => false
  | .en => false
  | _ => true
def RowN (l : List Tx) : Row → Prop
  | .rk n s a b => n ∈ l ∧ Rkg l (.inr s) a b
  | .cp n a => n ∈ l ∧ Opd l a
  | .sy a => Opd l a
  | .go _ => True
  | .pt a _ => Opd l a
  | .en => True
/-- what comes behind row n -/
def fol (n : Nat) : Row → List Int
  | .go t => [t]
  | .pt _ t => [(n : Int) + 1, t]
  | .en => []
  | _ => [(n : Int) + 1]
/-- rows as they are being built: `outer` lie outside of stretches, `bg` begins an open one -/
structure Bld (l : List Tx) (rows : List Row) (outer : List Nat) (bg : Option Nat) : Prop where
  nm : ∀ r ∈ rows, RowN l r
  pts : ∀ (n : Nat) (a : Ky) (t : Int), rows[n]? = some (.pt a t) → 0 ≤ t
  out : ∀ o ∈ outer, o < rows.length
  bgn : ∀ b, bg = some b → b ∈ outer ∧ ∃ a, rows[b]? = some (.pt a 0)
  rch : ∀ i, 0 < i → i ≤ rows.length → (∃ r, rows[i - 1]? = some r ∧ r.seq = true) ∨ ∃ b a, b + 1 < i ∧ rows[b]? = some (.pt a (i : Nat))
  nxt : ∀ o ∈ outer, bg = some o ∨ ∃ r, rows[o]? = some r ∧ r.seq = true ∧ ((o + 1 ∈ outer ∨ (o + 1 = rows.length ∧ bg = none)) ∨ ∃ a t, r = .pt a (t : Nat) ∧ o + 1 < t ∧ (t ∈ outer ∨ (t = rows.length ∧ bg = none)))
  gos : ∀ (n : Nat) (t : Int), rows[n]? = some (.go t) → t < 0 ∨ ∃ o ∈ outer, t = (o : Int)
theorem Bld.start (l : List Tx) : Bld l [] [] none := by
  refine ⟨by simp, by simp, by simp, by simp, ?_, by simp, by simp⟩
  intro i h1 h2
  rw [List.length_nil] at h2
  omega
theorem get_snoc {α : Type} {l : List α} {a b : α} {n : Nat} (h : (l ++ [a])[n]? = some b) : l[n]? = some b ∨ (n = l.length ∧ b = a) := by
  rw [List.getElem?_append] at h
  split at h
  · exact .inl h
  · rename_i hn
    have := (List.getElem?_eq_some_iff.mp h).1
    rw [List.length_singleton] at this
    have hn : n = l.length := by omega
    subst hn
    rw [Nat.sub_self] at h
    exact .inr ⟨rfl, (Option.some.inj h).symm⟩
theorem snoc_lt {α : Type} {l : List α} {a b : α} {n : Nat} (h : l[n]? = some b) : (l ++ [a])[n]? = some b := by
  rw [List.getElem?_append_left (List.getElem?_eq_some_iff.mp h).1]; exact h
theorem snoc_eq {α : Type} (l : List α) (a : α) : (l ++ [a])[l.length]? = some a := by simp
/-- a row more: outside, or within an open stretch -/
theorem Bld.add {l : List Tx} {rows : List Row} {outer outer' : List Nat} {bg : Option Nat} (h : Bld l rows outer bg) {r : Row} (hr : RowN l r) (hs : r.seq = true) (hp : ∀ a t, r = .pt a t → 0 ≤ t)
    (ho : (bg = none ∧ outer' = outer ++ [rows.length]) ∨ (bg ≠ none ∧ outer' = outer)) : Bld l (rows ++ [r]) outer' bg := by
  have sub : ∀ o ∈ outer, o ∈ outer' := fun o hm => by
    rcases ho with ⟨_, rfl⟩ | ⟨_, rfl⟩
    · exact List.mem_append_left _ hm
    · exact hm
  refine ⟨?_, ?_, ?_, ?_, ?_, ?_, ?_⟩
  · intro r' hr'
    rcases List.mem_append.mp hr' with z | z
    · exact h.nm r' z
    · rw [List.mem_singleton.mp z]; exact hr
  · intro n a t e
    rcases get_snoc e with z | ⟨_, z⟩
    · exact h.pts n a t z
    · exact hp a t z.symm
  · intro o hm
    rw [List.length_append, List.length_singleton]
    rcases ho with ⟨_, rfl⟩ | ⟨_, rfl⟩
    · rcases List.mem_append.mp hm with z | z
      · have := h.out o z; omega
      · rw [List.mem_singleton.mp z]; omega
    · have := h.out o hm; omega
  · intro b e
    obtain ⟨m, a, q⟩ := h.bgn b e
    exact ⟨sub b m, a, snoc_lt q⟩
  · intro i h0 h1
    rw [List.length_append, List.length_singleton] at h1
    by_cases hi : i = rows.length + 1
    · exact .inl ⟨r, by subst hi; exact snoc_eq _ _, hs⟩
    · rcases h.rch i h0 (by omega) with ⟨r', e, q⟩ | ⟨b, a, q, e⟩
      · exact .inl ⟨r', snoc_lt e, q⟩
      · exact .inr ⟨b, a, q, snoc_lt e⟩
  · intro o hm
    have old : o ∈ outer → bg = some o ∨ ∃ r', (rows ++ [r])[o]? = some r' ∧ r'.seq = true ∧ ((o + 1 ∈ outer' ∨ (o + 1 = (rows ++ [r]).length ∧ bg = none)) ∨ ∃ a t, r' = .pt a (t : Nat) ∧ o + 1 < t ∧ (t ∈ outer' ∨ (t = (rows ++ [r]).length ∧ bg = none))) := fun z => by
      rcases h.nxt o z with e | ⟨r', e, q, c⟩
      · exact .inl e
      · refine .inr ⟨r', snoc_lt e, q, ?_⟩
        have up : ∀ t : Nat, t ∈ outer ∨ (t = rows.length ∧ bg = none) → t ∈ outer' := fun t c => by
          rcases c with c | ⟨c, e2⟩
          · exact sub t c
          · rcases ho with ⟨_, rfl⟩ | ⟨e3, _⟩
            · subst c; simp
            · exact absurd e2 e3
        rcases c with c | ⟨a, t, e2, lt, c⟩
        · exact .inl (.inl (up _ c))
        · exact .inr ⟨a, t, e2, lt, .inl (up _ c)⟩
    rcases ho with ⟨e, rfl⟩ | ⟨e, rfl⟩
    · rcases List.mem_append.mp hm with z | z
      · exact old z
      · rw [List.mem_singleton.mp z]
        exact .inr ⟨r, snoc_eq _ _, hs, .inl (.inr ⟨by simp, e⟩)⟩
    · exact old hm
  · intro n t e
    rcases get_snoc e with z | ⟨_, z⟩
    · rcases h.gos n t z with q | ⟨o, m, q⟩
      · exact .inl q
      · exact .inr ⟨o, sub o m, q⟩
    · rw [← z] at hs; cases hs
/-- a stretch is begun -/
theorem Bld.opened {l : List Tx} {rows : List Row} {outer : List Nat} (h : Bld l rows outer none) {a : Ky} (ha : Opd l a) : Bld l (rows ++ [.pt a 0]) (outer ++ [rows.length]) (some rows.length) := by
  have q := h.add (r := .pt a 0) ha rfl (fun _ _ e => by cases e; exact Int.le_refl 0) (.inl ⟨rfl, rfl⟩)
  refine ⟨q.nm, q.pts, q.out, ?_, q.rch, ?_, q.gos⟩
  · intro b e
    obtain rfl := Option.some.inj e
    exact ⟨by simp, a, snoc_eq _ _⟩
  · intro o hm
    by_cases ho : o = rows.length
    · exact .inl (by rw [ho])
    · rcases h.nxt o (by simpa [ho] using hm) with e | ⟨r, e, s, c⟩
      · cases e
      · have up : ∀ t : Nat, t ∈ outer ∨ (t = rows.length ∧ (none : Option Nat) = none) → t ∈ outer ++ [rows.length] := fun t c => by
          rcases c with c | ⟨c, _⟩
          · exact List.mem_append_left _ c
          · subst c; simp
        refine .inr ⟨r, snoc_lt e, s, ?_⟩
        rcases c with c | ⟨a', t, e2, lt, c⟩
        · exact .inl (.inl (up _ c))
        · exact .inr ⟨a', t, e2, lt, .inl (up _ c)⟩
/-- a stretch is closed -/
theorem Bld.closed {l : List Tx} {rows : List Row} {outer : List Nat} {b : Nat} (h : Bld l rows outer (some b)) {a : Ky} (hb : rows[b]? = some (.pt a 0)) {r : Row} (hr : r = .en ∨ ∃ t, r = .go t ∧ (t < 0 ∨ ∃ o ∈ outer, t = (o : Int))) :
    Bld l ((rows ++ [r]).set b (.pt a ((rows.length + 1 : Nat) : Int))) outer none := by
  have hbl : b < rows.length := (List.getElem?_eq_some_iff.mp hb).1
  have ha : Opd l a := h.nm _ (List.mem_of_getElem? hb)
  have len : ((rows ++ [r]).set b (.pt a ((rows.length + 1 : Nat) : Int))).length = rows.length + 1 := by simp
  have atb : ((rows ++ [r]).set b (.pt a ((rows.length + 1 : Nat) : Int)))[b]? = some (.pt a ((rows.length + 1 : Nat) : Int)) := List.getElem?_set_self (by simp; omega)
  have ne : ∀ n : Nat, n ≠ b → ((rows ++ [r]).set b (.pt a ((rows.length + 1 : Nat) : Int)))[n]? = (rows ++ [r])[n]? := fun n hn => List.getElem?_set_ne (Ne.symm hn)
  refine ⟨?_, ?_, ?_, by simp, ?_, ?_, ?_⟩
  · intro r' hm
    rcases List.mem_or_eq_of_mem_set hm with z | z
    · rcases List.mem_append.mp z with z | z
      · exact h.nm r' z
      · rw [List.mem_singleton.mp z]
        rcases hr with rfl | ⟨t, rfl, _⟩ <;> trivial
    · rw [z]; exact ha
  · intro n a' t e
    by_cases hn : n = b
    · subst hn
      rw [atb] at e
      cases e
      omega
    · rw [ne n hn] at e
      rcases get_snoc e with z | ⟨_, z⟩
      · exact h.pts n a' t z
      · rcases hr with rfl | ⟨t, rfl, _⟩ <;> cases z
  · intro o hm
    have := h.out o hm
    omega
  · intro i h0 h1
    rw [len] at h1
    by_cases hi : i = rows.length + 1
    · subst hi
      exact .inr ⟨b, a, by omega, atb⟩
    · rcases h.rch i h0 (by omega) with ⟨r', e, q⟩ | ⟨c, a', q, e⟩
      · by_cases hc : i - 1 = b
        · exact .inl ⟨_, by rw [hc]; exact atb, rfl⟩
        · exact .inl ⟨r', by rw [ne _ hc]; exact snoc_lt e, q⟩
      · by_cases hc : c = b
        · subst hc
          rw [hb] at e
          have : (0 : Int) = (i : Int) := by injection e with e; injection e
          omega
        · exact .inr ⟨c, a', q, by rw [ne _ hc]; exact snoc_lt e⟩
  · intro o hm
    right
    by_cases ho : o = b
    · subst ho
      exact ⟨_, atb, rfl, .inr ⟨a, rows.length + 1, rfl, by omega, .inr ⟨len.symm, rfl⟩⟩⟩
    · rcases h.nxt o hm with e | ⟨r', e, s, c⟩
      · exact absurd (Option.some.inj e).symm ho
      · refine ⟨r', by rw [ne _ ho]; exact snoc_lt e, s, ?_⟩
        rcases c with c | ⟨a', t, e2, lt, c⟩
        · rcases c with c | ⟨_, e2⟩
          · exact .inl (.inl c)
          · cases e2
        · rcases c with c | ⟨_, e2⟩
          · exact .inr ⟨a', t, e2, lt, .inl c⟩
          · cases e2
  · intro n t e
    by_cases hn : n = b
    · subst hn; rw [atb] at e; cases e
    · rw [ne n hn] at e
      rcases get_snoc e with z | ⟨_, z⟩
      · exact h.gos n t z
      · rcases hr with rfl | ⟨t', rfl, q⟩
        · cases z
        · cases z; exact q
/-! ### programs -/
inductive Reach (rows : List Row) : Nat → Prop
  | zero : Reach rows 0
  | step {i j : Nat} {r : Row} : Reach rows j → rows[j]? = some r → (i : Int) ∈ fol j r → Reach rows i
inductive Ends (rows : List Row) : Nat → Prop
  | en {n : Nat} : rows[n]? = some .en → Ends rows n
  | step {i j : Nat} {r : Row} : rows[j]? = some r → (i : Int) ∈ fol j r → Ends rows i → Ends rows j
structure Prg (l : List Tx) (rows : List Row) : Prop where
  nm : ∀ r ∈ rows, RowN l r
  last : ∃ q, rows = q ++ [.en]
  go : ∀ (n : Nat) (t : Int), rows[n]? = some (.go t) → 0 ≤ t ∧ t < rows.length
  pt : ∀ (n : Nat) (a : Ky) (t : Int), rows[n]? = some (.pt a t) → 0 ≤ t ∧ t < rows.length ∧ t ≠ n + 1
  rch : ∀ i, i < rows.length → Reach rows i
  ends : ∀ i, i < rows.length → Ends rows i
/-- the rows turned to where they lead -/
def turn (many n : Nat) : Row → Row
  | .go t => if t < 0 then .go ((n : Int) + 1 + (-1 - t) % ((many : Int) - n - 1)) else .go t
  | .pt a t => .pt a (if t % many = (n : Int) + 1 then n else t % many)
  | r => r
def turnAll (many : Nat) : Nat → List Row → List Row
  | _, [] => []
  | n, r :: rs => turn many n r :: turnAll many (n + 1) rs
theorem turnAll_get (many : Nat) : ∀ (rs : List Row) (n i : Nat), (turnAll many n rs)[i]? = (rs[i]?).map (turn many (n + i))
  | [], n, i => rfl
  | r :: rs, n, 0 => rfl
  | r :: rs, n, i + 1 => by
    show (turnAll many (n + 1) rs)[i]? = _
    rw [turnAll_get many rs (n + 1) i, show n + 1 + i = n + (i + 1) by omega]
    rfl
theorem turnAll_len (many : Nat) : ∀ (rs : List Row) (n : Nat), (turnAll many n rs).length = rs.length
  | [], n => rfl
  | r :: rs, n => by rw [turnAll, List.length_cons, List.length_cons, turnAll_len]
theorem turnAll_snoc (many : Nat) (r : Row) : ∀ (rs : List Row) (n : Nat), turnAll many n (rs ++ [r]) = turnAll many n rs ++ [turn many (n + rs.length) r]
  | [], n => rfl
  | x :: rs, n => by
    rw [List.cons_append, turnAll, turnAll_snoc many r rs (n + 1), turnAll, List.cons_append, List.length_cons, show n + 1 + rs.length = n + (rs.length + 1) by omega]
theorem Bld.prg {l : List Tx} {rows : List Row} {outer : List Nat} (h : Bld l rows outer none) : Prg l (turnAll (rows.length + 1) 0 (rows ++ [.en])) := by
  have len : (turnAll (rows.length + 1) 0 (rows ++ [.en])).length = rows.length + 1 := by rw [turnAll_len]; simp
  have get : ∀ (n : Nat) (r : Row), rows[n]? = some r → (turnAll (rows.length + 1) 0 (rows ++ [.en]))[n]? = some (turn (rows.length + 1) n r) := fun n r e => by
    rw [turnAll_get, snoc_lt e, Nat.zero_add]; rfl
  have getl : (turnAll (rows.length + 1) 0 (rows ++ [.en]))[rows.length]? = some .en := by
    rw [turnAll_get, snoc_eq]; rfl
  have inv : ∀ (n : Nat) (r : Row), (turnAll (rows.length + 1) 0 (rows ++ [.en]))[n]? = some r → (n = rows.length ∧ r = .en) ∨ ∃ r', rows[n]? = some r' ∧ r = turn (rows.length + 1) n r' := fun n r e => by
    rw [turnAll_get, Nat.zero_add] at e
    obtain ⟨r', e1, e2⟩ := Option.map_eq_some_iff.mp e
    rcases get_snoc e1 with z | ⟨z1, z2⟩
    · exact .inr ⟨r', z, e2.symm⟩
    · subst z2; exact .inl ⟨z1, e2.symm⟩
  have seqf : ∀ (n : Nat) (r : Row), r.seq = true → ((n + 1 : Nat) : Int) ∈ fol n (turn (rows.length + 1) n r) := fun n r hs => by
    cases r <;> first | (simp [turn, fol]; done) | cases hs
  have ptf : ∀ (n : Nat) (a : Ky) (t : Nat), n + 1 < t → t ≤ rows.length → (t : Int) ∈ fol n (turn (rows.length + 1) n (.pt a t)) := fun n a t h1 h2 => by
    have e1 : (t : Int) % ((rows.length + 1 : Nat) : Int) = t := Int.emod_eq_of_lt (by omega) (by omega)
    have e2 : ¬ (t : Int) = (n : Int) + 1 := by omega
    simp only [turn, e1, if_neg e2, fol, List.mem_cons, List.not_mem_nil, or_false]
    exact .inr trivial
  refine ⟨?_, ?_, ?_, ?_, ?_, ?_⟩
  · intro r hm
    obtain ⟨n, e⟩ := List.getElem?_of_mem hm
    rcases inv n r e with ⟨_, rfl⟩ | ⟨r', e2, rfl⟩
    · trivial
    · have q := h.nm r' (List.mem_of_getElem? e2)
      cases r' with
      | go t => simp only [turn]; split <;> trivial
      | pt a t => exact q
      | _ => exact q
  · exact ⟨turnAll (rows.length + 1) 0 rows, by rw [turnAll_snoc]; rfl⟩
  · intro n t e
    rw [len]
    rcases inv n _ e with ⟨_, z⟩ | ⟨r', e2, z⟩
    · cases z
    · have hn := (List.getElem?_eq_some_iff.mp e2).1
      cases r' with
      | go t' =>
        simp only [turn] at z
        split at z
        · injection z with z
          have h1 := Int.emod_nonneg (-1 - t') (show ((rows.length + 1 : Nat) : Int) - n - 1 ≠ 0 by omega)
          have h2 := Int.emod_lt_of_pos (-1 - t') (show 0 < ((rows.length + 1 : Nat) : Int) - n - 1 by omega)
          omega
        · injection z with z
          subst z
          rcases h.gos n _ e2 with q | ⟨o, m, q⟩
          · omega
          · have := h.out o m
            omega
      | _ => cases z
  · intro n a t e
    rw [len]
    rcases inv n _ e with ⟨_, z⟩ | ⟨r', e2, z⟩
    · cases z
    · have hn := (List.getElem?_eq_some_iff.mp e2).1
      cases r' with
      | pt a' t' =>
        simp only [turn] at z
        injection z with _ z
        have h1 := Int.emod_nonneg t' (show ((rows.length + 1 : Nat) : Int) ≠ 0 by omega)
        have h2 := Int.emod_lt_of_pos t' (show 0 < ((rows.length + 1 : Nat) : Int) by omega)
        split at z <;> omega
      | go t' => simp only [turn] at z; split at z <;> cases z
      | _ => cases z
  · intro i hi
    rw [len] at hi
    induction i using Nat.strongRecOn with
    | _ i ih =>
      by_cases h0 : i = 0
      · subst h0; exact .zero
      · rcases h.rch i (by omega) (by omega) with ⟨r, e, s⟩ | ⟨b, a, lt, e⟩
        · refine .step (ih (i - 1) (by omega) (by omega)) (get _ _ e) ?_
          have := seqf (i - 1) r s
          rw [show i - 1 + 1 = i by omega] at this
          exact this
        · exact .step (ih b (by omega) (by omega)) (get _ _ e) (ptf b a i lt (by omega))
  · -- outer rows first, from behind; then all
    have lastE : Ends (turnAll (rows.length + 1) 0 (rows ++ [.en])) rows.length := .en getl
    have outE : ∀ k o, o ∈ outer → rows.length - o ≤ k → Ends (turnAll (rows.length + 1) 0 (rows ++ [.en])) o := by
      intro k
      induction k with
      | zero => intro o hm hk; have := h.out o hm; omega
      | succ k ih =>
        intro o hm hk
        rcases h.nxt o hm with e | ⟨r, e, s, c⟩
        · cases e
        · have ho := h.out o hm
          have go : ∀ t : Nat, o < t → (t : Int) ∈ fol o (turn (rows.length + 1) o r) → t ∈ outer ∨ (t = rows.length ∧ (none : Option Nat) = none) → Ends (turnAll (rows.length + 1) 0 (rows ++ [.en])) o := fun t lt hf c => by
            rcases c with c | ⟨c, _⟩
            · exact .step (get _ _ e) hf (ih t c (by omega))
            · subst c; exact .step (get _ _ e) hf lastE
          rcases c with c | ⟨a, t, e2, lt, c⟩
          · exact go (o + 1) (by omega) (seqf o r s) c
          · refine go t (by omega) ?_ c
            rw [e2]
            refine ptf o a t lt ?_
            rcases c with c | ⟨c, _⟩
            · exact Nat.le_of_lt (h.out t c)
            · omega
    have allE : ∀ k i, i ≤ rows.length → rows.length - i ≤ k → Ends (turnAll (rows.length + 1) 0 (rows ++ [.en])) i := by
      intro k
      induction k with
      | zero => intro i hi hk; rw [show i = rows.length by omega]; exact lastE
      | succ k ih =>
        intro i hi hk
        by_cases h1 : i = rows.length
        · rw [h1]; exact lastE
        · have hlt : i < rows.length := by omega
          have e : rows[i]? = some rows[i] := List.getElem?_eq_getElem hlt
          generalize rows[i] = r at e
          by_cases hs : r.seq = true
          · exact .step (get _ _ e) (seqf i r hs) (ih (i + 1) (by omega) (by omega))
          · cases r with
            | en => exact .en (get _ _ e)
            | go t =>
              rcases h.gos i t e with q | ⟨o, m, q⟩
              · have h1 := Int.emod_nonneg (-1 - t) (show ((rows.length + 1 : Nat) : Int) - i - 1 ≠ 0 by omega)
                have h2 := Int.emod_lt_of_pos (-1 - t) (show 0 < ((rows.length + 1 : Nat) : Int) - i - 1 by omega)
                obtain ⟨m, hm⟩ : ∃ m : Nat, (i : Int) + 1 + (-1 - t) % (((rows.length + 1 : Nat) : Int) - i - 1) = m := ⟨((i : Int) + 1 + (-1 - t) % (((rows.length + 1 : Nat) : Int) - i - 1)).toNat, by omega⟩
                refine .step (i := m) (get _ _ e) ?_ (ih m (by omega) (by omega))
                simp only [turn, if_pos q, fol, List.mem_singleton]
                exact hm.symm
              · subst q
                refine .step (i := o) (get _ _ e) ?_ (outE _ o m (Nat.le_refl _))
                have : ¬ ((o : Int) < 0) := by omega
                simp only [turn, if_neg this, fol, List.mem_singleton]
            | _ => exact absurd rfl hs
    intro i hi
    rw [len] at hi
    exact allE _ i (by omega) (Nat.le_refl _)
/-- a row further down by one -/
def shift : Row → Row
  | .go t => .go (t + 1)
  | .pt a t => .pt a (t + 1)
  | r => r
theorem fol_shift {n i : Nat} {r : Row} (h : (i : Int) ∈ fol n r) : ((i + 1 : Nat) : Int) ∈ fol (n + 1) (shift r) := by
  cases r <;> simp [fol, shift] at h ⊢ <;> omega
def tst (nm : Tx) (q : List Row) : List Row := .go (q.length + 1) :: (q.map shift ++ [.pt (.inr nm) 1, .en])
theorem Prg.tested {l : List Tx} {q : List Row} (h : Prg l (q ++ [.en])) {nm : Tx} (hn : nm ∈ l) : Prg l (tst nm q) := by
  have len : (tst nm q).length = q.length + 3 := by simp [tst]
  have g0 : (tst nm q)[0]? = some (.go (q.length + 1)) := rfl
  have gs : ∀ (n : Nat) (r : Row), q[n]? = some r → (tst nm q)[n + 1]? = some (shift r) := fun n r e => by
    have hn := (List.getElem?_eq_some_iff.mp e).1
    show (q.map shift ++ [.pt (.inr nm) 1, .en])[n]? = _
    rw [List.getElem?_append_left (by simpa using hn), List.getElem?_map, e]; rfl
  have gp : (tst nm q)[q.length + 1]? = some (.pt (.inr nm) 1) := by
    show (q.map shift ++ [.pt (.inr nm) 1, .en])[q.length]? = _
    rw [List.getElem?_append_right (by simp), List.length_map, Nat.sub_self]; rfl
  have ge : (tst nm q)[q.length + 2]? = some .en := by
    show (q.map shift ++ [.pt (.inr nm) 1, .en])[q.length + 1]? = _
    rw [List.getElem?_append_right (by simp), List.length_map, show q.length + 1 - q.length = 1 by omega]; rfl
  have inv : ∀ (n : Nat) (r : Row), (tst nm q)[n]? = some r → (n = 0 ∧ r = .go (q.length + 1)) ∨ (∃ k r', n = k + 1 ∧ q[k]? = some r' ∧ r = shift r') ∨ (n = q.length + 1 ∧ r = .pt (.inr nm) 1) ∨ (n = q.length + 2 ∧ r = .en) := fun n r e => by
    have hn := (List.getElem?_eq_some_iff.mp e).1
    rw [len] at hn
    cases n with
    | zero => exact .inl ⟨rfl, (Option.some.inj e).symm⟩
    | succ k =>
      right
      by_cases h1 : k < q.length
      · have e1 := List.getElem?_eq_getElem h1
        have := gs k _ e1
        rw [e] at this
        exact .inl ⟨k, _, rfl, e1, Option.some.inj this⟩
      · by_cases h2 : k = q.length
        · subst h2; rw [gp] at e; exact .inr (.inl ⟨rfl, (Option.some.inj e).symm⟩)
        · obtain rfl : k = q.length + 1 := by omega
          rw [ge] at e; exact .inr (.inr ⟨rfl, (Option.some.inj e).symm⟩)
  have enE : Ends (tst nm q) (q.length + 2) := .en ge
  have ptE : Ends (tst nm q) (q.length + 1) := .step (i := q.length + 2) gp (by simp only [fol, List.mem_cons]; exact .inl (by omega)) enE
  have ptR : Reach (tst nm q) (q.length + 1) := .step .zero g0 (by simp [fol])
  have upR : ∀ i, Reach (q ++ [.en]) i → Reach (tst nm q) (i + 1) := fun i hr => by
    induction hr with
    | zero => exact .step ptR gp (by simp [fol])
    | step _ e f ih =>
      rcases get_snoc e with z | ⟨_, z⟩
      · exact .step ih (gs _ _ z) (fol_shift f)
      · subst z; cases f
  have upE : ∀ i, Ends (q ++ [.en]) i → Ends (tst nm q) (i + 1) := fun i hr => by
    induction hr with
    | en e =>
      rcases get_snoc e with z | ⟨z, _⟩
      · exact .en (gs _ _ z)
      · subst z; exact ptE
    | step e f _ ih =>
      rcases get_snoc e with z | ⟨_, z⟩
      · exact .step (gs _ _ z) (fol_shift f) ih
      · subst z; cases f
  have l1 : (q ++ [Row.en]).length = q.length + 1 := by simp
  refine ⟨?_, ⟨.go (q.length + 1) :: (q.map shift ++ [.pt (.inr nm) 1]), by simp [tst]⟩, ?_, ?_, ?_, ?_⟩
  · intro r hm
    obtain ⟨n, e⟩ := List.getElem?_of_mem hm
    rcases inv n r e with ⟨_, rfl⟩ | ⟨k, r', _, e2, rfl⟩ | ⟨_, rfl⟩ | ⟨_, rfl⟩
    · trivial
    · have := h.nm r' (List.mem_append_left _ (List.mem_of_getElem? e2))
      cases r' <;> exact this
    · exact .inl ⟨nm, hn, rfl⟩
    · trivial
  · intro n t e
    rw [len]
    rcases inv n _ e with ⟨_, z⟩ | ⟨k, r', _, e2, z⟩ | ⟨_, z⟩ | ⟨_, z⟩
    · injection z with z; omega
    · cases r' with
      | go t' =>
        have := h.go k t' (snoc_lt e2)
        simp only [shift] at z
        injection z with z
        omega
      | _ => cases z
    · cases z
    · cases z
  · intro n a t e
    rw [len]
    rcases inv n _ e with ⟨_, z⟩ | ⟨k, r', hk, e2, z⟩ | ⟨hk, z⟩ | ⟨_, z⟩
    · cases z
    · cases r' with
      | pt a' t' =>
        have := h.pt k a' t' (snoc_lt e2)
        simp only [shift] at z
        injection z with _ z
        omega
      | _ => cases z
    · injection z with _ z; omega
    · cases z
  · intro i hi
    rw [len] at hi
    cases i with
    | zero => exact .zero
    | succ k =>
      by_cases h2 : k = q.length + 1
      · subst h2
        exact .step ptR gp (by simp only [fol, List.mem_cons]; exact .inl (by omega))
      · exact upR k (h.rch k (by omega))
  · intro i hi
    rw [len] at hi
    cases i with
    | zero => exact .step (i := q.length + 1) g0 (by simp [fol]) ptE
    | succ k =>
      by_cases h2 : k = q.length + 1
      · subst h2; exact enE
      · exact upE k (h.ends k (by omega))
theorem Prg.pos {l : List Tx} {rows : List Row} (h : Prg l rows) : 0 < rows.length := by
  obtain ⟨q, rfl⟩ := h.last
  simp
/-! ### data of rows -/
theorem d_rk (n s : Tx) (a b : Ky) : (Row.rk n s a b).d = .tup [.str w_rk, .str n, .str s, kyD a, kyD b] := rfl
theorem d_cp (n : Tx) (a : Ky) : (Row.cp n a).d = .tup [.str w_cp, .str n, kyD a] := rfl
theorem d_sy (a : Ky) : (Row.sy a).d = .tup [.str w_sy, kyD a] := rfl
theorem d_go (t : Int) : (Row.go t).d = .tup [.str w_go, .int t] := rfl
theorem d_pt (a : Ky) (t : Int) : (Row.pt a t).d = .tup [.str w_pt, kyD a, .int t] := rfl
theorem d_en : Row.en.d = .tup [.str w_en] := rfl
theorem prs_get : ∀ (l : List D) (k i : Nat), (prs k l)[i]? = (l[i]?).map fun d => .tup [.int ((k + i : Nat) : Int), d]
  | [], k, i => rfl
  | d :: l, k, 0 => rfl
  | d :: l, k, i + 1 => by
    show (prs (k + 1) l)[i]? = _
    rw [prs_get l (k + 1) i, show k + 1 + i = k + (i + 1) by omega]
    rfl
theorem prs_len : ∀ (l : List D) (k : Nat), (prs k l).length = l.length
  | [], k => rfl
  | d :: l, k => by rw [prs, List.length_cons, List.length_cons, prs_len]
@[simp] theorem cut_m2 {α : Type} (a b : α) : cut [a, b] none (some (-1)) = [a] := rfl
@[simp] theorem cut_m3 {α : Type} (a b c : α) : cut [a, b, c] none (some (-1)) = [a, b] := rfl
theorem cut_last {α : Type} (l : List α) (a : α) : cut (l ++ [a]) none (some (-1)) = l := by
  have e : sIx (l ++ [a]).length (l ++ [a]).length (some (-1)) = l.length := by
    unfold sIx
    dsimp only
    rw [if_pos (by decide), List.length_append, List.length_singleton]
    omega
  unfold cut
  rw [e]
  simp [sIx]
@[simp] theorem at_m2 {α : Type} (a b : α) : atI [a, b] (-1) = some b := rfl
@[simp] theorem at_m3 {α : Type} (a b c : α) : atI [a, b, c] (-1) = some c := rfl
/-- lists of single data against one another -/
theorem shp_ks {l : List Ky} (h : l.all kOk = true) : shp (.list (l.map kp)) = true := by
  unfold shp PySem.SeqAt.shaped
  simp [PySem.PyData.canLay0, PySem.PyData.depth, lay_ks h, dep_ks]
theorem eq_lks {m n : Nat} {A B : List Ky} {S : Store} (ha : lstOf S m = some (A.map kyD)) (hb : lstOf S n = some (B.map kyD)) (hA : A.all kOk = true) (hB : B.all kOk = true) : pyEq (.ref m) (.ref n) S = some (decide (A = B)) := by
  have look : ∀ {n A}, lstOf S n = some (List.map kyD A) → lookP 8 S n = some (.list (A.map kp)) := fun {n A} h => by
    unfold lookP
    unfold lstOf at h
    cases hn : S[n]? with
    | none => rw [hn] at h; cases h
    | some o =>
      rw [hn] at h
      cases o with
      | lst l => dsimp only at h ⊢; obtain rfl := Option.some.inj h; rw [toPs_k]; rfl
      | fls l => dsimp only at h ⊢; obtain rfl := Option.some.inj h; rw [toPs_k]; rfl
      | _ => cases h
  unfold pyEq
  have e : scq (.ref m) (.ref n) = none := rfl
  rw [e]
  simp only [pd, toP, look ha, look hb, shp_ks hA, shp_ks hB, and_self, if_true]
  unfold PySem.PyData.eqv
  rw [eqv_ks]
theorem eq_ints {m n : Nat} {A B : List Int} {S : Store} (ha : lstOf S m = some (A.map D.int)) (hb : lstOf S n = some (B.map D.int)) : pyEq (.ref m) (.ref n) S = some (decide (A = B)) := by
  have e : ∀ A : List Int, A.map D.int = (A.map Sum.inl).map kyD := fun A => by rw [List.map_map]; rfl
  have o : ∀ A : List Int, (A.map (Sum.inl : Int → Ky)).all kOk = true := fun A => by rw [List.all_map]; simp [kOk]
  rw [e] at ha hb
  rw [eq_lks ha hb (o A) (o B)]
  congr 1
  rw [decide_eq_decide]
  exact List.map_inj_right fun x y h => by injection h
/-! ### truths in lists -/
theorem toPs_b (rd : Nat → Option PySem.PyData) (l : List Bool) : toPs rd (l.map .bl) = some (l.map .bool) := by
  induction l with
  | nil => rfl
  | cons k r ih => rw [List.map_cons, toPs, toP, Option.bind_some, ih]; rfl
theorem eqv_bs (a b : List Bool) : PySem.PyData.eqvAll (a.map .bool) (b.map .bool) = decide (a = b) := by
  induction a generalizing b with
  | nil => cases b <;> simp [PySem.PyData.eqvAll]
  | cons x r ih =>
    cases b with
    | nil => simp [PySem.PyData.eqvAll]
    | cons y q =>
      have : (x == y) = decide (x = y) := by cases x <;> cases y <;> rfl
      simp [PySem.PyData.eqvAll, PySem.PyData.eqv, this, ih]
theorem shp_bs (l : List Bool) : shp (.list (l.map .bool)) = true := by
  have h1 : PySem.PyData.canLayAll0 (l.map .bool) = true := by
    induction l with
    | nil => simp [PySem.PyData.canLayAll0]
    | cons k r ih => simp [PySem.PyData.canLayAll0, PySem.PyData.canLay0, ih]
  have h2 : PySem.PyData.depthAll (l.map .bool) = 0 := by
    induction l with
    | nil => simp [PySem.PyData.depthAll]
    | cons k r ih =>
      simp only [List.map_cons, PySem.PyData.canLayAll0, PySem.PyData.canLay0, Bool.true_and] at h1
      simp [PySem.PyData.depthAll, PySem.PyData.depth, ih h1]
  unfold shp PySem.SeqAt.shaped
  simp [PySem.PyData.canLay0, PySem.PyData.depth, h1, h2]
theorem eq_bls {m n : Nat} {A B : List Bool} {S : Store} (ha : lstOf S m = some (A.map D.bl)) (hb : lstOf S n = some (B.map D.bl)) : pyEq (.ref m) (.ref n) S = some (decide (A = B)) := by
  have look : ∀ {n A}, lstOf S n = some (List.map D.bl A) → lookP 8 S n = some (.list (A.map .bool)) := fun {n A} h => by
    unfold lookP
    unfold lstOf at h
    cases hn : S[n]? with
    | none => rw [hn] at h; cases h
    | some o =>
      rw [hn] at h
      cases o with
      | lst l => dsimp only at h ⊢; obtain rfl := Option.some.inj h; rw [toPs_b]; rfl
      | fls l => dsimp only at h ⊢; obtain rfl := Option.some.inj h; rw [toPs_b]; rfl
      | _ => cases h
  unfold pyEq
  have e : scq (.ref m) (.ref n) = none := rfl
  rw [e]
  simp only [pd, toP, look ha, look hb, shp_bs, and_self, if_true]
  unfold PySem.PyData.eqv
  rw [eqv_bs]
theorem in_ints (n : Int) (l : List Int) (S : Store) : inSeq (.int n) (l.map .int) S = some (dec (n ∈ l)) := by
  have q := in_ks (.inl n) (l.map .inl) S
  rw [List.map_map] at q
  have e : dec ((Sum.inl n : Ky) ∈ l.map Sum.inl) = dec (n ∈ l) := by
    congr 1
    simp
  rw [e] at q
  exact q
/-! ### ways -/
/-- number j of a list: a row's, and one that the number ahead leads to -/
def At (rows : List Row) (w : List Int) (j : Nat) : Prop := ∃ n, w[j]? = some n ∧ 0 ≤ n ∧ n < rows.length ∧ (0 < j → ∃ (a : Int) (r : Row), w[j - 1]? = some a ∧ rows[a.toNat]? = some r ∧ n ∈ fol a.toNat r)
def IsWay (rows : List Row) (w : List Int) : Prop := w ≠ [] ∧ ∀ j, j < w.length → At rows w j
def IsEnd (rows : List Row) (w : List Int) : Prop := w[0]? = some 0 ∧ ∃ n : Int, w[w.length - 1]? = some n ∧ rows[n.toNat]? = some .en
theorem Prg.fol_in {l : List Tx} {rows : List Row} (h : Prg l rows) {n : Nat} {r : Row} {m : Int} (e : rows[n]? = some r) (f : m ∈ fol n r) : 0 ≤ m ∧ m < rows.length := by
  have hn := (List.getElem?_eq_some_iff.mp e).1
  have nx : r ≠ .en → n + 1 < rows.length := fun ne => by
    obtain ⟨q, rfl⟩ := h.last
    rcases get_snoc e with z | ⟨_, z⟩
    · have := (List.getElem?_eq_some_iff.mp z).1
      rw [List.length_append, List.length_singleton]; omega
    · exact absurd z ne
  cases r with
  | go t => have := h.go n t e; simp only [fol, List.mem_singleton] at f; omega
  | pt a t =>
    have := h.pt n a t e
    have := nx (by simp)
    simp only [fol, List.mem_cons, List.not_mem_nil, or_false] at f
    rcases f with f | f <;> omega
  | en => cases f
  | rk _ _ _ _ => have := nx (by simp); simp only [fol, List.mem_singleton] at f; omega
  | cp _ _ => have := nx (by simp); simp only [fol, List.mem_singleton] at f; omega
  | sy _ => have := nx (by simp); simp only [fol, List.mem_singleton] at f; omega
theorem IsWay.snoc {l : List Tx} {rows : List Row} {w : List Int} (h : IsWay rows w) (p : Prg l rows) {a m : Int} {r : Row} (ha : w[w.length - 1]? = some a) (hr : rows[a.toNat]? = some r) (f : m ∈ fol a.toNat r) : IsWay rows (w ++ [m]) := by
  have hp : 0 < w.length := List.length_pos_iff.mpr h.1
  refine ⟨by simp, fun j hj => ?_⟩
  rw [List.length_append, List.length_singleton] at hj
  have old : ∀ i, i < w.length → (w ++ [m])[i]? = w[i]? := fun i hi => List.getElem?_append_left hi
  by_cases h1 : j < w.length
  · obtain ⟨n, e, a0, a1, q⟩ := h.2 j h1
    refine ⟨n, by rw [old j h1, e], a0, a1, fun h0 => ?_⟩
    obtain ⟨a, r, z, q⟩ := q h0
    exact ⟨a, r, by rw [old _ (by omega), z], q⟩
  · obtain rfl : j = w.length := by omega
    have := p.fol_in hr f
    exact ⟨m, snoc_eq _ _, this.1, this.2, fun _ => ⟨a, r, by rw [old _ (by omega), ha], hr, f⟩⟩
theorem IsWay.one {rows : List Row} {n : Int} (h : 0 ≤ n ∧ n < rows.length) : IsWay rows [n] := by
  refine ⟨by simp, fun j hj => ?_⟩
  have : j = 0 := by simpa using hj
  subst this
  exact ⟨n, rfl, h.1, h.2, fun z => absurd z (by decide)⟩
theorem at_m1 {α : Type} {l : List α} (h : l ≠ []) : atI l (-1) = l[l.length - 1]? := by
  have hp : 0 < l.length := List.length_pos_iff.mpr h
  unfold atI ixN
  rw [if_neg (by decide), if_pos (by omega), Option.bind_some]
  congr 1
  omega
end Mi

set_option Elab.async false
set_option linter.all false
/-! rows come to from one, each by the first that led to it -/
namespace Mi
/-! ### dict displays by simp -/
@[simp] theorem mDis_one (a b : EM) (fr : Fr) (S : Store) : mDis [(a, b)] fr S = (a fr (S ++ [.dK []])).bind fun x S1 => (b fr S1).bind fun y S2 => disK S.length S2 (kvsM [(x, y)]) S2[S.length]? := by
  show ((a fr (S ++ [.dK []])).bind fun x S1 => (b fr S1).bind fun y S2 => (mPairs [] fr S2).bind fun ps S3 => .ok ((x, y) :: ps) S3).bind _ = _
  rw [Res.bind_assoc]
  congr 1; funext x S1
  rw [Res.bind_assoc]
  congr 1
theorem dis_one (n : Nat) (S : Store) (k : Ky) (v : D) (h : S[n]? = some (.dK [])) : disK n S (kvsM [(kyD k, v)]) S[n]? = .ok (.ref n) (S.set n (.dK [(k, v)])) := by
  rw [h]
  unfold kvsM
  rw [kyOf_kyD]
  rfl
/-! ### what a dict of numbers holds -/
def oD : Option Int → D
  | none => .non
  | some a => .int a
abbrev CM := List (Int × Option Int)
def cmD (cm : CM) : O := .dK (cm.map fun p => (.inl p.1, oD p.2))
theorem cm_get (cm : CM) (x : Int) : dGet (cm.map fun p => ((Sum.inl p.1 : Ky), oD p.2)) (.inl x) = (dGet cm x).map oD := by
  unfold dGet
  induction cm with
  | nil => rfl
  | cons p r ih =>
    by_cases h : p.1 = x
    · subst h; simp
    · have h2 : ¬ ((Sum.inl p.1 : Ky) = Sum.inl x) := fun z => h (Sum.inl.inj z)
      simp [List.find?_cons, h]
      simpa using ih
theorem cm_put (cm : CM) (x : Int) (v : Option Int) (h : dGet cm x = none) : dPut (cm.map fun p => ((Sum.inl p.1 : Ky), oD p.2)) (.inl x) (oD v) = (cm ++ [(x, v)]).map fun p => ((Sum.inl p.1 : Ky), oD p.2) := by
  unfold dPut
  rw [if_neg]
  · simp
  · unfold dGet at h
    simp only [Option.map_eq_none_iff, List.find?_eq_none, decide_eq_true_eq] at h
    simp only [List.any_map, List.any_eq_true, Function.comp, decide_eq_true_eq, not_exists, not_and]
    intro p hp z
    exact h p hp (Sum.inl.inj z)
theorem dGet_some {cm : CM} {x : Int} : (dGet cm x).isSome = true ↔ x ∈ cm.map Prod.fst := by
  unfold dGet
  rw [Option.isSome_map, List.find?_isSome]
  simp
theorem dGet_app {cm : CM} {x m : Int} {v : Option Int} (h : x ∈ cm.map Prod.fst) : dGet (cm ++ [(m, v)]) x = dGet cm x := by
  have := dGet_some.mpr h
  unfold dGet at this ⊢
  rw [List.find?_append]
  rw [Option.isSome_map] at this
  obtain ⟨p, hp⟩ := Option.isSome_iff_exists.mp this
  rw [hp]; rfl
theorem dGet_new {cm : CM} {m : Int} {v : Option Int} (h : m ∉ cm.map Prod.fst) : dGet (cm ++ [(m, v)]) m = some v := by
  unfold dGet
  rw [List.find?_append]
  have : cm.find? (fun kv => decide (kv.1 = m)) = none := by
    rw [List.find?_eq_none]
    intro p hp
    simp only [decide_eq_true_eq]
    intro z
    exact h (List.mem_map.mpr ⟨p, hp, z⟩)
  rw [this]
  simp
/-! ### trees -/
inductive Tree (rows : List Row) (st : Int) : CM → Prop
  | base : 0 ≤ st → st < rows.length → Tree rows st [(st, none)]
  | snoc {cm : CM} {h m : Int} {r : Row} : Tree rows st cm → h ∈ cm.map Prod.fst → m ∉ cm.map Prod.fst → rows[h.toNat]? = some r → m ∈ fol h.toNat r → Tree rows st (cm ++ [(m, some h)])
def Up (cm : CM) : List Int → Prop
  | [] => False
  | [x] => dGet cm x = some none
  | x :: y :: r => dGet cm x = some (some y) ∧ Up cm (y :: r)
theorem Up.keys {cm : CM} : ∀ {w : List Int}, Up cm w → ∀ x ∈ w, x ∈ cm.map Prod.fst
  | [], h, _, _ => h.elim
  | [x], h, y, hy => by
    rw [List.mem_singleton.mp hy]
    exact dGet_some.mp (by rw [show dGet cm x = some none from h]; rfl)
  | x :: y :: r, h, z, hz => by
    rcases List.mem_cons.mp hz with e | e
    · rw [e]; exact dGet_some.mp (by rw [h.1]; rfl)
    · exact Up.keys h.2 z e
theorem Up.mono {cm : CM} {m : Int} {v : Option Int} : ∀ {w : List Int}, Up cm w → Up (cm ++ [(m, v)]) w
  | [], h => h
  | [x], h => by
    show dGet _ x = _
    rw [dGet_app (Up.keys (w := [x]) h x (by simp))]; exact h
  | x :: y :: r, h => ⟨by rw [dGet_app (Up.keys h x (by simp))]; exact h.1, Up.mono h.2⟩
theorem Tree.inr {l : List Tx} {rows : List Row} {st : Int} {cm : CM} (t : Tree rows st cm) (pg : Prg l rows) : ∀ x ∈ cm.map Prod.fst, (0 : Int) ≤ x ∧ x < (rows.length : Int) := by
  induction t with
  | base h0 h1 => intro x hx; rw [List.mem_singleton.mp hx]; exact ⟨h0, h1⟩
  | snoc _ _ _ hr hf ih =>
    intro x hx
    rw [List.map_append] at hx
    rcases List.mem_append.mp hx with z | z
    · exact ih x z
    · rw [List.mem_singleton.mp z]; exact pg.fol_in hr hf
theorem Tree.nodup {rows : List Row} {st : Int} {cm : CM} (t : Tree rows st cm) : (cm.map Prod.fst).Nodup := by
  induction t with
  | base => simp
  | @snoc cm h m r _ _ hm _ _ ih =>
    rw [List.map_append, List.nodup_append]
    refine ⟨ih, by simp, ?_⟩
    intro a ha b hb
    rw [List.mem_singleton.mp hb]
    intro z
    have z : a = m := z
    exact hm (z ▸ ha)
theorem nodup_range : ∀ (n : Nat) (l : List Int), l.Nodup → (∀ x ∈ l, 0 ≤ x ∧ x < n) → l.length ≤ n := by
  intro n
  induction n with
  | zero =>
    intro l _ h
    cases l with
    | nil => simp
    | cons x r => have := h x (by simp); omega
  | succ n ih =>
    intro l nd h
    by_cases hn : (n : Int) ∈ l
    · have h2 := ih (l.erase n) (nd.erase _) (fun x hx => by
        have h3 := h x (List.mem_of_mem_erase hx)
        have h4 : x ≠ n := fun z => by
          subst z
          exact (List.Nodup.not_mem_erase nd) hx
        omega)
      have := List.length_erase_of_mem hn
      have : 0 < l.length := List.length_pos_of_mem hn
      omega
    · have h2 := ih l nd (fun x hx => by
        have h3 := h x hx
        have h4 : x ≠ n := fun z => hn (z ▸ hx)
        omega)
      omega
theorem Tree.len {l : List Tx} {rows : List Row} {st : Int} {cm : CM} (t : Tree rows st cm) (pg : Prg l rows) : cm.length ≤ rows.length := by
  have := nodup_range rows.length _ t.nodup (t.inr pg)
  rwa [List.length_map] at this
/-- the way that a tree tells -/
theorem Tree.way {l : List Tx} {rows : List Row} {st : Int} {cm : CM} (t : Tree rows st cm) (pg : Prg l rows) : ∀ n ∈ cm.map Prod.fst, ∃ w, IsWay rows w ∧ w[0]? = some st ∧ w[w.length - 1]? = some n ∧ w.length ≤ cm.length ∧ Up cm w.reverse := by
  induction t with
  | base h0 h1 =>
    intro n hn
    rw [List.mem_singleton.mp hn]
    refine ⟨[st], IsWay.one ⟨h0, h1⟩, rfl, rfl, Nat.le_refl _, ?_⟩
    show dGet [(st, none)] st = some none
    simp [dGet]
  | @snoc cm h m r t hh hm hr hf ih =>
    intro n hn
    rw [List.map_append] at hn
    rcases List.mem_append.mp hn with z | z
    · obtain ⟨w, a, b, c, d, u⟩ := ih n z
      exact ⟨w, a, b, c, by rw [List.length_append, List.length_singleton]; omega, u.mono⟩
    · rw [List.mem_singleton.mp z]
      obtain ⟨w, a, b, c, d, u⟩ := ih h hh
      have hp : 0 < w.length := List.length_pos_iff.mpr a.1
      refine ⟨w ++ [m], a.snoc pg c hr hf, by rw [List.getElem?_append_left hp]; exact b, by simp, by simp; omega, ?_⟩
      rw [List.reverse_append, List.reverse_singleton]
      have hd : w.reverse[0]? = some h := by
        rw [List.getElem?_reverse hp]; exact c
      have um := u.mono (m := m) (v := some h)
      cases hw : w.reverse with
      | nil => rw [hw] at hd; cases hd
      | cons y q =>
        rw [hw] at hd um
        obtain rfl := Option.some.inj hd
        exact ⟨dGet_new hm, um⟩
/-- what is done, what waits -/
structure Bfs (rows : List Row) (st : Int) (cm : CM) (done wt : List Int) : Prop where
  tree : Tree rows st cm
  ks : cm.map Prod.fst = done ++ wt
  cl : ∀ h ∈ done, ∀ r m, rows[h.toNat]? = some r → m ∈ fol h.toNat r → m ∈ cm.map Prod.fst
theorem Tree.st_in {rows : List Row} {st : Int} {cm : CM} (t : Tree rows st cm) : st ∈ cm.map Prod.fst := by
  induction t with
  | base => simp
  | snoc _ _ _ _ _ ih => rw [List.map_append]; exact List.mem_append_left _ ih
/-- nothing waits: all that is reached from a key is a key -/
theorem Bfs.shut_reach {rows : List Row} {cm : CM} {done : List Int} (b : Bfs rows 0 cm done []) {n : Nat} (h : Reach rows n) : (n : Int) ∈ cm.map Prod.fst := by
  have kd := b.ks
  rw [List.append_nil] at kd
  induction h with
  | zero => exact b.tree.st_in
  | @step i j r _ hr hf ih =>
    rw [kd] at ih
    exact b.cl _ ih r _ (by simpa using hr) (by simpa using hf)
theorem Bfs.shut_ends {rows : List Row} {st : Int} {cm : CM} {done : List Int} (b : Bfs rows st cm done []) (ne : ∀ h ∈ done, rows[h.toNat]? ≠ some .en) {n : Nat} (h : Ends rows n) : (n : Int) ∉ cm.map Prod.fst := by
  have kd := b.ks
  rw [List.append_nil] at kd
  induction h with
  | en e => intro z; rw [kd] at z; exact ne _ z (by simpa using e)
  | @step i j r hr hf _ ih =>
    intro z
    rw [kd] at z
    exact ih (b.cl _ z r _ (by simpa using hr) (by simpa using hf))
@[simp] theorem oD_n : oD none = .non := rfl
@[simp] theorem oD_s (a : Int) : oD (some a) = .int a := rfl
theorem cm_put' {cm : CM} {x v : Int} (h : x ∉ cm.map Prod.fst) : dPut (cm.map fun p => ((Sum.inl p.1 : Ky), oD p.2)) (.inl x) (.int v) = (cm ++ [(x, some v)]).map fun p => ((Sum.inl p.1 : Ky), oD p.2) := by
  have : dGet cm x = none := by
    cases e : dGet cm x with
    | none => rfl
    | some y => exact absurd (dGet_some.mp (by rw [e]; rfl)) h
  exact cm_put cm x (some v) this
theorem cm_none {cm : CM} {x : Int} (h : x ∉ cm.map Prod.fst) : dGet cm x = none := by
  cases e : dGet cm x with
  | none => rfl
  | some y => exact absurd (dGet_some.mp (by rw [e]; rfl)) h
end Mi

set_option Elab.async false
set_option linter.all false
/-! what a check of a program finds -/
namespace Mi
abbrev LTS : Tx := [97, 98, 99, 100, 101, 102, 103, 104, 105, 106, 107, 108, 109, 110, 111, 112, 113, 114, 115, 116, 117, 118, 119, 120, 121, 122]
abbrev FG : Tx := [48, 49, 50, 51, 52, 53, 54, 55, 56, 57]
theorem sg_or {c : Nat} (h : c ∈ SG) : c ∈ LTS ∨ c ∈ FG := by
  have : ∀ c ∈ SG, c ∈ LTS ∨ c ∈ FG := by decide
  exact this c h
theorem lt_of {c : Nat} (h : 97 ≤ c ∧ c ≤ 122) : c ∈ LTS := by
  have : ∀ k : Nat, k < 26 → 97 + k ∈ LTS := by decide
  have q := this (c - 97) (by omega)
  rwa [show 97 + (c - 97) = c by omega] at q
theorem snoc_or {α : Type} (l : List α) : l = [] ∨ ∃ q a, l = q ++ [a] := by
  induction l with
  | nil => exact .inl rfl
  | cons x r ih =>
    right
    rcases ih with h | ⟨q, a, h⟩
    · exact ⟨[], x, by rw [h]; rfl⟩
    · exact ⟨x :: q, a, by rw [h]; rfl⟩
/-! ### dicts that keep what was found -/
def bmD (ks : List Int) : O := .dK (ks.map fun x => ((Sum.inl x : Ky), D.bl true))
theorem bm_get (ks : List Int) (x : Int) : (dGet (ks.map fun x => ((Sum.inl x : Ky), D.bl true)) (.inl x)).isSome = dec (x ∈ ks) := by
  by_cases h : x ∈ ks
  · rw [dec_true h]
    unfold dGet
    rw [Option.isSome_map, List.find?_isSome]
    exact ⟨(.inl x, .bl true), List.mem_map.mpr ⟨x, h, rfl⟩, by simp⟩
  · rw [dec_false h]
    unfold dGet
    have : (ks.map fun x => ((Sum.inl x : Ky), D.bl true)).find? (fun kv => decide (kv.1 = .inl x)) = none := by
      rw [List.find?_eq_none]
      intro p hp
      obtain ⟨y, hy, rfl⟩ := List.mem_map.mp hp
      simp only [decide_eq_true_eq]
      intro z
      exact h (Sum.inl.inj z ▸ hy)
    rw [this]; rfl
theorem bm_put {ks : List Int} {x : Int} (h : x ∉ ks) : dPut (ks.map fun x => ((Sum.inl x : Ky), D.bl true)) (.inl x) (.bl true) = (ks ++ [x]).map fun x => ((Sum.inl x : Ky), D.bl true) := by
  unfold dPut
  rw [if_neg]
  · simp
  · simp only [List.any_map, List.any_eq_true, Function.comp, decide_eq_true_eq, not_exists, not_and]
    intro p hp z
    exact h (Sum.inl.inj z ▸ hp)
structure Ks (rows : List Row) (ks : List Int) : Prop where
  nd : ks.Nodup
  rg : ∀ x ∈ ks, (0 : Int) ≤ x ∧ x < (rows.length : Int)
theorem Ks.len {rows : List Row} {ks : List Int} (h : Ks rows ks) : ks.length ≤ rows.length := nodup_range _ _ h.nd h.rg
theorem Ks.snoc {rows : List Row} {ks : List Int} (h : Ks rows ks) {x : Int} (hx : x ∉ ks) (hr : 0 ≤ x ∧ x < (rows.length : Int)) : Ks rows (ks ++ [x]) := by
  refine ⟨?_, ?_⟩
  · rw [List.nodup_append]
    refine ⟨h.nd, by simp, ?_⟩
    intro a ha b hb
    rw [List.mem_singleton.mp hb]
    intro z
    exact hx (z ▸ ha)
  · intro y hy
    rcases List.mem_append.mp hy with z | z
    · exact h.rg y z
    · rw [List.mem_singleton.mp z]; exact hr
structure Dfs (rows : List Row) (ks wt : List Int) : Prop extends Ks rows ks where
  zero : (0 : Int) ∈ ks
  sub : ∀ x ∈ wt, x ∈ ks
  cl : ∀ h ∈ ks, h ∈ wt ∨ ∀ r m, rows[h.toNat]? = some r → m ∈ fol h.toNat r → m ∈ ks
theorem Dfs.all {rows : List Row} {ks : List Int} (h : Dfs rows ks []) {n : Nat} (r : Reach rows n) : (n : Int) ∈ ks := by
  induction r with
  | zero => exact h.zero
  | @step i j r _ hr hf ih =>
    rcases h.cl _ ih with z | z
    · cases z
    · exact z r _ (by simpa using hr) (by simpa using hf)
/-- nothing more leads to an end -/
def Closed (rows : List Row) (ks : List Int) : Prop := ∀ (n : Nat) (r : Row), rows[n]? = some r → (n : Int) ∈ ks ∨ (r ≠ .en ∧ ∀ m ∈ fol n r, m ∉ ks)
theorem Closed.all {rows : List Row} {ks : List Int} (h : Closed rows ks) {n : Nat} (e : Ends rows n) : (n : Int) ∈ ks := by
  induction e with
  | @en n hr =>
    rcases h n _ hr with z | z
    · exact z
    · exact absurd rfl z.1
  | @step i j r hr hf _ ih =>
    rcases h j r hr with z | z
    · exact z
    · exact absurd ih (z.2 _ hf)
end Mi

set_option Elab.async false
set_option linter.all false
/-! texts cut into lines, lines into words -/
namespace Mi
theorem spC_acc (c : Nat) : ∀ (l acc : Tx), spC c acc l = (acc ++ (spC c [] l).headD []) :: (spC c [] l).tail
  | [], acc => by simp [spC]
  | d :: r, acc => by
    by_cases h : d = c
    · simp [spC, h]
    · rw [spC, if_neg h, spC_acc c r (acc ++ [d]), spC, if_neg h, spC_acc c r ([] ++ [d])]
      simp
theorem spC_ne (c : Nat) (l acc : Tx) : spC c acc l ≠ [] := by rw [spC_acc]; simp
theorem spC_app (c : Nat) (y : Tx) : ∀ (x acc : Tx), spC c acc (x ++ c :: y) = spC c acc x ++ spC c [] y
  | [], acc => by simp [spC]
  | d :: r, acc => by
    by_cases h : d = c
    · rw [List.cons_append, spC, if_pos h, spC, if_pos h, spC_app c y r []]; rfl
    · rw [List.cons_append, spC, if_neg h, spC, if_neg h, spC_app c y r _]
theorem spC_free {c : Nat} : ∀ {l : Tx} (acc : Tx), c ∉ l → spC c acc l = [acc ++ l]
  | [], acc, _ => by simp [spC]
  | d :: r, acc, h => by
    have h1 : d ≠ c := fun e => h (by rw [e]; simp)
    rw [spC, if_neg h1, spC_free (acc ++ [d]) fun e => h (List.mem_cons_of_mem _ e)]
    simp
/-- the words of a line -/
def wf (u : Tx) : List Tx := (spC 32 [] u).filter fun w => decide (w ≠ [])
theorem wf_app (x y : Tx) : wf (x ++ 32 :: y) = wf x ++ wf y := by
  unfold wf
  rw [spC_app, List.filter_append]
@[simp] theorem wf_nil : wf [] = [] := rfl
theorem wf_word {w : Tx} (h : 32 ∉ w) (hn : w ≠ []) : wf w = [w] := by
  unfold wf
  rw [spC_free [] h]
  simp [hn]
theorem wf_sp (k : Nat) (y : Tx) : wf (List.replicate k 32 ++ y) = wf y := by
  induction k with
  | zero => rfl
  | succ k ih =>
    rw [List.replicate_succ, List.cons_append]
    have := wf_app [] (List.replicate k 32 ++ y)
    rw [List.nil_append] at this
    rw [this, ih]; rfl
theorem wf_wsp {w : Tx} (h : 32 ∉ w) (hn : w ≠ []) (k : Nat) (y : Tx) : wf (w ++ (List.replicate (k + 1) 32 ++ y)) = w :: wf y := by
  rw [List.replicate_succ, List.cons_append, wf_app, wf_sp, wf_word h hn]; rfl
theorem wf_last {w : Tx} (h : 32 ∉ w) (hn : w ≠ []) (k : Nat) : wf (w ++ List.replicate k 32) = [w] := by
  cases k with
  | zero => rw [List.replicate_zero, List.append_nil]; exact wf_word h hn
  | succ k =>
    have := wf_wsp h hn k []
    rw [List.append_nil] at this
    exact this
/-- what stands before the first # -/
def bef (t : Tx) : Tx := match paC 35 [] t with
  | some (x, _) => x
  | none => t
theorem paC_free {c : Nat} (y : Tx) : ∀ (x acc : Tx), c ∉ x → paC c acc (x ++ c :: y) = some (acc ++ x, y)
  | [], acc, _ => by simp [paC]
  | d :: r, acc, h => by
    have h1 : d ≠ c := fun e => h (by rw [e]; simp)
    rw [List.cons_append, paC, if_neg h1, paC_free y r (acc ++ [d]) fun e => h (List.mem_cons_of_mem _ e)]
    simp
theorem paC_none {c : Nat} : ∀ (x acc : Tx), c ∉ x → paC c acc x = none
  | [], acc, _ => rfl
  | d :: r, acc, h => by
    have h1 : d ≠ c := fun e => h (by rw [e]; simp)
    rw [paC, if_neg h1]
    exact paC_none r _ fun e => h (List.mem_cons_of_mem _ e)
theorem bef_free {x : Tx} (h : 35 ∉ x) : bef x = x := by unfold bef; rw [paC_none x [] h]
theorem bef_app {x : Tx} (y : Tx) (h : 35 ∉ x) : bef (x ++ 35 :: y) = x := by
  unfold bef
  rw [paC_free y x [] h]; rfl
def rdl (t : Tx) : List Tx := wf (bef t)
/-- what is read of a text: the words of each line that has some -/
def rdT (t : Tx) : List (List Tx) := ((spC 10 [] t).map rdl).filter fun w => decide (w ≠ [])
theorem rdT_app (x y : Tx) : rdT (x ++ 10 :: y) = rdT x ++ rdT y := by
  unfold rdT
  rw [spC_app, List.map_append, List.filter_append]
theorem rdT_line {t : Tx} (h : 10 ∉ t) (hn : rdl t ≠ []) : rdT t = [rdl t] := by
  unfold rdT
  rw [spC_free [] h]
  simp [hn]
@[simp] theorem rdT_nil : rdT [] = [] := rfl
theorem rdT_join : ∀ (ts : List Tx), rdT (joinT [10] ts) = ts.flatMap rdT
  | [] => rfl
  | [x] => by simp [joinT]
  | x :: y :: r => by
    rw [joinT, List.append_assoc, List.singleton_append, rdT_app, rdT_join (y :: r)]
    simp [List.flatMap_cons]
/-! ### figures -/
theorem num_dig (n : Nat) : (numT n).all isDig = true := by
  rw [List.all_eq_true]
  intro c hc
  have := TL.numL_digits n c hc
  simp [isDig, this]
theorem num_ne (n : Nat) : numT n ≠ [] := TL.numL_ne n
theorem num_val (n : Nat) : digV (numT n) = n := TL.numL_val n
theorem num_len {n k : Nat} (hk : 0 < k) (h : n < 10 ^ k) : (numT n).length ≤ k := TL.numL_len hk h
theorem num_free {n s : Nat} (h : s < 48 ∨ 57 < s) : s ∉ numT n := TL.numL_free h
theorem num_head : ∀ (n : Nat), (numT n)[0]? = some 48 → numT n = [48] := by
  intro n
  induction n using Nat.strongRecOn with
  | _ n ih =>
    by_cases h : n < 10
    · have e : numT n = [48 + n] := TL.numL_lt h
      rw [e]
      intro z
      simpa using z
    · have e : numT n = numT (n / 10) ++ [48 + n % 10] := TL.numL_step (by omega)
      intro z
      rw [e, List.getElem?_append_left (List.length_pos_iff.mpr (num_ne _))] at z
      have q := ih (n / 10) (by omega) z
      have v := num_val (n / 10)
      rw [q] at v
      have : digV [48] = 0 := rfl
      omega
/-! ### the words of a row -/
def stK' : Ky → Tx
  | .inl i => numT i.toNat
  | .inr t => t
def wrds : Row → List Tx
  | .rk n s a b => [n, [61], stK' a, s, stK' b]
  | .cp n a => [n, [61], stK' a]
  | .sy a => [w_sy, stK' a]
  | .go t => [w_go, numT t.toNat]
  | .pt a t => [w_pt, stK' a, numT t.toNat]
  | .en => [w_en]
/-- a word that stands in a line as it is -/
structure Wd (w : Tx) : Prop where
  ne : w ≠ []
  s : 32 ∉ w
  h : 35 ∉ w
  n : 10 ∉ w
  l : w.length ≤ 30
theorem Nm.wd {t : Tx} (h : Nm t) : Wd t := by
  have no : ∀ c, c ∉ SG → c ∉ t := fun c hc hm => hc (h.all c hm)
  refine ⟨?_, no 32 (by decide), no 35 (by decide), no 10 (by decide), by have := h.hi; omega⟩
  intro z
  have := h.lo
  rw [z] at this
  simp at this
theorem num_wd {n : Nat} (h : n < 10 ^ 25) : Wd (numT n) := ⟨num_ne n, num_free (by omega), num_free (by omega), num_free (by omega), by have := num_len (n := n) (k := 25) (by decide) h; omega⟩
theorem Opd.wd {l : List Tx} {k : Ky} (h : Opd l k) (hl : ∀ t ∈ l, Nm t) : Wd (stK' k) := by
  rcases h with ⟨t, ht, rfl⟩ | ⟨w, rfl, h0, h1⟩
  · exact (hl t ht).wd
  · exact num_wd (n := w.toNat) (by
      have : w.toNat < 18446744073709551616 := by omega
      exact Nat.lt_of_lt_of_le this (by decide))
/-- a row whose line can be read -/
structure Rdb (l : List Tx) (r : Row) : Prop where
  nm : RowN l r
  go : ∀ t, r = .go t → 0 ≤ t ∧ t < 10 ^ 25
  pt : ∀ a t, r = .pt a t → 0 ≤ t ∧ t < 10 ^ 25
theorem Rdb.wd {l : List Tx} {r : Row} (h : Rdb l r) (hl : ∀ t ∈ l, Nm t) : ∀ w ∈ wrds r, Wd w := by
  have kw : ∀ w ∈ [w_sy, w_go, w_pt, w_en, ([61] : Tx)], Wd w := by
    intro w hw
    simp only [List.mem_cons, List.not_mem_nil, or_false] at hw
    rcases hw with rfl | rfl | rfl | rfl | rfl <;> exact ⟨by decide, by decide, by decide, by decide, by decide⟩
  have nn := h.nm
  intro w hw
  cases r with
  | rk n s a b =>
    obtain ⟨h1, h2⟩ := nn
    obtain ⟨c, hc, e⟩ := h2.s1
    have e : s = [c] := by injection e
    subst e
    simp only [wrds, List.mem_cons, List.not_mem_nil, or_false] at hw
    rcases hw with rfl | rfl | rfl | rfl | rfl
    · exact (hl _ h1).wd
    · exact kw _ (by simp)
    · exact h2.a1.wd hl
    · have : ∀ c ∈ S8, c ≠ 32 ∧ c ≠ 35 ∧ c ≠ 10 := by decide
      obtain ⟨q1, q2, q3⟩ := this c hc
      exact ⟨by simp, by simpa using fun z => q1 z.symm, by simpa using fun z => q2 z.symm, by simpa using fun z => q3 z.symm, by simp⟩
    · exact h2.b1.wd hl
  | cp n a =>
    simp only [wrds, List.mem_cons, List.not_mem_nil, or_false] at hw
    rcases hw with rfl | rfl | rfl
    · exact (hl _ nn.1).wd
    · exact kw _ (by simp)
    · exact Opd.wd nn.2 hl
  | sy a =>
    simp only [wrds, List.mem_cons, List.not_mem_nil, or_false] at hw
    rcases hw with rfl | rfl
    · exact kw _ (by simp)
    · exact Opd.wd nn hl
  | go t =>
    simp only [wrds, List.mem_cons, List.not_mem_nil, or_false] at hw
    rcases hw with rfl | rfl
    · exact kw _ (by simp)
    · have := h.go t rfl; exact num_wd (by omega)
  | pt a t =>
    simp only [wrds, List.mem_cons, List.not_mem_nil, or_false] at hw
    rcases hw with rfl | rfl | rfl
    · exact kw _ (by simp)
    · exact Opd.wd nn hl
    · have := h.pt a t rfl; exact num_wd (by omega)
  | en =>
    simp only [wrds, List.mem_cons, List.not_mem_nil, or_false] at hw
    rw [hw]; exact kw _ (by simp)
/-- a line of words with single blanks -/
theorem wf_join : ∀ (ws : List Tx), (∀ w ∈ ws, Wd w) → wf (joinT [32] ws) = ws
  | [], _ => rfl
  | [w], h => by rw [joinT]; exact wf_word (h w (by simp)).s (h w (by simp)).ne
  | w :: v :: r, h => by
    rw [joinT, List.append_assoc, List.singleton_append, wf_app, wf_word (h w (by simp)).s (h w (by simp)).ne, wf_join (v :: r) fun x hx => h x (List.mem_cons_of_mem _ hx)]
    rfl
theorem join_free {c s : Nat} (hs : c ≠ s) : ∀ (ws : List Tx), (∀ w ∈ ws, c ∉ w) → c ∉ joinT [s] ws
  | [], _ => by simp [joinT]
  | [w], h => by rw [joinT]; exact h w (by simp)
  | w :: v :: r, h => by
    rw [joinT, List.mem_append, List.mem_append, List.mem_singleton]
    rintro ((z | z) | z)
    · exact h w (by simp) z
    · exact hs z
    · exact join_free hs (v :: r) (fun x hx => h x (List.mem_cons_of_mem _ hx)) z
theorem wrds_ne (r : Row) : wrds r ≠ [] := by cases r <;> simp [wrds]
theorem rdT_row {l : List Tx} {r : Row} (h : Rdb l r) (hl : ∀ t ∈ l, Nm t) : rdT (joinT [32] (wrds r)) = [wrds r] := by
  have wd := h.wd hl
  have e : rdl (joinT [32] (wrds r)) = wrds r := by
    unfold rdl
    rw [bef_free (join_free (by decide) _ fun w hw => (wd w hw).h), wf_join _ wd]
  rw [rdT_line (join_free (by decide) _ fun w hw => (wd w hw).n) (by rw [e]; exact wrds_ne r), e]
theorem RowN.k {l : List Tx} {r : Row} (h : RowN l r) (hl : ∀ t ∈ l, Nm t) : r.ks.all kOk = true := by
  cases r with
  | rk n s a b =>
    obtain ⟨h1, h2⟩ := h
    obtain ⟨c, hc, e⟩ := h2.s1
    have hs : kOk (.inr s) = true := by
      rw [e]
      have : ∀ c ∈ S8, kOk (.inr [c]) = true := by decide
      exact this c hc
    simp only [Row.ks, List.all_cons, List.all_nil, (hl _ h1).ok, hs, h2.a1.ok hl, h2.b1.ok hl]
    rfl
  | cp n a => simp only [Row.ks, List.all_cons, List.all_nil, (hl _ h.1).ok, Opd.ok h.2 hl]; rfl
  | sy a => simp only [Row.ks, List.all_cons, List.all_nil, Opd.ok h hl]; rfl
  | go t => rfl
  | pt a t => simp only [Row.ks, List.all_cons, List.all_nil, Opd.ok h hl]; rfl
  | en => rfl
end Mi

set_option Elab.async false
set_option linter.all false
set_option maxHeartbeats 1000000
/-! sets as bits; reckonings of rows; places; dicts by places -/
namespace Mi
/-! ### bits -/
def bitsOf (p : Nat → Bool) : Nat → Nat
  | 0 => 0
  | m + 1 => bitsOf p m + if p m then 2 ^ m else 0
theorem bits_lt (p : Nat → Bool) : ∀ m, bitsOf p m < 2 ^ m
  | 0 => by simp [bitsOf]
  | m + 1 => by
    have := bits_lt p m
    unfold bitsOf
    rw [Nat.pow_succ]
    split <;> omega
theorem bits_test (p : Nat → Bool) : ∀ m k, (bitsOf p m).testBit k = (decide (k < m) && p k)
  | 0, k => by simp [bitsOf]
  | m + 1, k => by
    have lt := bits_lt p m
    have ih := bits_test p m k
    unfold bitsOf
    cases hp : p m with
    | true =>
      have e : bitsOf p m + 2 ^ m = 2 ^ m * 1 + bitsOf p m := by omega
      simp only [if_true]
      rw [e]
      by_cases hk : k < m
      · rw [Nat.testBit_two_pow_mul_add 1 lt k, if_pos hk, ih]
        simp [hk, show k < m + 1 by omega]
      · rw [Nat.testBit_two_pow_mul_add 1 lt k, if_neg hk]
        by_cases h2 : k = m
        · subst h2
          simp [hp]
        · have : k - m ≠ 0 := by omega
          have h3 : ¬ k < m + 1 := by omega
          simp [h3]
          have e1 := Nat.testBit_two_pow_of_ne (n := 0) (m := k - m) (by omega)
          simpa using e1
    | false =>
      simp only [Bool.false_eq_true, if_false, Nat.add_zero]
      rw [ih]
      by_cases h2 : k = m
      · subst h2; simp [hp]
      · by_cases hk : k < m
        · simp [hk, show k < m + 1 by omega]
        · simp [hk, show ¬ k < m + 1 by omega]
theorem bits_congr {p q : Nat → Bool} : ∀ {m}, (∀ k, k < m → p k = q k) → bitsOf p m = bitsOf q m
  | 0, _ => rfl
  | m + 1, h => by
    unfold bitsOf
    rw [bits_congr fun k hk => h k (by omega), h m (by omega)]
theorem bits_inj {p q : Nat → Bool} {m : Nat} (h : bitsOf p m = bitsOf q m) : ∀ k, k < m → p k = q k := fun k hk => by
  have e := congrArg (fun x => x.testBit k) h
  simpa [bits_test, hk] using e
theorem bits_eq {p : Nat → Bool} {m n : Nat} (h : ∀ k, n.testBit k = (decide (k < m) && p k)) : n = bitsOf p m := by
  apply Nat.eq_of_testBit_eq
  intro k
  rw [h, bits_test]
theorem bits_and (p q : Nat → Bool) (m : Nat) : bitsOf p m &&& bitsOf q m = bitsOf (fun k => p k && q k) m := bits_eq fun k => by
  rw [Nat.testBit_and, bits_test, bits_test]
  cases decide (k < m) <;> simp
theorem bits_or (p q : Nat → Bool) (m : Nat) : bitsOf p m ||| bitsOf q m = bitsOf (fun k => p k || q k) m := bits_eq fun k => by
  rw [Nat.testBit_or, bits_test, bits_test]
  cases decide (k < m) <;> simp
theorem bits_xor (p q : Nat → Bool) (m : Nat) : bitsOf p m ^^^ bitsOf q m = bitsOf (fun k => p k ^^ q k) m := bits_eq fun k => by
  rw [Nat.testBit_xor, bits_test, bits_test]
  cases decide (k < m) <;> simp
theorem bits_all : ∀ m, bitsOf (fun _ => true) m = 2 ^ m - 1
  | 0 => rfl
  | m + 1 => by
    unfold bitsOf
    rw [bits_all m]
    have := Nat.one_le_two_pow (n := m)
    simp only [if_true]
    rw [Nat.pow_succ]
    omega
theorem bits_none : ∀ m, bitsOf (fun _ => false) m = 0
  | 0 => rfl
  | m + 1 => by unfold bitsOf; rw [bits_none m]; rfl
theorem bits_one {m i : Nat} (h : i < m) : 2 ^ i = bitsOf (fun k => decide (k = i)) m := bits_eq fun k => by
  rw [Nat.testBit_two_pow]
  by_cases e : i = k
  · subst e; simp [h]
  · have : ¬ k = i := fun z => e z.symm
    simp [e, this]
theorem bits_le {p q : Nat → Bool} : ∀ {m}, (∀ k, k < m → p k = true → q k = true) → bitsOf p m ≤ bitsOf q m
  | 0, _ => Nat.le_refl _
  | m + 1, h => by
    have ih := bits_le (m := m) fun k hk => h k (by omega)
    unfold bitsOf
    by_cases hp : p m = true
    · rw [if_pos hp, if_pos (h m (by omega) hp)]; omega
    · rw [if_neg hp]; omega
theorem bits_shr (p : Nat → Bool) (m k : Nat) : bitsOf p m / 2 ^ k % 2 = if (decide (k < m) && p k) = true then 1 else 0 := by
  have e := bits_test p m k
  rw [← e, Nat.testBit_eq_decide_div_mod_eq]
  have := Nat.mod_two_eq_zero_or_one (bitsOf p m / 2 ^ k)
  rcases this with h | h <;> simp [h]
/-- 1 << k -/
theorem shl_1 (k : Nat) (hk : k ≤ 1000000) (S : Store) : oShl (.int 1) (.int k) S = .ok (.int ((2 ^ k : Nat) : Int)) S := by
  have h : powOk 1 (k : Int) := by unfold powOk; refine ⟨by omega, by omega, by decide⟩
  rw [oShl_i, if_pos h]
  simp
/-- (x >> k) & 1 -/
theorem shr_bit (p : Nat → Bool) (m k : Nat) (S : Store) : oShr (.int ((bitsOf p m : Nat) : Int)) (.int k) S = .ok (.int ((bitsOf p m / 2 ^ k : Nat) : Int)) S := by
  rw [oShr_i, if_pos (by omega)]
  simp
theorem and_one (n : Nat) (S : Store) : oAnd (.int (n : Int)) (.int 1) S = .ok (.int ((n % 2 : Nat) : Int)) S := by
  rw [oAnd_i, if_pos ⟨by omega, by omega⟩]
  congr 3
  rw [Int.toNat_natCast, show (1 : Int).toNat = 1 from rfl, Nat.and_one_is_mod]
/-! ### reckonings -/
noncomputable def recs (rows : List Row) : List (List Ky) := rows.foldl addK []
theorem addK_nd {acc : List (List Ky)} {r : Row} (h : acc.Nodup) : (addK acc r).Nodup := by
  unfold addK
  split
  · rename_i k _
    by_cases hk : k ∈ acc
    · rw [if_pos (dec_true hk)]; exact h
    · rw [if_neg (by rw [dec_false hk]; exact Bool.false_ne_true), List.nodup_append]
      refine ⟨h, by simp, ?_⟩
      intro a ha b hb
      rw [List.mem_singleton.mp hb]
      intro z
      exact hk (z ▸ ha)
  · exact h
theorem recs_nd (rows : List Row) : (recs rows).Nodup := by
  unfold recs
  have : ∀ (l : List Row) (acc : List (List Ky)), acc.Nodup → (l.foldl addK acc).Nodup := by
    intro l
    induction l with
    | nil => exact fun _ h => h
    | cons r q ih => exact fun acc h => ih _ (addK_nd h)
  exact this rows [] List.nodup_nil
theorem addK_mem {acc : List (List Ky)} {r : Row} {k : List Ky} : k ∈ addK acc r ↔ k ∈ acc ∨ r.rkg = some k := by
  unfold addK
  cases h : r.rkg with
  | none => simp
  | some x =>
    dsimp only
    by_cases hk : x ∈ acc
    · rw [if_pos (dec_true hk)]
      constructor
      · exact fun z => .inl z
      · rintro (z | z)
        · exact z
        · obtain rfl := Option.some.inj z; exact hk
    · rw [if_neg (by rw [dec_false hk]; exact Bool.false_ne_true), List.mem_append, List.mem_singleton]
      constructor
      · rintro (z | z)
        · exact .inl z
        · exact .inr (by rw [z])
      · rintro (z | z)
        · exact .inl z
        · exact .inr (Option.some.inj z).symm
theorem recs_mem {rows : List Row} {k : List Ky} : k ∈ recs rows ↔ ∃ r ∈ rows, r.rkg = some k := by
  unfold recs
  have : ∀ (l : List Row) (acc : List (List Ky)), k ∈ l.foldl addK acc ↔ k ∈ acc ∨ ∃ r ∈ l, r.rkg = some k := by
    intro l
    induction l with
    | nil => intro acc; simp
    | cons r q ih =>
      intro acc
      rw [List.foldl_cons, ih, addK_mem]
      simp only [List.mem_cons, exists_eq_or_imp]
      constructor
      · rintro ((z | z) | z)
        · exact .inl z
        · exact .inr (.inl z)
        · exact .inr (.inr z)
      · rintro (z | z | z)
        · exact .inl (.inl z)
        · exact .inl (.inr z)
        · exact .inr z
  rw [this]; simp
theorem recs_snoc (q : List Row) (r : Row) : recs (q ++ [r]) = addK (recs q) r := by
  unfold recs
  rw [List.foldl_append]; rfl
theorem addK_len (acc : List (List Ky)) (r : Row) : (addK acc r).length ≤ acc.length + 1 := by
  unfold addK
  split
  · split
    · omega
    · simp
  · omega
theorem recs_len (rows : List Row) : (recs rows).length ≤ rows.length := by
  unfold recs
  have : ∀ (l : List Row) (acc : List (List Ky)), (l.foldl addK acc).length ≤ acc.length + l.length := by
    intro l
    induction l with
    | nil => intro acc; simp
    | cons r q ih =>
      intro acc
      have h1 := ih (addK acc r)
      have h2 := addK_len acc r
      rw [List.foldl_cons, List.length_cons]
      omega
  have := this rows []
  simpa using this
/-- the name that a row sets -/
def Row.set : Row → Option Tx
  | .rk n _ _ _ => some n
  | .cp n _ => some n
  | _ => none
/-- whether a row changes a reckoning -/
noncomputable def chg (r : Row) (k : List Ky) : Bool := match r.set with
  | some n => dec ((.inr n : Ky) ∈ k.drop 1)
  | none => false
noncomputable def hasK (r : Row) (k : List Ky) : Bool := dec (r.rkg = some k)
/-- numbers of reckonings -/
def numK : Nat → List (List Ky) → List (List Ky × D)
  | _, [] => []
  | i, k :: r => (k, .int (i : Nat)) :: numK (i + 1) r
theorem numK_len : ∀ (i : Nat) (L : List (List Ky)), (numK i L).length = L.length
  | _, [] => rfl
  | i, k :: r => by rw [numK, List.length_cons, List.length_cons, numK_len]
theorem numK_keys : ∀ (i : Nat) (L : List (List Ky)), (numK i L).map (·.1) = L
  | _, [] => rfl
  | i, k :: r => by rw [numK, List.map_cons, numK_keys]
theorem numK_snoc : ∀ (i : Nat) (L : List (List Ky)) (k : List Ky), numK i (L ++ [k]) = numK i L ++ [(k, .int ((i + L.length : Nat) : Int))]
  | i, [], k => rfl
  | i, x :: r, k => by
    rw [List.cons_append, numK, numK_snoc (i + 1) r k, numK, List.cons_append, List.length_cons]
    congr 5
    omega
theorem numK_put {i : Nat} {L : List (List Ky)} {k : List Ky} (h : k ∉ L) (v : D) : dPut (numK i L) k v = numK i L ++ [(k, v)] := by
  unfold dPut
  rw [if_neg]
  simp only [List.any_eq_true, decide_eq_true_eq, not_exists, not_and]
  intro p hp z
  have : p.1 ∈ (numK i L).map (·.1) := List.mem_map.mpr ⟨p, hp, rfl⟩
  rw [numK_keys] at this
  exact h (z ▸ this)
theorem numK_get : ∀ (i : Nat) {L : List (List Ky)} {k : List Ky} {j : Nat}, L.Nodup → L[j]? = some k → dGet (numK i L) k = some (.int ((i + j : Nat) : Int))
  | i, [], k, j, _, e => by cases e
  | i, x :: r, k, 0, _, e => by
    obtain rfl := Option.some.inj e
    simp [numK, dGet]
  | i, x :: r, k, j + 1, nd, e => by
    have hx : ¬ x = k := fun z => by
      subst z
      exact (List.nodup_cons.mp nd).1 (List.mem_of_getElem? (i := j) (by simpa using e))
    have ih := numK_get (i + 1) (List.nodup_cons.mp nd).2 (j := j) (by simpa using e)
    unfold dGet at ih ⊢
    rw [numK, List.find?_cons]
    simp only [hx, decide_false]
    rw [ih]
    congr 3
    omega
/-! ### places -/
def pk (p : Int × Int) : List Ky := [.inl p.1, .inl p.2]
theorem pk_inj {p q : Int × Int} (h : pk p = pk q) : p = q := by
  obtain ⟨a, b⟩ := p
  obtain ⟨c, d⟩ := q
  simp [pk] at h
  rw [h.1, h.2]
theorem pk_ok (p : Int × Int) : (pk p).all kOk = true := rfl
def plcFrom : Nat → List Row → List (Int × Int)
  | _, [] => []
  | n, r :: q => (fol n r).map (fun m => ((n : Int), m)) ++ plcFrom (n + 1) q
def plc (rows : List Row) : List (Int × Int) := (-1, 0) :: plcFrom 0 rows
theorem plcFrom_snoc : ∀ (n : Nat) (q : List Row) (r : Row), plcFrom n (q ++ [r]) = plcFrom n q ++ (fol (n + q.length) r).map (fun m => (((n + q.length : Nat) : Int), m))
  | n, [], r => by simp [plcFrom]
  | n, x :: q, r => by
    rw [List.cons_append, plcFrom, plcFrom_snoc (n + 1) q r, plcFrom, List.append_assoc, List.length_cons]
    rw [show n + 1 + q.length = n + (q.length + 1) by omega]
theorem fol_len (n : Nat) (r : Row) : (fol n r).length ≤ 2 := by cases r <;> simp [fol]
theorem plcFrom_len : ∀ (n : Nat) (q : List Row), (plcFrom n q).length ≤ 2 * q.length
  | n, [] => by simp [plcFrom]
  | n, x :: q => by
    have := plcFrom_len (n + 1) q
    have := fol_len n x
    rw [plcFrom, List.length_append, List.length_map, List.length_cons]
    omega
theorem plc_len (rows : List Row) : (plc rows).length ≤ 2 * rows.length + 1 := by
  have := plcFrom_len 0 rows
  rw [plc, List.length_cons]; omega
theorem plcFrom_mem : ∀ (n : Nat) (q : List Row) (a b : Int), (a, b) ∈ plcFrom n q ↔ ∃ (i : Nat) (r : Row), q[i]? = some r ∧ a = ((n + i : Nat) : Int) ∧ b ∈ fol (n + i) r
  | n, [], a, b => by simp [plcFrom]
  | n, x :: q, a, b => by
    rw [plcFrom, List.mem_append, List.mem_map, plcFrom_mem (n + 1) q a b]
    constructor
    · rintro (⟨m, hm, e⟩ | ⟨i, r, e, h1, h2⟩)
      · injection e with e1 e2
        subst e2
        exact ⟨0, x, rfl, e1.symm, hm⟩
      · exact ⟨i + 1, r, by simpa using e, by rw [h1, show n + 1 + i = n + (i + 1) by omega], by rw [show n + (i + 1) = n + 1 + i by omega]; exact h2⟩
    · rintro ⟨i, r, e, h1, h2⟩
      cases i with
      | zero =>
        obtain rfl := Option.some.inj e
        exact .inl ⟨b, h2, by rw [h1]; rfl⟩
      | succ i => exact .inr ⟨i, r, by simpa using e, by rw [h1, show n + 1 + i = n + (i + 1) by omega], by rw [show n + 1 + i = n + (i + 1) by omega]; exact h2⟩
theorem plc_mem {rows : List Row} {a b : Int} : (a, b) ∈ plc rows ↔ (a = -1 ∧ b = 0) ∨ ∃ (i : Nat) (r : Row), rows[i]? = some r ∧ a = (i : Int) ∧ b ∈ fol i r := by
  rw [plc, List.mem_cons, plcFrom_mem]
  simp
/-! ### dicts by places -/
def dOf (f : Int × Int → D) (L : List (Int × Int)) : List (List Ky × D) := L.foldl (fun acc p => dPut acc (pk p) (f p)) []
theorem dOf_snoc (f : Int × Int → D) (L : List (Int × Int)) (p : Int × Int) : dOf f (L ++ [p]) = dPut (dOf f L) (pk p) (f p) := by
  unfold dOf
  rw [List.foldl_append]; rfl
theorem dPut_get {κ α : Type} [DecidableEq κ] (l : List (κ × α)) (k k' : κ) (v : α) : dGet (dPut l k v) k' = if k = k' then some v else dGet l k' := by
  unfold dPut dGet
  by_cases h : (l.any fun kv => decide (kv.1 = k)) = true
  · rw [if_pos h]
    induction l with
    | nil => simp at h
    | cons x r ih =>
      by_cases hx : x.1 = k
      · by_cases hk : k = k'
        · subst hk; simp [hx]
        · have h1 : ¬ x.1 = k' := fun z => hk (hx.symm.trans z)
          simp only [List.map_cons, if_pos hx, List.find?_cons, h1, decide_false, if_neg hk]
          have q : ∀ (l : List (κ × α)), ((l.map fun kv => if kv.1 = k then (kv.1, v) else kv).find? fun kv => decide (kv.1 = k')).map (·.2) = (l.find? fun kv => decide (kv.1 = k')).map (·.2) := by
            intro l
            induction l with
            | nil => rfl
            | cons y q ih2 =>
              by_cases hy : y.1 = k
              · have h2 : ¬ y.1 = k' := fun z => hk (hy.symm.trans z)
                simp only [List.map_cons, if_pos hy, List.find?_cons, h2, decide_false]
                exact ih2
              · simp only [List.map_cons, if_neg hy, List.find?_cons]
                cases decide (y.1 = k')
                · exact ih2
                · rfl
          exact q r
      · have h' : (r.any fun kv => decide (kv.1 = k)) = true := by simpa [hx] using h
        have := ih h'
        simp only [List.map_cons, if_neg hx, List.find?_cons]
        by_cases h1 : x.1 = k'
        · have hk : ¬ k = k' := fun z => hx (h1.trans z.symm)
          simp [h1, hk]
        · simp only [h1, decide_false]
          exact this
  · rw [if_neg h, List.find?_append]
    by_cases hk : k = k'
    · subst hk
      have : l.find? (fun kv => decide (kv.1 = k)) = none := by
        rw [List.find?_eq_none]
        intro p hp z
        exact h (List.any_eq_true.mpr ⟨p, hp, z⟩)
      simp [this]
    · simp only [if_neg hk]
      have : ([(k, v)] : List (κ × α)).find? (fun kv => decide (kv.1 = k')) = none := by simp [hk]
      rw [this, Option.or_none]
theorem dPut_mem {κ α : Type} [DecidableEq κ] {l : List (κ × α)} {k : κ} {v : α} {p : κ × α} (h : p ∈ dPut l k v) : p = (k, v) ∨ p ∈ l := by
  unfold dPut at h
  split at h
  · obtain ⟨q, hq, rfl⟩ := List.mem_map.mp h
    split
    · rename_i e; exact .inl (by rw [e])
    · exact .inr hq
  · rcases List.mem_append.mp h with z | z
    · exact .inr z
    · exact .inl (List.mem_singleton.mp z)
theorem dPut_len {κ α : Type} [DecidableEq κ] (l : List (κ × α)) (k : κ) (v : α) : (dPut l k v).length ≤ l.length + 1 := by
  unfold dPut
  split <;> simp
theorem snoc_ind {α : Type} {P : List α → Prop} (h0 : P []) (h1 : ∀ l a, P l → P (l ++ [a])) (l : List α) : P l := by
  have : ∀ n, ∀ l : List α, l.length = n → P l := by
    intro n
    induction n with
    | zero => intro l hl; rw [List.length_eq_zero_iff.mp hl]; exact h0
    | succ n ih =>
      intro l hl
      rcases snoc_or l with rfl | ⟨q, a, rfl⟩
      · simp at hl
      · rw [List.length_append, List.length_singleton] at hl
        exact h1 q a (ih q (by omega))
  exact this l.length l rfl
theorem dOf_get (f : Int × Int → D) (L : List (Int × Int)) (p : Int × Int) : dGet (dOf f L) (pk p) = if p ∈ L then some (f p) else none := by
  refine snoc_ind (P := fun L => dGet (dOf f L) (pk p) = if p ∈ L then some (f p) else none) rfl ?_ L
  intro L q ih
  rw [dOf_snoc, dPut_get, ih]
  by_cases h : q = p
  · subst h; simp
  · have h1 : ¬ pk q = pk p := fun z => h (pk_inj z)
    have h2 : ¬ p = q := fun z => h z.symm
    rw [if_neg h1]
    simp [h2]
theorem dOf_mem (f : Int × Int → D) (L : List (Int × Int)) : ∀ e ∈ dOf f L, ∃ p ∈ L, e = (pk p, f p) := by
  refine snoc_ind (P := fun L => ∀ e ∈ dOf f L, ∃ p ∈ L, e = (pk p, f p)) (fun e h => by cases h) ?_ L
  intro L q ih e he
  rw [dOf_snoc] at he
  rcases dPut_mem he with z | z
  · exact ⟨q, by simp, z⟩
  · obtain ⟨p, hp, z⟩ := ih e z
    exact ⟨p, List.mem_append_left _ hp, z⟩
theorem dOf_len (f : Int × Int → D) (L : List (Int × Int)) : (dOf f L).length ≤ L.length := by
  refine snoc_ind (P := fun L => (dOf f L).length ≤ L.length) (Nat.le_refl _) ?_ L
  intro L q ih
  have := dPut_len (dOf f L) (pk q) (f q)
  rw [dOf_snoc, List.length_append, List.length_singleton]
  omega
theorem dOf_congr {f g : Int × Int → D} {L : List (Int × Int)} (h : ∀ p ∈ L, f p = g p) : dOf f L = dOf g L := by
  unfold dOf
  have : ∀ (L : List (Int × Int)) (acc : List (List Ky × D)), (∀ p ∈ L, f p = g p) → L.foldl (fun acc p => dPut acc (pk p) (f p)) acc = L.foldl (fun acc p => dPut acc (pk p) (g p)) acc := by
    intro L
    induction L with
    | nil => intro acc _; rfl
    | cons x r ih =>
      intro acc h
      rw [List.foldl_cons, List.foldl_cons, h x (by simp), ih _ fun p hp => h p (List.mem_cons_of_mem _ hp)]
  exact this L [] h
theorem dOf_same (f : Int × Int → Nat) (L : List (Int × Int)) : dSame (dOf (fun p => .int ((f p : Nat) : Int)) L) (dOf (fun p => .int ((f p : Nat) : Int)) L) = true := by
  unfold dSame
  simp only [decide_true, Bool.true_and, List.all_eq_true]
  intro e he
  obtain ⟨p, hp, rfl⟩ := dOf_mem _ _ e he
  dsimp only
  rw [dOf_get, if_pos hp]
  simp [scq]
end Mi

set_option Elab.async false
set_option linter.all false
/-! k10's own operators by simp -/
namespace Mi
@[simp] theorem oEqX_s (a : Tx) (y : D) (S : Store) : oEqX (.str a) y S = oEq (.str a) y S := (rfl)
@[simp] theorem oEqX_i (a : Int) (y : D) (S : Store) : oEqX (.int a) y S = oEq (.int a) y S := (rfl)
@[simp] theorem oEqX_n (y : D) (S : Store) : oEqX .non y S = oEq .non y S := (rfl)
@[simp] theorem oEqX_b (a : Bool) (y : D) (S : Store) : oEqX (.bl a) y S = oEq (.bl a) y S := (rfl)
@[simp] theorem oEqX_t (a : List D) (y : D) (S : Store) : oEqX (.tup a) y S = oEq (.tup a) y S := (rfl)
def slA3 (x : D) (l : Option Int) (r : Res (Option Int)) : Res D := r.bind fun h S3 => oSlA x l h S3
@[simp] theorem slA3_s (x : D) (l h : Option Int) (S : Store) : slA3 x l (.ok h S) = oSlA x l h S := (rfl)
def slA2 (x : D) (hi : PM) (fr : Fr) (r : Res (Option Int)) : Res D := r.bind fun l S2 => slA3 x l (hi fr S2)
@[simp] theorem slA2_s (x : D) (hi : PM) (fr : Fr) (l : Option Int) (S : Store) : slA2 x hi fr (.ok l S) = slA3 x l (hi fr S) := (rfl)
def slA1 (lo hi : PM) (fr : Fr) (r : Res D) : Res D := r.bind fun x S1 => slA2 x hi fr (lo fr S1)
@[simp] theorem slA1_s (lo hi : PM) (fr : Fr) (x : D) (S : Store) : slA1 lo hi fr (.ok x S) = slA2 x hi fr (lo fr S) := (rfl)
@[simp] theorem mSlA_s (a : EM) (lo hi : PM) (fr : Fr) (S : Store) : mSlA a lo hi fr S = slA1 lo hi fr (a fr S) := (rfl)
@[simp] theorem oSlA_t (l : List D) (lo hi : Option Int) (S : Store) : oSlA (.tup l) lo hi S = .ok (.tup (cut l lo hi)) S := (rfl)
@[simp] theorem oAddA_t (a b : List D) (S : Store) : oAddA (.tup a) (.tup b) S = if a.length + b.length ≤ LINE then .ok (.tup (a ++ b)) S else .bad := (rfl)
@[simp] theorem oAddA_i (a : Int) (y : D) (S : Store) : oAddA (.int a) y S = oAdd (.int a) y S := (rfl)
@[simp] theorem sUpper_s (w : Tx) (S : Store) : sUpper (.str w) [] S = if w ∈ sixW then .ok (.str (w.map fun c => c - 32)) S else .bad := (rfl)
end Mi

set_option Elab.async false
set_option linter.all false
/-! Mini5's and Mini6's operators by simp -/
namespace Mi
def rvA2 (x : D) (r : Res (Option Int)) : Res D := r.bind fun o S2 => if o = some (-1) then oRev x S2 else .bad
@[simp] theorem rvA2_s (x : D) (S : Store) : rvA2 x (.ok (some (-1)) S) = oRev x S := (rfl)
def rvA1 (st : PM) (fr : Fr) (r : Res D) : Res D := r.bind fun x S1 => rvA2 x (st fr S1)
@[simp] theorem rvA1_s (st : PM) (fr : Fr) (x : D) (S : Store) : rvA1 st fr (.ok x S) = rvA2 x (st fr S) := (rfl)
@[simp] theorem mRev_s (a : EM) (st : PM) (fr : Fr) (S : Store) : mRev a st fr S = rvA1 st fr (a fr S) := (rfl)
def rvO (S : Store) : Option (List D) → Res D
  | some l => new (.lst l.reverse) S
  | none => .bad
@[simp] theorem rvO_s (S : Store) (l : List D) : rvO S (some l) = .ok (.ref S.length) (S ++ [.lst l.reverse]) := (rfl)
@[simp] theorem oRev_r (n : Nat) (S : Store) : oRev (.ref n) S = rvO S (lstOf S n) := by
  unfold oRev rvO
  first
  | (cases lstOf S n <;> rfl)
  | (dsimp only; cases lstOf S n <;> rfl)
  | dsimp only
theorem oNeD_same {x y : D} {S : Store} (h : oSame x y S = true) : oNeD x y S = .ok (.bl false) S := by unfold oNeD; rw [if_pos h]
theorem oEqD_same {x y : D} {S : Store} (h : oSame x y S = true) : oEqD x y S = .ok (.bl true) S := by unfold oEqD; rw [if_pos h]
theorem same_T {m n : Nat} {k l : List (List Ky × D)} {S : Store} (h1 : S[m]? = some (.dT k)) (h2 : S[n]? = some (.dT l)) (h : dSame k l = true) : oSame (.ref m) (.ref n) S = true := by
  unfold oSame
  dsimp only
  rw [h1, h2]
  exact h
theorem same_K {m n : Nat} {k l : List (Ky × D)} {S : Store} (h1 : S[m]? = some (.dK k)) (h2 : S[n]? = some (.dK l)) (h : dSame k l = true) : oSame (.ref m) (.ref n) S = true := by
  unfold oSame
  dsimp only
  rw [h1, h2]
  exact h
theorem dClear_T {n : Nat} {k : List (List Ky × D)} {S : Store} (h : S[n]? = some (.dT k)) : dClear (.ref n) [] S = .ok .non (S.set n (.dT [])) := by
  unfold dClear
  dsimp only
  rw [h]
/-! ### a locked walk -/
theorem loopZ_inv {n : Nat} {z : O} {turn : D → SM} (I : Nat → Fr → Store → Prop) : ∀ (items : List D) (k : Nat) (fr : Fr) (S : Store), I k fr S →
    (∀ i fr S, I i fr S → S[n]? = some z) →
    (∀ i d fr S, items[i]? = some d → I (k + i) fr S → ∃ fr' S', (turn d fr S = .ok (.nx fr') S' ∨ turn d fr S = .ok (.ct fr') S') ∧ I (k + i + 1) fr' S') →
    ∃ fr' S', loopZ n z turn items fr S = .ok (.nx fr') S' ∧ I (k + items.length) fr' S'
  | [], k, fr, S, h, st, _ => ⟨fr, S, by rw [loopZ, dec_true (st k fr S h)]; rfl, h⟩
  | d :: ds, k, fr, S, h, st, step => by
    obtain ⟨fr', S', e, h'⟩ := step 0 d fr S rfl h
    obtain ⟨fr2, S2, e2, h2⟩ := loopZ_inv I ds (k + 1) fr' S' h' st fun i d fr S hd hi => by
      have q := step (i + 1) d fr S hd (by rw [show k + (i + 1) = k + 1 + i by omega]; exact hi)
      rw [show k + (i + 1) = k + 1 + i by omega] at q
      exact q
    refine ⟨fr2, S2, ?_, by rw [List.length_cons, show k + (ds.length + 1) = k + 1 + ds.length by omega]; exact h2⟩
    rw [loopZ, dec_true (st k fr S h)]
    rcases e with e | e <;> rw [e] <;> exact e2
/-- a walk over the values of a dict of places that changes no store -/
theorem forD_valT {e : EM} {g : GM} {b : SM} {fr : Fr} {S : Store} {n : Nat} {k : List (List Ky × D)} (hs : S[n]? = some (.dT k)) (he : ∀ S, e fr S = .ok (.ref n) S) (I : Fr → Prop) (h0 : I fr)
    (step : ∀ d fr S, d ∈ k.map (·.2) → I fr → ∃ fr', turnM g b d fr S = .ok (.nx fr') S ∧ I fr') : ∃ fr', sForD .val e g b fr S = .ok (.nx fr') S ∧ I fr' := by
  have hl := (List.getElem?_eq_some_iff.mp hs).1
  obtain ⟨fr', S', q, rfl, hI⟩ := loopZ_inv (n := n) (z := .zT k) (turn := turnM g b) (fun _ fr S' => S' = S.set n (.zT k) ∧ I fr) (k.map (·.2)) 0 fr (S.set n (.zT k)) ⟨rfl, h0⟩ (fun _ _ S' h => by rw [h.1]; exact set_get hs) (fun i d fr S' hd h => by
    obtain ⟨fr', e1, e2⟩ := step d fr S' (List.mem_of_getElem? hd) h.2
    exact ⟨fr', S', .inl e1, h.1, e2⟩)
  refine ⟨fr', ?_, hI⟩
  unfold sForD
  rw [he S]
  dsimp only
  rw [hs]
  simp only [zOf, zItems]
  unfold runZ
  rw [he]
  simp only [bind_ok, if_true]
  have : loopZ n (.zT k) (fun d fr S => (g d fr S).bind fun fr' S' => b fr' S') (k.map fun p => p.2) fr (S.set n (.zT k)) = .ok (.nx fr') (S.set n (.zT k)) := q
  rw [this]
  simp only [bind_ok]
  rw [if_pos (dec_true (set_get hs)), List.set_set]
  congr 1
  obtain ⟨hl, e⟩ := List.getElem?_eq_some_iff.mp hs
  rw [← e, List.set_getElem_self]
end Mi

set_option Elab.async false
set_option linter.all false
set_option maxHeartbeats 1000000
/-! where a reckoning is not wanted, not standing; greatest sets -/
namespace Mi
/-- a way leads on to a change or an end without it -/
inductive Mis (rows : List Row) (k : List Ky) : Nat → Prop
  | out {n : Nat} {r : Row} : rows[n]? = some r → r.rkg ≠ some k → (chg r k = true ∨ r = .en) → Mis rows k n
  | step {n j : Nat} {r : Row} : rows[n]? = some r → r.rkg ≠ some k → (j : Int) ∈ fol n r → Mis rows k j → Mis rows k n
/-- a way leads back to a change or the begin without it -/
inductive Mst (rows : List Row) (k : List Ky) : Nat → Prop
  | out {n : Nat} {r : Row} : rows[n]? = some r → chg r k = true → Mst rows k n
  | zero {r : Row} : rows[0]? = some r → r.rkg ≠ some k → Mst rows k 0
  | step {n j : Nat} {r q : Row} : rows[n]? = some r → r.rkg ≠ some k → rows[j]? = some q → (n : Int) ∈ fol j q → Mst rows k j → Mst rows k n
abbrev BF := Nat → Bool
def fsAt (fs : List BF) (m : Int) : BF := fs.getD m.toNat fun _ => false
def bD (m : Nat) (p : BF) : D := .int ((bitsOf p m : Nat) : Int)
def sumB (m : Nat) (fs : List BF) : Nat := (fs.map fun p => bitsOf p m).sum
theorem sum_set {L : List Nat} {i : Nat} {x y : Nat} (h : L[i]? = some x) (hy : y < x) : (L.set i y).sum < L.sum := by
  induction L generalizing i with
  | nil => cases h
  | cons a r ih =>
    cases i with
    | zero => obtain rfl := Option.some.inj h; simp; omega
    | succ i => have := ih (i := i) (by simpa using h); simp; omega
theorem sumB_set {m : Nat} {fs : List BF} {i : Nat} {p q : BF} (h : fs[i]? = some p) (hq : bitsOf q m < bitsOf p m) : sumB m (fs.set i q) < sumB m fs := by
  unfold sumB
  rw [List.map_set]
  exact sum_set (by rw [List.getElem?_map, h]; rfl) hq
theorem fsAt_set {fs : List BF} {i : Nat} {q : BF} (hi : i < fs.length) (m : Int) : fsAt (fs.set i q) m = if m.toNat = i then q else fsAt fs m := by
  unfold fsAt
  simp only [List.getD_eq_getElem?_getD, List.getElem?_set]
  by_cases h : i = m.toNat
  · subst h; simp [hi]
  · have : ¬ m.toNat = i := fun z => h z.symm
    simp [h, this]
theorem fsAt_of {fs : List BF} {i : Nat} {p : BF} (h : fs[i]? = some p) : fsAt fs (i : Int) = p := by
  unfold fsAt
  rw [List.getD_eq_getElem?_getD, Int.toNat_natCast, h]; rfl
/-- all of some rows' bits -/
def allF (fs : List BF) (L : List Int) : BF := fun k => L.all fun m => fsAt fs m k
theorem bit_lt {m : Nat} {p q : BF} (h : ∀ k, k < m → p k = true → q k = true) (ne : bitsOf p m ≠ bitsOf q m) : bitsOf p m < bitsOf q m := by
  have := bits_le h
  omega
/-- what a rule makes of the sets, row by row -/
structure Rule (rows : List Row) where
  g : List BF → Nat → BF
  mono : ∀ (fs fs' : List BF) (n : Nat) (k : Nat), (∀ m, fsAt fs m k = true → fsAt fs' m k = true) → g fs n k = true → g fs' n k = true
/-- sets on their way down to the greatest that fit -/
structure Down {rows : List Row} (R : Rule rows) (m : Nat) (W : Nat → Nat → Prop) (fs : List BF) : Prop where
  len : fs.length = rows.length
  up : ∀ n k, n < rows.length → k < m → W n k → fsAt fs (n : Int) k = true
  post : ∀ n k, n < rows.length → k < m → R.g fs n k = true → fsAt fs (n : Int) k = true
theorem Down.put {rows : List Row} {R : Rule rows} {m : Nat} {W : Nat → Nat → Prop} {fs : List BF} (d : Down R m W fs) {n : Nat} (hn : n < rows.length) (hw : ∀ k, k < m → W n k → R.g fs n k = true) : Down R m W (fs.set n (R.g fs n)) := by
  have hl : n < fs.length := by rw [d.len]; exact hn
  have sub : ∀ j k, k < m → j < rows.length → fsAt (fs.set n (R.g fs n)) (j : Int) k = true → fsAt fs (j : Int) k = true := fun j k hk hj h => by
    rw [fsAt_set hl] at h
    split at h
    · rename_i e
      rw [Int.toNat_natCast] at e
      subst e
      exact d.post j k hj hk h
    · exact h
  have sub2 : ∀ (x : Int) k, k < m → fsAt (fs.set n (R.g fs n)) x k = true → fsAt fs x k = true := fun x k hk h => by
    rw [fsAt_set hl] at h
    split at h
    · rename_i e
      have q := d.post n k hn hk h
      unfold fsAt at q ⊢
      rw [Int.toNat_natCast] at q
      rw [e]; exact q
    · exact h
  refine ⟨by rw [List.length_set]; exact d.len, fun j k hj hk w => ?_, fun j k hj hk h => ?_⟩
  · rw [fsAt_set hl]
    split
    · rename_i e
      rw [Int.toNat_natCast] at e
      subst e
      exact hw k hk w
    · exact d.up j k hj hk w
  · have h2 := R.mono _ fs j k (fun x => sub2 x k hk) h
    rw [fsAt_set hl]
    split
    · rename_i e
      rw [Int.toNat_natCast] at e
      subst e
      exact h2
    · exact d.post j k hj hk h2
/-- the bits wanted at a row -/
noncomputable def wantP (rows : List Row) (n : Nat) : BF := fun k => match (recs rows)[k]? with
  | some x => !dec (Mis rows x n)
  | none => false
noncomputable def wantD (rows : List Row) (n : Nat) : D := bD (recs rows).length (wantP rows n)
noncomputable def ownF (rows : List Row) (r : Row) : BF := fun k => dec (r.rkg ≠ none ∧ r.rkg = (recs rows)[k]?)
noncomputable def lostF (rows : List Row) (r : Row) : BF := fun k => match (recs rows)[k]? with
  | some x => chg r x
  | none => false
noncomputable def gAsk (rows : List Row) (fs : List BF) (n : Nat) : BF := fun k => match rows[n]? with
  | some r => ownF rows r k || ((dec (r ≠ .en) && allF fs (fol n r) k) && (true ^^ lostF rows r k))
  | none => false
theorem allF_mono {fs fs' : List BF} {k : Nat} (h : ∀ m, fsAt fs m k = true → fsAt fs' m k = true) {L : List Int} (a : allF fs L k = true) : allF fs' L k = true := by
  unfold allF at a ⊢
  rw [List.all_eq_true] at a ⊢
  exact fun m hm => h m (a m hm)
noncomputable def ruleA (rows : List Row) : Rule rows where
  g := gAsk rows
  mono := fun fs fs' n k h a => by
    unfold gAsk at a ⊢
    split at a
    · rename_i r e
      simp only [Bool.or_eq_true, Bool.and_eq_true] at a ⊢
      rcases a with a | ⟨⟨a1, a2⟩, a3⟩
      · exact .inl a
      · exact .inr ⟨⟨a1, allF_mono h a2⟩, a3⟩
    · cases a
/-- what is wanted fits -/
theorem ask_up {rows : List Row} {fs : List BF} (d : Down (ruleA rows) (recs rows).length (fun n k => wantP rows n k = true) fs) (hin : ∀ (n : Nat) (r : Row) (m : Int), rows[n]? = some r → m ∈ fol n r → 0 ≤ m ∧ m < rows.length) {n : Nat} (hn : n < rows.length) : ∀ k, k < (recs rows).length → wantP rows n k = true → (ruleA rows).g fs n k = true := by
  intro k hk w
  obtain ⟨x, hx⟩ : ∃ x, (recs rows)[k]? = some x := ⟨_, List.getElem?_eq_getElem hk⟩
  obtain ⟨r, hr⟩ : ∃ r, rows[n]? = some r := ⟨_, List.getElem?_eq_getElem hn⟩
  have wx : ∀ j, wantP rows j k = !dec (Mis rows x j) := fun j => by unfold wantP; rw [hx]
  rw [wx] at w
  have nm : ¬ Mis rows x n := fun z => by rw [dec_true z] at w; cases w
  show gAsk rows fs n k = true
  unfold gAsk
  rw [hr]
  simp only [Bool.or_eq_true, Bool.and_eq_true]
  by_cases ho : r.rkg = some x
  · exact .inl (by unfold ownF; exact dec_true ⟨by rw [ho]; simp, by rw [ho, hx]⟩)
  · right
    refine ⟨⟨dec_true fun z => nm (.out hr ho (.inr z)), ?_⟩, ?_⟩
    · unfold allF
      rw [List.all_eq_true]
      intro m hm
      have hi := hin n r m hr hm
      obtain ⟨j, rfl⟩ : ∃ j : Nat, m = (j : Int) := ⟨m.toNat, by omega⟩
      refine d.up j k (by omega) hk ?_
      rw [wx, dec_false fun z => nm (.step hr ho hm z)]
      rfl
    · unfold lostF
      rw [hx]
      dsimp only
      cases hc : chg r x with
      | false => rfl
      | true => exact absurd (.out hr ho (.inl hc)) nm
/-- what stays is wanted -/
theorem ask_fix {rows : List Row} {fs : List BF} (hf : ∀ n k, n < rows.length → k < (recs rows).length → gAsk rows fs n k = fsAt fs (n : Int) k) {k : Nat} {x : List Ky} (hx : (recs rows)[k]? = some x) {n : Nat} (m : Mis rows x n) : fsAt fs (n : Int) k = false := by
  have hk := (List.getElem?_eq_some_iff.mp hx).1
  have own : ∀ r : Row, r.rkg ≠ some x → ownF rows r k = false := fun r h => by
    unfold ownF
    exact dec_false fun z => h (by rw [z.2, hx])
  induction m with
  | @out n r hr ho h =>
    have hn := (List.getElem?_eq_some_iff.mp hr).1
    rw [← hf n k hn hk]
    unfold gAsk
    rw [hr]
    dsimp only
    rw [own r ho, Bool.false_or]
    rcases h with h | h
    · have : lostF rows r k = true := by unfold lostF; rw [hx]; exact h
      rw [this]; simp
    · rw [dec_false fun z => z h]; simp
  | @step n j r hr ho hj _ ih =>
    have hn := (List.getElem?_eq_some_iff.mp hr).1
    rw [← hf n k hn hk]
    unfold gAsk
    rw [hr]
    dsimp only
    rw [own r ho, Bool.false_or]
    have : allF fs (fol n r) k = false := by
      unfold allF
      rw [List.all_eq_false]
      exact ⟨(j : Int), hj, by rw [ih]; simp⟩
    rw [this]; simp
/-! ### bits as data -/
theorem bD_and (m : Nat) (p q : BF) (S : Store) : oAnd (bD m p) (bD m q) S = .ok (bD m fun k => p k && q k) S := by
  unfold bD
  rw [oAnd_i, if_pos ⟨by omega, by omega⟩]
  simp only [Int.toNat_natCast]
  rw [bits_and]
theorem bD_or (m : Nat) (p q : BF) (S : Store) : oOr (bD m p) (bD m q) S = .ok (bD m fun k => p k || q k) S := by
  unfold bD
  rw [oOr_i, if_pos ⟨by omega, by omega⟩]
  simp only [Int.toNat_natCast]
  rw [bits_or]
theorem bD_xor (m : Nat) (p q : BF) (S : Store) : oXor (bD m p) (bD m q) S = .ok (bD m fun k => p k ^^ q k) S := by
  unfold bD
  rw [oXor_i, if_pos ⟨by omega, by omega⟩]
  simp only [Int.toNat_natCast]
  rw [bits_xor]
theorem bD_ne (m : Nat) (p q : BF) (S : Store) : oNe (bD m p) (bD m q) S = .ok (.bl (!decide (bitsOf p m = bitsOf q m))) S := by
  unfold bD
  rw [oNe_i]
  congr 3
  rw [decide_eq_decide]
  omega
theorem bD_zero (m : Nat) : (D.int 0) = bD m fun _ => false := by
  unfold bD
  rw [bits_none]; rfl
theorem bD_congr {m : Nat} {p q : BF} (h : ∀ k, k < m → p k = q k) : bD m p = bD m q := by
  unfold bD
  rw [bits_congr h]
theorem bD_funext {m : Nat} {p q : BF} (h : ∀ k, p k = q k) : bD m p = bD m q := bD_congr fun k _ => h k
theorem allF_nil (fs : List BF) (k : Nat) : allF fs [] k = true := rfl
theorem allF_snoc (fs : List BF) (L : List Int) (m : Int) (k : Nat) : allF fs (L ++ [m]) k = (allF fs L k && fsAt fs m k) := by
  unfold allF
  rw [List.all_append]
  simp
end Mi

set_option Elab.async false
set_option linter.all false
set_option maxHeartbeats 1000000
/-! rows by the rows from which they are come to; where a reckoning is standing -/
namespace Mi
/-- [[] for x in xs] -/
theorem lc_fresh_go {hs : List (Nat × List D)} {g : GM} {t : TM} {e : EM} {fr : Fr} {S1 : Store} (hg : ∀ d S, ∃ fr', g d fr S = .ok fr' S ∧ t fr' S = .ok true S ∧ e fr' S = .ok (.ref S.length) (S ++ [.lst []])) (h : ∀ p, p ∈ hs → lstOf S1 p.1 = some p.2) :
    ∀ (items : List D) (j : Nat), j + items.length ≤ LINE →
    lcLoop hs S1.length g t e fr items (S1 ++ .lst ((List.range j).map fun i => .ref (S1.length + 1 + i)) :: List.replicate j (.lst [])) = .ok (.ref S1.length) (S1 ++ .lst ((List.range (j + items.length)).map fun i => .ref (S1.length + 1 + i)) :: List.replicate (j + items.length) (.lst [])) := by
  have stand : ∀ G, stands hs (S1 ++ G) := fun G p hp => by
    have q := h p hp
    unfold lstOf at q ⊢
    cases hh : S1[p.1]? with
    | none => rw [hh] at q; cases q
    | some o => rw [app_get hh]; rw [hh] at q; exact q
  intro items
  induction items with
  | nil => intro j _; rw [lcLoop, dec_true (stand _)]; rfl
  | cons d ds ih =>
    intro j hj
    rw [List.length_cons] at hj
    obtain ⟨fr', e1, e2, e3⟩ := hg d (S1 ++ .lst ((List.range j).map fun i => .ref (S1.length + 1 + i)) :: List.replicate j (.lst []))
    rw [lcLoop, dec_true (stand _)]
    simp only [if_true, e1, bind_ok, e2, e3]
    have gl : (S1 ++ .lst ((List.range j).map fun i => D.ref (S1.length + 1 + i)) :: List.replicate j (O.lst []) ++ [.lst []])[S1.length]? = some (.lst ((List.range j).map fun i => D.ref (S1.length + 1 + i))) := by
      rw [List.append_assoc, List.cons_append]; exact app_new _ _ _
    rw [gl]
    dsimp only
    have hl : ((List.range j).map fun i => D.ref (S1.length + 1 + i)).length < LINE := by rw [List.length_map, List.length_range]; omega
    rw [if_pos hl]
    have len : (S1 ++ .lst ((List.range j).map fun i => D.ref (S1.length + 1 + i)) :: List.replicate j (O.lst [])).length = S1.length + 1 + j := by
      rw [List.length_append, List.length_cons, List.length_replicate]; omega
    have st : (S1 ++ O.lst ((List.range j).map fun i => D.ref (S1.length + 1 + i)) :: List.replicate j (O.lst []) ++ [O.lst []]).set S1.length (O.lst ((List.range j).map (fun i => D.ref (S1.length + 1 + i)) ++ [D.ref (S1 ++ O.lst ((List.range j).map fun i => D.ref (S1.length + 1 + i)) :: List.replicate j (O.lst [])).length])) = S1 ++ O.lst ((List.range (j + 1)).map fun i => D.ref (S1.length + 1 + i)) :: List.replicate (j + 1) (O.lst []) := by
      rw [len, List.append_assoc, List.cons_append, set_at, List.range_succ, List.map_append, List.replicate_succ']
      rfl
    rw [st, ih (j + 1) (by omega), List.length_cons, show j + 1 + ds.length = j + (ds.length + 1) by omega]
theorem lc_fresh {vs : List Nat} {g : GM} {e : EM} {fr : Fr} {l : List D} {hs : List (Nat × List D)} {S : Store} (hg : ∀ d S, ∃ fr', g d (unset vs fr) S = .ok fr' S ∧ e fr' S = .ok (.ref S.length) (S ++ [.lst []])) (h : ∀ p, p ∈ hs → lstOf S p.1 = some p.2) (hl : l.length ≤ LINE) :
    lcK vs g tYes e fr (.ok ⟨l, hs⟩ S) = .ok (.ref S.length) (S ++ .lst ((List.range l.length).map fun i => .ref (S.length + 1 + i)) :: List.replicate l.length (.lst [])) := by
  have q := lc_fresh_go (g := g) (t := fun fr S => quiet (tYes fr S)) (e := fun fr S => quiet (e fr S)) (fr := unset vs fr) (hs := hs) (S1 := S) (fun d S' => by
    obtain ⟨fr', e1, e2⟩ := hg d S'
    exact ⟨fr', e1, rfl, by rw [e2]; rfl⟩) h l 0 (by omega)
  rw [Nat.zero_add] at q
  exact q
/-- lists within a list -/
structure Cm (S : Store) (A : Nat) (n : Nat) (L : Nat → List Int) : Prop where
  a : S[A]? = some (.lst ((List.range n).map fun i => .ref (A + 1 + i)))
  at_ : ∀ i, i < n → S[A + 1 + i]? = some (.lst ((L i).map .int))
theorem Cm.mono {S S' : Store} {A n : Nat} {L : Nat → List Int} (c : Cm S A n L) (p : Pre S S') : Cm S' A n L := ⟨p.get c.a, fun i hi => p.get (c.at_ i hi)⟩
theorem Cm.ix {S : Store} {A n : Nat} {L : Nat → List Int} (c : Cm S A n L) {i : Nat} (hi : i < n) : atI ((List.range n).map fun i => D.ref (A + 1 + i)) (i : Int) = some (.ref (A + 1 + i)) := at_of (by rw [List.getElem?_map, List.getElem?_range hi]; rfl)
theorem Cm.start {S : Store} {n : Nat} : Cm (S ++ .lst ((List.range n).map fun i => .ref (S.length + 1 + i)) :: List.replicate n (.lst [])) S.length n fun _ => [] := by
  refine ⟨app_new _ _ _, fun i hi => ?_⟩
  rw [List.getElem?_append_right (by omega), show S.length + 1 + i - S.length = i + 1 by omega, List.getElem?_cons_succ, List.getElem?_replicate, if_pos hi]
  rfl
theorem Cm.put {S : Store} {A n : Nat} {L : Nat → List Int} (c : Cm S A n L) {i : Nat} (hi : i < n) (x : Int) : Cm (S.set (A + 1 + i) (.lst ((L i ++ [x]).map .int))) A n fun j => if j = i then L j ++ [x] else L j := by
  refine ⟨by rw [set_ne (by omega)]; exact c.a, fun j hj => ?_⟩
  by_cases h : j = i
  · subst h
    rw [if_pos rfl]
    exact set_get (c.at_ j hj)
  · rw [if_neg h, set_ne (by omega)]
    exact c.at_ j hj
/-- the rows from which row m is come to, by places -/
def cameL (L : List (Int × Int)) (m : Nat) : List Int := (L.filter fun p => decide (p.1 ≠ -1 ∧ p.2 = (m : Int))).map (·.1)
theorem cameL_snoc (L : List (Int × Int)) (p : Int × Int) (m : Nat) : cameL (L ++ [p]) m = if p.1 ≠ -1 ∧ p.2 = (m : Int) then cameL L m ++ [p.1] else cameL L m := by
  unfold cameL
  rw [List.filter_append]
  split
  · rename_i h; simp [h]
  · rename_i h
    have : ([p].filter fun p => decide (p.1 ≠ -1 ∧ p.2 = (m : Int))) = [] := by
      rw [List.filter_cons_of_neg (by simpa using h)]; rfl
    rw [this, List.append_nil]
def cameR (rows : List Row) (m : Nat) : List Int := cameL (plc rows) m
theorem cameR_mem {rows : List Row} {m : Nat} {n : Int} : n ∈ cameR rows m ↔ ∃ (i : Nat) (r : Row), rows[i]? = some r ∧ n = (i : Int) ∧ (m : Int) ∈ fol i r := by
  unfold cameR cameL
  simp only [List.mem_map, List.mem_filter, decide_eq_true_eq]
  constructor
  · rintro ⟨⟨a, b⟩, ⟨h1, h2, h3⟩, rfl⟩
    have h2 : a ≠ -1 := h2
    have h3 : b = (m : Int) := h3
    subst h3
    rcases plc_mem.mp h1 with ⟨z, _⟩ | ⟨i, r, e, h4, h5⟩
    · exact absurd z h2
    · exact ⟨i, r, e, h4, h5⟩
  · rintro ⟨i, r, e, rfl, h⟩
    exact ⟨((i : Int), (m : Int)), ⟨plc_mem.mpr (.inr ⟨i, r, e, rfl, h⟩), by show ((i : Int)) ≠ -1; omega, rfl⟩, rfl⟩
theorem cameL_len (L : List (Int × Int)) (m : Nat) : (cameL L m).length ≤ L.length := by
  unfold cameL
  rw [List.length_map]
  exact List.length_filter_le _ _
theorem cameR_len (rows : List Row) (m : Nat) : (cameR rows m).length ≤ 2 * rows.length + 1 := Nat.le_trans (cameL_len _ _) (plc_len rows)
/-- the bits standing behind a row -/
noncomputable def standP (rows : List Row) (n : Nat) : BF := fun k => match (recs rows)[k]? with
  | some x => !dec (Mst rows x n)
  | none => false
noncomputable def gStd (rows : List Row) (fs : List BF) (n : Nat) : BF := fun k => match rows[n]? with
  | some r => (ownF rows r k || (decide (n ≠ 0) && allF fs (cameR rows n) k)) && (true ^^ lostF rows r k)
  | none => false
noncomputable def ruleS (rows : List Row) : Rule rows where
  g := gStd rows
  mono := fun fs fs' n k h a => by
    unfold gStd at a ⊢
    split at a
    · rename_i r e
      simp only [Bool.or_eq_true, Bool.and_eq_true] at a ⊢
      obtain ⟨a, a3⟩ := a
      refine ⟨?_, a3⟩
      rcases a with a | ⟨a1, a2⟩
      · exact .inl a
      · exact .inr ⟨a1, allF_mono h a2⟩
    · cases a
theorem std_up {rows : List Row} {fs : List BF} (d : Down (ruleS rows) (recs rows).length (fun n k => standP rows n k = true) fs) {n : Nat} (hn : n < rows.length) : ∀ k, k < (recs rows).length → standP rows n k = true → (ruleS rows).g fs n k = true := by
  intro k hk w
  obtain ⟨x, hx⟩ : ∃ x, (recs rows)[k]? = some x := ⟨_, List.getElem?_eq_getElem hk⟩
  obtain ⟨r, hr⟩ : ∃ r, rows[n]? = some r := ⟨_, List.getElem?_eq_getElem hn⟩
  have wx : ∀ j, standP rows j k = !dec (Mst rows x j) := fun j => by unfold standP; rw [hx]
  rw [wx] at w
  have nm : ¬ Mst rows x n := fun z => by rw [dec_true z] at w; cases w
  show gStd rows fs n k = true
  unfold gStd
  rw [hr]
  simp only [Bool.or_eq_true, Bool.and_eq_true]
  refine ⟨?_, ?_⟩
  · by_cases ho : r.rkg = some x
    · exact .inl (by unfold ownF; exact dec_true ⟨by rw [ho]; simp, by rw [ho, hx]⟩)
    · right
      refine ⟨decide_eq_true fun z => nm (by subst z; exact .zero hr ho), ?_⟩
      unfold allF
      rw [List.all_eq_true]
      intro m hm
      obtain ⟨j, q, hq, rfl, hf⟩ := cameR_mem.mp hm
      refine d.up j k (List.getElem?_eq_some_iff.mp hq).1 hk ?_
      rw [wx, dec_false fun z => nm (.step hr ho hq hf z)]
      rfl
  · unfold lostF
    rw [hx]
    dsimp only
    cases hc : chg r x with
    | false => rfl
    | true => exact absurd (.out hr hc) nm
theorem std_fix {rows : List Row} {fs : List BF} (hf : ∀ n k, n < rows.length → k < (recs rows).length → gStd rows fs n k = fsAt fs (n : Int) k) {k : Nat} {x : List Ky} (hx : (recs rows)[k]? = some x) {n : Nat} (m : Mst rows x n) : fsAt fs (n : Int) k = false := by
  have hk := (List.getElem?_eq_some_iff.mp hx).1
  have own : ∀ r : Row, r.rkg ≠ some x → ownF rows r k = false := fun r h => by
    unfold ownF
    exact dec_false fun z => h (by rw [z.2, hx])
  induction m with
  | @out n r hr h =>
    have hn := (List.getElem?_eq_some_iff.mp hr).1
    rw [← hf n k hn hk]
    unfold gStd
    rw [hr]
    dsimp only
    have : lostF rows r k = true := by unfold lostF; rw [hx]; exact h
    rw [this]; simp
  | @zero r hr ho =>
    have hn := (List.getElem?_eq_some_iff.mp hr).1
    rw [← hf 0 k hn hk]
    unfold gStd
    rw [hr]
    dsimp only
    rw [own r ho]; simp
  | @step n j r q hr ho hq hj _ ih =>
    have hn := (List.getElem?_eq_some_iff.mp hr).1
    rw [← hf n k hn hk]
    unfold gStd
    rw [hr]
    dsimp only
    rw [own r ho, Bool.false_or]
    have : allF fs (cameR rows n) k = false := by
      unfold allF
      rw [List.all_eq_false]
      exact ⟨(j : Int), cameR_mem.mpr ⟨j, q, hq, rfl, hj⟩, by rw [ih]; simp⟩
    rw [this]; simp
theorem dPut_put {κ α : Type} [DecidableEq κ] (l : List (κ × α)) (k : κ) (v w : α) : dPut (dPut l k v) k w = dPut l k w := by
  unfold dPut
  by_cases h : (l.any fun kv => decide (kv.1 = k)) = true
  · have h2 : ((l.map fun kv => if kv.1 = k then (kv.1, v) else kv).any fun kv => decide (kv.1 = k)) = true := by
      rw [List.any_eq_true] at h ⊢
      obtain ⟨p, hp, e⟩ := h
      refine ⟨_, List.mem_map.mpr ⟨p, hp, rfl⟩, ?_⟩
      have e : p.1 = k := of_decide_eq_true e
      rw [if_pos e]
      exact decide_eq_true e
    rw [if_pos h, if_pos h2, if_pos h, List.map_map]
    apply List.map_congr_left
    intro p _
    simp only [Function.comp]
    by_cases e : p.1 = k
    · rw [if_pos e, if_pos e, if_pos e]
    · rw [if_neg e, if_neg e]
  · rw [if_neg h, if_neg h]
    have h2 : ((l ++ [(k, v)]).any fun kv => decide (kv.1 = k)) = true := by simp
    rw [if_pos h2, List.map_append]
    congr 1
    · have : ∀ p ∈ l, (if p.1 = k then (p.1, w) else p) = p := fun p hp => if_neg fun z => h (List.any_eq_true.mpr ⟨p, hp, decide_eq_true z⟩)
      rw [List.map_congr_left this, List.map_id']
    · simp
end Mi

set_option Elab.async false
set_option linter.all false
set_option maxHeartbeats 1000000
/-! first places -/
namespace Mi
theorem bits_sub_add (p q : BF) : ∀ m, bitsOf (fun k => p k && !q k) m + bitsOf (fun k => p k && q k) m = bitsOf p m
  | 0 => rfl
  | m + 1 => by
    have ih := bits_sub_add p q m
    unfold bitsOf
    cases hp : p m <;> cases hq : q m <;> simp [hp, hq] <;> omega
theorem bD_sub (m : Nat) (p q : BF) (S : Store) : oSub (bD m p) (bD m fun k => p k && q k) S = .ok (bD m fun k => p k && !q k) S := by
  unfold bD
  rw [oSub_i]
  have := bits_sub_add p q m
  congr 2
  omega
/-- x >> k, as it stands -/
def shD (m : Nat) (p : BF) (k : Nat) : D := .int ((bitsOf p m / 2 ^ k : Nat) : Int)
theorem bD_shr (m : Nat) (p : BF) (k : Nat) (S : Store) : oShr (bD m p) (.int (k : Int)) S = .ok (shD m p k) S := shr_bit p m k S
theorem shD_and (m : Nat) (p : BF) (k : Nat) (hk : k < m) (S : Store) : oAnd (shD m p k) (.int 1) S = .ok (.int (if p k = true then 1 else 0)) S := by
  unfold shD
  rw [and_one, bits_shr]
  simp only [hk, decide_true, Bool.true_and]
  cases p k <;> rfl
/-- whether row n keeps it from going further ahead -/
noncomputable def backP (rows : List Row) (n : Nat) : BF := fun k => match rows[n]? with
  | some r => lostF rows r k || ((true ^^ ownF rows r k) && (true ^^ (fol n r).all fun m => wantP rows m.toNat k))
  | none => false
noncomputable def stdB (rows : List Row) (p : Int × Int) : BF := if p.1 = -1 then fun _ => false else standP rows p.1.toNat
noncomputable def firstB (rows : List Row) (p : Int × Int) : BF := fun k => (wantP rows p.2.toNat k && !stdB rows p k) && (decide (p.1 = -1) || backP rows p.1.toNat k)
end Mi

set_option Elab.async false
set_option linter.all false
set_option maxHeartbeats 1000000
/-! rows put off: the greatest sets that fit -/
namespace Mi
/-- lists of any things within a list -/
structure CmD (S : Store) (A : Nat) (n : Nat) (L : Nat → List D) : Prop where
  a : S[A]? = some (.lst ((List.range n).map fun i => .ref (A + 1 + i)))
  at_ : ∀ i, i < n → S[A + 1 + i]? = some (.lst (L i))
theorem CmD.mono {S S' : Store} {A n : Nat} {L : Nat → List D} (c : CmD S A n L) (p : Pre S S') : CmD S' A n L := ⟨p.get c.a, fun i hi => p.get (c.at_ i hi)⟩
theorem CmD.ix {S : Store} {A n : Nat} {L : Nat → List D} (c : CmD S A n L) {i : Nat} (hi : i < n) : atI ((List.range n).map fun i => D.ref (A + 1 + i)) (i : Int) = some (.ref (A + 1 + i)) := at_of (by rw [List.getElem?_map, List.getElem?_range hi]; rfl)
theorem CmD.start {S : Store} {n : Nat} : CmD (S ++ .lst ((List.range n).map fun i => .ref (S.length + 1 + i)) :: List.replicate n (.lst [])) S.length n fun _ => [] := by
  refine ⟨app_new _ _ _, fun i hi => ?_⟩
  rw [List.getElem?_append_right (by omega), show S.length + 1 + i - S.length = i + 1 by omega, List.getElem?_cons_succ, List.getElem?_replicate, if_pos hi]
theorem CmD.put {S : Store} {A n : Nat} {L : Nat → List D} (c : CmD S A n L) {i : Nat} (hi : i < n) (x : D) : CmD (S.set (A + 1 + i) (.lst (L i ++ [x]))) A n fun j => if j = i then L j ++ [x] else L j := by
  refine ⟨by rw [set_ne (by omega)]; exact c.a, fun j hj => ?_⟩
  by_cases h : j = i
  · subst h
    rw [if_pos rfl]
    exact set_get (c.at_ j hj)
  · rw [if_neg h, set_ne (by omega)]
    exact c.at_ j hj
/-- places that lead to a row -/
def ledL (L : List (Int × Int)) (m : Nat) : List (Int × Int) := L.filter fun p => decide (p.2 = (m : Int))
theorem ledL_snoc (L : List (Int × Int)) (p : Int × Int) (m : Nat) : ledL (L ++ [p]) m = if p.2 = (m : Int) then ledL L m ++ [p] else ledL L m := by
  unfold ledL
  rw [List.filter_append]
  by_cases h : p.2 = (m : Int)
  · simp [h]
  · simp [h]
theorem ledL_len (L : List (Int × Int)) (m : Nat) : (ledL L m).length ≤ L.length := List.length_filter_le _ _
theorem ledL_mem {L : List (Int × Int)} {p : Int × Int} {m : Nat} : p ∈ ledL L m ↔ p ∈ L ∧ p.2 = (m : Int) := by
  unfold ledL
  rw [List.mem_filter, decide_eq_true_eq]
section
variable {bg st : Int × Int → Bool} {ow : Nat → Bool} {L : List (Int × Int)}
/-- whether it comes put off to a place -/
def comesF (bg : Int × Int → Bool) (ow : Nat → Bool) (F : BF) (p : Int × Int) : Bool := bg p || (decide (p.1 ≠ -1) && (F p.1.toNat && !ow p.1.toNat))
theorem comesF_mono {F G : BF} (h : ∀ m, F m = true → G m = true) {p : Int × Int} (c : comesF bg ow F p = true) : comesF bg ow G p = true := by
  unfold comesF at c ⊢
  rw [Bool.or_eq_true] at c ⊢
  rcases c with c | c
  · exact .inl c
  · rw [Bool.and_eq_true, Bool.and_eq_true] at c ⊢
    exact .inr ⟨c.1, h _ c.2.1, c.2.2⟩
def goodF (bg st : Int × Int → Bool) (ow : Nat → Bool) (L : List (Int × Int)) (F : BF) : Prop := ∀ p ∈ L, F p.2.toNat = true → st p = false ∧ comesF bg ow F p = true
noncomputable def offF (bg st : Int × Int → Bool) (ow : Nat → Bool) (L : List (Int × Int)) : BF := fun m => dec (∃ G, goodF bg st ow L G ∧ G m = true)
theorem offF_max {G : BF} (g : goodF bg st ow L G) {m : Nat} (h : G m = true) : offF bg st ow L m = true := dec_true ⟨G, g, h⟩
theorem offF_good : goodF bg st ow L (offF bg st ow L) := fun p hp h => by
  obtain ⟨G, g, hg⟩ := of_dec h
  obtain ⟨a, b⟩ := g p hp hg
  exact ⟨a, comesF_mono (fun m hm => offF_max g hm) b⟩
def clr (F : BF) (j : Nat) : BF := fun m => if m = j then false else F m
/-- rows on their way down -/
structure OffI (bg st : Int × Int → Bool) (ow : Nat → Bool) (L : List (Int × Int)) (n : Nat) (F0 F : BF) (b : Bool) (Dn : Int × Int → Prop) : Prop where
  up : ∀ m, offF bg st ow L m = true → F m = true
  le : bitsOf F n ≤ bitsOf F0 n
  lt : b = true → bitsOf F n < bitsOf F0 n
  eq : b = false → F = F0 ∧ ∀ p, Dn p → F p.2.toNat = true → st p = false ∧ comesF bg ow F p = true
theorem OffI.start {n : Nat} {F : BF} (up : ∀ m, offF bg st ow L m = true → F m = true) {Dn : Int × Int → Prop} (h : ∀ p, ¬ Dn p) : OffI bg st ow L n F F false Dn := ⟨up, Nat.le_refl _, (fun h => by cases h), fun _ => ⟨rfl, fun p hp => absurd hp (h p)⟩⟩
theorem OffI.of {n : Nat} {F0 F : BF} {b : Bool} {Dn Dn' : Int × Int → Prop} (h : OffI bg st ow L n F0 F b Dn) (hd : ∀ p, Dn' p → Dn p) : OffI bg st ow L n F0 F b Dn' := ⟨h.up, h.le, h.lt, fun hb => ⟨(h.eq hb).1, fun p hp => (h.eq hb).2 p (hd p hp)⟩⟩
theorem OffI.keep {n : Nat} {F0 F : BF} {b : Bool} {Dn Dn' : Int × Int → Prop} (h : OffI bg st ow L n F0 F b Dn) {p : Int × Int} (c : (F p.2.toNat && (st p || !comesF bg ow F p)) = false) (hd : ∀ q, Dn' q → Dn q ∨ q = p) : OffI bg st ow L n F0 F b Dn' :=
  ⟨h.up, h.le, h.lt, fun hb => ⟨(h.eq hb).1, fun q hq hf => by
    rcases hd q hq with z | z
    · exact (h.eq hb).2 q z hf
    · subst z
      rw [hf, Bool.true_and, Bool.or_eq_false_iff] at c
      exact ⟨c.1, by simpa using c.2⟩⟩⟩
theorem clr_lt {F : BF} {j n : Nat} (hj : j < n) (h : F j = true) : bitsOf (clr F j) n < bitsOf F n := bit_lt (fun k _ e => by
    unfold clr at e
    split at e
    · cases e
    · exact e) fun e => by
    have := bits_inj e j hj
    unfold clr at this
    rw [if_pos rfl, h] at this
    cases this
theorem OffI.cut {n : Nat} {F0 F : BF} {b : Bool} {Dn Dn' : Int × Int → Prop} (h : OffI bg st ow L n F0 F b Dn) {p : Int × Int} (hp : p ∈ L) (hn : p.2.toNat < n) (c : (F p.2.toNat && (st p || !comesF bg ow F p)) = true) : OffI bg st ow L n F0 (clr F p.2.toNat) true Dn' := by
  rw [Bool.and_eq_true] at c
  have lt := clr_lt hn c.1
  refine ⟨fun m hm => ?_, Nat.le_trans (Nat.le_of_lt lt) h.le, fun _ => Nat.lt_of_lt_of_le lt h.le, (fun h => by cases h)⟩
  unfold clr
  by_cases e : m = p.2.toNat
  · subst e
    obtain ⟨a, z⟩ := offF_good p hp hm
    rw [a, comesF_mono h.up z] at c
    exact absurd c.2 (by simp)
  · rw [if_neg e]
    exact h.up m hm
theorem OffI.done {n : Nat} {F0 F : BF} {Dn : Int × Int → Prop} (h : OffI bg st ow L n F0 F false Dn) (hd : ∀ p ∈ L, Dn p) : F = offF bg st ow L := by
  have g : goodF bg st ow L F := fun p hp hf => (h.eq rfl).2 p (hd p hp) hf
  funext m
  cases h1 : F m with
  | true => rw [offF_max g h1]
  | false =>
    cases h2 : offF bg st ow L m with
    | false => rfl
    | true => rw [h.up m h2] at h1; cases h1
end
theorem off_congr {bg bg' st st' : Int × Int → Bool} {ow ow' : Nat → Bool} {L : List (Int × Int)} (h1 : ∀ p ∈ L, bg p = bg' p) (h2 : ∀ p ∈ L, st p = st' p) (h3 : ∀ p ∈ L, p.1 ≠ -1 → ow p.1.toNat = ow' p.1.toNat) : offF bg st ow L = offF bg' st' ow' L := by
  have e : ∀ F p, p ∈ L → comesF bg ow F p = comesF bg' ow' F p := fun F p hp => by
    unfold comesF
    rw [h1 p hp]
    by_cases c : p.1 = -1
    · simp [c]
    · rw [h3 p hp c]
  have g : goodF bg st ow L = goodF bg' st' ow' L := by
    funext F
    refine propext ⟨fun h p hp hf => ?_, fun h p hp hf => ?_⟩
    · have := h p hp hf
      rw [← h2 p hp, ← e F p hp]; exact this
    · have := h p hp hf
      rw [h2 p hp, e F p hp]; exact this
  unfold offF
  rw [g]
/-! ### a tuple of two lists, compared -/
theorem look_of {S : Store} {n : Nat} {l : List D} {r : List PySem.PyData} (h : lstOf S n = some l) (e : toPs (lookP 7 S) l = some r) : lookP 8 S n = some (.list r) := by
  unfold lookP
  unfold lstOf at h
  cases hn : S[n]? with
  | none => rw [hn] at h; cases h
  | some o =>
    rw [hn] at h
    cases o with
    | lst l => dsimp only at h ⊢; obtain rfl := Option.some.inj h; rw [e]; rfl
    | fls l => dsimp only at h ⊢; obtain rfl := Option.some.inj h; rw [e]; rfl
    | _ => cases h
theorem eq_two {S : Store} {a b a' b' : Nat} {A : List (List Ky)} {B : List Ky} (ha : lstOf S a = some (A.map kt)) (hb : lstOf S b = some (B.map kyD)) (ha' : lstOf S a' = some (A.map kt)) (hb' : lstOf S b' = some (B.map kyD)) (hA : A.all (fun l => l.all kOk) = true) (hB : B.all kOk = true) :
    pyEq (.tup [.ref a, .ref b]) (.tup [.ref a', .ref b']) S = some true := by
  have l1 := look_of ha (toPs_kt _ A)
  have l2 := look_of hb (toPs_k _ B)
  have l3 := look_of ha' (toPs_kt _ A)
  have l4 := look_of hb' (toPs_k _ B)
  have sh : shp (.tuple [.list (A.map fun l => .tuple (l.map kp)), .list (B.map kp)]) = true := by
    unfold shp PySem.SeqAt.shaped
    have d1 := dep_kts A
    have d2 := dep_ks B
    simp only [PySem.PyData.canLay0, PySem.PyData.canLayAll0, PySem.PyData.depth, PySem.PyData.depthAll, lay_kts hA, lay_ks hB, Bool.true_and, Bool.and_self]
    refine decide_eq_true ?_
    simp only [Nat.max_def]
    split <;> split <;> omega
  unfold pyEq
  have e : scq (.tup [.ref a, .ref b]) (.tup [.ref a', .ref b']) = none := rfl
  rw [e]
  simp only [pd, toP, toPs, l1, l2, l3, l4, Option.bind_some, Option.map_some, sh, and_self, if_true]
  unfold PySem.PyData.eqv PySem.PyData.eqvAll PySem.PyData.eqvAll PySem.PyData.eqvAll PySem.PyData.eqv
  rw [eqv_kts, eqv_ks]
  simp
end Mi

set_option Elab.async false
set_option linter.all false
set_option maxHeartbeats 1000000
/-! where a row is come to that asks -/
namespace Mi
inductive RdI (rd dd : Nat → Bool) (nx : Nat → List Int) : Nat → Prop
  | read {n : Nat} (h : rd n = true) : RdI rd dd nx n
  | step {n m : Nat} (h : dd n = false) (hm : (m : Int) ∈ nx n) (r : RdI rd dd nx m) : RdI rd dd nx n
noncomputable def rdF (rd dd : Nat → Bool) (nx : Nat → List Int) : BF := fun m => dec (RdI rd dd nx m)
def setT (F : BF) (j : Nat) : BF := fun m => if m = j then true else F m
section
variable {rd dd : Nat → Bool} {nx : Nat → List Int}
/-- rows on their way up -/
structure AskI (rd dd : Nat → Bool) (nx : Nat → List Int) (n : Nat) (F0 F : BF) (b : Bool) (Dn : Nat → Int → Prop) : Prop where
  sd : ∀ m, F m = true → RdI rd dd nx m
  base : ∀ m, rd m = true → F m = true
  le : bitsOf (fun i => !F i) n ≤ bitsOf (fun i => !F0 i) n
  lt : b = true → bitsOf (fun i => !F i) n < bitsOf (fun i => !F0 i) n
  eq : b = false → F = F0 ∧ ∀ (i m : Nat), Dn i (m : Int) → dd i = false → (m : Int) ∈ nx i → F m = true → F i = true
theorem AskI.start {n : Nat} {F : BF} (sd : ∀ m, F m = true → RdI rd dd nx m) (base : ∀ m, rd m = true → F m = true) {Dn : Nat → Int → Prop} (h : ∀ i j, ¬ Dn i j) : AskI rd dd nx n F F false Dn := ⟨sd, base, Nat.le_refl _, (fun h => by cases h), fun _ => ⟨rfl, fun i m hd => absurd hd (h i m)⟩⟩
theorem AskI.of {n : Nat} {F0 F : BF} {b : Bool} {Dn Dn' : Nat → Int → Prop} (h : AskI rd dd nx n F0 F b Dn) (hd : ∀ (i m : Nat), Dn' i m → Dn i m ∨ dd i = true ∨ (m : Int) ∉ nx i ∨ F m = false ∨ F i = true) : AskI rd dd nx n F0 F b Dn' := ⟨h.sd, h.base, h.le, h.lt, fun hb => ⟨(h.eq hb).1, fun i m hm h1 h2 h3 => by
  rcases hd i m hm with z | z | z | z | z
  · exact (h.eq hb).2 i m z h1 h2 h3
  · rw [h1] at z; cases z
  · exact absurd h2 z
  · rw [h3] at z; cases z
  · exact z⟩⟩
theorem AskI.put {n : Nat} {F0 F : BF} {b : Bool} {Dn Dn' : Nat → Int → Prop} (h : AskI rd dd nx n F0 F b Dn) {i m : Nat} (hi : i < n) (h1 : dd i = false) (h2 : (m : Int) ∈ nx i) (h3 : F m = true) (h4 : F i = false) : AskI rd dd nx n F0 (setT F i) true Dn' := by
  have lt : bitsOf (fun j => !setT F i j) n < bitsOf (fun j => !F j) n := bit_lt (fun k _ e => by
    unfold setT at e
    split at e
    · cases e
    · exact e) fun e => by
    have := bits_inj e i hi
    unfold setT at this
    rw [if_pos rfl, h4] at this
    cases this
  refine ⟨fun k hk => ?_, fun k hk => ?_, Nat.le_trans (Nat.le_of_lt lt) h.le, fun _ => Nat.lt_of_lt_of_le lt h.le, (fun h => by cases h)⟩
  · unfold setT at hk
    split at hk
    · rename_i e
      subst e
      exact .step h1 h2 (h.sd m h3)
    · exact h.sd k hk
  · unfold setT
    split
    · rfl
    · exact h.base k hk
theorem AskI.done {n : Nat} {F0 F : BF} {Dn : Nat → Int → Prop} (h : AskI rd dd nx n F0 F false Dn) (hd : ∀ (i m : Nat), i < n → (m : Int) ∈ nx i → Dn i m) (hx : ∀ (i m : Nat), (m : Int) ∈ nx i → m < n) : ∀ m, m < n → F m = rdF rd dd nx m := by
  have up : ∀ m, RdI rd dd nx m → m < n → F m = true := by
    intro m r
    induction r with
    | read z => intro _; exact h.base _ z
    | @step i j z hm r ih =>
      intro hi
      exact (h.eq rfl).2 i j (hd i j hi hm) z hm (ih (hx i j hm))
  intro m hm
  unfold rdF
  by_cases r : RdI rd dd nx m
  · rw [dec_true r, up m r hm]
  · rw [dec_false r]
    cases hf : F m with
    | false => rfl
    | true => exact absurd (h.sd m hf) r
end
/-- what a search on keeps -/
structure Sea (rows : List Row) (rd dd : Nat → Bool) (nx : Nat → List Int) (m0 : Nat) (ks left : List Int) : Prop where
  kss : Ks rows ks
  rg : ∀ y ∈ left, (0 : Int) ≤ y ∧ y < (rows.length : Int)
  sound : ∀ n : Nat, (n : Int) ∈ left → RdI rd dd nx n → RdI rd dd nx m0
  quiet : ∀ n : Nat, (n : Int) ∈ ks → rd n = false ∧ ∀ j : Nat, (j : Int) ∈ nx n → (j : Int) ∈ ks ∨ (j : Int) ∈ left ∨ (rd j = false ∧ dd j = true)
  start : (m0 : Int) ∈ ks ∨ (m0 : Int) ∈ left ∨ (rd m0 = false ∧ dd m0 = true)
theorem rdI_dead {rd dd : Nat → Bool} {nx : Nat → List Int} {n : Nat} (h1 : rd n = false) (h2 : dd n = true) : ¬ RdI rd dd nx n := by
  intro r
  cases r with
  | read h => rw [h1] at h; cases h
  | step h _ _ => rw [h2] at h; cases h
theorem Sea.done {rows : List Row} {rd dd : Nat → Bool} {nx : Nat → List Int} {m0 : Nat} {ks : List Int} (s : Sea rows rd dd nx m0 ks []) : ¬ RdI rd dd nx m0 := by
  have no : ∀ n, RdI rd dd nx n → (n : Int) ∉ ks := by
    intro n r
    induction r with
    | @read n h =>
      intro z
      rw [(s.quiet n z).1] at h; cases h
    | @step n m h hm r ih =>
      intro z
      rcases (s.quiet n z).2 m hm with y | y | ⟨y, w⟩
      · exact ih y
      · cases y
      · exact rdI_dead y w r
  intro r
  rcases s.start with h | h | ⟨y, w⟩
  · exact no _ r h
  · cases h
  · exact rdI_dead y w r
theorem Sea.init {rows : List Row} {rd dd : Nat → Bool} {nx : Nat → List Int} {m0 : Nat} (h : m0 < rows.length) : Sea rows rd dd nx m0 [] [(m0 : Int)] := ⟨⟨by simp, by simp⟩, fun y hy => by simp at hy; omega, fun n hn m => (by
  have : n = m0 := by simp at hn; omega
  exact this ▸ m), fun n hn => (by cases hn), .inr (.inl (by simp))⟩
/-- one that is seen or dead is left out -/
theorem Sea.skip {rows : List Row} {rd dd : Nat → Bool} {nx : Nat → List Int} {m0 : Nat} {ks q : List Int} {n : Nat} (s : Sea rows rd dd nx m0 ks (q ++ [(n : Int)])) (h : (n : Int) ∈ ks ∨ (rd n = false ∧ dd n = true)) : Sea rows rd dd nx m0 ks q := by
  have f : ∀ j : Nat, (j : Int) ∈ q ++ [(n : Int)] → (j : Int) ∈ ks ∨ (j : Int) ∈ q ∨ (rd j = false ∧ dd j = true) := fun j hj => by
    rcases List.mem_append.mp hj with z | z
    · exact .inr (.inl z)
    · have : j = n := by have := List.mem_singleton.mp z; omega
      subst this
      rcases h with h | h
      · exact .inl h
      · exact .inr (.inr h)
  refine ⟨s.kss, fun y hy => s.rg y (by simp [hy]), fun j hj => s.sound j (by simp [hj]), fun j hj => ⟨(s.quiet j hj).1, fun i hi => ?_⟩, ?_⟩
  · rcases (s.quiet j hj).2 i hi with z | z | z
    · exact .inl z
    · exact f i z
    · exact .inr (.inr z)
  · rcases s.start with z | z | z
    · exact .inl z
    · exact f m0 z
    · exact .inr (.inr z)
theorem Sea.go {rows : List Row} {rd dd : Nat → Bool} {nx : Nat → List Int} {m0 : Nat} {ks q : List Int} {n : Nat} (s : Sea rows rd dd nx m0 ks (q ++ [(n : Int)])) (hn : (n : Int) ∉ ks) (h1 : rd n = false) (h2 : dd n = false) (hx : ∀ y ∈ nx n, (0 : Int) ≤ y ∧ y < (rows.length : Int)) : Sea rows rd dd nx m0 (ks ++ [(n : Int)]) (q ++ nx n) := by
  have hrg := s.rg n (by simp)
  have f : ∀ j : Nat, (j : Int) ∈ q ++ [(n : Int)] → (j : Int) ∈ ks ++ [(n : Int)] ∨ (j : Int) ∈ q ++ nx n ∨ (rd j = false ∧ dd j = true) := fun j hj => by
    rcases List.mem_append.mp hj with z | z
    · exact .inr (.inl (by simp [z]))
    · exact .inl (by rw [List.mem_append]; exact .inr z)
  refine ⟨s.kss.snoc hn hrg, fun y hy => ?_, fun j hj r => ?_, fun j hj => ?_, ?_⟩
  · rcases List.mem_append.mp hy with z | z
    · exact s.rg y (by simp [z])
    · exact hx y z
  · rcases List.mem_append.mp hj with z | z
    · exact s.sound j (by simp [z]) r
    · exact s.sound n (by simp) (.step h2 z r)
  · rcases List.mem_append.mp hj with z | z
    · refine ⟨(s.quiet j z).1, fun i hi => ?_⟩
      rcases (s.quiet j z).2 i hi with y | y | y
      · exact .inl (by simp [y])
      · exact f i y
      · exact .inr (.inr y)
    · have : j = n := by have := List.mem_singleton.mp z; omega
      subst this
      exact ⟨h1, fun i hi => .inr (.inl (by simp [hi]))⟩
  · rcases s.start with z | z | z
    · exact .inl (by simp [z])
    · exact f m0 z
    · exact .inr (.inr z)
/-! ### what rows do, told by pairs -/
def HD (L : List (Nat × Tx)) : List D := L.map fun p => .tup [.int (p.1 : Int), .str p.2]
def TL (L : List (Nat × Tx)) : List (Ky × D) := L.foldl (fun acc p => dPut acc (.inl (p.1 : Int)) (.str p.2)) []
def hwL (L : List (Nat × Tx)) (n : Nat) : Tx := L.foldl (fun acc p => if p.1 = n then p.2 else acc) []
theorem prs_HD (L : List (Nat × Tx)) : prsOf (HD L) = some (L.map fun p => ((Sum.inl (p.1 : Int) : Ky), D.str p.2)) := by
  induction L with
  | nil => rfl
  | cons p r ih =>
    show ((kyOf (.int (p.1 : Int))).bind fun q => (prsOf (HD r)).map fun l => (q, D.str p.2) :: l) = _
    rw [ih]; rfl
theorem bDict_HD (L : List (Nat × Tx)) (S : Store) : bDict [.wtp (HD L)] S = .ok (.ref S.length) (S ++ [.dK (TL L)]) := by
  unfold bDict
  dsimp only
  rw [prs_HD]
  dsimp only
  rw [List.foldl_map]
  rfl
theorem TL_get (L : List (Nat × Tx)) (n : Nat) : (dGet (TL L) (.inl (n : Int))).getD (.str []) = .str (hwL L n) := by
  refine snoc_ind (P := fun L => (dGet (TL L) (.inl (n : Int))).getD (.str []) = .str (hwL L n)) rfl (fun L p ih => ?_) L
  have e1 : TL (L ++ [p]) = dPut (TL L) (.inl (p.1 : Int)) (.str p.2) := by unfold TL; rw [List.foldl_append]; rfl
  have e2 : hwL (L ++ [p]) n = if p.1 = n then p.2 else hwL L n := by unfold hwL; rw [List.foldl_append]; rfl
  rw [e1, e2, dPut_get]
  by_cases h : p.1 = n
  · rw [if_pos (by rw [h]), if_pos h]; rfl
  · rw [if_neg (fun z => h (by injection z with z; omega)), if_neg h]
    exact ih
theorem dGetM_2 {n : Nat} {T : List (Ky × D)} {S : Store} (h : S[n]? = some (.dK T)) (i : Int) (x : D) : dGetM (.ref n) [.int i, x] S = .ok ((dGet T (.inl i)).getD x) S := by
  unfold dGetM dLook
  dsimp only
  rw [h]
  rfl
end Mi

set_option Elab.async false
set_option linter.all false
set_option maxHeartbeats 1000000
/-! how far rows are from an end -/
namespace Mi
def TF (ks : List Int) (G : Nat → Nat) : List (Ky × D) := ks.map fun x => ((Sum.inl x : Ky), D.int ((G x.toNat : Nat) : Int))
def upG (G : Nat → Nat) (n v : Nat) : Nat → Nat := fun i => if i = n then v else G i
theorem TF_get (ks : List Int) (G : Nat → Nat) (n : Nat) : dGet (TF ks G) (.inl (n : Int)) = if (n : Int) ∈ ks then some (.int ((G n : Nat) : Int)) else none := by
  unfold TF dGet
  induction ks with
  | nil => rfl
  | cons x r ih =>
    rw [List.map_cons, List.find?_cons]
    by_cases h : x = (n : Int)
    · subst h
      simp
    · have h1 : decide ((Sum.inl x : Ky) = .inl (n : Int)) = false := decide_eq_false fun e => h (by injection e)
      dsimp only
      rw [h1]
      dsimp only
      rw [ih]
      have h2 : ¬ (n : Int) = x := fun e => h e.symm
      by_cases m : (n : Int) ∈ r
      · rw [if_pos m, if_pos (by simp [m])]
      · rw [if_neg m, if_neg (by simp [m, h2])]
theorem TF_any (ks : List Int) (G : Nat → Nat) (n : Nat) : ((TF ks G).any fun kv => decide (kv.1 = (Sum.inl (n : Int) : Ky))) = decide ((n : Int) ∈ ks) := by
  unfold TF
  rw [List.any_map]
  induction ks with
  | nil => rfl
  | cons x r ih =>
    rw [List.any_cons, ih]
    by_cases h : x = (n : Int)
    · subst h; simp
    · have h2 : ¬ (n : Int) = x := fun e => h e.symm
      simp [h, h2]
theorem TF_old {ks : List Int} {G : Nat → Nat} {n v : Nat} (h : (n : Int) ∈ ks) (hz : ∀ x ∈ ks, (0 : Int) ≤ x) : dPut (TF ks G) (.inl (n : Int)) (.int (v : Int)) = TF ks (upG G n v) := by
  unfold dPut
  rw [TF_any, if_pos (decide_eq_true h)]
  unfold TF
  rw [List.map_map]
  apply List.map_congr_left
  intro x hx
  have := hz x hx
  by_cases e : x = (n : Int)
  · subst e
    simp [upG]
  · have e2 : ¬ x.toNat = n := by omega
    simp [upG, e, e2]
theorem TF_new {ks : List Int} {G : Nat → Nat} {n v : Nat} (h : (n : Int) ∉ ks) (hz : ∀ x ∈ ks, (0 : Int) ≤ x) : dPut (TF ks G) (.inl (n : Int)) (.int (v : Int)) = TF (ks ++ [(n : Int)]) (upG G n v) := by
  unfold dPut
  rw [TF_any, if_neg (by simp [h])]
  unfold TF
  rw [List.map_append]
  congr 1
  · apply List.map_congr_left
    intro x hx
    have := hz x hx
    have e : ¬ x.toNat = n := fun z => h (by rw [show (n : Int) = x by omega]; exact hx)
    simp [upG, e]
  · simp [upG]
theorem TF_len (ks : List Int) (G : Nat → Nat) : (TF ks G).length = ks.length := by unfold TF; rw [List.length_map]
/-! ### rounds -/
def sumTo (f : Nat → Nat) : Nat → Nat
  | 0 => 0
  | n + 1 => sumTo f n + f n
theorem sumTo_le {f g : Nat → Nat} : ∀ {N : Nat}, (∀ i, i < N → f i ≤ g i) → sumTo f N ≤ sumTo g N
  | 0, _ => Nat.le_refl _
  | N + 1, h => Nat.add_le_add (sumTo_le fun i hi => h i (by omega)) (h N (by omega))
theorem sumTo_lt {f g : Nat → Nat} {n : Nat} : ∀ {N : Nat}, (∀ i, i < N → f i ≤ g i) → n < N → f n < g n → sumTo f N < sumTo g N
  | N + 1, h, hn, hl => by
    by_cases e : n = N
    · subst e
      exact Nat.add_lt_add_of_le_of_lt (sumTo_le fun i hi => h i (by omega)) hl
    · exact Nat.add_lt_add_of_lt_of_le (sumTo_lt (fun i hi => h i (by omega)) (by omega) hl) (h N (by omega))
def mu (N : Nat) (ks : List Int) (G : Nat → Nat) : Nat := sumTo (fun n => if (n : Int) ∈ ks then G n else N) N
structure FarI (rows : List Row) (ks : List Int) (G : Nat → Nat) : Prop where
  kss : Ks rows ks
  bd : ∀ n : Nat, (n : Int) ∈ ks → G n < ks.length
  snd : ∀ (n : Nat) (r : Row), (n : Int) ∈ ks → rows[n]? = some r → r = .en ∨ ∃ m : Nat, (m : Int) ∈ fol n r ∧ (m : Int) ∈ ks ∧ G m + 1 ≤ G n
  ends : ∀ n : Nat, rows[n]? = some .en → (n : Int) ∈ ks
def putK (ks : List Int) (n : Int) : List Int := if n ∈ ks then ks else ks ++ [n]
theorem putK_mem {ks : List Int} {n x : Int} : x ∈ putK ks n ↔ x ∈ ks ∨ x = n := by
  unfold putK
  split
  · rename_i h
    exact ⟨.inl, fun z => z.elim id fun e => e ▸ h⟩
  · simp
theorem FarI.put {rows : List Row} {ks : List Int} {G : Nat → Nat} (h : FarI rows ks G) {n m : Nat} {r : Row} (hr : rows[n]? = some r) (hm : (m : Int) ∈ fol n r) (hmk : (m : Int) ∈ ks) (hc : (n : Int) ∉ ks ∨ G m + 1 < G n) : FarI rows (putK ks n) (upG G n (G m + 1)) ∧ mu rows.length (putK ks n) (upG G n (G m + 1)) < mu rows.length ks G := by
  have hn := (List.getElem?_eq_some_iff.mp hr).1
  have bm := h.bd m hmk
  have nm : m ≠ n := by
    intro e
    subst e
    rcases hc with c | c
    · exact c hmk
    · omega
  have len : ks.length ≤ (putK ks n).length := by unfold putK; split <;> simp
  have lenn : (n : Int) ∉ ks → ks.length < (putK ks n).length := fun z => by unfold putK; rw [if_neg z]; simp
  have kl := h.kss.len
  have K' : Ks rows (putK ks n) := by
    unfold putK
    split
    · exact h.kss
    · rename_i z
      exact h.kss.snoc z (by omega)
  have klt : (n : Int) ∉ ks → ks.length < rows.length := fun z => Nat.lt_of_lt_of_le (lenn z) K'.len
  refine ⟨⟨K', fun i hi => ?_, fun i q hi hq => ?_, fun i hi => putK_mem.mpr (.inl (h.ends i hi))⟩, ?_⟩
  · unfold upG
    by_cases e : i = n
    · rw [if_pos e]
      rcases hc with c | c
      · have := lenn c; omega
      · by_cases z : (n : Int) ∈ ks
        · have := h.bd n z; omega
        · have := lenn z; omega
    · rw [if_neg e]
      rcases putK_mem.mp hi with z | z
      · have := h.bd i z; omega
      · exact absurd (by omega) e
  · by_cases e : i = n
    · subst e
      rw [hr] at hq
      obtain rfl := Option.some.inj hq
      exact .inr ⟨m, hm, putK_mem.mpr (.inl hmk), by unfold upG; rw [if_neg nm, if_pos rfl]; omega⟩
    · rcases putK_mem.mp hi with z | z
      · rcases h.snd i q z hq with w | ⟨m', w1, w2, w3⟩
        · exact .inl w
        · refine .inr ⟨m', w1, putK_mem.mpr (.inl w2), ?_⟩
          unfold upG
          rw [if_neg e]
          by_cases e2 : m' = n
          · subst e2
            rw [if_pos rfl]
            rcases hc with c | c
            · exact absurd w2 c
            · omega
          · rw [if_neg e2]; exact w3
      · exact absurd (by omega) e
  · unfold mu
    refine sumTo_lt (n := n) (fun i hi => ?_) hn ?_
    · by_cases e : i = n
      · subst e
        rw [if_pos (putK_mem.mpr (.inr rfl))]
        unfold upG
        rw [if_pos rfl]
        by_cases z : (i : Int) ∈ ks
        · rw [if_pos z]
          rcases hc with c | c
          · exact absurd z c
          · omega
        · rw [if_neg z]; have := klt z; omega
      · have : upG G n (G m + 1) i = G i := by unfold upG; rw [if_neg e]
        by_cases z : (i : Int) ∈ ks
        · rw [if_pos z, if_pos (putK_mem.mpr (.inl z)), this]; exact Nat.le_refl _
        · rw [if_neg z, if_neg (fun w => (putK_mem.mp w).elim z fun w => e (by omega))]; exact Nat.le_refl _
    · rw [if_pos (putK_mem.mpr (.inr rfl))]
      unfold upG
      rw [if_pos rfl]
      by_cases z : (n : Int) ∈ ks
      · rw [if_pos z]
        rcases hc with c | c
        · exact absurd z c
        · exact c
      · rw [if_neg z]; have := klt z; omega
structure FarP (rows : List Row) (ks0 : List Int) (G0 : Nat → Nat) (ks : List Int) (G : Nat → Nat) (b : Bool) (Dn : Nat → Int → Prop) : Prop where
  inv : FarI rows ks G
  le : mu rows.length ks G ≤ mu rows.length ks0 G0
  lt : b = true → mu rows.length ks G < mu rows.length ks0 G0
  eq : b = false → ∀ i m : Nat, Dn i (m : Int) → (m : Int) ∈ ks → (i : Int) ∈ ks ∧ G i ≤ G m + 1
theorem FarP.keep {rows : List Row} {ks0 ks : List Int} {G0 G : Nat → Nat} {b : Bool} {Dn Dn' : Nat → Int → Prop} (h : FarP rows ks0 G0 ks G b Dn) (hd : ∀ i m : Nat, Dn' i m → Dn i m ∨ ((m : Int) ∈ ks → (i : Int) ∈ ks ∧ G i ≤ G m + 1)) : FarP rows ks0 G0 ks G b Dn' := ⟨h.inv, h.le, h.lt, fun hb i m hm hk => (hd i m hm).elim (fun z => h.eq hb i m z hk) fun z => z hk⟩
theorem FarP.put {rows : List Row} {ks0 ks : List Int} {G0 G : Nat → Nat} {b : Bool} {Dn Dn' : Nat → Int → Prop} (h : FarP rows ks0 G0 ks G b Dn) {n m : Nat} {r : Row} (hr : rows[n]? = some r) (hm : (m : Int) ∈ fol n r) (hmk : (m : Int) ∈ ks) (hc : (n : Int) ∉ ks ∨ G m + 1 < G n) : FarP rows ks0 G0 (putK ks n) (upG G n (G m + 1)) true Dn' := by
  obtain ⟨a, b⟩ := h.inv.put hr hm hmk hc
  have le := h.le
  exact ⟨a, by omega, fun _ => by omega, fun z => by cases z⟩
structure FarD (rows : List Row) (ks : List Int) (G : Nat → Nat) : Prop where
  inv : FarI rows ks G
  cl : ∀ (n m : Nat) (r : Row), rows[n]? = some r → (m : Int) ∈ fol n r → (m : Int) ∈ ks → (n : Int) ∈ ks ∧ G n ≤ G m + 1
/-- what one table holds, each other table holds -/
theorem FarD.sub {rows : List Row} {ks ks' : List Int} {G G' : Nat → Nat} (a : FarD rows ks G) (b : FarD rows ks' G') : ∀ (c n : Nat), G n ≤ c → (n : Int) ∈ ks → (n : Int) ∈ ks' := by
  intro c
  induction c with
  | zero =>
    intro n hc hn
    have hl := (a.inv.kss.rg _ hn).2
    have hr : rows[n]? = some rows[n] := List.getElem?_eq_getElem (by omega)
    rcases a.inv.snd n _ hn hr with e | ⟨m, _, _, h3⟩
    · rw [e] at hr
      exact b.inv.ends n hr
    · omega
  | succ c ih =>
    intro n hc hn
    have hl := (a.inv.kss.rg _ hn).2
    have hr : rows[n]? = some rows[n] := List.getElem?_eq_getElem (by omega)
    rcases a.inv.snd n _ hn hr with e | ⟨m, h1, h2, h3⟩
    · rw [e] at hr
      exact b.inv.ends n hr
    · exact (b.cl n m _ hr h1 (ih m (by omega) h2)).1
end Mi

set_option Elab.async false
set_option linter.all false
set_option maxHeartbeats 1000000
/-! ways and trees over rows that need no end as the last one -/
namespace Mi
structure PW (rows : List Row) : Prop where
  pos : 0 < rows.length
  fi : ∀ {n : Nat} {r : Row} {m : Int}, rows[n]? = some r → m ∈ fol n r → 0 ≤ m ∧ m < rows.length
  rch : ∀ i, i < rows.length → Reach rows i
  ends : ∀ i, i < rows.length → Ends rows i
theorem IsWay.snocW {rows : List Row} {w : List Int} (h : IsWay rows w) (p : PW rows) {a m : Int} {r : Row} (ha : w[w.length - 1]? = some a) (hr : rows[a.toNat]? = some r) (f : m ∈ fol a.toNat r) : IsWay rows (w ++ [m]) := by
  have hp : 0 < w.length := List.length_pos_iff.mpr h.1
  refine ⟨by simp, fun j hj => ?_⟩
  rw [List.length_append, List.length_singleton] at hj
  have old : ∀ i, i < w.length → (w ++ [m])[i]? = w[i]? := fun i hi => List.getElem?_append_left hi
  by_cases h1 : j < w.length
  · obtain ⟨n, e, a0, a1, q⟩ := h.2 j h1
    refine ⟨n, by rw [old j h1, e], a0, a1, fun h0 => ?_⟩
    obtain ⟨a, r, z, q⟩ := q h0
    exact ⟨a, r, by rw [old _ (by omega), z], q⟩
  · obtain rfl : j = w.length := by omega
    have := p.fi hr f
    exact ⟨m, snoc_eq _ _, this.1, this.2, fun _ => ⟨a, r, by rw [old _ (by omega), ha], hr, f⟩⟩
theorem Tree.inrW {rows : List Row} {st : Int} {cm : CM} (t : Tree rows st cm) (pg : PW rows) : ∀ x ∈ cm.map Prod.fst, (0 : Int) ≤ x ∧ x < (rows.length : Int) := by
  induction t with
  | base h0 h1 => intro x hx; rw [List.mem_singleton.mp hx]; exact ⟨h0, h1⟩
  | snoc _ _ _ hr hf ih =>
    intro x hx
    rw [List.map_append] at hx
    rcases List.mem_append.mp hx with z | z
    · exact ih x z
    · rw [List.mem_singleton.mp z]; exact pg.fi hr hf
theorem Tree.lenW {rows : List Row} {st : Int} {cm : CM} (t : Tree rows st cm) (pg : PW rows) : cm.length ≤ rows.length := by
  have := nodup_range rows.length _ t.nodup (t.inrW pg)
  rwa [List.length_map] at this
/-- the way that a tree tells -/
theorem Tree.wayW {rows : List Row} {st : Int} {cm : CM} (t : Tree rows st cm) (pg : PW rows) : ∀ n ∈ cm.map Prod.fst, ∃ w, IsWay rows w ∧ w[0]? = some st ∧ w[w.length - 1]? = some n ∧ w.length ≤ cm.length ∧ Up cm w.reverse := by
  induction t with
  | base h0 h1 =>
    intro n hn
    rw [List.mem_singleton.mp hn]
    refine ⟨[st], IsWay.one ⟨h0, h1⟩, rfl, rfl, Nat.le_refl _, ?_⟩
    show dGet [(st, none)] st = some none
    simp [dGet]
  | @snoc cm h m r t hh hm hr hf ih =>
    intro n hn
    rw [List.map_append] at hn
    rcases List.mem_append.mp hn with z | z
    · obtain ⟨w, a, b, c, d, u⟩ := ih n z
      exact ⟨w, a, b, c, by rw [List.length_append, List.length_singleton]; omega, u.mono⟩
    · rw [List.mem_singleton.mp z]
      obtain ⟨w, a, b, c, d, u⟩ := ih h hh
      have hp : 0 < w.length := List.length_pos_iff.mpr a.1
      refine ⟨w ++ [m], a.snocW pg c hr hf, by rw [List.getElem?_append_left hp]; exact b, by simp, by simp; omega, ?_⟩
      rw [List.reverse_append, List.reverse_singleton]
      have hd : w.reverse[0]? = some h := by
        rw [List.getElem?_reverse hp]; exact c
      have um := u.mono (m := m) (v := some h)
      cases hw : w.reverse with
      | nil => rw [hw] at hd; cases hd
      | cons y q =>
        rw [hw] at hd um
        obtain rfl := Option.some.inj hd
        exact ⟨dGet_new hm, um⟩
/-! ### dicts of numbers, any values -/
theorem fm_get {β : Type} (f : β → D) (L : List (Int × β)) (x : Int) : dGet (L.map fun p => ((Sum.inl p.1 : Ky), f p.2)) (.inl x) = (dGet L x).map f := by
  unfold dGet
  induction L with
  | nil => rfl
  | cons p r ih =>
    by_cases h : p.1 = x
    · subst h; simp
    · have h2 : ¬ ((Sum.inl p.1 : Ky) = Sum.inl x) := fun z => h (Sum.inl.inj z)
      simp [List.find?_cons, h]
      simpa using ih
theorem kget_some {β : Type} {L : List (Int × β)} {x : Int} : (dGet L x).isSome = true ↔ x ∈ L.map Prod.fst := by
  unfold dGet
  rw [Option.isSome_map, List.find?_isSome]
  simp
theorem kget_none {β : Type} {L : List (Int × β)} {x : Int} (h : x ∉ L.map Prod.fst) : dGet L x = none := by
  cases e : dGet L x with
  | none => rfl
  | some y => exact absurd (kget_some.mp (by rw [e]; rfl)) h
theorem fm_put {β : Type} (f : β → D) (L : List (Int × β)) (x : Int) (v : β) (h : x ∉ L.map Prod.fst) : dPut (L.map fun p => ((Sum.inl p.1 : Ky), f p.2)) (.inl x) (f v) = (L ++ [(x, v)]).map fun p => ((Sum.inl p.1 : Ky), f p.2) := by
  unfold dPut
  rw [if_neg]
  · simp
  · simp only [List.any_map, List.any_eq_true, Function.comp, decide_eq_true_eq, not_exists, not_and]
    intro p hp z
    exact h (List.mem_map.mpr ⟨p, hp, Sum.inl.inj z⟩)
theorem kget_of {β : Type} {L : List (Int × β)} {x : Int} {v : β} (nd : (L.map Prod.fst).Nodup) (h : (x, v) ∈ L) : dGet L x = some v := by
  unfold dGet
  induction L with
  | nil => cases h
  | cons p r ih =>
    rw [List.map_cons, List.nodup_cons] at nd
    rcases List.mem_cons.mp h with e | e
    · subst e; simp
    · have hx : ¬ p.1 = x := fun z => nd.1 (List.mem_map.mpr ⟨(x, v), e, z.symm⟩)
      simp only [List.find?_cons, hx, decide_false]
      exact ih nd.2 e
theorem kget_mem {β : Type} {L : List (Int × β)} {x : Int} {v : β} (h : dGet L x = some v) : (x, v) ∈ L := by
  unfold dGet at h
  obtain ⟨p, hp, rfl⟩ := Option.map_eq_some_iff.mp h
  have h1 := List.mem_of_find?_eq_some hp
  have h2 := List.find?_some hp
  have : p.1 = x := by simpa using h2
  rw [← this]; exact h1
end Mi

set_option Elab.async false
set_option linter.all false
set_option maxHeartbeats 1000000
/-! least sums by rounds; rings; ways counted by differences -/
namespace Mi
/-! ### back by what each was come to from -/
def it (a : Int → Option Int) : Nat → Int → Option Int
  | 0, v => some v
  | k + 1, v => (it a k v).bind a
theorem it_add (a : Int → Option Int) (j : Nat) : ∀ (k : Nat) (v : Int), it a (j + k) v = (it a j v).bind (it a k)
  | 0, v => by
    show it a j v = _
    cases it a j v <;> rfl
  | k + 1, v => by
    show (it a (j + k) v).bind a = _
    rw [it_add a j k v]
    cases it a j v <;> rfl
theorem it_one (a : Int → Option Int) (k : Nat) (v u : Int) (h : a v = some u) : it a (k + 1) v = it a k u := by
  rw [Nat.add_comm, it_add]
  show ((some v).bind a).bind (it a k) = _
  rw [Option.bind_some, h, Option.bind_some]
def orZ (o : Option Int) : Int := o.getD 0
/-- what the steps back sum up to -/
def cw (a : Int → Option Int) (W : Int → Int → Int) (v : Int) : Nat → Int
  | 0 => 0
  | k + 1 => cw a W v k + W (orZ (it a (k + 1) v)) (orZ (it a k v))
section
variable {N : Nat} {E : List (Int × Int × Int)} {W : Int → Int → Int} {first : Int}
/-- round t, i steps of it done -/
structure LSm (N : Nat) (E : List (Int × Int × Int)) (W : Int → Int → Int) (first : Int) (t i : Nat) (s a : Int → Option Int) (L : Int → Nat) : Prop where
  rng : ∀ n v, s n = some v → 0 ≤ n ∧ n < N
  zero : ∃ v, s 0 = some v ∧ v ≤ first
  root : a 0 = none → s 0 = some first
  dom : ∀ m, m ≠ 0 → s m ≠ none → a m ≠ none
  pre : ∀ m n, a m = some n → ∃ x y, (n, m, W n m) ∈ E ∧ s n = some x ∧ s m = some y ∧ x + W n m ≤ y
  lvl : ∀ m, 1 ≤ L m → ∃ n, a m = some n ∧ L m ≤ L n + 1
  le : ∀ m, L m ≤ t
  ok : ∀ (j : Nat) (n m w : Int), E[j]? = some (n, m, w) → (j < i ∧ L n < t) ∨ L n + 1 < t → ∀ x, s n = some x → ∃ y, s m = some y ∧ y ≤ x + w
  neg : ∀ (v : Int) (p : Nat), 0 < p → it a p v = some v → ∃ k q r x y, k < p ∧ it a k v = some q ∧ it a (k + 1) v = some r ∧ s r = some x ∧ s q = some y ∧ x + W r q < y
def putF {β : Type} (f : Int → Option β) (m : Int) (v : β) : Int → Option β := fun n => if n = m then some v else f n
def putL (L : Int → Nat) (m : Int) (t : Nat) : Int → Nat := fun n => if n = m then t else L n
theorem LSm.start (hN : 0 < N) : LSm N E W first 1 0 (putF (fun _ => none) 0 first) (fun _ => none) (fun _ => 0) := by
  have no : ∀ (k : Nat) (v : Int), it (fun _ : Int => (none : Option Int)) (k + 1) v = none := fun k v => by
    show (it _ k v).bind _ = none
    cases it (fun _ : Int => (none : Option Int)) k v <;> rfl
  refine ⟨fun n v h => ?_, ⟨first, if_pos rfl, Int.le_refl _⟩, fun _ => if_pos rfl, fun m hm h => ?_, (fun m n h => by cases h), (fun m h => absurd h (by omega)), (fun m => by omega), fun j n m w _ h => ?_, fun v p hp h => ?_⟩
  · unfold putF at h
    split at h
    · omega
    · cases h
  · unfold putF at h
    rw [if_neg hm] at h
    exact absurd rfl h
  · rcases h with h | h <;> omega
  · cases p with
    | zero => omega
    | succ p => rw [no] at h; cases h
/-- a step that changes nothing -/
theorem LSm.skip {t i : Nat} {s a : Int → Option Int} {L : Int → Nat} (h : LSm N E W first t i s a L) {n m w : Int} (e : E[i]? = some (n, m, w)) (c : ∀ x, s n = some x → ∃ y, s m = some y ∧ y ≤ x + w) : LSm N E W first t (i + 1) s a L :=
  ⟨h.rng, h.zero, h.root, h.dom, h.pre, h.lvl, h.le, fun j n' m' w' ej hj => by
    by_cases z : j = i
    · subst z
      rw [e] at ej
      cases ej
      exact c
    · refine h.ok j n' m' w' ej ?_
      rcases hj with ⟨a, b⟩ | b
      · exact .inl ⟨by omega, b⟩
      · exact .inr b, h.neg⟩
/-- a step that makes a sum less -/
theorem LSm.put {t i : Nat} {s a : Int → Option Int} {L : Int → Nat} (h : LSm N E W first t i s a L) (ht : 1 ≤ t) {n m x : Int} (e : E[i]? = some (n, m, W n m)) (hm : 0 ≤ m ∧ m < N) (hx : s n = some x) (c : ∀ y, s m = some y → x + W n m < y) (hEW : ∀ n m w, (n, m, w) ∈ E → w = W n m) :
    LSm N E W first t (i + 1) (putF s m (x + W n m)) (putF a m n) (putL L m t) := by
  have sm : putF s m (x + W n m) m = some (x + W n m) := if_pos rfl
  have so : ∀ p, p ≠ m → putF s m (x + W n m) p = s p := fun p hp => if_neg hp
  have am : putF a m n m = some n := if_pos rfl
  have ao : ∀ p, p ≠ m → putF a m n p = a p := fun p hp => if_neg hp
  -- sums only fall
  have fall : ∀ p z, s p = some z → ∃ z', putF s m (x + W n m) p = some z' ∧ z' ≤ z := fun p z hz => by
    by_cases hp : p = m
    · subst hp
      have := c z hz
      exact ⟨_, sm, by omega⟩
    · exact ⟨z, by rw [so p hp]; exact hz, Int.le_refl _⟩
  have hln : t ≤ L n + 1 := by
    refine Classical.byContradiction fun z => ?_
    obtain ⟨y, hy, hle⟩ := h.ok i n m _ e (.inr (by omega)) x hx
    have := c y hy
    omega
  refine ⟨fun p v hv => ?_, ?_, fun h0 => ?_, fun p hp hs => ?_, fun p q hq => ?_, fun p hp => ?_, fun p => ?_, fun j n' m' w' ej hj z hz => ?_, fun v p hp hc => ?_⟩
  · by_cases e' : p = m
    · rw [e']; exact hm
    · rw [so p e'] at hv; exact h.rng p v hv
  · obtain ⟨v, h1, h2⟩ := h.zero
    obtain ⟨z, h3, h4⟩ := fall 0 v h1
    exact ⟨z, h3, by omega⟩
  · by_cases e' : (0 : Int) = m
    · rw [e', am] at h0; cases h0
    · rw [ao 0 e'] at h0
      rw [so 0 e']; exact h.root h0
  · by_cases e' : p = m
    · rw [e', am]; simp
    · rw [ao p e']
      rw [so p e'] at hs
      exact h.dom p hp hs
  · by_cases e' : p = m
    · subst e'
      rw [am] at hq
      obtain rfl := Option.some.inj hq
      obtain ⟨z, h3, h4⟩ := fall n x hx
      exact ⟨z, x + W n p, List.mem_of_getElem? e, h3, sm, by omega⟩
    · rw [ao p e'] at hq
      obtain ⟨x1, y1, h1, h2, h3, h4⟩ := h.pre p q hq
      obtain ⟨z, h5, h6⟩ := fall q x1 h2
      exact ⟨z, y1, h1, h5, by rw [so p e']; exact h3, by omega⟩
  · by_cases e' : p = m
    · subst e'
      refine ⟨n, am, ?_⟩
      unfold putL
      rw [if_pos rfl]
      by_cases e2 : n = p
      · rw [if_pos e2]; omega
      · rw [if_neg e2]; omega
    · unfold putL at hp ⊢
      rw [if_neg e'] at hp ⊢
      obtain ⟨q, h1, h2⟩ := h.lvl p hp
      refine ⟨q, by rw [ao p e']; exact h1, ?_⟩
      by_cases e2 : q = m
      · rw [if_pos e2]
        have := h.le p
        omega
      · rw [if_neg e2]; omega
  · unfold putL
    split
    · omega
    · exact h.le p
  · by_cases e' : n' = m
    · exfalso
      unfold putL at hj
      rw [if_pos e'] at hj
      rcases hj with ⟨_, b⟩ | b <;> omega
    · unfold putL at hj
      rw [if_neg e'] at hj
      rw [so n' e'] at hz
      by_cases ji : j = i
      · subst ji
        rw [e] at ej
        injection ej with ej
        injection ej with e1 e2
        injection e2 with e2 e3
        subst e1 e2 e3
        rw [hx] at hz
        obtain rfl := Option.some.inj hz
        exact ⟨_, sm, Int.le_refl _⟩
      · obtain ⟨y, h1, h2⟩ := h.ok j n' m' w' ej (by
          rcases hj with ⟨a, b⟩ | b
          · exact .inl ⟨by omega, b⟩
          · exact .inr b) z hz
        obtain ⟨y', h3, h4⟩ := fall m' y h1
        exact ⟨y', h3, by omega⟩
  · by_cases hex : ∃ k, k < p ∧ it (putF a m n) k v = some m
    · obtain ⟨k, hk, hkm⟩ := hex
      -- the one ahead of m on the ring
      obtain ⟨k', q, hk', hq, hq2⟩ : ∃ k' q, k' < p ∧ it (putF a m n) k' v = some q ∧ it (putF a m n) (k' + 1) v = some m := by
        cases k with
        | zero =>
          have hv : v = m := Option.some.inj hkm
          have hpp : p - 1 + 1 = p := by omega
          rw [← hpp] at hc
          cases hq : it (putF a m n) (p - 1) v with
          | none =>
            have : it (putF a m n) (p - 1 + 1) v = none := by show (it _ (p - 1) v).bind _ = none; rw [hq]; rfl
            rw [this] at hc; cases hc
          | some q => exact ⟨p - 1, q, by omega, hq, by rw [hc, hv]⟩
        | succ k =>
          cases hq : it (putF a m n) k v with
          | none =>
            have : it (putF a m n) (k + 1) v = none := by show (it _ k v).bind _ = none; rw [hq]; rfl
            rw [this] at hkm; cases hkm
          | some q => exact ⟨k, q, by omega, hq, hkm⟩
      have aq : putF a m n q = some m := by
        have : it (putF a m n) (k' + 1) v = putF a m n q := by show (it _ k' v).bind _ = _; rw [hq]; rfl
        rw [← this]; exact hq2
      by_cases e' : q = m
      · subst e'
        rw [am] at aq
        obtain rfl := Option.some.inj aq
        have := c x hx
        exact ⟨k', n, n, x + W n n, x + W n n, hk', hq, hq2, sm, sm, by omega⟩
      · rw [ao q e'] at aq
        obtain ⟨x1, y1, h1, h2, h3, h4⟩ := h.pre q m aq
        have := c x1 h2
        exact ⟨k', q, m, x + W n m, y1, hk', hq, hq2, sm, by rw [so q e']; exact h3, by omega⟩
    · have same : ∀ k, k ≤ p → it a k v = it (putF a m n) k v := by
        intro k
        induction k with
        | zero => intro _; rfl
        | succ k ih =>
          intro hk
          show (it a k v).bind a = (it (putF a m n) k v).bind (putF a m n)
          rw [ih (by omega)]
          cases hq : it (putF a m n) k v with
          | none => rfl
          | some q =>
            rw [Option.bind_some, Option.bind_some, ao q fun z => hex ⟨k, by omega, by rw [hq, z]⟩]
      obtain ⟨k, q, r, x1, y1, h1, h2, h3, h4, h5, h6⟩ := h.neg v p hp (by rw [same p (Nat.le_refl _)]; exact hc)
      have qm : q ≠ m := fun z => hex ⟨k, h1, by rw [← same k (by omega), h2, z]⟩
      have rm : r ≠ m := fun z => by
        by_cases hkp : k + 1 = p
        · refine hex ⟨0, hp, ?_⟩
          rw [same (k + 1) (by omega), hkp, hc] at h3
          show some v = some m
          rw [h3, z]
        · exact hex ⟨k + 1, by omega, by rw [← same (k + 1) (by omega), h3, z]⟩
      exact ⟨k, q, r, x1, y1, h1, by rw [← same k (by omega)]; exact h2, by rw [← same (k + 1) (by omega)]; exact h3, by rw [so r rm]; exact h4, by rw [so q qm]; exact h5, h6⟩
/-- the next round -/
theorem LSm.next {t : Nat} {s a : Int → Option Int} {L : Int → Nat} (h : LSm N E W first t E.length s a L) : LSm N E W first (t + 1) 0 s a L :=
  ⟨h.rng, h.zero, h.root, h.dom, h.pre, h.lvl, fun m => by have := h.le m; omega, fun j n m w e hj => h.ok j n m w e (.inl ⟨(List.getElem?_eq_some_iff.mp e).1, by omega⟩), h.neg⟩
/-- a round without a change: all steps are kept -/
theorem LSm.all {t : Nat} {s a : Int → Option Int} {L : Int → Nat} (h : LSm N E W first t E.length s a L) (hL : ∀ m, L m < t) : ∀ n m w, (n, m, w) ∈ E → ∀ x, s n = some x → ∃ y, s m = some y ∧ y ≤ x + w := fun n m w hw => by
  obtain ⟨j, hj⟩ := List.getElem?_of_mem hw
  exact h.ok j n m w hj (.inl ⟨(List.getElem?_eq_some_iff.mp hj).1, hL n⟩)
theorem LSm.tele {t i : Nat} {s a : Int → Option Int} {L : Int → Nat} (h : LSm N E W first t i s a L) (v : Int) : ∀ (k : Nat) (u : Int), it a k v = some u → ∀ y, s v = some y → ∃ x, s u = some x ∧ x + cw a W v k ≤ y := by
  intro k
  induction k with
  | zero =>
    intro u hu y hy
    obtain rfl := Option.some.inj hu
    exact ⟨y, hy, by show y + 0 ≤ y; omega⟩
  | succ k ih =>
    intro u hu y hy
    cases hq : it a k v with
    | none =>
      have : it a (k + 1) v = none := by show (it _ k v).bind _ = none; rw [hq]; rfl
      rw [this] at hu; cases hu
    | some q =>
      obtain ⟨x, h1, h2⟩ := ih q hq y hy
      have aq : a q = some u := by
        have : it a (k + 1) v = a q := by show (it _ k v).bind _ = _; rw [hq]; rfl
        rw [← this]; exact hu
      obtain ⟨x1, y1, _, h4, h5, h6⟩ := h.pre q u aq
      rw [h1] at h5
      obtain rfl := Option.some.inj h5
      refine ⟨x1, h4, ?_⟩
      have e : cw a W v (k + 1) = cw a W v k + W u q := by
        show cw a W v k + W (orZ (it a (k + 1) v)) (orZ (it a k v)) = _
        rw [hu, hq]; rfl
      rw [e]; omega
/-- a ring's sum is below nought -/
theorem LSm.ring {t i : Nat} {s a : Int → Option Int} {L : Int → Nat} (h : LSm N E W first t i s a L) {v : Int} {p : Nat} (hp : 0 < p) (hc : it a p v = some v) : cw a W v p < 0 := by
  obtain ⟨k, q, r, x, y, h1, h2, h3, h4, h5, h6⟩ := h.neg v p hp hc
  have hv : ∃ z, s v = some z := by
    cases p with
    | zero => omega
    | succ p =>
      cases k with
      | zero =>
        obtain rfl := Option.some.inj h2
        exact ⟨y, h5⟩
      | succ k =>
        have : ∃ w, a v = some w := by
          cases hw : a v with
          | some w => exact ⟨w, rfl⟩
          | none =>
            have : it a (1 + k) v = none := by
              rw [it_add]
              show ((some v).bind a).bind _ = none
              rw [Option.bind_some, hw]; rfl
            rw [Nat.add_comm, h2] at this; cases this
        obtain ⟨w, hw⟩ := this
        obtain ⟨_, y1, _, _, z, _⟩ := h.pre v w hw
        exact ⟨y1, z⟩
  obtain ⟨z, hz⟩ := hv
  obtain ⟨y', g1, g2⟩ := h.tele v k q h2 z hz
  rw [h5] at g1
  obtain rfl := Option.some.inj g1
  -- from r on
  have e : cw a W v (k + 1) = cw a W v k + W r q := by
    show cw a W v k + W (orZ (it a (k + 1) v)) (orZ (it a k v)) = _
    rw [h3, h2]; rfl
  have main : ∀ (d : Nat) (u : Int), it a (k + 1 + d) v = some u → ∃ x', s u = some x' ∧ x' + cw a W v (k + 1 + d) < z := by
    intro d
    induction d with
    | zero =>
      intro u hu
      rw [Nat.add_zero, h3] at hu
      obtain rfl := Option.some.inj hu
      exact ⟨x, h4, by rw [Nat.add_zero, e]; omega⟩
    | succ d ih =>
      intro u hu
      cases hq : it a (k + 1 + d) v with
      | none =>
        have : it a (k + 1 + d + 1) v = none := by show (it _ (k + 1 + d) v).bind _ = none; rw [hq]; rfl
        rw [show k + 1 + (d + 1) = k + 1 + d + 1 by omega, this] at hu; cases hu
      | some q' =>
        obtain ⟨x', i1, i2⟩ := ih q' hq
        have aq : a q' = some u := by
          have : it a (k + 1 + d + 1) v = a q' := by show (it _ (k + 1 + d) v).bind _ = _; rw [hq]; rfl
          rw [← this]; exact hu
        obtain ⟨x1, y1, _, j4, j5, j6⟩ := h.pre q' u aq
        rw [i1] at j5
        obtain rfl := Option.some.inj j5
        refine ⟨x1, j4, ?_⟩
        have e2 : cw a W v (k + 1 + d + 1) = cw a W v (k + 1 + d) + W u q' := by
          show cw a W v (k + 1 + d) + W (orZ (it a (k + 1 + d + 1) v)) (orZ (it a (k + 1 + d) v)) = _
          rw [show it a (k + 1 + d + 1) v = some u from hu, hq]; rfl
        rw [show k + 1 + (d + 1) = k + 1 + d + 1 by omega, e2]; omega
  obtain ⟨d, hd⟩ : ∃ d, p = k + 1 + d := ⟨p - (k + 1), by omega⟩
  rw [hd] at hc ⊢
  obtain ⟨x', i1, i2⟩ := main d v hc
  rw [hz] at i1
  obtain rfl := Option.some.inj i1
  omega
/-- where all steps are kept there is no ring -/
theorem LSm.no_ring {t i : Nat} {s a : Int → Option Int} {L : Int → Nat} (h : LSm N E W first t i s a L) (al : ∀ n m w, (n, m, w) ∈ E → ∀ x, s n = some x → ∃ y, s m = some y ∧ y ≤ x + w) (v : Int) (p : Nat) (hp : 0 < p) : it a p v ≠ some v := fun hc => by
  obtain ⟨k, q, r, x, y, h1, h2, h3, h4, h5, h6⟩ := h.neg v p hp hc
  have aq : a q = some r := by
    have : it a (k + 1) v = a q := by show (it _ k v).bind _ = _; rw [h2]; rfl
    rw [← this]; exact h3
  obtain ⟨_, _, he, _, _, _⟩ := h.pre q r aq
  obtain ⟨y', h7, h8⟩ := al r q _ he x h4
  rw [h5] at h7
  obtain rfl := Option.some.inj h7
  omega
/-- as far back as there are rounds -/
theorem LSm.back {t i : Nat} {s a : Int → Option Int} {L : Int → Nat} (h : LSm N E W first t i s a L) (v : Int) : ∀ k, k ≤ L v → ∃ u, it a k v = some u ∧ L v ≤ L u + k := by
  intro k
  induction k with
  | zero => exact fun _ => ⟨v, rfl, by omega⟩
  | succ k ih =>
    intro hk
    obtain ⟨u, h1, h2⟩ := ih (by omega)
    obtain ⟨n, h3, h4⟩ := h.lvl u (by omega)
    exact ⟨n, by show (it a k v).bind a = _; rw [h1]; exact h3, by omega⟩
end
/-- among more than N numbers below N two are alike -/
theorem pigeon : ∀ (N : Nat) (f : Nat → Int), (∀ i, i ≤ N → 0 ≤ f i ∧ f i < N) → ∃ i j, i < j ∧ j ≤ N ∧ f i = f j := by
  intro N f hf
  refine Classical.byContradiction fun no => ?_
  have nd : ((List.range (N + 1)).map f).Nodup := by
    rw [List.nodup_iff_pairwise_ne, List.pairwise_map]
    refine List.Pairwise.imp_of_mem ?_ (List.pairwise_lt_range (n := N + 1))
    intro i j hi hj hlt z
    exact no ⟨i, j, hlt, by have := List.mem_range.mp hj; omega, z⟩
  have := nodup_range N _ nd (fun x hx => by
    obtain ⟨i, hi, rfl⟩ := List.mem_map.mp hx
    exact hf i (by have := List.mem_range.mp hi; omega))
  rw [List.length_map, List.length_range] at this
  omega
/-- one who comes so far back is on a ring -/
theorem on_ring {N : Nat} {a : Int → Option Int} {v : Int} (h : ∀ k, k ≤ N → ∃ u, it a k v = some u ∧ 0 ≤ u ∧ u < N) : ∃ u p, it a N v = some u ∧ 0 < p ∧ p ≤ N ∧ it a p u = some u := by
  obtain ⟨i, j, hij, hj, e⟩ := pigeon N (fun k => orZ (it a k v)) (fun k hk => by
    obtain ⟨u, h1, h2⟩ := h k hk
    show 0 ≤ orZ (it a k v) ∧ orZ (it a k v) < N
    rw [h1]; exact h2)
  obtain ⟨u1, h1, _⟩ := h i (by omega)
  obtain ⟨u2, h2, _⟩ := h j hj
  have e : orZ (it a i v) = orZ (it a j v) := e
  rw [h1, h2] at e
  have e : u1 = u2 := e
  subst e
  obtain ⟨u, hu, _⟩ := h N (Nat.le_refl _)
  refine ⟨u, j - i, hu, by omega, by omega, ?_⟩
  have e1 : it a (N - j) u1 = some u := by
    have := it_add a j (N - j) v
    rw [show j + (N - j) = N by omega, h2, Option.bind_some, hu] at this
    exact this.symm
  have e2 : it a (N - i) u1 = some u := by
    have := it_add a i (N - i) v
    rw [show i + (N - i) = N by omega, h1, Option.bind_some, hu] at this
    exact this.symm
  have := it_add a (N - j) (j - i) u1
  rw [show N - j + (j - i) = N - i by omega, e1, Option.bind_some, e2] at this
  exact this.symm
/-! ### ways by their differences -/
def b1 (b : Bool) : Int := if b then 1 else 0
/-- how often is reckoned -/
def cnt (kp : Int × Int → Bool) (rc : Int → Bool) : Int → List Int → Int
  | _, [] => 0
  | a, n :: l => b1 (kp (a, n)) + b1 (rc n) + cnt kp rc n l
def ws (W : Int → Int → Int) : List Int → Int
  | [] => 0
  | [_] => 0
  | n :: m :: l => W n m + ws W (m :: l)
theorem ws_cons (W : Int → Int → Int) (n m : Int) (l : List Int) : ws W (n :: m :: l) = W n m + ws W (m :: l) := rfl
theorem ws_app (W : Int → Int → Int) (x : Int) (l2 : List Int) : ∀ l1 : List Int, ws W (l1 ++ x :: l2) = ws W (l1 ++ [x]) + ws W (x :: l2)
  | [] => by show ws W (x :: l2) = 0 + _; omega
  | [n] => by
    show ws W (n :: x :: l2) = ws W [n, x] + _
    rw [ws_cons, ws_cons]
    show _ = W n x + 0 + _
    omega
  | n :: m :: l => by
    have ih := ws_app W x l2 (m :: l)
    show ws W (n :: m :: (l ++ x :: l2)) = ws W (n :: m :: (l ++ [x])) + _
    rw [ws_cons, ws_cons]
    have e1 : m :: l ++ x :: l2 = m :: (l ++ x :: l2) := rfl
    have e2 : m :: l ++ [x] = m :: (l ++ [x]) := rfl
    rw [e1, e2] at ih
    rw [ih]; omega
section
variable {k1 k2 : Int × Int → Bool} {r1 r2 : Int → Bool} {W : Int → Int → Int}
/-- the difference on a way -/
theorem cnt_diff (hW : ∀ n m, W n m = b1 (r1 n) - b1 (r2 n) + (b1 (k1 (n, m)) - b1 (k2 (n, m)))) : ∀ (l : List Int) (a n z : Int), (n :: l).getLast? = some z → cnt k1 r1 a (n :: l) - cnt k2 r2 a (n :: l) = b1 (k1 (a, n)) - b1 (k2 (a, n)) + ws W (n :: l) + (b1 (r1 z) - b1 (r2 z))
  | [], a, n, z, h => by
    have : n = z := by simpa using h
    subst this
    show b1 (k1 (a, n)) + b1 (r1 n) + 0 - (b1 (k2 (a, n)) + b1 (r2 n) + 0) = _ + 0 + _
    omega
  | m :: l, a, n, z, h => by
    have ih := cnt_diff hW l n m z (by rw [List.getLast?_cons_cons] at h; exact h)
    have e1 : cnt k1 r1 a (n :: m :: l) = b1 (k1 (a, n)) + b1 (r1 n) + cnt k1 r1 n (m :: l) := rfl
    have e2 : cnt k2 r2 a (n :: m :: l) = b1 (k2 (a, n)) + b1 (r2 n) + cnt k2 r2 n (m :: l) := rfl
    rw [e1, e2, ws_cons, hW n m]
    omega
end
theorem b1_le (b : Bool) : 0 ≤ b1 b ∧ b1 b ≤ 1 := by cases b <;> decide
theorem cnt_le (kp : Int × Int → Bool) (rc : Int → Bool) : ∀ (l : List Int) (a : Int), 0 ≤ cnt kp rc a l ∧ cnt kp rc a l ≤ 2 * (l.length : Int)
  | [], a => ⟨by show (0 : Int) ≤ 0; omega, by show (0 : Int) ≤ _; omega⟩
  | n :: l, a => by
    have ih := cnt_le kp rc l n
    have h1 := b1_le (kp (a, n))
    have h2 := b1_le (rc n)
    have e : cnt kp rc a (n :: l) = b1 (kp (a, n)) + b1 (rc n) + cnt kp rc n l := rfl
    rw [e, List.length_cons]
    omega
/-- round a ring -/
def rnd (c : Nat) (R : List Int) : List Int := (List.replicate c R).flatten
theorem rnd_succ (c : Nat) (R : List Int) : rnd (c + 1) R = R ++ rnd c R := by unfold rnd; rw [List.replicate_succ, List.flatten_cons]
theorem rnd_len (c : Nat) (R : List Int) : (rnd c R).length = c * R.length := by
  induction c with
  | zero => simp [rnd]
  | succ c ih => rw [rnd_succ, List.length_append, ih, Nat.succ_mul]; omega
theorem ws_rnd (W : Int → Int → Int) (u : Int) (Q rest : List Int) : ∀ c : Nat, ws W (u :: (rnd c (Q ++ [u]) ++ rest)) = c * ws W (u :: (Q ++ [u])) + ws W (u :: rest)
  | 0 => by
    show ws W (u :: rest) = _
    simp
  | c + 1 => by
    have ih := ws_rnd W u Q rest c
    rw [rnd_succ]
    have e : u :: (Q ++ [u] ++ rnd c (Q ++ [u]) ++ rest) = (u :: Q) ++ u :: (rnd c (Q ++ [u]) ++ rest) := by simp
    rw [e, ws_app, ih]
    have e2 : u :: Q ++ [u] = u :: (Q ++ [u]) := rfl
    rw [e2]
    generalize ws W (u :: (Q ++ [u])) = z
    have : ((c + 1 : Nat) : Int) * z = (c : Int) * z + z := by rw [Int.natCast_add, Int.add_mul]; simp
    omega
/-- the way back, forwards -/
def wb (a : Int → Option Int) (v : Int) (k : Nat) : List Int := (List.range k).map fun j => orZ (it a j v)
theorem wb_succ (a : Int → Option Int) (v : Int) (k : Nat) : wb a v (k + 1) = wb a v k ++ [orZ (it a k v)] := by
  unfold wb
  rw [List.range_succ, List.map_append]; rfl
theorem wb_len (a : Int → Option Int) (v : Int) (k : Nat) : (wb a v k).length = k := by unfold wb; rw [List.length_map, List.length_range]
theorem wb_rev (a : Int → Option Int) (v : Int) (k : Nat) : (wb a v (k + 1)).reverse = orZ (it a k v) :: (wb a v k).reverse := by
  rw [wb_succ, List.reverse_append]; rfl
theorem wb_ws (a : Int → Option Int) (W : Int → Int → Int) (v : Int) : ∀ k : Nat, ws W (wb a v (k + 1)).reverse = cw a W v k
  | 0 => rfl
  | k + 1 => by
    have ih := wb_ws a W v k
    rw [wb_rev] at ih
    rw [wb_rev, wb_rev, ws_cons, ih]
    show _ = cw a W v k + W _ _
    omega
end Mi

set_option Elab.async false
set_option linter.all false
set_option maxHeartbeats 1000000
/-! more for sums by rounds -/
namespace Mi
/-! ### dicts of numbers that are changed -/
theorem fm_putx {β : Type} (f : β → D) (L : List (Int × β)) (x : Int) (v : β) : dPut (L.map fun p => ((Sum.inl p.1 : Ky), f p.2)) (.inl x) (f v) = (dPut L x v).map fun p => ((Sum.inl p.1 : Ky), f p.2) := by
  by_cases h : x ∈ L.map Prod.fst
  · unfold dPut
    have h1 : ((L.map fun p => ((Sum.inl p.1 : Ky), f p.2)).any fun kv => decide (kv.1 = (Sum.inl x : Ky))) = true := by
      rw [List.any_map, List.any_eq_true]
      obtain ⟨p, hp, e⟩ := List.mem_map.mp h
      exact ⟨p, hp, by simp [e]⟩
    have h2 : (L.any fun kv => decide (kv.1 = x)) = true := by
      rw [List.any_eq_true]
      obtain ⟨p, hp, e⟩ := List.mem_map.mp h
      exact ⟨p, hp, by simp [e]⟩
    rw [if_pos h1, if_pos h2, List.map_map, List.map_map]
    apply List.map_congr_left
    intro p _
    simp only [Function.comp]
    by_cases e : p.1 = x
    · rw [if_pos (by rw [e]), if_pos e]
    · rw [if_neg (fun z => e (Sum.inl.inj z)), if_neg e]
  · rw [fm_put f L x v h]
    congr 1
    unfold dPut
    rw [if_neg]
    simp only [List.any_eq_true, decide_eq_true_eq, not_exists, not_and]
    intro p hp z
    exact h (List.mem_map.mpr ⟨p, hp, z⟩)
theorem dPut_keys {β : Type} (L : List (Int × β)) (x : Int) (v : β) : (x ∈ L.map Prod.fst ∧ (dPut L x v).map Prod.fst = L.map Prod.fst) ∨ (x ∉ L.map Prod.fst ∧ (dPut L x v).map Prod.fst = L.map Prod.fst ++ [x]) := by
  by_cases h : x ∈ L.map Prod.fst
  · refine .inl ⟨h, ?_⟩
    unfold dPut
    have h2 : (L.any fun kv => decide (kv.1 = x)) = true := by
      rw [List.any_eq_true]
      obtain ⟨p, hp, e⟩ := List.mem_map.mp h
      exact ⟨p, hp, by simp [e]⟩
    rw [if_pos h2, List.map_map]
    apply List.map_congr_left
    intro p _
    simp only [Function.comp]
    split <;> rfl
  · refine .inr ⟨h, ?_⟩
    unfold dPut
    rw [if_neg]
    · simp
    · simp only [List.any_eq_true, decide_eq_true_eq, not_exists, not_and]
      intro p hp z
      exact h (List.mem_map.mpr ⟨p, hp, z⟩)
theorem Ks.put {β : Type} {rows : List Row} {L : List (Int × β)} {x : Int} {v : β} (h : Ks rows (L.map Prod.fst)) (hr : 0 ≤ x ∧ x < (rows.length : Int)) : Ks rows ((dPut L x v).map Prod.fst) := by
  rcases dPut_keys L x v with ⟨_, e⟩ | ⟨a, e⟩
  · rw [e]; exact h
  · rw [e]; exact h.snoc a hr
theorem dGet_putF {β : Type} (L : List (Int × β)) (x : Int) (v : β) : dGet (dPut L x v) = putF (dGet L) x v := by
  funext n
  rw [dPut_get]
  unfold putF
  by_cases h : n = x
  · subst h; simp
  · rw [if_neg h, if_neg fun z => h z.symm]
/-! ### a walk that may break off -/
theorem loop_brk {hs : List (Nat × List D)} {turn : D → SM} (I : Nat → Fr → Store → Prop) (B : Fr → Store → Prop) : ∀ (items : List D) (k : Nat) (fr : Fr) (S : Store), I k fr S →
    (∀ i fr S, I i fr S → stands hs S) →
    (∀ i d fr S, items[i]? = some d → I (k + i) fr S → (∃ fr' S', (turn d fr S = .ok (.nx fr') S' ∨ turn d fr S = .ok (.ct fr') S') ∧ I (k + i + 1) fr' S') ∨ ∃ fr' S', turn d fr S = .ok (.bk fr') S' ∧ B fr' S') →
    ∃ fr' S', loopM hs turn items fr S = .ok (.nx fr') S' ∧ (I (k + items.length) fr' S' ∨ B fr' S')
  | [], k, fr, S, h, st, _ => ⟨fr, S, by rw [loopM, dec_true (st k fr S h)]; rfl, .inl h⟩
  | d :: ds, k, fr, S, h, st, step => by
    have un : loopM hs turn (d :: ds) fr S = (turn d fr S).bind (goOn (loopM hs turn ds)) := by rw [loopM, dec_true (st k fr S h)]; rfl
    rcases step 0 d fr S rfl h with ⟨fr', S', e, h'⟩ | ⟨fr', S', e, h'⟩
    · have un2 : loopM hs turn (d :: ds) fr S = loopM hs turn ds fr' S' := by rw [un]; rcases e with e | e <;> rw [e] <;> rfl
      rw [un2]
      have := loop_brk I B ds (k + 1) fr' S' h' st fun i d fr S hd hi => by
        have q := step (i + 1) d fr S hd (by rw [show k + (i + 1) = k + 1 + i by omega]; exact hi)
        rw [show k + (i + 1) = k + 1 + i by omega] at q
        exact q
      rw [List.length_cons, show k + (ds.length + 1) = k + 1 + ds.length by omega]
      exact this
    · exact ⟨fr', S', by rw [un, e]; rfl, .inr h'⟩
/-! ### ways as chains -/
def ChW (rows : List Row) : List Int → Prop
  | [] => False
  | [n] => 0 ≤ n ∧ n < rows.length
  | n :: m :: l => (0 ≤ n ∧ n < rows.length) ∧ (∃ r, rows[n.toNat]? = some r ∧ m ∈ fol n.toNat r) ∧ ChW rows (m :: l)
theorem ChW.hd {rows : List Row} {n : Int} : ∀ {l : List Int}, ChW rows (n :: l) → 0 ≤ n ∧ n < rows.length
  | [], h => h
  | _ :: _, h => h.1
theorem ChW.at_ {rows : List Row} : ∀ {w : List Int}, ChW rows w → ∀ j, j < w.length → At rows w j
  | [n], h, j, hj => by
    have : j = 0 := by simp at hj; omega
    subst this
    exact ⟨n, rfl, h.1, h.2, fun z => absurd z (by decide)⟩
  | n :: m :: l, h, j, hj => by
    cases j with
    | zero => exact ⟨n, rfl, h.1.1, h.1.2, fun z => absurd z (by decide)⟩
    | succ j =>
      obtain ⟨z, e, z0, z1, q⟩ := ChW.at_ h.2.2 j (by simp at hj ⊢; omega)
      refine ⟨z, by simpa using e, z0, z1, fun _ => ?_⟩
      cases j with
      | zero =>
        obtain ⟨r, h1, h2⟩ := h.2.1
        have : m = z := by simpa using e
        subst this
        exact ⟨n, r, rfl, h1, h2⟩
      | succ j =>
        obtain ⟨a, r, h1, h2, h3⟩ := q (by omega)
        exact ⟨a, r, by simpa using h1, h2, h3⟩
theorem ChW.way {rows : List Row} {w : List Int} (h : ChW rows w) : IsWay rows w := ⟨fun z => by subst z; exact h, h.at_⟩
theorem IsWay.chw {rows : List Row} : ∀ {w : List Int}, IsWay rows w → ChW rows w
  | [], h => absurd rfl h.1
  | [n], h => by
    obtain ⟨z, e, h0, h1, _⟩ := h.2 0 (by simp)
    obtain rfl : n = z := by simpa using e
    exact ⟨h0, h1⟩
  | n :: m :: l, h => by
    obtain ⟨z, e, h0, h1, _⟩ := h.2 0 (by simp)
    obtain rfl : n = z := by simpa using e
    obtain ⟨z, e, _, _, q⟩ := h.2 1 (by simp)
    obtain rfl : m = z := by simpa using e
    obtain ⟨a, r, g1, g2, g3⟩ := q (by decide)
    obtain rfl : n = a := by simpa using g1
    refine ⟨⟨h0, h1⟩, ⟨r, g2, g3⟩, IsWay.chw ⟨by simp, fun j hj => ?_⟩⟩
    obtain ⟨z, e, i0, i1, q⟩ := h.2 (j + 1) (by simp at hj ⊢; omega)
    refine ⟨z, by simpa using e, i0, i1, fun hj0 => ?_⟩
    obtain ⟨a, r, g1, g2, g3⟩ := q (by omega)
    refine ⟨a, r, ?_, g2, g3⟩
    rw [Nat.add_sub_cancel] at g1
    obtain ⟨j', rfl⟩ : ∃ j', j = j' + 1 := ⟨j - 1, by omega⟩
    simpa using g1
theorem ChW.app {rows : List Row} {x : Int} {l2 : List Int} : ∀ {l1 : List Int}, ChW rows (l1 ++ [x]) → ChW rows (x :: l2) → ChW rows (l1 ++ x :: l2)
  | [], _, h => h
  | [n], h, h2 => ⟨h.1, h.2.1, h2⟩
  | n :: m :: l, h, h2 => ⟨h.1, h.2.1, ChW.app (l1 := m :: l) h.2.2 h2⟩
theorem ChW.rnd {rows : List Row} {u : Int} {Q rest : List Int} (h : ChW rows (u :: (Q ++ [u]))) (h2 : ChW rows (u :: rest)) : ∀ c, ChW rows (u :: (rnd c (Q ++ [u]) ++ rest))
  | 0 => h2
  | c + 1 => by
    rw [rnd_succ]
    have e : u :: (Q ++ [u] ++ Mi.rnd c (Q ++ [u]) ++ rest) = (u :: Q) ++ u :: (Mi.rnd c (Q ++ [u]) ++ rest) := by simp
    rw [e]
    exact ChW.app (l1 := u :: Q) h (ChW.rnd h h2 c)
theorem wb_chw {rows : List Row} {a : Int → Option Int} {v : Int} (hs : ∀ m n, a m = some n → (0 ≤ n ∧ n < rows.length) ∧ ∃ r, rows[n.toNat]? = some r ∧ m ∈ fol n.toNat r) (hv : 0 ≤ v ∧ v < rows.length) : ∀ (k : Nat) (u : Int), it a k v = some u → ChW rows (wb a v (k + 1)).reverse
  | 0, u, _ => hv
  | k + 1, u, hu => by
    cases hq : it a k v with
    | none =>
      have : it a (k + 1) v = none := by show (it _ k v).bind _ = none; rw [hq]; rfl
      rw [this] at hu; cases hu
    | some q =>
      have aq : a q = some u := by
        have : it a (k + 1) v = a q := by show (it _ k v).bind _ = _; rw [hq]; rfl
        rw [← this]; exact hu
      have ih := wb_chw hs hv k q hq
      rw [wb_rev] at ih ⊢
      rw [wb_rev, hu, hq]
      rw [hq] at ih
      exact ⟨(hs q u aq).1, (hs q u aq).2, ih⟩
/-- a whole way -/
structure WhW (rows : List Row) (w : List Int) : Prop where
  way : ChW rows w
  fst : w[0]? = some 0
  lst : ∃ e : Int, w.getLast? = some e ∧ rows[e.toNat]? = some .en
end Mi

set_option Elab.async false
set_option linter.all false
/-! evaluation where something is raised -/
namespace Mi
section
variable (S : Store) (x : Exn)
@[simp] theorem seqK_x (b : SM) : seqK b (.exc x S) = .exc x S := (rfl)
@[simp] theorem deK_x : deK (.exc x S) = .exc x S := (rfl)
@[simp] theorem exK_x (fr : Fr) : exK fr (.exc x S) = .exc x S := (rfl)
@[simp] theorem asK_x (g : GM) (fr : Fr) : asK g fr (.exc x S) = .exc x S := (rfl)
@[simp] theorem mDefX_1 (n : Nat) (b : SM) (x0 : D) : mDefX 1 n b [x0] S = deK (b ([some x0] ++ List.replicate (n - 1) none) S) := (rfl)
@[simp] theorem mDefX_2 (n : Nat) (b : SM) (x0 x1 : D) : mDefX 2 n b [x0, x1] S = deK (b ([some x0, some x1] ++ List.replicate (n - 2) none) S) := (rfl)
@[simp] theorem mDefX_3 (n : Nat) (b : SM) (x0 x1 x2 : D) : mDefX 3 n b [x0, x1, x2] S = deK (b ([some x0, some x1, some x2] ++ List.replicate (n - 3) none) S) := (rfl)
def raiseK (cn : String) (fs : List Tx) (r : Res (List D)) : Res Out := r.bind fun ds S1 => if ds.length = fs.length then .exc ⟨cn, (fs.zip ds).reverse⟩ S1 else .bad
@[simp] theorem sRaise_s (cn : String) (fs : List Tx) (a : AM) (fr : Fr) : sRaise cn fs a fr S = raiseK cn fs (a fr S) := (rfl)
@[simp] theorem raiseK_1 (cn : String) (f1 : Tx) (d1 : D) : raiseK cn [f1] (.ok [d1] S) = .exc ⟨cn, [(f1, d1)]⟩ S := (rfl)
@[simp] theorem raiseK_2 (cn : String) (f1 f2 : Tx) (d1 d2 : D) : raiseK cn [f1, f2] (.ok [d1, d2] S) = .exc ⟨cn, [(f2, d2), (f1, d1)]⟩ S := (rfl)
@[simp] theorem raiseK_3 (cn : String) (f1 f2 f3 : Tx) (d1 d2 d3 : D) : raiseK cn [f1, f2, f3] (.ok [d1, d2, d3] S) = .exc ⟨cn, [(f3, d3), (f2, d2), (f1, d1)]⟩ S := (rfl)
def tryS (h : Exn → Store → Res Out) : Option Bool → Res Out
  | some true => quiet (h x S)
  | some false => .exc x S
  | none => .bad
@[simp] theorem tryK_o (sub : String → Option Bool) (h : Exn → Store → Res Out) (o : Out) : tryK sub h (.ok o S) = .ok o S := (rfl)
@[simp] theorem tryK_x (sub : String → Option Bool) (h : Exn → Store → Res Out) : tryK sub h (.exc x S) = tryS S x h (sub x.cls) := by
  unfold tryK tryS
  (try dsimp only) <;> (cases sub x.cls with
    | none => rfl
    | some b => cases b <;> rfl)
@[simp] theorem tryS_t (h : Exn → Store → Res Out) : tryS S x h (some true) = quiet (h x S) := (rfl)
@[simp] theorem sTry_s (sub : String → Option Bool) (b : SM) (h : Exn → SM) (fr : Fr) : sTry sub b h fr S = tryK sub (fun x => h x fr) (b fr S) := (rfl)
def offK (i : Nat) (r : Res Out) : Res Out := r.bind fun o S2 => .ok (offI i o) S2
@[simp] theorem offK_n (i : Nat) (fr : Fr) : offK i (.ok (.nx fr) S) = .ok (.nx (fr.set i none)) S := (rfl)
@[simp] theorem sTryA_s (sub : String → Option Bool) (i : Nat) (b : SM) (h : Exn → SM) (fr : Fr) : sTryA sub i b h fr S = tryK sub (fun x S' => if i < fr.length then offK i (h x (fr.set i none) S') else .bad) (b fr S) := (rfl)
@[simp] theorem mXf_s (cn : String) (f : Tx) (fr : Fr) : mXf cn x f fr S = if x.cls = cn then (match lkF x.fs f with
  | some d => .ok d S
  | none => .bad) else .bad := (rfl)
end
/-- an invariant; a way out by what is raised -/
theorem loop_exc {hs : List (Nat × List D)} {turn : D → SM} (I : Nat → Fr → Store → Prop) (R : Nat → Exn → Store → Prop) : ∀ (items : List D) (k : Nat) (fr : Fr) (S : Store), I k fr S →
    (∀ i fr S, I i fr S → stands hs S) →
    (∀ i d fr S, items[i]? = some d → I (k + i) fr S → (∃ fr' S', (turn d fr S = .ok (.nx fr') S' ∨ turn d fr S = .ok (.ct fr') S') ∧ I (k + i + 1) fr' S') ∨ ∃ x S', turn d fr S = .exc x S' ∧ R (k + i) x S') →
    (∃ fr' S', loopM hs turn items fr S = .ok (.nx fr') S' ∧ I (k + items.length) fr' S') ∨ ∃ i x S', i < items.length ∧ loopM hs turn items fr S = .exc x S' ∧ R (k + i) x S'
  | [], k, fr, S, h, st, _ => .inl ⟨fr, S, by rw [loopM, dec_true (st k fr S h)]; rfl, h⟩
  | d :: ds, k, fr, S, h, st, step => by
    have un : loopM hs turn (d :: ds) fr S = (turn d fr S).bind (goOn (loopM hs turn ds)) := by rw [loopM, dec_true (st k fr S h)]; rfl
    rcases step 0 d fr S rfl h with ⟨fr', S', e, h'⟩ | ⟨x, S', e, h'⟩
    · have un2 : loopM hs turn (d :: ds) fr S = loopM hs turn ds fr' S' := by rw [un]; rcases e with e | e <;> rw [e] <;> rfl
      rw [un2]
      have := loop_exc I R ds (k + 1) fr' S' h' st fun i d fr S hd hi => by
        have q := step (i + 1) d fr S hd (by rw [show k + (i + 1) = k + 1 + i by omega]; exact hi)
        rw [show k + (i + 1) = k + 1 + i by omega] at q
        exact q
      rw [List.length_cons, show k + (ds.length + 1) = k + 1 + ds.length by omega]
      rcases this with q | ⟨i, x, S2, h1, h2, h3⟩
      · exact .inl q
      · exact .inr ⟨i + 1, x, S2, by omega, h2, by rw [show k + (i + 1) = k + 1 + i by omega]; exact h3⟩
    · exact .inr ⟨0, x, S', by rw [List.length_cons]; omega, by rw [un, e]; rfl, h'⟩
end Mi

set_option Elab.async false
set_option linter.all false
set_option maxHeartbeats 1000000
/-! ways and trees over rows that need not come to an end -/
namespace Mi
structure PF (rows : List Row) : Prop where
  pos : 0 < rows.length
  fi : ∀ {n : Nat} {r : Row} {m : Int}, rows[n]? = some r → m ∈ fol n r → 0 ≤ m ∧ m < rows.length
theorem IsWay.snocF {rows : List Row} {w : List Int} (h : IsWay rows w) (p : PF rows) {a m : Int} {r : Row} (ha : w[w.length - 1]? = some a) (hr : rows[a.toNat]? = some r) (f : m ∈ fol a.toNat r) : IsWay rows (w ++ [m]) := by
  have hp : 0 < w.length := List.length_pos_iff.mpr h.1
  refine ⟨by simp, fun j hj => ?_⟩
  rw [List.length_append, List.length_singleton] at hj
  have old : ∀ i, i < w.length → (w ++ [m])[i]? = w[i]? := fun i hi => List.getElem?_append_left hi
  by_cases h1 : j < w.length
  · obtain ⟨n, e, a0, a1, q⟩ := h.2 j h1
    refine ⟨n, by rw [old j h1, e], a0, a1, fun h0 => ?_⟩
    obtain ⟨a, r, z, q⟩ := q h0
    exact ⟨a, r, by rw [old _ (by omega), z], q⟩
  · obtain rfl : j = w.length := by omega
    have := p.fi hr f
    exact ⟨m, snoc_eq _ _, this.1, this.2, fun _ => ⟨a, r, by rw [old _ (by omega), ha], hr, f⟩⟩
theorem Tree.inrF {rows : List Row} {st : Int} {cm : CM} (t : Tree rows st cm) (pg : PF rows) : ∀ x ∈ cm.map Prod.fst, (0 : Int) ≤ x ∧ x < (rows.length : Int) := by
  induction t with
  | base h0 h1 => intro x hx; rw [List.mem_singleton.mp hx]; exact ⟨h0, h1⟩
  | snoc _ _ _ hr hf ih =>
    intro x hx
    rw [List.map_append] at hx
    rcases List.mem_append.mp hx with z | z
    · exact ih x z
    · rw [List.mem_singleton.mp z]; exact pg.fi hr hf
theorem Tree.lenF {rows : List Row} {st : Int} {cm : CM} (t : Tree rows st cm) (pg : PF rows) : cm.length ≤ rows.length := by
  have := nodup_range rows.length _ t.nodup (t.inrF pg)
  rwa [List.length_map] at this
/-- the way that a tree tells -/
theorem Tree.wayF {rows : List Row} {st : Int} {cm : CM} (t : Tree rows st cm) (pg : PF rows) : ∀ n ∈ cm.map Prod.fst, ∃ w, IsWay rows w ∧ w[0]? = some st ∧ w[w.length - 1]? = some n ∧ w.length ≤ cm.length ∧ Up cm w.reverse := by
  induction t with
  | base h0 h1 =>
    intro n hn
    rw [List.mem_singleton.mp hn]
    refine ⟨[st], IsWay.one ⟨h0, h1⟩, rfl, rfl, Nat.le_refl _, ?_⟩
    show dGet [(st, none)] st = some none
    simp [dGet]
  | @snoc cm h m r t hh hm hr hf ih =>
    intro n hn
    rw [List.map_append] at hn
    rcases List.mem_append.mp hn with z | z
    · obtain ⟨w, a, b, c, d, u⟩ := ih n z
      exact ⟨w, a, b, c, by rw [List.length_append, List.length_singleton]; omega, u.mono⟩
    · rw [List.mem_singleton.mp z]
      obtain ⟨w, a, b, c, d, u⟩ := ih h hh
      have hp : 0 < w.length := List.length_pos_iff.mpr a.1
      refine ⟨w ++ [m], a.snocF pg c hr hf, by rw [List.getElem?_append_left hp]; exact b, by simp, by simp; omega, ?_⟩
      rw [List.reverse_append, List.reverse_singleton]
      have hd : w.reverse[0]? = some h := by
        rw [List.getElem?_reverse hp]; exact c
      have um := u.mono (m := m) (v := some h)
      cases hw : w.reverse with
      | nil => rw [hw] at hd; cases hd
      | cons y q =>
        rw [hw] at hd um
        obtain rfl := Option.some.inj hd
        exact ⟨dGet_new hm, um⟩
/-! ### sorted, len(set(..)) -/
def lsR (S : Store) : Option (List Int) → Res D
  | some ns => if ns.Nodup ∧ ns.length ≤ 4000 then .ok (.int (ns.length : Nat)) S else .bad
  | none => .bad
def lsK (r : Res D) : Res D := r.bind fun x S1 => match x with
  | .ref n => (match (lstOf S1 n).bind intsOf with
    | some ns => if ns.Nodup ∧ ns.length ≤ 4000 then .ok (.int (ns.length : Nat)) S1 else .bad
    | none => .bad)
  | _ => .bad
theorem lsK_i {S : Store} {n : Nat} {ns : List Int} (h : lstOf S n = some (ns.map .int)) (nd : ns.Nodup) (hl : ns.length ≤ 4000) : lsK (.ok (.ref n) S) = .ok (.int (ns.length : Nat)) S := by
  unfold lsK
  rw [bind_ok]
  dsimp only
  rw [h, Option.bind_some, ints_map]
  dsimp only
  rw [if_pos ⟨nd, hl⟩]
theorem pairsD_map (L : List (Int × Int)) : pairsD (L.map fun p => .tup [.int p.1, .int p.2]) = some L := by
  induction L with
  | nil => rfl
  | cons p r ih =>
    rw [List.map_cons, pairsD, ih]
    rfl
theorem bSortP_l {S : Store} {n : Nat} {L : List (Int × Int)} (h : S[n]? = some (.lst (L.map fun p => .tup [.int p.1, .int p.2]))) : bSortP [.ref n] S = .ok (.ref S.length) (S ++ [.lst (sortP L)]) := by
  unfold bSortP
  dsimp only
  rw [h]
  dsimp only
  rw [lst_of h, Option.bind_some, pairsD_map]
  rfl
/-- the keys of a dict of places -/
theorem dOf_keys (f : Int × Int → D) {L : List (Int × Int)} (nd : L.Nodup) : (dOf f L).map (·.1) = L.map pk := by
  induction L using snoc_ind with
  | h0 => rfl
  | h1 q p ih =>
    rw [List.nodup_append] at nd
    have hp : p ∉ q := fun z => nd.2.2 p z p (List.mem_singleton.mpr rfl) rfl
    rw [dOf_snoc]
    have hno : ¬ ((dOf f q).any fun kv => decide (kv.1 = pk p)) = true := by
      rw [List.any_eq_true]
      rintro ⟨e, he, h⟩
      obtain ⟨p', hp', rfl⟩ := dOf_mem f q e he
      have := of_decide_eq_true h
      exact hp (pk_inj this ▸ hp')
    unfold dPut
    rw [if_neg hno, List.map_append, ih nd.1, List.map_append]
    rfl
theorem bSortP_d {S : Store} {n : Nat} {f : Int × Int → D} {L : List (Int × Int)} (h : S[n]? = some (.dT (dOf f L))) (nd : L.Nodup) : bSortP [.ref n] S = .ok (.ref S.length) (S ++ [.lst (sortP L)]) := by
  have e : (dOf f L).map (fun p => D.tup (p.1.map kyD)) = L.map fun p => .tup [.int p.1, .int p.2] := by
    have q := congrArg (List.map fun k : List Ky => D.tup (k.map kyD)) (dOf_keys f nd)
    rw [List.map_map, List.map_map] at q
    exact q
  unfold bSortP
  dsimp only
  rw [h]
  dsimp only
  rw [e, pairsD_map]
  rfl
theorem sortP_kt (L : List (Int × Int)) : sortP L = ((L.mergeSort leP).map pk).map kt := by
  unfold sortP
  rw [List.map_map]
  rfl
theorem sort_eq {S : Store} {m n : Nat} {L : List (Int × Int)} (h1 : S[m]? = some (.lst (sortP L))) (h2 : S[n]? = some (.lst (sortP L))) : oNe (.ref m) (.ref n) S = .ok (.bl false) S := by
  have hk : ((L.mergeSort leP).map pk).all (fun l => l.all kOk) = true := by
    rw [List.all_eq_true]
    intro k hk
    obtain ⟨p, _, rfl⟩ := List.mem_map.mp hk
    exact pk_ok p
  rw [oNe_g, eq_lkts (lst_of (by rw [← sortP_kt]; exact h1)) (lst_of (by rw [← sortP_kt]; exact h2)) hk hk]
  simp
@[simp] theorem mLenSet_s (a : EM) (fr : Fr) (S : Store) : mLenSet a fr S = lsK (a fr S) := (rfl)
end Mi

set_option Elab.async false
set_option linter.all false
set_option maxHeartbeats 1000000
namespace Lk15
open Mi
/-! ### the script's cells -/
theorem cell_ok {ns : List Int} {S : Store} (h : S[0]? = some (.fls (ns.map .int))) (k : Nat) : ∃ v, m_law_cell [.ref 0, .int k] S = .ok (.int v) S := by
  by_cases hl : k < ns.length
  · refine ⟨ns[k], ?_⟩
    have e : atI (ns.map D.int) (k : Int) = some (.int ns[k]) := at_of (by simp [hl])
    simp [m_law_cell, b_law_cell, h, hl, e]
  · by_cases h0 : ns = []
    · subst h0
      refine ⟨k * 7919, ?_⟩
      have e : mulOk (k : Int) 7919 := .inr (.inl (by decide))
      have e2 : ¬ ((k : Int) < 0) := by omega
      simp [m_law_cell, b_law_cell, h, e, e2]
    · have hp : 0 < ns.length := List.length_pos_iff.mpr h0
      have hm : k % ns.length < ns.length := Nat.mod_lt _ hp
      have e : atI (ns.map D.int) ((k : Int) % (ns.length : Int)) = some (.int ns[k % ns.length]) := by
        rw [← Int.natCast_emod]
        exact at_of (by simp [hm])
      have e3 : ∀ v : Int, mulOk (v % 1000003) ((k : Int) + 2) := fun v => .inl (by
        have := Int.emod_nonneg v (show (1000003 : Int) ≠ 0 by decide)
        have := Int.emod_lt_of_pos v (show (0 : Int) < 1000003 by decide)
        unfold small; constructor <;> omega)
      have e4 : mulOk (k : Int) 7919 := .inr (.inl (by decide))
      refine ⟨(if ns[k % ns.length] < 0 then -ns[k % ns.length] else ns[k % ns.length]) % 1000003 * ((k : Int) + 2) + (k : Int) * 7919, ?_⟩
      simp [m_law_cell, b_law_cell, h, hl, h0, e, hp, e3, e4]
/-! ### the names -/
theorem names_ok (c : Int) (k : Nat) (S : Store) (hk : k ≤ 10) : ∃ (l : List Tx) (m : Nat) (S' : Store), m_law_names [.int c, .int k] S = .ok (.ref m) S' ∧ Pre S S' ∧ S.length ≤ m ∧ S'[m]? = some (.lst (l.map .str)) ∧ l.length = k ∧ ∀ t ∈ l, Nm t := by
  obtain ⟨sz, hsz, hs0, hs8⟩ : ∃ sz : Nat, 1 + c % 8 = (sz : Int) ∧ 1 ≤ sz ∧ sz ≤ 8 := ⟨(1 + c % 8).toNat, by omega, by omega, by omega⟩
  have hszp : (0 : Int) < sz := by omega
  obtain ⟨sp, hsp, hsp8⟩ : ∃ sp : Nat, c / 8 % (sz : Int) = (sp : Int) ∧ sp < sz := by
    have h1 := Int.emod_nonneg (c / 8) (show (sz : Int) ≠ 0 by omega)
    have h2 := Int.emod_lt_of_pos (c / 8) hszp
    exact ⟨(c / 8 % (sz : Int)).toNat, by omega, by omega⟩
  let wd : Nat → Int := fun j => if 0 < j then 36 else 26
  let cv : Nat → Nat := fun j => SG.getD (c / (64 + 5 * (j : Int)) % wd j).toNat 0
  have hcv : ∀ j : Nat, atI SG (c / (64 + 5 * (j : Int)) % wd j) = some (cv j) ∧ cv j ∈ SG ∧ (j = 0 → 97 ≤ cv j ∧ cv j ≤ 122) := fun j => by
    have w0 : 0 < wd j ∧ wd j ≤ 36 ∧ (j = 0 → wd j = 26) := by
      by_cases h : 0 < j
      · simp [wd, h]; omega
      · simp [wd, h]
    have h1 := Int.emod_nonneg (c / (64 + 5 * (j : Int))) (show wd j ≠ 0 by omega)
    have h2 := Int.emod_lt_of_pos (c / (64 + 5 * (j : Int))) w0.1
    obtain ⟨d, e, m, q⟩ := sg_lt h1 (by omega)
    have ed : cv j = d := by
      have : SG[(c / (64 + 5 * (j : Int)) % wd j).toNat]? = some d := by
        unfold atI at e
        rw [ixN_of h1 (by show _ < ((36 : Nat) : Int); omega)] at e
        exact e
      show (SG[(c / (64 + 5 * (j : Int)) % wd j).toNat]?).getD 0 = d
      rw [this]; rfl
    rw [ed]
    exact ⟨e, m, fun h => q (by have := w0.2.2 h; omega)⟩
  let f : D → Option D := fun d => match d with
    | .int j => some (sgn (cv j.toNat))
    | _ => none
  have fsz : far (sz : Int) := by unfold far; omega
  obtain ⟨G1, q1⟩ := lc_is (vs := [6]) (g := gName 6) (t := tYes) (e := e_law_names_1)
    (fr := [some (.int c), some (.int k), some (.str SG), some (.int sz), some (.int sp), none, none, none, none, none]) (l := rng 0 sz) (hs := []) (S := S) f (fun _ h => by cases h) (by rw [rng_len]; exact Nat.le_trans hs8 (by decide)) (by
      intro d hd acc G
      obtain ⟨i, hi⟩ := List.getElem?_of_mem hd
      obtain ⟨hl, rfl⟩ := rng_at hi
      have e0 : (0 : Int) + (i : Int) = (i : Int) := by omega
      have a := hcv i
      have dv : divOk (64 + 5 * (i : Int)) := div_ok (by omega) (by omega)
      have mo : mulOk 5 (i : Int) := mul_l (by decide)
      refine ⟨[some (.int c), some (.int k), some (.str SG), some (.int sz), some (.int sp), none, some (.int i), none, none, none], [.lst [.int 26, .int 36]], by simp [unset, e0], .inr ⟨sgn (cv i), [], by simp [f, e0], by simp [tYes], ?_⟩⟩
      by_cases h : 0 < i
      · have a1 := a.1
        simp only [wd, if_pos h] at a1
        simp [e_law_names_1, h, LINE, mo, dv, get_app, get_len_add, a1]
      · have h0 : i = 0 := by omega
        subst h0
        have a1 := a.1
        simp [wd] at a1
        have dv' : divOk 64 := div_ok (by decide) (by decide)
        have mo' : mulOk 5 0 := mul_l (by decide)
        simp [e_law_names_1, LINE, mo', dv', get_app, get_len_add, a1])
  have q1l : (rng 0 sz).filterMap f = ((List.range sz).map cv).map sgn := by
    unfold rng
    rw [List.filterMap_map, List.map_map]
    have : (f ∘ fun k : Nat => D.int (0 + (k : Int))) = fun k : Nat => some (sgn (cv k)) := by
      funext k
      simp [f]
    rw [this, List.filterMap_eq_map']
    rfl
  rw [q1l] at q1
  have cs0 : Cs ((List.range sz).map cv) := by
    refine ⟨by simpa using hs0, by simpa using hs8, ⟨cv 0, ?_, (hcv 0).2.2 rfl⟩, ?_⟩
    · rw [List.getElem?_map, List.getElem?_range hs0]; rfl
    · intro d hd
      obtain ⟨j, _, rfl⟩ := List.mem_map.mp hd
      exact (hcv j).2.1
  have csl : ((List.range sz).map cv).length = sz := by simp
  generalize (List.range sz).map cv = cs0' at q1 cs0 csl
  obtain ⟨S1, hS1⟩ : ∃ S1 : Store, S1 = S ++ .lst (cs0'.map sgn) :: G1 := ⟨_, rfl⟩
  rw [← hS1] at q1
  have p1 : Pre S S1 := by rw [hS1]; exact Pre.app _ _
  have g1 : S1[S.length]? = some (.lst (cs0'.map sgn)) := by rw [hS1]; exact app_new _ _ _
  have hlen : S.length < S1.length := Pre.lt (S' := S) g1
  have key := loop_inv (hs := []) (turn := turnM (gName 8) l_law_names_2)
    (fun i fr S' => ∃ k8 k9 cs l, fr = [some (.int c), some (.int k), some (.str SG), some (.int sz), some (.int sp), some (.ref S.length), none, some (.ref S1.length), k8, k9] ∧ Pre S S' ∧ S'[S.length]? = some (.lst (cs.map sgn)) ∧ S'[S1.length]? = some (.lst (l.map .str)) ∧ Cs cs ∧ cs.length = sz ∧ l.length = i ∧ ∀ t ∈ l, Nm t)
    (rng 0 k) 0 [some (.int c), some (.int k), some (.str SG), some (.int sz), some (.int sp), some (.ref S.length), none, some (.ref S1.length), none, none] (S1 ++ [.lst []])
    ⟨none, none, cs0', [], rfl, p1.trans (Pre.app _ _), app_get g1, app_new _ _ _, cs0, csl, rfl, by simp⟩ (fun _ _ S _ => stands_nil S) (by
      rintro i d fr S' hd ⟨k8, k9, cs, l, rfl, pr, ga, gb, hcs, hcl, hll, hnm⟩
      obtain ⟨hi, rfl⟩ := rng_at hd
      have e0 : (0 : Int) + (i : Int) = (i : Int) := by omega
      have d64 : divOk 64 := div_ok (by decide) (by decide)
      have h1 : 0 ≤ (c / 64 + (i : Int)) % 26 ∧ (c / 64 + (i : Int)) % 26 < 26 := ⟨Int.emod_nonneg _ (by decide), Int.emod_lt_of_pos _ (by decide)⟩
      obtain ⟨x, ex, mx, qx⟩ := sg_lt h1.1 (by omega)
      have hx := qx h1.2
      have ix : ixN sz (sp : Int) = some sp := by rw [ixN_of (by omega) (by omega)]; simp
      have hcs' := hcs.set sp x hx mx
      have ne : S.length ≠ S1.length := by omega
      have hmap : (cs.map sgn).set sp (sgn x) = (cs.set sp x).map sgn := by rw [List.map_set]
      have gj : (S'.set S.length (.lst ((cs.set sp x).map sgn)))[S.length]? = some (.lst ((cs.set sp x).map sgn)) := set_get ga
      have gk : (S'.set S.length (.lst ((cs.set sp x).map sgn)))[S1.length]? = some (.lst (l.map .str)) := by rw [set_ne ne]; exact gb
      have jo := join_sgn gj (Nat.le_trans hcs'.hi (by decide))
      have nm := hcs'.nm
      have pr2 : Pre S (S'.set S.length (.lst ((cs.set sp x).map sgn))) := pr.set (Nat.le_refl _)
      generalize hT : S'.set S.length (.lst ((cs.set sp x).map sgn)) = T at gj gk jo pr2
      rw [← hmap] at hT
      have hlL : l.length < LINE := by rw [hll]; exact Nat.lt_of_lt_of_le (Nat.lt_of_lt_of_le (by omega) hk) (by decide)
      have hcl8 : (cs.set sp x).length ≤ 8 := hcs'.hi
      refine ⟨[some (.int c), some (.int k), some (.str SG), some (.int sz), some (.int sp), some (.ref S.length), none, some (.ref S1.length), some (.int i), some (.str (nmOf (cs.set sp x)))], T.set S1.length (.lst ((l ++ [nmOf (cs.set sp x)]).map .str)), .inl ?_, _, _, cs.set sp x, l ++ [nmOf (cs.set sp x)], rfl, pr2.set (by omega), ?_, set_get gk, hcs', by simpa using hcl, by simp [hll], ?_⟩
      · simp [turnM_s, l_law_names_2, e0, d64, LINE, ex, ga, ix, hcl, hT, gj, jo, gk]
        by_cases hw : cs.set sp x = w_sy ∨ cs.set sp x = w_go ∨ cs.set sp x = w_pt ∨ cs.set sp x = w_en
        · have : nmOf (cs.set sp x) = cs.set sp x ++ [48] := by unfold nmOf; rw [if_pos hw]
          have hw' : ((w_sy == cs.set sp x) || ((w_go == cs.set sp x) || ((w_pt == cs.set sp x) || (w_en == cs.set sp x)))) = true := by
            simp only [Bool.or_eq_true, beq_iff_eq]
            rcases hw with z | z | z | z <;> simp [z]
          have hl9 : cs.length + 1 ≤ LINE := Nat.le_trans (show cs.length + 1 ≤ 9 by omega) (by decide)
          rw [this]
          simp [hw', hl9, gk, hlL]
        · have : nmOf (cs.set sp x) = cs.set sp x := by unfold nmOf; rw [if_neg hw]
          rw [this]
          have hw' : ((w_sy == cs.set sp x) || ((w_go == cs.set sp x) || ((w_pt == cs.set sp x) || (w_en == cs.set sp x)))) = false := by
            simp only [not_or] at hw
            simp only [Bool.or_eq_false_iff, beq_eq_false_iff_ne, ne_eq]
            exact ⟨fun e => hw.1 e.symm, fun e => hw.2.1 e.symm, fun e => hw.2.2.1 e.symm, fun e => hw.2.2.2 e.symm⟩
          simp [hw', gk, hlL]
      · rw [set_ne ne.symm]; exact gj
      · intro t ht
        rcases List.mem_append.mp ht with z | z
        · exact hnm t z
        · rw [List.mem_singleton.mp z]; exact nm)
  obtain ⟨fr', S', e, k8, k9, cs, l, rfl, pr, ga, gb, hcs, hcl, hll, hnm⟩ := key
  refine ⟨l, S1.length, S', ?_, pr, by omega, gb, by simpa using hll, hnm⟩
  have fk : far (k : Int) := by unfold far; omega
  have d8 : divOk 8 := div_ok (by decide) (by decide)
  have hs0' : 0 < sz := by omega
  simp [m_law_names, b_law_names, hsz, hsp, d8, fk, fsz, hs0']
  rw [q1]
  simp [LINE, get_app, fk]
  rw [e]
  simp
/-! ### digits, operands -/
structure Digs (sz ds : List Int) : Prop where
  len : ds.length = sz.length
  bd : ∀ (i : Nat) (x : Int), ds[i]? = some x → ∃ n, sz[i]? = some n ∧ 0 ≤ x ∧ x < n
theorem digits_ok (c : Int) (p : Nat) (S : Store) (sz : List Int) (h : S[p]? = some (.lst (sz.map .int))) (hs : ∀ n ∈ sz, 0 < n ∧ n < 2 ^ 60) (hl : sz.length ≤ 10) : ∃ (ds : List Int) (m : Nat) (S' : Store), m_law_digits [.int c, .ref p] S = .ok (.ref m) S' ∧ Pre S S' ∧ S.length ≤ m ∧ S'[m]? = some (.lst (ds.map .int)) ∧ Digs sz ds := by
  have hp := Pre.lt (S' := S) h
  have key := loop_inv (hs := [(p, sz.map D.int)]) (turn := turnM (gName 4) l_law_digits_1)
    (fun i fr S' => ∃ (num : Int) (e : Option D) (ds : List Int), fr = [some (.int c), some (.ref p), some (.int num), some (.ref S.length), e] ∧ S' = S ++ [.lst (ds.map .int)] ∧ ds.length = i ∧ ∀ (i : Nat) (x : Int), ds[i]? = some x → ∃ n, sz[i]? = some n ∧ 0 ≤ x ∧ x < n)
    (sz.map D.int) 0 [some (.int c), some (.ref p), some (.int (c * 48271 % 2147483647)), some (.ref S.length), none] (S ++ [.lst []]) ⟨_, none, [], rfl, rfl, rfl, fun _ _ h => by cases h⟩
    (by
      rintro i fr S' ⟨num, e, ds, rfl, rfl, hl, hb⟩
      exact stands_one (by simp [app_get h]))
    (by
      rintro i d fr S' hd ⟨num, e, ds, rfl, rfl, hdl, hb⟩
      rw [List.getElem?_map] at hd
      obtain ⟨n, hn, rfl⟩ := Option.map_eq_some_iff.mp hd
      have hn2 := hs n (List.mem_of_getElem? hn)
      have dv : divOk n := div_ok hn2.1 (by omega)
      have hil : ds.length < LINE := by
        have := (List.getElem?_eq_some_iff.mp hn).1
        exact Nat.lt_of_lt_of_le (show ds.length < 11 by omega) (by decide)
      refine ⟨[some (.int c), some (.ref p), some (.int (num / n)), some (.ref S.length), some (.int n)], S ++ [.lst ((ds ++ [num % n]).map .int)], .inl (by
        simp [turnM_s, l_law_digits_1, get_len, hn2.1, hil, dv]), _, some (.int n), ds ++ [num % n], rfl, rfl, by rw [List.length_append, hdl]; simp, ?_⟩
      intro j x hj
      rw [List.getElem?_append] at hj
      split at hj
      · exact hb j x hj
      · rename_i hlt
        have : j = i := by
          have := (List.getElem?_eq_some_iff.mp hj).1
          simp at this
          omega
        subst this
        rw [show j - ds.length = 0 by omega] at hj
        obtain rfl := Option.some.inj hj
        exact ⟨n, hn, Int.emod_nonneg _ (by omega), Int.emod_lt_of_pos _ hn2.1⟩)
  obtain ⟨fr', S', e, num, e5, ds, rfl, rfl, hdl, hb⟩ := key
  have mo : mulOk c 48271 := mul_r (by decide)
  refine ⟨ds, S.length, S ++ [.lst (ds.map .int)], ?_, Pre.app _ _, Nat.le_refl _, app_new _ _ _, ⟨by simpa using hdl, hb⟩⟩
  simp [m_law_digits, b_law_digits, mo, LINE, app_get h]
  rw [e]
  simp
theorem operand_ok (dg c : Int) (p : Nat) (S : Store) (l : List Tx) (h : S[p]? = some (.lst (l.map .str))) (hd : 0 ≤ dg) : ∃ k : Ky, m_law_operand [.int dg, .int c, .ref p] S = .ok (kyD k) S ∧ Opd l k := by
  obtain ⟨j, rfl⟩ : ∃ j : Nat, dg = (j : Int) := ⟨dg.toNat, by omega⟩
  by_cases h1 : j < l.length
  · have e : atI (l.map D.str) (j : Int) = some (.str l[j]) := at_of (by simp [h1])
    exact ⟨.inr l[j], by simp [m_law_operand, b_law_operand, h, h1, e], .inl ⟨_, List.getElem_mem h1, rfl⟩⟩
  · by_cases h2 : j = l.length
    · exact ⟨.inl (c % 3), by simp [m_law_operand, b_law_operand, h, h2], .inr ⟨_, rfl, by omega, by omega⟩⟩
    · have d3 : divOk 3 := div_ok (by decide) (by decide)
      have mo : mulOk c 48271 := mul_r (by decide)
      have h2' : ¬ ((j : Int) = (l.length : Int)) := by omega
      by_cases h3 : c % 3 = 0
      · exact ⟨.inl (18446744073709551615 - c / 3 % 9), by simp [m_law_operand, b_law_operand, h, h1, h2, h2', h3, d3], .inr ⟨_, rfl, by omega, by omega⟩⟩
      · exact ⟨.inl (c * 48271 % 18446744073709551616), by simp [m_law_operand, b_law_operand, h, h1, h2, h2', h3, mo], .inr ⟨_, rfl, by omega, by omega⟩⟩
/-! ### rows are rows -/
theorem is_name_ok (t : Tx) (S : Store) (h : Nm t) : m_is_name [.str t] S = .ok (.bl true) S := by
  have key := loop_inv (hs := []) (turn := turnM (gName 1) l_is_name_1)
    (fun i fr S' => ∃ (x : Option D), fr = [some (.str t), x] ∧ S' = S)
    (t.map fun c => .str [c]) 0 [some (.str t), none] S ⟨none, rfl, rfl⟩ (fun _ _ S _ => stands_nil S) (by
      rintro i d fr S' hd ⟨x, rfl, rfl⟩
      rw [List.getElem?_map] at hd
      obtain ⟨c, hc, rfl⟩ := Option.map_eq_some_iff.mp hd
      refine ⟨[some (.str t), some (.str [c])], S', .inl ?_, _, rfl, rfl⟩
      by_cases h1 : c ∈ LTS
      · have h2 : decide (c ∈ LTS) = true := decide_eq_true h1
        simp only [turnM_s, l_is_name_1, gName_s, tuK_s, sIf_s, tAnd_s, tBl_s, mOp_s, mVar_s, mC_s, List.set_cons_succ, List.set_cons_zero, List.getElem?_cons_succ, List.getElem?_cons_zero, varK_s, opK1_s, opK2_s, oNotIn_g, isIn_s, eqK_s, blK_s, h2, Bool.not_true, tandK_f, ifK_f, sNx_s]
      · have h2 : decide (c ∈ LTS) = false := decide_eq_false h1
        have h3 : decide (c ∈ FG) = true := decide_eq_true ((sg_or (h.all c (List.mem_of_getElem? hc))).resolve_left h1)
        simp only [turnM_s, l_is_name_1, gName_s, tuK_s, sIf_s, tAnd_s, tBl_s, mOp_s, mVar_s, mC_s, List.set_cons_succ, List.set_cons_zero, List.getElem?_cons_succ, List.getElem?_cons_zero, varK_s, opK1_s, opK2_s, oNotIn_g, isIn_s, eqK_s, blK_s, h2, h3, Bool.not_true, Bool.not_false, tandK_t, ifK_f, sNx_s])
  obtain ⟨fr', S', e, x, rfl, rfl⟩ := key
  obtain ⟨c, hc, hc2⟩ := h.fst
  have e0 : atI t 0 = some c := at_of (k := 0) hc
  have hL : decide (c ∈ LTS) = true := decide_eq_true (lt_of hc2)
  have l1 : (1 : Int) ≤ (t.length : Int) := by have := h.lo; omega
  have l2 : (t.length : Int) ≤ 8 := by have := h.hi; omega
  have l3 : t.length ≤ LINE := Nat.le_trans h.hi (by decide)
  have l4 : t.length ≤ 16777216 := l3
  have inT : inSeq (.str t) [.str w_sy, .str w_go, .str w_pt, .str w_en] S' = some false := by
    obtain ⟨n1, n2, n3, n4⟩ := h.no
    have := in_ks (.inr t) [.inr w_sy, .inr w_go, .inr w_pt, .inr w_en] S'
    rw [dec_false (by simp only [List.mem_cons, List.not_mem_nil, or_false]; rintro (z | z | z | z) <;> injection z <;> contradiction)] at this
    exact this
  have lst : oIn (.str [c]) (.str LTS) S' = .ok (.bl true) S' := by rw [oIn_g, isIn_s, hL]; rfl
  have a1 := h.lo
  have a2 := h.hi
  have inT' : inSeq (.str t) w_TAKEN S' = some false := inT
  simp [-inSeq_cons, m_is_name, b_is_name, l3, l4, a1, a2, l1, l2, inT']
  rw [e]
  simp [-oIn_g, l3, l4, e0]
  simp only [show oIn (.str [c]) (.str t_x0_abcdefghijkl) S' = .ok (.bl true) S' from lst]
  simp
/-! ### things that may be no rows -/
theorem tk_succ {α : Type} {l : List α} {i : Nat} {r : α} (h : l[i]? = some r) : l.take (i + 1) = l.take i ++ [r] := by
  obtain ⟨hi, rfl⟩ := List.getElem?_eq_some_iff.mp h
  rw [List.take_succ_eq_append_getElem hi]
def NmB (x : D) : Prop := ∃ t, x = .str t ∧ Nm t
def WhB (x : D) : Prop := ∃ w : Int, x = .int w ∧ 0 ≤ w
def OpB (x : D) : Prop := NmB x ∨ ∃ w : Int, x = .int w ∧ 0 ≤ w ∧ w < 18446744073709551616
def Okd (S : Store) : D → Prop
  | .str t => t.length ≤ 1000
  | .wtp _ => False
  | .ref n => (∃ l, S[n]? = some (.lst l)) ∨ (∃ k, S[n]? = some (.dK k))
  | _ => True
theorem sg_cases (c : Nat) : (c ∈ LTS ∨ c ∈ FG) ↔ c ∈ SG := by
  constructor
  · intro h
    have h1 : ∀ c ∈ LTS, c ∈ SG := by decide
    have h2 : ∀ c ∈ FG, c ∈ SG := by decide
    rcases h with h | h
    · exact h1 c h
    · exact h2 c h
  · exact sg_or
theorem nm_of {t : Tx} (h1 : 1 ≤ t.length) (h8 : t.length ≤ 8) (ht : ¬ (t = w_sy ∨ t = w_go ∨ t = w_pt ∨ t = w_en)) (ha : ∀ c ∈ t, c ∈ SG) {c : Nat} (hc : t[0]? = some c) (hL : c ∈ LTS) : Nm t := by
  simp only [not_or] at ht
  refine ⟨h1, h8, ⟨c, hc, ?_⟩, ha, ht⟩
  have : ∀ c ∈ LTS, 97 ≤ c ∧ c ≤ 122 := by decide
  exact this c hL
theorem name_loop (t : Tx) (S : Store) : (∀ c ∈ t, c ∈ SG) ∧ (∃ x, loopM [] (turnM (gName 1) l_is_name_1) (t.map fun c => .str [c]) [some (.str t), none] S = .ok (.nx [some (.str t), x]) S) ∨ (¬ ∀ c ∈ t, c ∈ SG) ∧ loopM [] (turnM (gName 1) l_is_name_1) (t.map fun c => .str [c]) [some (.str t), none] S = .ok (.rt (.bl false)) S := by
  have key := loop_ret (hs := []) (turn := turnM (gName 1) l_is_name_1)
    (fun i fr S' => ∃ (x : Option D), fr = [some (.str t), x] ∧ S' = S ∧ ∀ c ∈ t.take i, c ∈ SG)
    (fun x S' => x = .bl false ∧ S' = S ∧ ¬ ∀ c ∈ t, c ∈ SG)
    (t.map fun c => .str [c]) 0 [some (.str t), none] S ⟨none, rfl, rfl, by simp⟩ (fun _ _ S _ => stands_nil S) (by
      rintro i d fr S' hd ⟨x, rfl, rfl, ha⟩
      rw [List.getElem?_map] at hd
      obtain ⟨c, hc, rfl⟩ := Option.map_eq_some_iff.mp hd
      rw [show 0 + i = i by omega] at *
      by_cases h1 : c ∈ LTS
      · left
        have h2 : decide (c ∈ LTS) = true := decide_eq_true h1
        refine ⟨[some (.str t), some (.str [c])], S', .inl ?_, _, rfl, rfl, ?_⟩
        · simp only [turnM_s, l_is_name_1, gName_s, tuK_s, sIf_s, tAnd_s, tBl_s, mOp_s, mVar_s, mC_s, List.set_cons_succ, List.set_cons_zero, List.getElem?_cons_succ, List.getElem?_cons_zero, varK_s, opK1_s, opK2_s, oNotIn_g, isIn_s, eqK_s, blK_s, h2, Bool.not_true, tandK_f, ifK_f, sNx_s]
        · rw [tk_succ hc]
          intro e he
          rcases List.mem_append.mp he with z | z
          · exact ha e z
          · rw [List.mem_singleton.mp z]; exact (sg_cases c).mp (.inl h1)
      · have h2 : decide (c ∈ LTS) = false := decide_eq_false h1
        by_cases h3 : c ∈ FG
        · left
          have h4 : decide (c ∈ FG) = true := decide_eq_true h3
          refine ⟨[some (.str t), some (.str [c])], S', .inl ?_, _, rfl, rfl, ?_⟩
          · simp only [turnM_s, l_is_name_1, gName_s, tuK_s, sIf_s, tAnd_s, tBl_s, mOp_s, mVar_s, mC_s, List.set_cons_succ, List.set_cons_zero, List.getElem?_cons_succ, List.getElem?_cons_zero, varK_s, opK1_s, opK2_s, oNotIn_g, isIn_s, eqK_s, blK_s, h2, h4, Bool.not_true, Bool.not_false, tandK_t, ifK_f, sNx_s]
          · rw [tk_succ hc]
            intro e he
            rcases List.mem_append.mp he with z | z
            · exact ha e z
            · rw [List.mem_singleton.mp z]; exact (sg_cases c).mp (.inr h3)
        · right
          have h4 : decide (c ∈ FG) = false := decide_eq_false h3
          refine ⟨.bl false, S', ?_, rfl, rfl, fun z => ?_⟩
          · simp only [turnM_s, l_is_name_1, gName_s, tuK_s, sIf_s, tAnd_s, tBl_s, mOp_s, mVar_s, mC_s, List.set_cons_succ, List.set_cons_zero, List.getElem?_cons_succ, List.getElem?_cons_zero, varK_s, opK1_s, opK2_s, oNotIn_g, isIn_s, eqK_s, blK_s, h2, h4, Bool.not_false, tandK_t, ifK_t, sRet_s, reK_s]
          · rcases (sg_cases c).mpr (z c (List.mem_of_getElem? hc)) with q | q
            · exact h1 q
            · exact h3 q)
  rcases key with ⟨fr', S', e, x, rfl, rfl, ha⟩ | ⟨x, S', e, rfl, rfl, hn⟩
  · rw [List.length_map, Nat.zero_add, List.take_length] at ha
    exact .inl ⟨ha, x, e⟩
  · exact .inr ⟨hn, e⟩
theorem is_name_dec (x : D) (S : Store) (h : Okd S x) : m_is_name [x] S = .ok (.bl (dec (NmB x))) S := by
  cases x with
  | str t =>
    have l3 : t.length ≤ 16777216 := Nat.le_trans h (by decide)
    have nb : dec (NmB (.str t)) = dec (Nm t) := by
      congr 1
      exact propext ⟨fun ⟨u, e, q⟩ => by injection e with e; rw [e]; exact q, fun q => ⟨t, rfl, q⟩⟩
    rw [nb]
    by_cases h1 : 1 ≤ t.length
    · by_cases h8 : t.length ≤ 8
      · have l1 : (1 : Int) ≤ (t.length : Int) := by omega
        have l2 : (t.length : Int) ≤ 8 := by omega
        have inT : inSeq (.str t) w_TAKEN S = some (dec (t = w_sy ∨ t = w_go ∨ t = w_pt ∨ t = w_en)) := by
          have q := in_ks (.inr t) [.inr w_sy, .inr w_go, .inr w_pt, .inr w_en] S
          have e : dec ((Sum.inr t : Ky) ∈ [Sum.inr w_sy, .inr w_go, .inr w_pt, .inr w_en]) = dec (t = w_sy ∨ t = w_go ∨ t = w_pt ∨ t = w_en) := by
            congr 1
            simp
          rw [e] at q
          exact q
        by_cases hT : t = w_sy ∨ t = w_go ∨ t = w_pt ∨ t = w_en
        · rw [dec_true hT] at inT
          rw [dec_false fun q => by rcases hT with z | z | z | z <;> simp [z] at q <;> first | exact q.no.1 rfl | exact q.no.2.1 rfl | exact q.no.2.2.1 rfl | exact q.no.2.2.2 rfl]
          simp [-inSeq_cons, m_is_name, b_is_name, LINE, l3, h1, h8, l1, l2, inT]
        · rw [dec_false hT] at inT
          rcases name_loop t S with ⟨ha, x, e⟩ | ⟨hn, e⟩
          · obtain ⟨c, hc⟩ : ∃ c, t[0]? = some c := ⟨_, List.getElem?_eq_getElem h1⟩
            have e0 : atI t 0 = some c := at_of (k := 0) hc
            have lst : oIn (.str [c]) (.str t_x0_abcdefghijkl) S = .ok (.bl (decide (c ∈ LTS))) S := by rw [oIn_g, isIn_s]; rfl
            have fin : dec (Nm t) = decide (c ∈ LTS) := by
              by_cases hL : c ∈ LTS
              · rw [decide_eq_true hL, dec_true (nm_of h1 h8 hT ha hc hL)]
              · rw [decide_eq_false hL, dec_false fun q => by
                  obtain ⟨c', hc', q1, q2⟩ := q.fst
                  rw [hc] at hc'
                  obtain rfl := Option.some.inj hc'
                  exact hL (lt_of ⟨q1, q2⟩)]
            rw [fin]
            simp [-inSeq_cons, m_is_name, b_is_name, LINE, l3, h1, h8, l1, l2, inT]
            rw [e]
            simp [-oIn_g, LINE, l3, e0]
            simp only [lst]
            simp
          · rw [dec_false fun q => hn q.all]
            simp [-inSeq_cons, m_is_name, b_is_name, LINE, l3, h1, h8, l1, l2, inT]
            rw [e]
            simp
      · have l1 : (1 : Int) ≤ (t.length : Int) := by omega
        have l2 : ¬ (t.length : Int) ≤ 8 := by omega
        rw [dec_false fun q => h8 q.hi]
        simp [-inSeq_cons, m_is_name, b_is_name, LINE, l3, h1, h8, l1, l2]
    · have l1 : ¬ (1 : Int) ≤ (t.length : Int) := by omega
      rw [dec_false fun q => h1 q.lo]
      simp [-inSeq_cons, m_is_name, b_is_name, LINE, l3, h1, l1]
  | wtp l => exact h.elim
  | ref n =>
    rw [dec_false fun ⟨_, e, _⟩ => by cases e]
    rcases h with ⟨l, g⟩ | ⟨k, g⟩ <;> simp [m_is_name, b_is_name, g]
  | non => rw [dec_false fun ⟨_, e, _⟩ => by cases e]; simp [m_is_name, b_is_name]
  | bl b => rw [dec_false fun ⟨_, e, _⟩ => by cases e]; simp [m_is_name, b_is_name]
  | int i => rw [dec_false fun ⟨_, e, _⟩ => by cases e]; simp [m_is_name, b_is_name]
  | tup l => rw [dec_false fun ⟨_, e, _⟩ => by cases e]; simp [m_is_name, b_is_name]
end Lk15

set_option Elab.async false
set_option linter.all false
set_option maxHeartbeats 1000000
namespace Lk15
open Mi
/-! ### words read -/
theorem is_name_num (n : Nat) (S : Store) (hl : n < 10 ^ 25) : m_is_name [.str (numT n)] S = .ok (.bl false) S := by
  have l0 : 1 ≤ (numT n).length := List.length_pos_iff.mpr (num_ne n)
  have l25 := num_len (n := n) (k := 25) (by decide) hl
  have l4 : (numT n).length ≤ 16777216 := by omega
  have l3 : (numT n).length ≤ LINE := l4
  obtain ⟨c, hc⟩ : ∃ c, (numT n)[0]? = some c := ⟨_, List.getElem?_eq_getElem l0⟩
  have dg : ∀ c ∈ numT n, 48 ≤ c ∧ c ≤ 57 := fun c hc => by
    have := List.all_eq_true.mp (num_dig n) c hc
    simpa [isDig] using this
  have cd := dg c (List.mem_of_getElem? hc)
  have inT : inSeq (.str (numT n)) w_TAKEN S = some false := by
    have q := in_ks (.inr (numT n)) [.inr w_sy, .inr w_go, .inr w_pt, .inr w_en] S
    rw [dec_false (by
      simp only [List.mem_cons, List.not_mem_nil, or_false]
      rintro (z | z | z | z) <;> (injection z with z; rw [z] at hc; have := Option.some.inj hc; omega))] at q
    exact q
  by_cases h8 : (numT n).length ≤ 8
  · have key := loop_inv (hs := []) (turn := turnM (gName 1) l_is_name_1)
      (fun i fr S' => ∃ (x : Option D), fr = [some (.str (numT n)), x] ∧ S' = S)
      ((numT n).map fun c => .str [c]) 0 [some (.str (numT n)), none] S ⟨none, rfl, rfl⟩ (fun _ _ S _ => stands_nil S) (by
        rintro i d fr S' hd ⟨x, rfl, rfl⟩
        rw [List.getElem?_map] at hd
        obtain ⟨c, hc, rfl⟩ := Option.map_eq_some_iff.mp hd
        refine ⟨[some (.str (numT n)), some (.str [c])], S', .inl ?_, _, rfl, rfl⟩
        have cd := dg c (List.mem_of_getElem? hc)
        have nl : c ∉ LTS := fun z => by
          have : ∀ c ∈ LTS, 97 ≤ c := by decide
          have := this c z; omega
        have fg : c ∈ FG := by
          have : ∀ k : Nat, k < 10 → 48 + k ∈ FG := by decide
          have q := this (c - 48) (by omega)
          rwa [show 48 + (c - 48) = c by omega] at q
        have h2 : decide (c ∈ LTS) = false := decide_eq_false nl
        have h3 : decide (c ∈ FG) = true := decide_eq_true fg
        simp only [turnM_s, l_is_name_1, gName_s, tuK_s, sIf_s, tAnd_s, tBl_s, mOp_s, mVar_s, mC_s, List.set_cons_succ, List.set_cons_zero, List.getElem?_cons_succ, List.getElem?_cons_zero, varK_s, opK1_s, opK2_s, oNotIn_g, isIn_s, eqK_s, blK_s, h2, h3, Bool.not_true, Bool.not_false, tandK_t, ifK_f, sNx_s])
    obtain ⟨fr', S', e, x, rfl, rfl⟩ := key
    have e0 : atI (numT n) 0 = some c := at_of (k := 0) hc
    have hL : decide (c ∈ LTS) = false := decide_eq_false fun z => by
      have : ∀ c ∈ LTS, 97 ≤ c := by decide
      have := this c z; omega
    have l1 : (1 : Int) ≤ ((numT n).length : Int) := by omega
    have l2 : ((numT n).length : Int) ≤ 8 := by omega
    have lst : oIn (.str [c]) (.str LTS) S' = .ok (.bl false) S' := by rw [oIn_g, isIn_s, hL]; rfl
    simp [-inSeq_cons, m_is_name, b_is_name, l3, l4, l0, h8, l1, l2, inT]
    rw [e]
    simp [-oIn_g, l3, l4, e0]
    simp only [show oIn (.str [c]) (.str t_x0_abcdefghijkl) S' = .ok (.bl false) S' from lst]
    simp
  · have l2 : ¬ ((numT n).length : Int) ≤ 8 := by omega
    have l1 : (1 : Int) ≤ ((numT n).length : Int) := by omega
    simp [-inSeq_cons, m_is_name, b_is_name, l3, l4, l0, h8, l1, l2]
theorem number_of_ok (n : Nat) (S : Store) (hl : n < 10 ^ 25) : m_number_of [.str (numT n)] S = .ok (.int (n : Nat)) S := by
  have l0 : 1 ≤ (numT n).length := List.length_pos_iff.mpr (num_ne n)
  have l25 := num_len (n := n) (k := 25) (by decide) hl
  have dg : ∀ c ∈ numT n, 48 ≤ c ∧ c ≤ 57 := fun c hc => by
    have := List.all_eq_true.mp (num_dig n) c hc
    simpa [isDig] using this
  have key := loop_inv (hs := []) (turn := turnM (gName 1) l_number_of_1)
    (fun i fr S' => ∃ (x : Option D), fr = [some (.str (numT n)), x] ∧ S' = S)
    ((numT n).map fun c => .str [c]) 0 [some (.str (numT n)), none] S ⟨none, rfl, rfl⟩ (fun _ _ S _ => stands_nil S) (by
      rintro i d fr S' hd ⟨x, rfl, rfl⟩
      rw [List.getElem?_map] at hd
      obtain ⟨c, hc, rfl⟩ := Option.map_eq_some_iff.mp hd
      refine ⟨[some (.str (numT n)), some (.str [c])], S', .inl ?_, _, rfl, rfl⟩
      have cd := dg c (List.mem_of_getElem? hc)
      have fg : c ∈ FG := by
        have : ∀ k : Nat, k < 10 → 48 + k ∈ FG := by decide
        have q := this (c - 48) (by omega)
        rwa [show 48 + (c - 48) = c by omega] at q
      have h3 : decide (c ∈ FG) = true := decide_eq_true fg
      simp only [turnM_s, l_number_of_1, gName_s, tuK_s, sIf_s, tBl_s, mOp_s, mVar_s, mC_s, List.set_cons_succ, List.set_cons_zero, List.getElem?_cons_succ, List.getElem?_cons_zero, varK_s, opK1_s, opK2_s, oNotIn_g, isIn_s, eqK_s, blK_s, h3, Bool.not_true, ifK_f, sNx_s])
  obtain ⟨fr', S', e, x, rfl, rfl⟩ := key
  obtain ⟨c, hc⟩ : ∃ c, (numT n)[0]? = some c := ⟨_, List.getElem?_eq_getElem l0⟩
  have e0 : atI (numT n) 0 = some c := at_of (k := 0) hc
  have ne := num_ne n
  have l3 : (numT n).length ≤ 16777216 := by omega
  have bi : bIntS [.str (numT n)] S' = .ok (.int (n : Nat)) S' := by
    show (if (numT n).all isDig = true ∧ numT n ≠ [] ∧ (numT n).length ≤ 640 then _ else _) = _
    rw [if_pos ⟨num_dig n, ne, by omega⟩, num_val]
  by_cases h48 : c = 48
  · have e48 := num_head n (by rw [hc, h48])
    simp [m_number_of, b_number_of]
    rw [e]
    simp [ne, LINE, l3, e0, h48, e48]
    rw [e48] at bi
    simp [bi]
  · simp [m_number_of, b_number_of]
    rw [e]
    simp [ne, LINE, l3, e0, h48, bi]
theorem operand_of_ok (l : List Tx) (k : Ky) (S : Store) (h : Opd l k) (hl : ∀ t ∈ l, Nm t) : m_operand_of [.str (stK' k)] S = .ok (kyD k) S := by
  rcases h with ⟨t, ht, rfl⟩ | ⟨w, rfl, h0, h1⟩
  · have q := is_name_ok t S (hl t ht)
    simp [m_operand_of, b_operand_of, stK', q]
  · obtain ⟨n, rfl⟩ : ∃ n : Nat, w = (n : Int) := ⟨w.toNat, by omega⟩
    have hn : n < 10 ^ 25 := Nat.lt_of_lt_of_le (show n < 18446744073709551616 by omega) (by decide)
    have q := is_name_num n S hn
    have q2 := number_of_ok n S hn
    have h2 : ¬ (18446744073709551616 : Int) ≤ (n : Int) := by omega
    simp [m_operand_of, b_operand_of, stK', q, q2, h2]
theorem whole_row_ok (ks : List Ky) (S : Store) : m_whole_row [kt ks] S = .ok (kt ks) S := by
  have q : inSeq .non (ks.map kyD) S = some false := by
    rw [inSeq_f S rfl (by simp)]
    congr 1
    rw [List.any_map]
    rw [Bool.eq_false_iff, ne_eq, List.any_eq_true]
    rintro ⟨k, _, h⟩
    cases k <;> cases h
  have o : oIn .non (kt ks) S = .ok (.bl false) S := by
    unfold kt
    rw [oIn_g, isIn_t, q]; rfl
  simp [-oIn_g, m_whole_row, b_whole_row, o]
theorem wrds_ok {l : List Tx} {r : Row} (h : Rdb l r) (hl : ∀ t ∈ l, Nm t) : ((wrds r).map (Sum.inr : Tx → Ky)).all kOk = true := by
  have wd := h.wd hl
  have nn := h.nm
  rw [List.all_map, List.all_eq_true]
  have lo : ∀ w, (∀ c ∈ w, c < 0x110000) → kOk (.inr w) = true := fun w q => by
    show w.all _ = true
    rw [List.all_eq_true]
    intro c hc
    exact decide_eq_true (q c hc)
  have nmOk : ∀ t, Nm t → kOk (.inr t) = true := fun t ht => ht.ok
  have nuOk : ∀ n, kOk (.inr (numT n)) = true := fun n => lo _ fun c hc => by
    have := List.all_eq_true.mp (num_dig n) c hc
    simp [isDig] at this
    omega
  have opOk : ∀ k, Opd l k → kOk (.inr (stK' k)) = true := fun k hk => by
    rcases hk with ⟨t, ht, rfl⟩ | ⟨w, rfl, _⟩
    · exact nmOk t (hl t ht)
    · exact nuOk _
  intro w hw
  show kOk (.inr w) = true
  cases r with
  | rk n s a b =>
    obtain ⟨h1, h2⟩ := nn
    obtain ⟨c, hc, e⟩ := h2.s1
    have e : s = [c] := by injection e
    subst e
    simp only [wrds, List.mem_cons, List.not_mem_nil, or_false] at hw
    rcases hw with rfl | rfl | rfl | rfl | rfl
    · exact nmOk _ (hl _ h1)
    · rfl
    · exact opOk _ h2.a1
    · have : ∀ c ∈ S8, kOk (.inr [c]) = true := by decide
      exact this c hc
    · exact opOk _ h2.b1
  | cp n a =>
    simp only [wrds, List.mem_cons, List.not_mem_nil, or_false] at hw
    rcases hw with rfl | rfl | rfl
    · exact nmOk _ (hl _ nn.1)
    · rfl
    · exact opOk _ nn.2
  | sy a =>
    simp only [wrds, List.mem_cons, List.not_mem_nil, or_false] at hw
    rcases hw with rfl | rfl
    · rfl
    · exact opOk _ nn
  | go t =>
    simp only [wrds, List.mem_cons, List.not_mem_nil, or_false] at hw
    rcases hw with rfl | rfl
    · rfl
    · exact nuOk _
  | pt a t =>
    simp only [wrds, List.mem_cons, List.not_mem_nil, or_false] at hw
    rcases hw with rfl | rfl | rfl
    · rfl
    · exact opOk _ nn
    · exact nuOk _
  | en =>
    simp only [wrds, List.mem_cons, List.not_mem_nil, or_false] at hw
    rw [hw]; rfl
theorem row_of_ok (W : Nat) (l : List Tx) (r : Row) (S : Store) (hW : S[W]? = some (.lst ((wrds r).map .str))) (h : Rdb l r) (hl : ∀ t ∈ l, Nm t) : ∃ S', m_row_of [.ref W] S = .ok r.d S' ∧ Pre S S' := by
  refine ⟨S ++ [.lst [.str w_en]], ?_, Pre.app _ _⟩
  have wk : (wrds r).map D.str = ((wrds r).map (Sum.inr : Tx → Ky)).map kyD := by rw [List.map_map]; rfl
  have wok := wrds_ok h hl
  have gN : (S ++ [O.lst [.str w_en]])[S.length]? = some (.lst ([(Sum.inr w_en : Ky)].map kyD)) := app_new _ _ _
  have eq : oEq (.ref W) (.ref S.length) (S ++ [.lst [.str w_en]]) = .ok (.bl (decide ((wrds r).map (Sum.inr : Tx → Ky) = [.inr w_en]))) (S ++ [.lst [.str w_en]]) := by
    rw [oEq_g, eq_lks (lst_of (app_get (by rw [← wk]; exact hW))) (lst_of gN) wok rfl]; rfl
  have gW := app_get (G := [.lst [.str w_en]]) hW
  have nn := h.nm
  generalize hT : S ++ [.lst [.str w_en]] = T at *
  cases r with
  | rk n s a b =>
    obtain ⟨h1, h2⟩ := nn
    obtain ⟨c, hc, e⟩ := h2.s1
    have e : s = [c] := by injection e
    subst e
    obtain ⟨n1, n2, n3, n4⟩ := (hl _ h1).no
    have q1 := is_name_ok n T (hl n h1)
    have q2 := operand_of_ok l a T h2.a1 hl
    have q3 := operand_of_ok l b T h2.b1 hl
    have inS : oNotIn (.str [c]) (.wtp w_SIGNS) T = .ok (.bl false) T := by
      have : ∀ c ∈ S8, (Sum.inr [c] : Ky) ∈ [Sum.inr [43], .inr [45], .inr [42], .inr [38], .inr [124], .inr [94], .inr [60], .inr [61]] := by
        intro c hc
        simp only [S8, List.mem_cons, List.not_mem_nil, or_false] at hc ⊢
        rcases hc with rfl | rfl | rfl | rfl | rfl | rfl | rfl | rfl <;> simp
      have q := in_ks (.inr [c]) [.inr [43], .inr [45], .inr [42], .inr [38], .inr [124], .inr [94], .inr [60], .inr [61]] T
      rw [dec_true (this c hc)] at q
      have q' : inSeq (.str [c]) w_SIGNS T = some true := q
      rw [oNotIn_g, isIn_w, q']; rfl
    have wr := whole_row_ok [.inr w_rk, .inr n, .inr [c], a, b] T
    simp [wrds] at eq gW
    simp only [kt, List.map_cons, List.map_nil, kyD_r] at wr
    simp [-oNotIn_g, m_row_of, b_row_of, LINE, hT, eq, gW, n1, n2, n3, q1, m_given_row, b_given_row, inS, q2, q3, wr, d_rk]
  | cp n a =>
    obtain ⟨n1, n2, n3, n4⟩ := (hl _ nn.1).no
    have q1 := is_name_ok n T (hl n nn.1)
    have q2 := operand_of_ok l a T nn.2 hl
    have wr := whole_row_ok [.inr w_cp, .inr n, a] T
    simp [wrds] at eq gW
    simp only [kt, List.map_cons, List.map_nil, kyD_r] at wr
    simp [m_row_of, b_row_of, LINE, hT, eq, gW, n1, n2, n3, q1, m_given_row, b_given_row, q2, wr, d_cp]
  | sy a =>
    have q2 := operand_of_ok l a T nn hl
    have wr := whole_row_ok [.inr w_sy, a] T
    simp [wrds] at eq gW
    simp only [kt, List.map_cons, List.map_nil, kyD_r] at wr
    simp [m_row_of, b_row_of, LINE, hT, eq, gW, q2, wr, d_sy]
  | go t =>
    obtain ⟨k, rfl⟩ : ∃ k : Nat, t = (k : Int) := ⟨t.toNat, by have := (h.go t rfl).1; omega⟩
    have q2 := number_of_ok k T (by have := (h.go _ rfl).2; omega)
    have wr := whole_row_ok [.inr w_go, .inl (k : Int)] T
    simp [wrds] at eq gW
    simp only [kt, List.map_cons, List.map_nil, kyD_r, kyD_l] at wr
    simp [m_row_of, b_row_of, LINE, hT, eq, gW, q2, wr, d_go]
  | pt a t =>
    obtain ⟨k, rfl⟩ : ∃ k : Nat, t = (k : Int) := ⟨t.toNat, by have := (h.pt a t rfl).1; omega⟩
    have q1 := operand_of_ok l a T nn hl
    have q2 := number_of_ok k T (by have := (h.pt a _ rfl).2; omega)
    have wr := whole_row_ok [.inr w_pt, a, .inl (k : Int)] T
    simp [wrds] at eq gW
    simp only [kt, List.map_cons, List.map_nil, kyD_r, kyD_l] at wr
    simp [m_row_of, b_row_of, LINE, hT, eq, gW, q1, q2, wr, d_pt]
  | en =>
    simp [wrds] at eq gW
    simp [m_row_of, b_row_of, LINE, hT, eq, gW, d_en]
/-! ### a text read -/
theorem split_ok (c : Nat) (a : Tx) (S : Store) (hc : c < 256) (hl : a.length + 2 ≤ LINE) : sSplit (.str a) [.str [c]] S = .ok (.ref S.length) (S ++ [.lst ((spC c [] a).map .str)]) := by
  show (if c < 256 ∧ a.length + 2 ≤ LINE then new (.lst ((spC c [] a).map .str)) S else .bad) = _
  rw [if_pos ⟨hc, hl⟩]; rfl
theorem part_ok (t : Tx) (S : Store) (hl : t.length ≤ LINE) : ∃ x y, sPartition (.str t) [.str [35]] S = .ok (.tup [.str (bef t), .str x, .str y]) S := by
  show ∃ x y, (if t.length ≤ LINE then (match paC 35 [] t with
      | some (x, y) => (.ok (.tup [.str x, .str [35], .str y]) S : Res D)
      | none => .ok (.tup [.str t, .str [], .str []]) S) else .bad) = _
  rw [if_pos hl]
  unfold bef
  cases paC 35 [] t with
  | none => exact ⟨[], [], rfl⟩
  | some p => exact ⟨[35], p.2, rfl⟩
theorem paC_len (c : Nat) : ∀ (t acc x y : Tx), paC c acc t = some (x, y) → x.length ≤ acc.length + t.length
  | [], acc, x, y, h => by cases h
  | d :: r, acc, x, y, h => by
    rw [paC] at h
    split at h
    · injection h with h
      injection h with h1 h2
      rw [← h1]; omega
    · have := paC_len c r _ x y h
      rw [List.length_append, List.length_singleton] at this
      rw [List.length_cons]; omega
theorem bef_len (t : Tx) : (bef t).length ≤ t.length := by
  unfold bef
  cases h : paC 35 [] t with
  | none => exact Nat.le_refl _
  | some p =>
    have := paC_len 35 t [] p.1 p.2 h
    rw [List.length_nil] at this
    show p.1.length ≤ _
    omega
theorem spC_lens (c : Nat) : ∀ (t acc : Tx), (spC c acc t).length ≤ t.length + 1 ∧ ∀ w ∈ spC c acc t, w.length ≤ acc.length + t.length
  | [], acc => by simp [spC]
  | d :: r, acc => by
    rw [spC]
    split
    · obtain ⟨h1, h2⟩ := spC_lens c r []
      refine ⟨by rw [List.length_cons, List.length_cons]; omega, ?_⟩
      intro w hw
      rcases List.mem_cons.mp hw with rfl | hw
      · omega
      · have := h2 w hw
        rw [List.length_nil] at this
        rw [List.length_cons]; omega
    · obtain ⟨h1, h2⟩ := spC_lens c r (acc ++ [d])
      refine ⟨by rw [List.length_cons]; omega, ?_⟩
      intro w hw
      have := h2 w hw
      rw [List.length_append, List.length_singleton] at this
      rw [List.length_cons]; omega
theorem read_ok (t : Tx) (rows : List Row) (l : List Tx) (S : Store) (ht : rdT t = rows.map wrds) (hne : rows ≠ []) (hr : ∀ r ∈ rows, Rdb l r) (hl : ∀ t ∈ l, Nm t) (hlen : t.length ≤ 1000000) (hrl : rows.length ≤ 1000) : ∃ S', m_read [.str t] S = .ok (.ref S.length) S' ∧ Pre S S' ∧ S'[S.length]? = some (.lst (rows.map Row.d)) := by
  obtain ⟨S1, e1⟩ : ∃ S1 : Store, S1 = S ++ [.lst [], .lst ((spC 10 [] t).map .str)] := ⟨_, rfl⟩
  have p1 : Pre S S1 := by rw [e1]; exact Pre.app _ _
  have g1 : S1[S.length]? = some (.lst []) := by rw [e1]; exact app_new _ _ _
  have g2 : S1[S.length + 1]? = some (.lst ((spC 10 [] t).map .str)) := by rw [e1]; simp [get_app]
  have sp := split_ok 10 t (S ++ [.lst []]) (by decide) (Nat.le_trans (show t.length + 2 ≤ 1000002 by omega) (by decide))
  obtain ⟨ln, lw⟩ := spC_lens 10 t []
  obtain ⟨L, hL⟩ : ∃ L, L = spC 10 [] t := ⟨_, rfl⟩
  have hF : (L.map rdl).filter (fun w => decide (w ≠ [])) = rows.map wrds := by rw [hL]; exact ht
  rw [← hL] at g2 sp e1 ln lw
  have lS1 : S1.length = S.length + 2 := by rw [e1]; simp
  have key := loop_inv (hs := [(S.length + 1, L.map D.str)]) (turn := turnM (gTup 2 (gCons (gName 2) (gCons (gName 3) gNil))) l_read_3)
    (fun i fr S' => ∃ (a b c d : Option D) (k : Nat), fr = [some (.str t), some (.ref S.length), a, b, c, none, d] ∧ Pre S S' ∧ S'[S.length + 1]? = some (.lst (L.map .str)) ∧ S'[S.length]? = some (.lst ((rows.take k).map Row.d)) ∧ ((L.take i).map rdl).filter (fun w => decide (w ≠ [])) = (rows.take k).map wrds ∧ k ≤ rows.length)
    (prs 0 (L.map D.str)) 0 [some (.str t), some (.ref S.length), none, none, none, none, none] S1 ⟨none, none, none, none, 0, rfl, p1, g2, g1, rfl, Nat.zero_le _⟩
    (by
      rintro i fr S' ⟨a, b, c, d, k, rfl, pr, g, _⟩
      exact stands_one (lst_of g))
    (by
      rintro i x fr S' hx ⟨a, b, c, d, k, rfl, pr, gl, gf, hk, hkl⟩
      rw [prs_get, List.getElem?_map, Option.map_map] at hx
      obtain ⟨u, hu, rfl⟩ := Option.map_eq_some_iff.mp hx
      have hi : i < L.length := (List.getElem?_eq_some_iff.mp hu).1
      rw [show 0 + i = i by omega] at *
      have hul := lw u (List.mem_of_getElem? hu)
      rw [List.length_nil] at hul
      have ul : u.length ≤ LINE := Nat.le_trans (show u.length ≤ 1000000 by omega) (by decide)
      obtain ⟨y, z, pt⟩ := part_ok u S' ul
      have bl := bef_len u
      have sp2 := split_ok 32 (bef u) S' (by decide) (Nat.le_trans (show (bef u).length + 2 ≤ 1000002 by omega) (by decide))
      obtain ⟨S2, e2⟩ : ∃ S2 : Store, S2 = S' ++ [.lst ((spC 32 [] (bef u)).map .str)] := ⟨_, rfl⟩
      have p2 : Pre S' S2 := by rw [e2]; exact Pre.app _ _
      have g3 : S2[S'.length]? = some (.lst ((spC 32 [] (bef u)).map .str)) := by rw [e2]; exact app_new _ _ _
      rw [← e2] at sp2
      obtain ⟨bn, _⟩ := spC_lens 32 (bef u) []
      obtain ⟨S3, e3, p3, g4⟩ := lc_fil (vs := [5]) (g := gName 5) (t := c_read_1) (e := e_read_2) (fr := [some (.str t), some (.ref S.length), some (.int i), some (.str u), c, none, d]) (hs := [(S'.length, (spC 32 [] (bef u)).map D.str)]) (S := S2) (spC 32 [] (bef u)) D.str D.str (fun w => decide (w ≠ [])) rfl (stand_one (lst_of g3)) (Nat.le_trans (show _ ≤ 1000001 by omega) (by decide)) (by
        intro w hw S4 p4
        refine ⟨[some (.str t), some (.ref S.length), some (.int i), some (.str u), c, some (.str w), d], S4, by simp [unset], ?_, Pre.refl _, fun _ => ⟨S4, by simp [e_read_2], Pre.refl _⟩⟩
        simp [c_read_1])
      have g4' : S3[S2.length]? = some (.lst ((rdl u).map .str)) := g4
      have p13 := pr.trans (p2.trans p3)
      have wok : ∀ r, Rdb l r → ((wrds r).map (Sum.inr : Tx → Ky)).all kOk = true → True := fun _ _ _ => trivial
      have tk := tk_succ hu
      have split3 : (L.map rdl).filter (fun w => decide (w ≠ [])) = ((L.take i).map rdl).filter (fun w => decide (w ≠ [])) ++ ([rdl u].filter (fun w => decide (w ≠ [])) ++ ((L.drop (i + 1)).map rdl).filter (fun w => decide (w ≠ []))) := by
        rw [← List.filter_append, ← List.filter_append]
        congr 1
        have : L = L.take i ++ ([u] ++ L.drop (i + 1)) := by
          rw [← List.append_assoc, ← tk, List.take_append_drop]
        conv => lhs; rw [this]
        simp
      by_cases h0 : rdl u = []
      · refine ⟨[some (.str t), some (.ref S.length), some (.int i), some (.str u), some (.ref S2.length), none, d], S3 ++ [.lst []], .inl ?_, _, _, _, _, k, rfl, p13.trans (Pre.app _ _), app_get (p3.get (p2.get gl)), app_get (p3.get (p2.get gf)), ?_, hkl⟩
        · have ne : oNe (.ref S2.length) (.ref S3.length) (S3 ++ [.lst []]) = .ok (.bl false) (S3 ++ [.lst []]) := by
            have e1 : lstOf (S3 ++ [O.lst []]) S2.length = some (([] : List Ky).map kyD) := lst_of (app_get (by rw [h0] at g4'; exact g4'))
            have e2 : lstOf (S3 ++ [O.lst []]) S3.length = some (([] : List Ky).map kyD) := lst_of (app_new S3 (.lst []) [])
            rw [oNe_g, eq_lks e1 e2 rfl rfl]; rfl
          simp [turnM_s, l_read_3, pt, sp2, g3, e3, LINE]
          simp [ne]
        · rw [tk, List.map_append, List.filter_append, hk]
          simp [h0]
      · have hr2 : [rdl u].filter (fun w => decide (w ≠ [])) = [rdl u] := by simp [h0]
        rw [hF, hk, hr2] at split3
        have hk' : k < rows.length := by
          have := congrArg List.length split3
          simp only [List.length_map, List.length_append, List.length_singleton, List.length_take] at this
          omega
        have hrow : rows[k]? = some rows[k] := List.getElem?_eq_getElem hk'
        have hm : rows[k] ∈ rows := List.getElem_mem hk'
        have hw : wrds rows[k] = rdl u := by
          have h1 : (rows.map wrds)[k]? = some (wrds rows[k]) := by rw [List.getElem?_map, hrow]; rfl
          rw [split3, List.getElem?_append_right (by simp; omega)] at h1
          rw [show k - ((rows.take k).map wrds).length = 0 by simp; omega] at h1
          exact (Option.some.inj h1).symm
        generalize rows[k] = r at hrow hm hw
        rw [← hw] at g4' h0
        obtain ⟨S4, e4, p4⟩ := row_of_ok S2.length l r (S3 ++ [.lst []]) (app_get g4') (hr r hm) hl
        have gf4 := p4.get (app_get (G := [.lst []]) (p3.get (p2.get gf)))
        refine ⟨[some (.str t), some (.ref S.length), some (.int i), some (.str u), some (.ref S2.length), none, some r.d], S4.set S.length (.lst ((rows.take (k + 1)).map Row.d)), .inl ?_, _, _, _, _, k + 1, rfl, (p13.trans ((Pre.app _ _).trans p4)).set (Nat.le_refl _), by rw [set_ne (by omega)]; exact p4.get (app_get (p3.get (p2.get gl))), set_get gf4, ?_, hk'⟩
        · have ne : oNe (.ref S2.length) (.ref S3.length) (S3 ++ [.lst []]) = .ok (.bl true) (S3 ++ [.lst []]) := by
            have wk : (wrds r).map D.str = ((wrds r).map (Sum.inr : Tx → Ky)).map kyD := by rw [List.map_map]; rfl
            have wd := (hr r hm).wd hl
            have e1 : lstOf (S3 ++ [O.lst []]) S2.length = some (((wrds r).map (Sum.inr : Tx → Ky)).map kyD) := lst_of (app_get (by rw [← wk]; exact g4'))
            have e2 : lstOf (S3 ++ [O.lst []]) S3.length = some (([] : List Ky).map kyD) := lst_of (app_new S3 (.lst []) [])
            rw [oNe_g, eq_lks e1 e2 (wrds_ok (hr r hm) hl) rfl]
            have : (wrds r).map (Sum.inr : Tx → Ky) ≠ [] := by simpa using h0
            simp [this]
          have nn : isN r.d = false := by cases r <;> rfl
          have tkl : (rows.take k).length < 16777216 := by rw [List.length_take]; omega
          have tk2 : List.take (k + 1) (rows.map Row.d) = List.take k (rows.map Row.d) ++ [r.d] := tk_succ (by rw [List.getElem?_map, hrow]; rfl)
          simp [turnM_s, l_read_3, pt, sp2, g3, e3, LINE]
          simp at tkl gf4
          simp [ne, e4, nn, gf4, tkl, tk2, LINE]
        · rw [tk, List.map_append, List.filter_append, hk, tk_succ hrow, List.map_append]
          simp [← hw, wrds_ne])
  obtain ⟨fr', S2, e2, a, b, c, d, k, rfl, p2, gl, gf, hk, hkl⟩ := key
  rw [prs_len, List.length_map, Nat.zero_add, List.take_length, hF] at hk
  have kk : rows.take k = rows := by
    have := congrArg List.length hk
    simp only [List.length_map, List.length_take] at this
    exact List.take_of_length_le (by omega)
  rw [kk] at gf
  have gE : (S2 ++ [O.lst []])[S2.length]? = some (.lst ([] : List D)) := app_new _ _ _
  have eqv : oEq (.ref S.length) (.ref S2.length) (S2 ++ [.lst []]) = .ok (.bl false) (S2 ++ [.lst []]) := by
    have rk : rows.map Row.d = (rows.map Row.ks).map kt := by rw [List.map_map]; rfl
    have rok : (rows.map Row.ks).all (fun l => l.all kOk) = true := by
      rw [List.all_map, List.all_eq_true]
      intro r hr'
      exact RowN.k (hr r hr').nm hl
    rw [oEq_g, eq_lkts (B := []) (lst_of (by rw [← rk]; exact app_get gf)) (lst_of gE) rok rfl]
    have : rows.map Row.ks ≠ [] := by simpa using hne
    simp [this]
  refine ⟨S2 ++ [.lst []], ?_, p2.trans (Pre.app _ _), app_get gf⟩
  simp at sp
  have e1' : S ++ [.lst [], .lst (L.map .str)] = S1 := e1.symm
  simp [m_read, b_read, LINE, sp, e1', g2]
  rw [e2]
  simp [LINE, eqv]
end Lk15

set_option Elab.async false
set_option linter.all false
set_option maxHeartbeats 1000000
namespace Lk15
open Mi
/-! ### words that write no row -/
def nmC (t : Tx) : Bool := decide (1 ≤ t.length) && decide (t.length ≤ 8) && (match t with
  | c :: _ => decide (97 ≤ c) && decide (c ≤ 122)
  | [] => false) && t.all (fun c => decide (c ∈ SG)) && !(decide (t = w_sy) || decide (t = w_go) || decide (t = w_pt) || decide (t = w_en))
theorem nmC_iff (t : Tx) : nmC t = true ↔ Nm t := by
  cases t with
  | nil =>
    constructor
    · intro h; cases h
    · intro h; have := h.lo; simp at this
  | cons c r =>
    unfold nmC
    simp only [Bool.and_eq_true, decide_eq_true_eq, List.all_eq_true, Bool.not_eq_true', Bool.or_eq_false_iff, decide_eq_false_iff_not]
    constructor
    · rintro ⟨⟨⟨⟨h1, h2⟩, h3⟩, h4⟩, ⟨⟨h5, h6⟩, h7⟩, h8⟩
      exact ⟨h1, h2, ⟨c, rfl, h3⟩, h4, h5, h6, h7, h8⟩
    · intro h
      obtain ⟨d, hd, h3⟩ := h.fst
      obtain rfl := Option.some.inj hd
      obtain ⟨h5, h6, h7, h8⟩ := h.no
      exact ⟨⟨⟨⟨h.lo, h.hi⟩, h3⟩, h.all⟩, ⟨⟨h5, h6⟩, h7⟩, h8⟩
theorem is_name_C (t : Tx) (S : Store) (h : t.length ≤ 1000) : m_is_name [.str t] S = .ok (.bl (nmC t)) S := by
  rw [is_name_dec (.str t) S h]
  congr 2
  by_cases q : Nm t
  · rw [dec_true ⟨t, rfl, q⟩, (nmC_iff t).mpr q]
  · rw [dec_false fun ⟨u, e, z⟩ => q (by injection e with e; rw [e]; exact z)]
    cases hb : nmC t with
    | false => rfl
    | true => exact absurd ((nmC_iff t).mp hb) q
def numC (t : Tx) : Bool := t.all (fun c => decide (c ∈ FG)) && decide (t ≠ []) && !(decide (t[0]? = some 48) && decide (t ≠ [48]))
def numD (t : Tx) : D := if numC t = true then .int (digV t : Nat) else .non
theorem number_C (t : Tx) (S : Store) (hl : t.length ≤ 640) : m_number_of [.str t] S = .ok (numD t) S := by
  have key := loop_ret (hs := []) (turn := turnM (gName 1) l_number_of_1)
    (fun i fr S' => ∃ (x : Option D), fr = [some (.str t), x] ∧ S' = S ∧ ∀ c ∈ t.take i, c ∈ FG)
    (fun x S' => x = .non ∧ S' = S ∧ ¬ ∀ c ∈ t, c ∈ FG)
    (t.map fun c => .str [c]) 0 [some (.str t), none] S ⟨none, rfl, rfl, by simp⟩ (fun _ _ S _ => stands_nil S) (by
      rintro i d fr S' hd ⟨x, rfl, rfl, ha⟩
      rw [List.getElem?_map] at hd
      obtain ⟨c, hc, rfl⟩ := Option.map_eq_some_iff.mp hd
      rw [show 0 + i = i by omega] at *
      by_cases h3 : c ∈ FG
      · left
        have h4 : decide (c ∈ FG) = true := decide_eq_true h3
        refine ⟨[some (.str t), some (.str [c])], S', .inl ?_, _, rfl, rfl, ?_⟩
        · simp only [turnM_s, l_number_of_1, gName_s, tuK_s, sIf_s, tBl_s, mOp_s, mVar_s, mC_s, List.set_cons_succ, List.set_cons_zero, List.getElem?_cons_succ, List.getElem?_cons_zero, varK_s, opK1_s, opK2_s, oNotIn_g, isIn_s, eqK_s, blK_s, h4, Bool.not_true, ifK_f, sNx_s]
        · rw [tk_succ hc]
          intro e he
          rcases List.mem_append.mp he with z | z
          · exact ha e z
          · rw [List.mem_singleton.mp z]; exact h3
      · right
        have h4 : decide (c ∈ FG) = false := decide_eq_false h3
        refine ⟨.non, S', ?_, rfl, rfl, fun z => h3 (z c (List.mem_of_getElem? hc))⟩
        simp only [turnM_s, l_number_of_1, gName_s, tuK_s, sIf_s, tBl_s, mOp_s, mVar_s, mC_s, List.set_cons_succ, List.set_cons_zero, List.getElem?_cons_succ, List.getElem?_cons_zero, varK_s, opK1_s, opK2_s, oNotIn_g, isIn_s, eqK_s, blK_s, h4, Bool.not_false, ifK_t, sRet_s, reK_s])
  rcases key with ⟨fr', S', e, x, rfl, rfl, ha⟩ | ⟨x, S', e, rfl, rfl, hn⟩
  · rw [List.length_map, Nat.zero_add, List.take_length] at ha
    have all : (t.all fun c => decide (c ∈ FG)) = true := by
      rw [List.all_eq_true]
      exact fun c hc => decide_eq_true (ha c hc)
    cases t with
    | nil =>
      simp only [List.map_nil] at e
      simp [m_number_of, b_number_of, numD, numC]
      rw [e]
      simp
    | cons c r =>
      have l3 : (c :: r).length ≤ 16777216 := by omega
      have e0 : atI (c :: r) 0 = some c := at_of (k := 0) rfl
      have dg : (c :: r).all isDig = true := by
        rw [List.all_eq_true]
        intro d hd
        have : ∀ d ∈ FG, isDig d = true := by decide
        exact this d (ha d hd)
      have bi : bIntS [.str (c :: r)] S' = .ok (.int (digV (c :: r) : Nat)) S' := by
        show (if (c :: r).all isDig = true ∧ (c :: r) ≠ [] ∧ (c :: r).length ≤ 640 then _ else _) = _
        rw [if_pos ⟨dg, by simp, hl⟩]
      have hnum : numC (c :: r) = !(decide (c = 48) && decide (c :: r ≠ [48])) := by
        unfold numC
        rw [all]
        simp
      unfold numD
      rw [hnum]
      have hne : c :: r ≠ [] := by simp
      generalize hT : c :: r = T at *
      by_cases h48 : c = 48
      · by_cases h2 : T = [48]
        · have d1 := decide_eq_true h48
          simp [m_number_of, b_number_of]
          rw [e]
          rw [h2] at bi e0 ⊢
          simp [h48, LINE, e0, bi]
        · simp [m_number_of, b_number_of]
          rw [e]
          simp [hne, LINE, l3, e0, h48, h2]
      · simp [m_number_of, b_number_of]
        rw [e]
        simp [hne, LINE, l3, e0, h48, bi]
  · have all : (t.all fun c => decide (c ∈ FG)) = false := by
      cases h : (t.all fun c => decide (c ∈ FG)) with
      | false => rfl
      | true => exact absurd (fun c hc => of_decide_eq_true (List.all_eq_true.mp h c hc)) hn
    have hnum : numC t = false := by unfold numC; rw [all]; rfl
    unfold numD
    rw [hnum]
    simp [m_number_of, b_number_of]
    rw [e]
    simp
def opB (t : Tx) : Bool := nmC t || (numC t && decide (digV t < 18446744073709551616))
def opD (t : Tx) : D := if nmC t = true then .str t else if numC t = true ∧ digV t < 18446744073709551616 then .int (digV t : Nat) else .non
theorem operand_C (t : Tx) (S : Store) (hl : t.length ≤ 640) : m_operand_of [.str t] S = .ok (opD t) S := by
  have q1 := is_name_C t S (by omega)
  have q2 := number_C t S hl
  unfold opD
  cases hn : nmC t with
  | true => rw [hn] at q1; simp [m_operand_of, b_operand_of, q1]
  | false =>
    rw [hn] at q1
    unfold numD at q2
    by_cases h : numC t = true
    · rw [if_pos h] at q2
      by_cases h2 : digV t < 18446744073709551616
      · have h3 : ¬ (18446744073709551616 : Int) ≤ (digV t : Int) := by omega
        simp [m_operand_of, b_operand_of, q1, q2, h, h2, h3]
      · have h3 : (18446744073709551616 : Int) ≤ (digV t : Int) := by omega
        simp [m_operand_of, b_operand_of, q1, q2, h, h2, h3]
    · rw [if_neg h] at q2
      simp [m_operand_of, b_operand_of, q1, q2, h]
theorem opD_non {t : Tx} (h : opB t = false) : opD t = .non := by
  unfold opB at h
  rw [Bool.or_eq_false_iff] at h
  unfold opD
  rw [h.1, if_neg (by simp), if_neg]
  rintro ⟨a, b⟩
  have := h.2
  rw [a, decide_eq_true b] at this
  cases this
theorem opD_flat (t : Tx) : flatD (opD t) = true := by
  unfold opD
  split
  · rfl
  · split <;> rfl
theorem numD_non {t : Tx} (h : numC t = false) : numD t = .non := by
  unfold numD
  rw [h, if_neg (by simp)]
theorem numD_flat (t : Tx) : flatD (numD t) = true := by
  unfold numD
  split <;> rfl
theorem whole_non (ds : List D) (S : Store) (h : D.non ∈ ds) (hf : ds.all flatD = true) : m_whole_row [.tup ds] S = .ok .non S := by
  have q : inSeq .non ds S = some true := by
    rw [inSeq_f S rfl hf]
    congr 1
    rw [List.any_eq_true]
    exact ⟨_, h, rfl⟩
  have o : oIn .non (.tup ds) S = .ok (.bl true) S := by
    rw [oIn_g, isIn_t, q]; rfl
  simp [-oIn_g, m_whole_row, b_whole_row, o]
def SGN : List Tx := [[43], [45], [42], [38], [124], [94], [60], [61]]
def badW : List Tx → Bool
  | [a] => !decide (a = w_en)
  | [a, b] => if a = w_sy then !opB b else if a = w_go then !numC b else true
  | [a, b, c] => if a = w_pt then !opB b || !numC c else if nmC a = true ∧ b = [61] then !opB c else true
  | [_, _, _, _] => true
  | [a, b, c, d, e] => if nmC a = true ∧ b = [61] ∧ d ∈ SGN then !opB c || !opB e else true
  | [_, _, _, _, _, _] => true
  | _ => false
theorem sgn_in (d : Tx) (S : Store) : oNotIn (.str d) (.wtp w_SIGNS) S = .ok (.bl (!decide (d ∈ SGN))) S := by
  have q := in_ks (.inr d) [.inr [43], .inr [45], .inr [42], .inr [38], .inr [124], .inr [94], .inr [60], .inr [61]] S
  have e : dec ((Sum.inr d : Ky) ∈ [Sum.inr [43], .inr [45], .inr [42], .inr [38], .inr [124], .inr [94], .inr [60], .inr [61]]) = decide (d ∈ SGN) := by
    by_cases h : d ∈ SGN
    · rw [decide_eq_true h, dec_true]
      simpa [SGN] using h
    · rw [decide_eq_false h, dec_false]
      simpa [SGN] using h
  rw [e] at q
  have q' : inSeq (.str d) w_SIGNS S = some (decide (d ∈ SGN)) := q
  rw [oNotIn_g, isIn_w, q']; rfl
theorem nm_no {a : Tx} (h : nmC a = true) : a ≠ w_sy ∧ a ≠ w_go ∧ a ≠ w_pt ∧ a ≠ w_en := ((nmC_iff a).mp h).no
end Lk15

set_option Elab.async false
set_option linter.all false
set_option maxHeartbeats 1000000
namespace Lk15
open Mi
theorem given_non (W : Nat) (ws : List Tx) (S : Store) (hW : S[W]? = some (.lst (ws.map .str))) (hl : ∀ w ∈ ws, w.length ≤ 640) (h : (ws.length ≠ 3 ∧ ws.length ≠ 5) ∨ (∃ a b c, ws = [a, b, c] ∧ opB c = false) ∨ (∃ a b c d e, ws = [a, b, c, d, e] ∧ (d ∉ SGN ∨ opB c = false ∨ opB e = false))) : m_given_row [.ref W] S = .ok .non S := by
  rcases h with ⟨h3, h5⟩ | ⟨a, b, c, rfl, hc⟩ | ⟨a, b, c, d, e, rfl, hd⟩
  · have h3' : ¬ ((ws.length : Int) = 3) := by omega
    have h5' : ¬ ((ws.length : Int) = 5) := by omega
    simp [m_given_row, b_given_row, hW, h3, h5, h3', h5']
  · have q := operand_C c S (hl c (by simp))
    rw [opD_non hc] at q
    have w := whole_non [.str w_cp, .str a, .non] S (by simp) rfl
    simp at hW
    simp [m_given_row, b_given_row, hW, LINE, q, w]
  · have qs := sgn_in d S
    have q1 := operand_C c S (hl c (by simp))
    have q2 := operand_C e S (hl e (by simp))
    have f1 := opD_flat c
    have f2 := opD_flat e
    simp at hW
    by_cases hs : d ∈ SGN
    · have hm : D.non ∈ [D.str w_rk, .str a, .str d, opD c, opD e] := by
        rcases hd with z | z | z
        · exact absurd hs z
        · rw [opD_non z]; simp
        · rw [opD_non z]; simp
      have w := whole_non [.str w_rk, .str a, .str d, opD c, opD e] S hm (by simp only [List.all_cons, List.all_nil, f1, f2]; rfl)
      rw [decide_eq_true hs] at qs
      simp [-oNotIn_g, m_given_row, b_given_row, hW, LINE, q1, q2, qs, w]
    · rw [decide_eq_false hs] at qs
      simp [-oNotIn_g, m_given_row, b_given_row, hW, LINE, qs]
theorem bad_row (W : Nat) (ws : List Tx) (S : Store) (hW : S[W]? = some (.lst (ws.map .str))) (hb : badW ws = true) (hl : ∀ w ∈ ws, w.length ≤ 640) (hk : (ws.map (Sum.inr : Tx → Ky)).all kOk = true) : ∃ S', m_row_of [.ref W] S = .ok .non S' ∧ Pre S S' := by
  refine ⟨S ++ [.lst [.str w_en]], ?_, Pre.app _ _⟩
  have wk : ws.map D.str = (ws.map (Sum.inr : Tx → Ky)).map kyD := by rw [List.map_map]; rfl
  have gN : (S ++ [O.lst [.str w_en]])[S.length]? = some (.lst ([(Sum.inr w_en : Ky)].map kyD)) := app_new _ _ _
  have eq : oEq (.ref W) (.ref S.length) (S ++ [.lst [.str w_en]]) = .ok (.bl (decide (ws.map (Sum.inr : Tx → Ky) = [.inr w_en]))) (S ++ [.lst [.str w_en]]) := by
    rw [oEq_g, eq_lks (lst_of (app_get (by rw [← wk]; exact hW))) (lst_of gN) hk rfl]; rfl
  have gW := app_get (G := [.lst [.str w_en]]) hW
  generalize hT : S ++ [.lst [.str w_en]] = T at *
  have gv := given_non W ws T gW hl
  have kN : ∀ (n : Int) (b : Bool), tandK (tBl (mOp oEq (mCall bLen (aCons (mVar 0) aNil)) (mC (.int n)))) [some (.ref W)] (.ok b T) = .ok (b && decide ((ws.length : Int) = n)) T := fun n b => by
    cases b <;> simp [gW]
  match ws with
  | [] => cases hb
  | [a] =>
    have h0 : ¬ a = w_en := by
      intro z
      rw [z] at hb
      cases hb
    have q1 := is_name_C a T (by have := hl a (by simp); omega)
    simp [h0] at eq gW
    cases hn : nmC a with
    | true => rw [hn] at q1; simp [m_row_of, b_row_of, LINE, kN, hT, eq, gW, q1]
    | false => rw [hn] at q1; simp [m_row_of, b_row_of, LINE, kN, hT, eq, gW, q1]
  | [a, b] =>
    have q1 := is_name_C a T (by have := hl a (by simp); omega)
    have q2 := operand_C b T (hl b (by simp))
    have q3 := number_C b T (hl b (by simp))
    have gv := gv (.inl ⟨by simp, by simp⟩)
    simp at eq gW
    by_cases h1 : a = w_sy
    · rw [badW, if_pos h1, Bool.not_eq_true'] at hb
      rw [opD_non hb] at q2
      have w := whole_non [.str w_sy, .non] T (by simp) rfl
      simp [m_row_of, b_row_of, LINE, kN, hT, eq, gW, h1, q2, w]
    · by_cases h2 : a = w_go
      · rw [badW, if_neg h1, if_pos h2, Bool.not_eq_true'] at hb
        rw [numD_non hb] at q3
        have w := whole_non [.str w_go, .non] T (by simp) rfl
        simp [m_row_of, b_row_of, LINE, kN, hT, eq, gW, h2, q3, w]
      · cases hn : nmC a with
        | false => rw [hn] at q1; simp [m_row_of, b_row_of, LINE, kN, hT, eq, gW, h1, h2, q1]
        | true =>
          rw [hn] at q1
          by_cases hb2 : b = [61]
          · simp [m_row_of, b_row_of, LINE, kN, hT, eq, gW, h1, h2, q1, hb2, gv]
          · simp [m_row_of, b_row_of, LINE, kN, hT, eq, gW, h1, h2, q1, hb2]
  | [a, b, c] =>
    have q1 := is_name_C a T (by have := hl a (by simp); omega)
    have q2 := operand_C b T (hl b (by simp))
    have q3 := number_C c T (hl c (by simp))
    have f2 := opD_flat b
    have f3 := numD_flat c
    simp at eq gW
    by_cases h1 : a = w_pt
    · rw [badW, if_pos h1, Bool.or_eq_true, Bool.not_eq_true', Bool.not_eq_true'] at hb
      have hm : D.non ∈ [D.str w_pt, opD b, numD c] := by
        rcases hb with z | z
        · rw [opD_non z]; simp
        · rw [numD_non z]; simp
      have w := whole_non [.str w_pt, opD b, numD c] T hm (by simp only [List.all_cons, List.all_nil, f2, f3]; rfl)
      simp [m_row_of, b_row_of, LINE, kN, hT, eq, gW, h1, q2, q3, w]
    · cases hn : nmC a with
      | false => rw [hn] at q1; simp [m_row_of, b_row_of, LINE, kN, hT, eq, gW, h1, q1]
      | true =>
        rw [hn] at q1
        by_cases hb2 : b = [61]
        · rw [badW, if_neg h1, if_pos ⟨hn, hb2⟩, Bool.not_eq_true'] at hb
          have gv := gv (.inr (.inl ⟨a, b, c, rfl, hb⟩))
          simp [m_row_of, b_row_of, LINE, kN, hT, eq, gW, h1, q1, hb2, gv]
        · simp [m_row_of, b_row_of, LINE, kN, hT, eq, gW, h1, q1, hb2]
  | [a, b, c, d] =>
    have q1 := is_name_C a T (by have := hl a (by simp); omega)
    have gv := gv (.inl ⟨by simp, by simp⟩)
    simp at eq gW
    cases hn : nmC a with
    | false => rw [hn] at q1; simp [m_row_of, b_row_of, LINE, kN, hT, eq, gW, q1]
    | true =>
      rw [hn] at q1
      by_cases hb2 : b = [61]
      · simp [m_row_of, b_row_of, LINE, kN, hT, eq, gW, q1, hb2, gv]
      · simp [m_row_of, b_row_of, LINE, kN, hT, eq, gW, q1, hb2]
  | [a, b, c, d, e] =>
    have q1 := is_name_C a T (by have := hl a (by simp); omega)
    simp at eq gW
    cases hn : nmC a with
    | false => rw [hn] at q1; simp [m_row_of, b_row_of, LINE, kN, hT, eq, gW, q1]
    | true =>
      rw [hn] at q1
      by_cases hb2 : b = [61]
      · have gv := gv (.inr (.inr ⟨a, b, c, d, e, rfl, by
          by_cases hs : d ∈ SGN
          · rw [badW, if_pos ⟨hn, hb2, hs⟩, Bool.or_eq_true, Bool.not_eq_true', Bool.not_eq_true'] at hb
            exact .inr hb
          · exact .inl hs⟩))
        simp [m_row_of, b_row_of, LINE, kN, hT, eq, gW, q1, hb2, gv]
      · simp [m_row_of, b_row_of, LINE, kN, hT, eq, gW, q1, hb2]
  | [a, b, c, d, e, f] =>
    have q1 := is_name_C a T (by have := hl a (by simp); omega)
    have gv := gv (.inl ⟨by simp, by simp⟩)
    simp at eq gW
    cases hn : nmC a with
    | false => rw [hn] at q1; simp [m_row_of, b_row_of, LINE, kN, hT, eq, gW, q1]
    | true =>
      rw [hn] at q1
      by_cases hb2 : b = [61]
      · simp [m_row_of, b_row_of, LINE, kN, hT, eq, gW, q1, hb2, gv]
      · simp [m_row_of, b_row_of, LINE, kN, hT, eq, gW, q1, hb2]
  | _ :: _ :: _ :: _ :: _ :: _ :: _ :: _ => cases hb
end Lk15

set_option Elab.async false
set_option linter.all false
set_option maxHeartbeats 1000000
namespace Lk15
open Mi
/-! ### a text refused -/
structure WOk (ws : List Tx) : Prop where
  l : ∀ w ∈ ws, w.length ≤ 640
  k : (ws.map (Sum.inr : Tx → Ky)).all kOk = true
/-- one line's turn, up to its words -/
theorem line_head (t u : Tx) (i : Nat) (F Q : Nat) (L : List D) (S : Store) (a b c d : Option D) (hul : u.length ≤ 1000000) (hok : WOk (rdl u)) :
    ∃ (W : Nat) (S3 : Store), turnM (gTup 2 (gCons (gName 2) (gCons (gName 3) gNil))) l_read_3 (.tup [.int (i : Int), .str u]) [some (.str t), some (.ref F), a, b, c, none, d] S = sIf (tBl (mOp oNe (mVar 4) (mLst (aNil)))) (sSeq (sAsg (mCall m_row_of (aCons (mVar 4) aNil)) (gName 6)) (sSeq (sIf (tBl (mOp oIs (mVar 6) (mC .non))) (sRaise "NoText" [t_line] (aCons (mVar 2) aNil)) (sNx)) (sExp (mMt isLst lAppend (mVar 1) (aCons (mVar 6) aNil))))) (sNx) [some (.str t), some (.ref F), some (.int i), some (.str u), some (.ref W), none, d] S3 ∧ Pre S S3 ∧ S3[W]? = some (.lst ((rdl u).map .str)) ∧ oNe (.ref W) (.ref S3.length) (S3 ++ [.lst []]) = .ok (.bl (!decide (rdl u = []))) (S3 ++ [.lst []]) := by
  have ul : u.length ≤ LINE := Nat.le_trans hul (by decide)
  obtain ⟨y, z, pt⟩ := part_ok u S ul
  have bl := bef_len u
  have sp2 := split_ok 32 (bef u) S (by decide) (Nat.le_trans (show (bef u).length + 2 ≤ 1000002 by omega) (by decide))
  obtain ⟨S2, e2⟩ : ∃ S2 : Store, S2 = S ++ [.lst ((spC 32 [] (bef u)).map .str)] := ⟨_, rfl⟩
  have p2 : Pre S S2 := by rw [e2]; exact Pre.app _ _
  have g3 : S2[S.length]? = some (.lst ((spC 32 [] (bef u)).map .str)) := by rw [e2]; exact app_new _ _ _
  rw [← e2] at sp2
  obtain ⟨bn, _⟩ := spC_lens 32 (bef u) []
  obtain ⟨S3, e3, p3, g4⟩ := lc_fil (vs := [5]) (g := gName 5) (t := c_read_1) (e := e_read_2) (fr := [some (.str t), some (.ref F), some (.int i), some (.str u), c, none, d]) (hs := [(S.length, (spC 32 [] (bef u)).map D.str)]) (S := S2) (spC 32 [] (bef u)) D.str D.str (fun w => decide (w ≠ [])) rfl (stand_one (lst_of g3)) (Nat.le_trans (show _ ≤ 1000001 by omega) (by decide)) (by
    intro w hw S4 p4
    refine ⟨[some (.str t), some (.ref F), some (.int i), some (.str u), c, some (.str w), d], S4, by simp [unset], ?_, Pre.refl _, fun _ => ⟨S4, by simp [e_read_2], Pre.refl _⟩⟩
    simp [c_read_1])
  have g4' : S3[S2.length]? = some (.lst ((rdl u).map .str)) := g4
  refine ⟨S2.length, S3, ?_, p2.trans p3, g4', ?_⟩
  · simp [turnM_s, l_read_3, pt, sp2, g3, e3, LINE]
  · have wk : (rdl u).map D.str = ((rdl u).map (Sum.inr : Tx → Ky)).map kyD := by rw [List.map_map]; rfl
    have e1 : lstOf (S3 ++ [O.lst []]) S2.length = some (((rdl u).map (Sum.inr : Tx → Ky)).map kyD) := lst_of (app_get (by rw [← wk]; exact g4'))
    have e2 : lstOf (S3 ++ [O.lst []]) S3.length = some (([] : List Ky).map kyD) := lst_of (app_new S3 (.lst []) [])
    rw [oNe_g, eq_lks e1 e2 hok.k rfl]
    by_cases h : rdl u = []
    · rw [h]; rfl
    · have : (rdl u).map (Sum.inr : Tx → Ky) ≠ [] := by simpa using h
      simp [this, h]
theorem good_WOk {l : List Tx} {r : Row} (h : Rdb l r) (hl : ∀ t ∈ l, Nm t) : WOk (wrds r) := ⟨fun w hw => by have := (h.wd hl w hw).l; omega, wrds_ok h hl⟩
theorem nil_WOk : WOk [] := ⟨(fun w h => by cases h), rfl⟩
/-- lines that are read -/
def LnG (l : List Tx) (u : Tx) : Prop := rdl u = [] ∨ ∃ r, Rdb l r ∧ rdl u = wrds r
theorem line_good (t u : Tx) (i : Nat) (F : Nat) (L xs : List D) (l : List Tx) (S : Store) (a b c d : Option D) (hul : u.length ≤ 1000000) (hg : LnG l u) (hl : ∀ t ∈ l, Nm t) (hF : S[F]? = some (.lst xs)) (hx : xs.length < 16777216) :
    ∃ (c' d' : Option D) (ys : List D) (S' : Store), turnM (gTup 2 (gCons (gName 2) (gCons (gName 3) gNil))) l_read_3 (.tup [.int (i : Int), .str u]) [some (.str t), some (.ref F), a, b, c, none, d] S = .ok (.nx [some (.str t), some (.ref F), some (.int i), some (.str u), c', none, d']) S' ∧ S'[F]? = some (.lst ys) ∧ ys.length ≤ xs.length + 1 ∧ (rdl u = [] → ys = xs) ∧ ∃ S3, Pre S S3 ∧ (S' = S3 ∨ S' = S3.set F (.lst ys)) := by
  have hok : WOk (rdl u) := by
    rcases hg with h | ⟨r, h, e⟩
    · rw [h]; exact nil_WOk
    · rw [e]; exact good_WOk h hl
  obtain ⟨W, S3, e, p, gW, ne⟩ := line_head t u i F 0 L S a b c d hul hok
  rw [e]
  rcases hg with h | ⟨r, h, er⟩
  · rw [h, decide_eq_true rfl] at ne
    exact ⟨some (.ref W), d, xs, S3 ++ [.lst []], by simp [ne, LINE], app_get (p.get hF), by omega, fun _ => rfl, S3 ++ [.lst []], p.trans (Pre.app _ _), .inl rfl⟩
  · have hne : rdl u ≠ [] := by rw [er]; exact wrds_ne r
    rw [decide_eq_false hne] at ne
    obtain ⟨S4, e4, p4⟩ := row_of_ok W l r (S3 ++ [.lst []]) (app_get (by rw [← er]; exact gW)) h hl
    have nn : isN r.d = false := by cases r <;> rfl
    have gF := p4.get (app_get (G := [.lst []]) (p.get hF))
    exact ⟨some (.ref W), some r.d, xs ++ [r.d], S4.set F (.lst (xs ++ [r.d])), by simp [ne, LINE, e4, nn, gF, hx], set_get gF, by simp, fun z => absurd z hne, S4, (p.trans (Pre.app _ _)).trans p4, .inr rfl⟩
theorem line_bad (t u : Tx) (i : Nat) (F : Nat) (L : List D) (S : Store) (a b c d : Option D) (hul : u.length ≤ 1000000) (hok : WOk (rdl u)) (hb : badW (rdl u) = true) :
    ∃ S', turnM (gTup 2 (gCons (gName 2) (gCons (gName 3) gNil))) l_read_3 (.tup [.int (i : Int), .str u]) [some (.str t), some (.ref F), a, b, c, none, d] S = .exc ⟨"NoText", [(t_line, .int (i : Int))]⟩ S' ∧ Pre S S' := by
  obtain ⟨W, S3, e, p, gW, ne⟩ := line_head t u i F 0 L S a b c d hul hok
  rw [e]
  have hne : rdl u ≠ [] := fun z => by rw [z] at hb; cases hb
  rw [decide_eq_false hne] at ne
  obtain ⟨S4, e4, p4⟩ := bad_row W (rdl u) (S3 ++ [.lst []]) (app_get gW) hb hok.l hok.k
  exact ⟨S4, by simp [ne, LINE, e4], (p.trans (Pre.app _ _)).trans p4⟩
theorem read_bad (t : Tx) (l : List Tx) (S : Store) (n : Nat) (u : Tx) (hu : (spC 10 [] t)[n]? = some u) (hok : WOk (rdl u)) (hb : badW (rdl u) = true) (hg : ∀ j v, j < n → (spC 10 [] t)[j]? = some v → LnG l v) (hl : ∀ t ∈ l, Nm t) (hlen : t.length ≤ 1000000) : ∃ S', m_read [.str t] S = .exc ⟨"NoText", [(t_line, .int (n : Int))]⟩ S' ∧ Pre S S' := by
  obtain ⟨S1, e1⟩ : ∃ S1 : Store, S1 = S ++ [.lst [], .lst ((spC 10 [] t).map .str)] := ⟨_, rfl⟩
  have p1 : Pre S S1 := by rw [e1]; exact Pre.app _ _
  have g1 : S1[S.length]? = some (.lst []) := by rw [e1]; exact app_new _ _ _
  have g2 : S1[S.length + 1]? = some (.lst ((spC 10 [] t).map .str)) := by rw [e1]; simp [get_app]
  have sp := split_ok 10 t (S ++ [.lst []]) (by decide) (Nat.le_trans (show t.length + 2 ≤ 1000002 by omega) (by decide))
  obtain ⟨ln, lw⟩ := spC_lens 10 t []
  obtain ⟨L, hL⟩ : ∃ L, L = spC 10 [] t := ⟨_, rfl⟩
  rw [← hL] at g2 sp e1 ln lw hu hg
  have key := loop_exc (hs := [(S.length + 1, L.map D.str)]) (turn := turnM (gTup 2 (gCons (gName 2) (gCons (gName 3) gNil))) l_read_3)
    (fun i fr S' => ∃ (a b c d : Option D) (xs : List D), fr = [some (.str t), some (.ref S.length), a, b, c, none, d] ∧ Pre S S' ∧ S'[S.length + 1]? = some (.lst (L.map .str)) ∧ S'[S.length]? = some (.lst xs) ∧ xs.length ≤ i ∧ i ≤ n)
    (fun i x S' => x = ⟨"NoText", [(t_line, .int (n : Int))]⟩ ∧ Pre S S')
    (prs 0 (L.map D.str)) 0 [some (.str t), some (.ref S.length), none, none, none, none, none] S1 ⟨none, none, none, none, [], rfl, p1, g2, g1, Nat.le_refl _, Nat.zero_le _⟩
    (by
      rintro i fr S' ⟨a, b, c, d, xs, rfl, pr, g, _⟩
      exact stands_one (lst_of g))
    (by
      rintro i x fr S' hx ⟨a, b, c, d, xs, rfl, pr, gl, gf, hxs, hin⟩
      rw [prs_get, List.getElem?_map, Option.map_map] at hx
      obtain ⟨v, hv, rfl⟩ := Option.map_eq_some_iff.mp hx
      have hi : i < L.length := (List.getElem?_eq_some_iff.mp hv).1
      rw [show 0 + i = i by omega] at *
      have hvl := lw v (List.mem_of_getElem? hv)
      rw [List.length_nil] at hvl
      by_cases e : i = n
      · subst e
        rw [hu] at hv
        obtain rfl := Option.some.inj hv
        obtain ⟨S2, e2, p2⟩ := line_bad t u i S.length [] S' a b c d (by omega) hok hb
        exact .inr ⟨_, S2, by simpa using e2, rfl, pr.trans p2⟩
      · obtain ⟨c', d', ys, S2, e2, gy, yl, _, S3, p3, hS⟩ := line_good t v i S.length [] xs l S' a b c d (by omega) (hg i v (by omega) hv) hl gf (by omega)
        refine .inl ⟨_, S2, .inl (by simpa using e2), _, _, _, _, ys, rfl, ?_, ?_, gy, by omega, by omega⟩
        · rcases hS with rfl | rfl
          · exact pr.trans p3
          · exact (pr.trans p3).set (Nat.le_refl _)
        · rcases hS with rfl | rfl
          · exact p3.get gl
          · rw [set_ne (by omega)]; exact p3.get gl)
  rcases key with ⟨fr', S', _, a, b, c, d, xs, _, _, _, _, _, h⟩ | ⟨i, x, S', hi, e, rfl, pr⟩
  · rw [prs_len, List.length_map] at h
    have := (List.getElem?_eq_some_iff.mp hu).1
    omega
  · refine ⟨S', ?_, pr⟩
    simp at sp
    have e1' : S ++ [.lst [], .lst (L.map .str)] = S1 := e1.symm
    simp [m_read, b_read, LINE, sp, e1', g2]
    rw [e]
    simp
theorem read_empty (t : Tx) (l : List Tx) (S : Store) (hg : ∀ v ∈ spC 10 [] t, rdl v = []) (hl : ∀ t ∈ l, Nm t) (hlen : t.length ≤ 1000000) : ∃ S', m_read [.str t] S = .exc ⟨"NoText", [(t_line, .int 0)]⟩ S' ∧ Pre S S' := by
  obtain ⟨S1, e1⟩ : ∃ S1 : Store, S1 = S ++ [.lst [], .lst ((spC 10 [] t).map .str)] := ⟨_, rfl⟩
  have p1 : Pre S S1 := by rw [e1]; exact Pre.app _ _
  have g1 : S1[S.length]? = some (.lst []) := by rw [e1]; exact app_new _ _ _
  have g2 : S1[S.length + 1]? = some (.lst ((spC 10 [] t).map .str)) := by rw [e1]; simp [get_app]
  have sp := split_ok 10 t (S ++ [.lst []]) (by decide) (Nat.le_trans (show t.length + 2 ≤ 1000002 by omega) (by decide))
  obtain ⟨ln, lw⟩ := spC_lens 10 t []
  obtain ⟨L, hL⟩ : ∃ L, L = spC 10 [] t := ⟨_, rfl⟩
  rw [← hL] at g2 sp e1 ln lw hg
  have key := loop_inv (hs := [(S.length + 1, L.map D.str)]) (turn := turnM (gTup 2 (gCons (gName 2) (gCons (gName 3) gNil))) l_read_3)
    (fun i fr S' => ∃ (a b c d : Option D), fr = [some (.str t), some (.ref S.length), a, b, c, none, d] ∧ Pre S S' ∧ S'[S.length + 1]? = some (.lst (L.map .str)) ∧ S'[S.length]? = some (.lst []))
    (prs 0 (L.map D.str)) 0 [some (.str t), some (.ref S.length), none, none, none, none, none] S1 ⟨none, none, none, none, rfl, p1, g2, g1⟩
    (by
      rintro i fr S' ⟨a, b, c, d, rfl, pr, g, _⟩
      exact stands_one (lst_of g))
    (by
      rintro i x fr S' hx ⟨a, b, c, d, rfl, pr, gl, gf⟩
      rw [prs_get, List.getElem?_map, Option.map_map] at hx
      obtain ⟨v, hv, rfl⟩ := Option.map_eq_some_iff.mp hx
      have hvm := List.mem_of_getElem? hv
      have hvl := lw v hvm
      rw [List.length_nil] at hvl
      have h0 := hg v hvm
      obtain ⟨W, S3, e, p, gW, ne⟩ := line_head t v i S.length 0 [] S' a b c d (by omega) (by rw [h0]; exact nil_WOk)
      rw [h0, decide_eq_true rfl] at ne
      refine ⟨[some (.str t), some (.ref S.length), some (.int i), some (.str v), some (.ref W), none, d], S3 ++ [.lst []], .inl ?_, _, _, _, _, rfl, pr.trans (p.trans (Pre.app _ _)), app_get (p.get gl), app_get (p.get gf)⟩
      rw [show 0 + i = i by omega]
      show turnM _ _ (.tup [.int (i : Int), .str v]) _ _ = _
      rw [e]
      simp [ne, LINE])
  obtain ⟨fr', S2, e, a, b, c, d, rfl, pr, gl, gf⟩ := key
  have gE : (S2 ++ [O.lst []])[S2.length]? = some (.lst ([] : List D)) := app_new _ _ _
  have eqv : oEq (.ref S.length) (.ref S2.length) (S2 ++ [.lst []]) = .ok (.bl true) (S2 ++ [.lst []]) := by
    rw [oEq_g, eq_lks (A := []) (B := []) (lst_of (app_get gf)) (lst_of gE) rfl rfl]; rfl
  refine ⟨S2 ++ [.lst []], ?_, pr.trans (Pre.app _ _)⟩
  simp at sp
  have e1' : S ++ [.lst [], .lst (L.map .str)] = S1 := e1.symm
  simp [m_read, b_read, LINE, sp, e1', g2]
  rw [e]
  simp [LINE, eqv]
end Lk15

set_option Elab.async false
set_option linter.all false
set_option maxHeartbeats 1000000
namespace Lk15
open Mi
/-! ### shown -/
def Kp : Ky → Prop
  | .inl i => 0 ≤ i ∧ i < 10 ^ 25
  | .inr t => t.length ≤ 1000
theorem log_lt {i : Int} (h : 0 ≤ i ∧ i < 10 ^ 25) : i.natAbs.log2 < 1920 := by
  by_cases h0 : i.natAbs = 0
  · rw [h0]; decide
  · have : i.natAbs < 10 ^ 25 := by omega
    have : i.natAbs < 2 ^ 84 := Nat.lt_of_lt_of_le this (by decide)
    have := (Nat.log2_lt h0).mpr this
    omega
theorem bStr_ok {k : Ky} (h : Kp k) (S : Store) : bStr [kyD k] S = .ok (.str (stK' k)) S := by
  cases k with
  | inl i =>
    show (if 0 ≤ i ∧ i.natAbs.log2 < 1920 then (.ok (.str (numT i.toNat)) S : Res D) else .bad) = _
    rw [if_pos ⟨h.1, log_lt h⟩]; rfl
  | inr t => rfl
theorem fmt_ok {k : Ky} (h : Kp k) (S : Store) : fmtD (kyD k) S = .ok (.str (stK' k)) S := by
  cases k with
  | inl i =>
    show (if 0 ≤ i ∧ i.natAbs.log2 < 1920 then (.ok (.str (numT i.toNat)) S : Res D) else .bad) = _
    rw [if_pos ⟨h.1, log_lt h⟩]; rfl
  | inr t =>
    show (if t.length ≤ LINE then (.ok (.str t) S : Res D) else .bad) = _
    rw [if_pos (Nat.le_trans h (by decide))]; rfl
theorem Opd.kp {l : List Tx} {k : Ky} (h : Opd l k) (hl : ∀ t ∈ l, Nm t) : Kp k := by
  rcases h with ⟨t, ht, rfl⟩ | ⟨w, rfl, h0, h1⟩
  · have := (hl t ht).hi
    show t.length ≤ 1000
    omega
  · exact ⟨h0, by omega⟩
theorem Rdb.kp {l : List Tx} {r : Row} (h : Rdb l r) (hl : ∀ t ∈ l, Nm t) : ∀ k ∈ r.ks, Kp k := by
  have nn := h.nm
  have kw : ∀ w ∈ [w_rk, w_cp, w_sy, w_go, w_pt, w_en], Kp (.inr w) := by
    intro w hw
    show w.length ≤ 1000
    simp only [List.mem_cons, List.not_mem_nil, or_false] at hw
    rcases hw with rfl | rfl | rfl | rfl | rfl | rfl <;> decide
  have kn : ∀ t ∈ l, Kp (.inr t) := fun t ht => by
    have := (hl t ht).hi
    show t.length ≤ 1000
    omega
  intro k hk
  cases r with
  | rk n s a b =>
    obtain ⟨h1, h2⟩ := nn
    obtain ⟨c, hc, e⟩ := h2.s1
    have e : s = [c] := by injection e
    subst e
    simp only [Row.ks, List.mem_cons, List.not_mem_nil, or_false] at hk
    rcases hk with rfl | rfl | rfl | rfl | rfl
    · exact kw _ (by simp)
    · exact kn _ h1
    · show [c].length ≤ 1000; simp
    · exact Opd.kp h2.a1 hl
    · exact Opd.kp h2.b1 hl
  | cp n a =>
    simp only [Row.ks, List.mem_cons, List.not_mem_nil, or_false] at hk
    rcases hk with rfl | rfl | rfl
    · exact kw _ (by simp)
    · exact kn _ nn.1
    · exact Opd.kp nn.2 hl
  | sy a =>
    simp only [Row.ks, List.mem_cons, List.not_mem_nil, or_false] at hk
    rcases hk with rfl | rfl
    · exact kw _ (by simp)
    · exact Opd.kp nn hl
  | go t =>
    simp only [Row.ks, List.mem_cons, List.not_mem_nil, or_false] at hk
    rcases hk with rfl | rfl
    · exact kw _ (by simp)
    · exact h.go t rfl
  | pt a t =>
    simp only [Row.ks, List.mem_cons, List.not_mem_nil, or_false] at hk
    rcases hk with rfl | rfl | rfl
    · exact kw _ (by simp)
    · exact Opd.kp nn hl
    · exact h.pt a t rfl
  | en =>
    simp only [Row.ks, List.mem_cons, List.not_mem_nil, or_false] at hk
    rw [hk]; exact kw _ (by simp)
theorem joinT_len : ∀ (ws : List Tx), (∀ w ∈ ws, w.length ≤ 30) → (joinT [32] ws).length ≤ 31 * ws.length
  | [], _ => by simp [joinT]
  | [w], h => by rw [joinT]; have := h w (by simp); simp; omega
  | w :: v :: r, h => by
    have h1 := h w (by simp)
    have h2 := joinT_len (v :: r) fun x hx => h x (List.mem_cons_of_mem _ hx)
    rw [joinT]
    simp only [List.length_append, List.length_cons, List.length_nil] at h2 ⊢
    omega
theorem wrds_len (r : Row) : (wrds r).length ≤ 5 := by cases r <;> simp [wrds]
/-- ' '.join of texts -/
theorem joins {S : Store} {p : Nat} {ws : List Tx} {a : Tx} (g : S[p]? = some (.lst (ws.map .str))) (h : (ws.map List.length).sum + ws.length * a.length ≤ LINE) : sJoin (.str a) [.ref p] S = .ok (.str (joinT a ws)) S := by
  rw [sJoin_s, seqOf_r, lstOf_s, g]
  simp only [Option.bind_some, txs_map, joK_s, if_pos h]
theorem sum_le {ws : List Tx} {n : Nat} (h : ∀ w ∈ ws, w.length ≤ n) : (ws.map List.length).sum ≤ n * ws.length := by
  induction ws with
  | nil => simp
  | cons w r ih =>
    have h1 := h w (by simp)
    have h2 := ih fun x hx => h x (List.mem_cons_of_mem _ hx)
    simp only [List.map_cons, List.sum_cons, List.length_cons, Nat.mul_succ]
    omega
def plainR : Row → Bool
  | .rk _ _ _ _ => false
  | .cp _ _ => false
  | _ => true
theorem ks_wrds (r : Row) (h : plainR r = true) : r.ks.map stK' = wrds r := by
  cases r <;> first | (cases h; done) | rfl
end Lk15

set_option Elab.async false
set_option linter.all false
set_option maxHeartbeats 1000000
namespace Lk15
open Mi
/-! ### words of good lines, bad words -/
theorem digs5 {a b c d e : Int} {ds : List Int} (h : Digs [a, b, c, d, e] ds) : ∃ x y z u v, ds = [x, y, z, u, v] ∧ (0 ≤ x ∧ x < a) ∧ (0 ≤ y ∧ y < b) ∧ (0 ≤ z ∧ z < c) ∧ (0 ≤ u ∧ u < d) ∧ (0 ≤ v ∧ v < e) := by
  obtain ⟨hl, hb⟩ := h
  match ds, hl with
  | [x, y, z, u, v], _ =>
    obtain ⟨_, e, q⟩ := hb 0 x rfl
    obtain rfl := Option.some.inj e
    obtain ⟨_, e, q2⟩ := hb 1 y rfl
    obtain rfl := Option.some.inj e
    obtain ⟨_, e, q3⟩ := hb 2 z rfl
    obtain rfl := Option.some.inj e
    obtain ⟨_, e, q4⟩ := hb 3 u rfl
    obtain rfl := Option.some.inj e
    obtain ⟨_, e, q5⟩ := hb 4 v rfl
    obtain rfl := Option.some.inj e
    exact ⟨x, y, z, u, v, rfl, q, q2, q3, q4, q5⟩
theorem lline_ok (c : Int) (p : Nat) (S : Store) (l : List Tx) (h : S[p]? = some (.lst (l.map .str))) (hl : l.length = 4) (hn : ∀ t ∈ l, Nm t) : ∃ (r : Row) (W : Nat) (S' : Store), m_law_line [.int c, .ref p] S = .ok (.ref W) S' ∧ Pre S S' ∧ S'[W]? = some (.lst ((wrds r).map .str)) ∧ Rdb l r ∧ r ≠ .en := by
  have h1 : (S ++ [O.lst ([(8 : Int), (l.length : Int), 8, (l.length : Int) + 2, (l.length : Int) + 2].map D.int)])[S.length]? = some (.lst ([(8 : Int), (l.length : Int), 8, (l.length : Int) + 2, (l.length : Int) + 2].map .int)) := app_new _ _ _
  obtain ⟨ds, m, S1, e, pr, hm, hg, hd⟩ := digits_ok c S.length _ _ h1 (by
    intro n hn
    simp only [List.mem_cons, List.not_mem_nil, or_false] at hn
    rcases hn with rfl | rfl | rfl | rfl | rfl <;> omega) (by simp)
  obtain ⟨k, x, s, y, z, rfl, hk, hx, hs, hy, hz⟩ := digs5 hd
  have h2 : S1[p]? = some (.lst (l.map .str)) := pr.get (app_get h)
  obtain ⟨a, qa, oa⟩ := operand_ok y c p S1 l h2 hy.1
  obtain ⟨b, qb, ob⟩ := operand_ok z (c / 7) p S1 l h2 hz.1
  have ka := bStr_ok (Opd.kp oa hn) S1
  have kb := bStr_ok (Opd.kp ob hn) S1
  have hxl : x.toNat < l.length := by omega
  have ex : atI (l.map D.str) x = some (.str l[x.toNat]) := at_nat hx.1 (by rw [List.getElem?_map, List.getElem?_eq_getElem hxl]; rfl)
  have hin : l[x.toNat] ∈ l := List.getElem_mem hxl
  generalize l[x.toNat] = nm at *
  have hs8 : s.toNat < S8.length := by show s.toNat < 8; omega
  have es : atI S8 s = some S8[s.toNat] := at_nat hs.1 (List.getElem?_eq_getElem hs8)
  have hsm : S8[s.toNat] ∈ S8 := List.getElem_mem hs8
  generalize S8[s.toNat] = ch at *
  have d7 : divOk 7 := div_ok (by decide) (by decide)
  have g70 : 0 ≤ c % 70 ∧ c % 70 < 10 ^ 25 := by omega
  have k70 : ∀ S, bStr [.int (c % 70)] S = .ok (.str (numT (c % 70).toNat)) S := fun S => bStr_ok (k := .inl (c % 70)) g70 S
  have pr' : Pre S S1 := (Pre.app _ _).trans pr
  simp only [List.map_cons, List.map_nil] at e hg
  obtain ⟨S2, hS2⟩ : ∃ S2 : Store, S2 = S1 ++ [.lst [.str (stK' a), .str (stK' b)]] := ⟨_, rfl⟩
  have p2 : Pre S1 S2 := by rw [hS2]; exact Pre.app _ _
  have g2 : S2[S1.length]? = some (.lst [.str (stK' a), .str (stK' b)]) := by rw [hS2]; exact app_new _ _ _
  have h3 := p2.get h2
  by_cases k3 : k < 3
  · refine ⟨.rk nm [ch] a b, S2.length, S2 ++ [.lst ((wrds (.rk nm [ch] a b)).map .str)], ?_, (pr'.trans p2).trans (Pre.app _ _), app_new _ _ _, ⟨⟨hin, ⟨⟨ch, hsm, rfl⟩, oa, ob⟩⟩, (fun _ z => by cases z), (fun _ _ z => by cases z)⟩, by simp⟩
    simp [m_law_line, b_law_line, h, LINE, e, hg, qa, qb, ka, kb, d7, k3, ← hS2, g2, h3, ex, es, wrds]
  · by_cases k5 : k < 5
    · refine ⟨.cp nm a, S2.length, S2 ++ [.lst ((wrds (.cp nm a)).map .str)], ?_, (pr'.trans p2).trans (Pre.app _ _), app_new _ _ _, ⟨⟨hin, oa⟩, (fun _ z => by cases z), (fun _ _ z => by cases z)⟩, by simp⟩
      simp [m_law_line, b_law_line, h, LINE, e, hg, qa, qb, ka, kb, d7, k3, k5, ← hS2, g2, h3, ex, es, wrds]
    · obtain ⟨S3, hS3⟩ : ∃ S3 : Store, S3 = S2 ++ [.lst [.str w_sy, .str (stK' a)], .lst [.str w_go, .str (numT (c % 70).toNat)], .lst [.str w_pt, .str (stK' a), .str (numT (c % 70).toNat)], .lst [.ref S2.length, .ref (S2.length + 1), .ref (S2.length + 2)]] := ⟨_, rfl⟩
      have p3 : Pre S2 S3 := by rw [hS3]; exact Pre.app _ _
      have q0 : S3[S2.length]? = some (.lst [.str w_sy, .str (stK' a)]) := by rw [hS3]; exact app_new _ _ _
      have q1 : S3[S2.length + 1]? = some (.lst [.str w_go, .str (numT (c % 70).toNat)]) := by rw [hS3]; simp [get_app]
      have q2 : S3[S2.length + 2]? = some (.lst [.str w_pt, .str (stK' a), .str (numT (c % 70).toNat)]) := by rw [hS3]; simp [get_app]
      have q3 : S3[S2.length + 3]? = some (.lst [.ref S2.length, .ref (S2.length + 1), .ref (S2.length + 2)]) := by rw [hS3]; simp [get_app]
      have pt := (pr'.trans p2).trans p3
      have main : ∀ (j : Nat) (hj : k - 5 = (j : Int)), j < 3 → m_law_line [.int c, .ref p] S = .ok (.ref (S2.length + j)) S3 := by
        intro j hj h3'
        have ej : atI [D.ref S2.length, .ref (S2.length + 1), .ref (S2.length + 2)] (k - 5) = some (.ref (S2.length + j)) := by
          rw [hj]
          match j, h3' with
          | 0, _ => rfl
          | 1, _ => rfl
          | 2, _ => rfl
        have e3 : S2 ++ [O.lst [.str w_sy, .str (stK' a)], .lst [.str w_go, .str (numT (c % 70).toNat)], .lst [.str w_pt, .str (stK' a), .str (numT (c % 70).toNat)], .lst [.ref S2.length, .ref (S2.length + 1), .ref (S2.length + 2)]] = S3 := hS3.symm
        simp [m_law_line, b_law_line, h, LINE, e, hg, qa, qb, ka, kb, d7, k3, k5, ← hS2, g2, h3, k70, get_app, e3, q3, ej]
      by_cases k5' : k = 5
      · exact ⟨.sy a, S2.length, S3, main 0 (by omega) (by omega), pt, q0, ⟨oa, (fun _ z => by cases z), (fun _ _ z => by cases z)⟩, by simp⟩
      · by_cases k6 : k = 6
        · exact ⟨.go (c % 70), S2.length + 1, S3, main 1 (by omega) (by omega), pt, q1, ⟨trivial, (fun t z => by cases z; exact g70), (fun _ _ z => by cases z)⟩, by simp⟩
        · exact ⟨.pt a (c % 70), S2.length + 2, S3, main 2 (by omega) (by omega), pt, q2, ⟨oa, (fun _ z => by cases z), (fun _ t z => by cases z; exact g70)⟩, by simp⟩
structure Wk (w : Tx) : Prop where
  d : Wd w
  k : kOk (.inr w) = true
def goodBW (w : Tx) : Bool := !nmC w && !opB w && !numC w && decide (w ≠ w_sy) && decide (w ≠ w_go) && decide (w ≠ w_pt) && decide (w ≠ []) && decide (32 ∉ w) && decide (35 ∉ w) && decide (10 ∉ w) && decide (w.length ≤ 30) && kOk (.inr w)
def farBW (w : Tx) : Bool := !nmC w && !opB w && decide (w ≠ w_sy) && decide (w ≠ w_go) && decide (w ≠ w_pt) && decide (w ≠ []) && decide (32 ∉ w) && decide (35 ∉ w) && decide (10 ∉ w) && decide (w.length ≤ 30) && kOk (.inr w)
structure BW (w : Tx) : Prop where
  nm : nmC w = false
  op : opB w = false
  sy : w ≠ w_sy
  go : w ≠ w_go
  pt : w ≠ w_pt
  wk : Wk w
theorem bw_of {w : Tx} (h : farBW w = true) : BW w := by
  unfold farBW at h
  simp only [Bool.and_eq_true, Bool.not_eq_true', decide_eq_true_eq] at h
  obtain ⟨⟨⟨⟨⟨⟨⟨⟨⟨⟨h1, h2⟩, h3⟩, h4⟩, h5⟩, h6⟩, h7⟩, h8⟩, h9⟩, h10⟩, h11⟩ := h
  exact ⟨h1, h2, h3, h4, h5, ⟨h6, h7, h8, h9, h10⟩, h11⟩
theorem far_bw : ∀ k : Nat, k < 9 → farBW (numT (18446744073709551616 + k)) = true := by decide +kernel
def BWS (f : Tx) : List Tx := [[65], [57, 97], [97, 98, 99, 100, 101, 102, 103, 104, 105], [48, 48, 55], [45, 49], [43], [61], [97, 95, 98], f, [120, 46], [49, 101, 51], [101, 110, 100], [43, 49], [49, 95, 48], [48, 49], [45, 48]]
theorem bws_bw {f : Tx} (hf : BW f) : ∀ w ∈ BWS f, BW w := by
  intro w hw
  simp only [BWS, List.mem_cons, List.not_mem_nil, or_false] at hw
  rcases hw with rfl | rfl | rfl | rfl | rfl | rfl | rfl | rfl | rfl | rfl | rfl | rfl | rfl | rfl | rfl | rfl <;> first | exact hf | exact bw_of (by decide +kernel)
theorem badword_ok (c : Int) (S : Store) : ∃ (w : Tx) (S' : Store), m_law_bad_word [.int c] S = .ok (.str w) S' ∧ Pre S S' ∧ BW w := by
  have d12 : divOk 12 := div_ok (by decide) (by decide)
  obtain ⟨k, hk, hk9⟩ : ∃ k : Nat, c / 12 % 9 = (k : Int) ∧ k < 9 := ⟨(c / 12 % 9).toNat, by omega, by omega⟩
  have b := bStr_ok (k := .inl (18446744073709551616 + (k : Int))) ⟨by omega, by omega⟩ S
  have b' : bStr [.int (18446744073709551616 + (k : Int))] S = .ok (.str (numT (18446744073709551616 + k))) S := by
    have e : stK' (.inl (18446744073709551616 + (k : Int))) = numT (18446744073709551616 + k) := congrArg numT (by omega)
    rw [e] at b
    exact b
  have fb := bw_of (far_bw k hk9)
  generalize numT (18446744073709551616 + k) = f at *
  obtain ⟨j, hj, hj16⟩ : ∃ j : Nat, c % 16 = (j : Int) ∧ j < 16 := ⟨(c % 16).toNat, by omega, by omega⟩
  have hjl : j < (BWS f).length := hj16
  have ej : atI ((BWS f).map D.str) (c % 16) = some (.str (BWS f)[j]) := by
    rw [hj]
    exact at_of (by rw [List.getElem?_map, List.getElem?_eq_getElem hjl]; rfl)
  have hin : (BWS f)[j] ∈ BWS f := List.getElem_mem hjl
  refine ⟨(BWS f)[j], _, ?_, Pre.app S [.lst ((BWS f).map .str)], bws_bw fb _ hin⟩
  generalize (BWS f)[j] = w at *
  simp only [BWS, List.map_cons, List.map_nil] at ej ⊢
  simp [m_law_bad_word, b_law_bad_word, d12, hk, b', LINE, ej]
end Lk15

set_option Elab.async false
set_option linter.all false
set_option maxHeartbeats 1000000
namespace Lk15
open Mi
theorem cut_map {α β : Type} (f : α → β) (l : List α) (a b : Option Int) : cut (l.map f) a b = (cut l a b).map f := by
  unfold cut
  rw [List.length_map, ← List.map_drop, ← List.map_take]
theorem cut_to {α : Type} (l : List α) (n : Nat) (h : n ≤ l.length) : cut l none (some (n : Int)) = l.take n := by
  unfold cut sIx
  simp only [List.drop_zero]
  rw [if_neg (by omega), Nat.sub_zero, show ((n : Int)).toNat = n by omega, Nat.min_eq_left h]
theorem cut_from {α : Type} (l : List α) (n : Nat) (h : n ≤ l.length) : cut l (some (n : Int)) none = l.drop n := by
  unfold cut sIx
  simp only []
  rw [if_neg (by omega), show ((n : Int)).toNat = n by omega, Nat.min_eq_left h, List.take_of_length_le (by rw [List.length_drop]; omega)]
/-! ### the line that is none -/
structure BadT (t : Tx) : Prop where
  n : 10 ∉ t
  ok : WOk (rdl t)
  bad : badW (rdl t) = true
  len : t.length ≤ 400
theorem rdl_join (ws : List Tx) (h : ∀ w ∈ ws, Wd w) : rdl (joinT [32] ws) = ws := by
  unfold rdl
  rw [bef_free (join_free (by decide) _ fun w hw => (h w hw).h), wf_join _ h]
theorem wk_ok {ws : List Tx} (h : ∀ w ∈ ws, Wk w) : WOk ws := by
  refine ⟨fun w hw => by have := (h w hw).d.l; omega, ?_⟩
  rw [List.all_map, List.all_eq_true]
  exact fun w hw => (h w hw).k
theorem badT_join {ws : List Tx} (h : ∀ w ∈ ws, Wk w) (hl : ws.length ≤ 6) (hb : badW ws = true) : BadT (joinT [32] ws) := by
  have e := rdl_join ws fun w hw => (h w hw).d
  refine ⟨join_free (by decide) _ fun w hw => (h w hw).d.n, by rw [e]; exact wk_ok h, by rw [e]; exact hb, ?_⟩
  have := joinT_len ws fun w hw => (h w hw).d.l
  omega
theorem row_wk {l : List Tx} {r : Row} (h : Rdb l r) (hl : ∀ t ∈ l, Nm t) : ∀ w ∈ wrds r, Wk w := by
  have q := wrds_ok h hl
  rw [List.all_map, List.all_eq_true] at q
  exact fun w hw => ⟨h.wd hl w hw, q w hw⟩
theorem joins30 {S : Store} {p : Nat} {ws : List Tx} (g : S[p]? = some (.lst (ws.map .str))) (h : ∀ w ∈ ws, Wk w) (hl : ws.length ≤ 6) : sJoin (.str [32]) [.ref p] S = .ok (.str (joinT [32] ws)) S := joins g (by
  have h1 := sum_le (ws := ws) (n := 30) fun w hw => (h w hw).d.l
  show _ ≤ 16777216
  simp only [List.length_singleton]
  omega)
def FA : List Tx := [[120], [120, 32, 61], [61, 32, 51], [120, 32, 61, 32, 51, 32, 43], [120, 32, 61, 32, 43, 32, 51], [120, 32, 61, 32, 51, 32, 52], [120, 32, 61, 61, 32, 51], w_sy, [115, 97, 121, 32, 120, 32, 121], w_go, [103, 111, 32, 120], [103, 111, 32, 49, 32, 50]]
def FB : List Tx := [[112, 97, 114, 116, 32, 49], [112, 97, 114, 116, 32, 120, 32, 121], [101, 110, 100, 32, 48], [69, 110, 100], [120, 61, 51], [115, 97, 121, 32, 61, 32, 51], [120, 32, 61, 32, 121, 32, 62, 32, 122], [103, 111, 32, 48, 49], [112, 97, 114, 116, 32, 120, 32, 49, 32, 50], [103, 111, 32, 45, 49]]
def FC : List Tx := [[120, 32, 61, 32, 51, 32, 43, 45, 32, 52], [120, 32, 61, 32, 51, 32, 42, 124, 32, 52], [120, 32, 61, 32, 51, 32, 43, 32, 43, 32, 52], [103, 111, 32, 43, 49], [103, 111, 32, 49, 95, 48], [112, 97, 114, 116, 32, 120, 32, 48, 49], [115, 97, 121, 32, 45, 48], [120, 32, 61, 32, 43, 49]]
def FE : List Tx := [[115, 97, 32, 51], [115, 97, 121, 115, 97, 121, 32, 51], [112, 97, 114, 116, 32, 120, 44, 32, 51], [120, 32, 61, 32, 51, 44, 32, 52], [101, 110, 100, 32, 101, 110, 100], [103, 32, 51]]
def fixB (t : Tx) : Bool := decide (10 ∉ t) && ((rdl t).all fun w => decide (w.length ≤ 640)) && ((rdl t).map (Sum.inr : Tx → Ky)).all kOk && badW (rdl t) && decide (t.length ≤ 400)
theorem fix_all : (FA ++ FB ++ FC ++ FE).all fixB = true := by decide +kernel
theorem fix_ok {t : Tx} (h : t ∈ FA ++ FB ++ FC ++ FE) : BadT t := by
  have q := List.all_eq_true.mp fix_all t h
  unfold fixB at q
  simp only [Bool.and_eq_true, decide_eq_true_eq] at q
  obtain ⟨⟨⟨⟨h1, h2⟩, h3⟩, h4⟩, h5⟩ := q
  refine ⟨h1, ⟨fun w hw => of_decide_eq_true (List.all_eq_true.mp h2 w hw), h3⟩, h4, h5⟩
theorem nm_sy : nmC w_sy = false := by decide +kernel
theorem nm_go : nmC w_go = false := by decide +kernel
theorem nm_pt : nmC w_pt = false := by decide +kernel
theorem op_33 : opB [33] = false := by decide +kernel
theorem num_33 : numC [33] = false := by decide +kernel
theorem wk_x : Wk [120] := ⟨⟨by decide, by decide, by decide, by decide, by decide⟩, by decide +kernel⟩
theorem wk_33 : Wk [33] := ⟨⟨by decide, by decide, by decide, by decide, by decide⟩, by decide +kernel⟩
theorem go_pt : ¬ w_go = w_pt := by decide
theorem sy_pt : ¬ w_sy = w_pt := by decide
theorem go_sy : ¬ w_go = w_sy := by decide
theorem bad_0 {l : List Tx} {r : Row} (h : Rdb l r) (hl : ∀ t ∈ l, Nm t) (ne : r ≠ .en) : badW (wrds r ++ [[120]]) = true := by
  cases r with
  | rk n s a b => rfl
  | cp n a => rfl
  | sy a => simp [wrds, badW, nm_sy, sy_pt]
  | go t => simp [wrds, badW, nm_go, go_pt]
  | pt a t => rfl
  | en => exact absurd rfl ne
theorem bad_1a {l : List Tx} {r : Row} (h : Rdb l r) (hl : ∀ t ∈ l, Nm t) (ne : r ≠ .en) : badW ((wrds r).dropLast ++ [[33]]) = true := by
  cases r with
  | rk n s a b => simp [wrds, badW, op_33]
  | cp n a =>
    have np := ((hl _ h.nm.1).no).2.2.1
    simp [wrds, badW, op_33, np]
  | sy a => simp [wrds, badW, op_33]
  | go t => simp [wrds, badW, num_33, go_sy]
  | pt a t => simp [wrds, badW, num_33]
  | en => exact absurd rfl ne
theorem bad_1b {ws : List Tx} (h5 : ws.length = 5) {k : Nat} (hk : k < 5) : badW (ws.take k ++ ws.drop (k + 1)) = true := by
  match ws, h5 with
  | [a, b, c, d, e], _ =>
    match k, hk with
    | 0, _ => rfl
    | 1, _ => rfl
    | 2, _ => rfl
    | 3, _ => rfl
    | 4, _ => rfl
theorem bad_2 {l : List Tx} {r : Row} (h : Rdb l r) (hl : ∀ t ∈ l, Nm t) (ne : r ≠ .en) {w : Tx} (hw : BW w) {k : Nat} (hk : k < (wrds r).length) (k1 : k ≠ 1) (np : (wrds r)[0]? ≠ some w_pt) (k3 : ¬ ((wrds r).length = 5 ∧ k = 3)) : badW ((wrds r).take k ++ [w] ++ (wrds r).drop (k + 1)) = true := by
  have b1 := hw.nm
  have b2 := hw.op
  have b3 := hw.sy
  have b4 := hw.go
  have b5 := hw.pt
  cases r with
  | rk n s a b =>
    simp only [wrds, List.length_cons, List.length_nil] at hk k3
    match k, hk with
    | 0, _ => simp [wrds, badW, b1]
    | 1, _ => exact absurd rfl k1
    | 2, _ => simp [wrds, badW, b2]
    | 3, _ => exact (k3 (by simp)).elim
    | 4, _ => simp [wrds, badW, b2]
  | cp n a =>
    have npt := ((hl _ h.nm.1).no).2.2.1
    simp only [wrds, List.length_cons, List.length_nil] at hk
    match k, hk with
    | 0, _ => simp [wrds, badW, b1, b5]
    | 1, _ => exact absurd rfl k1
    | 2, _ => simp [wrds, badW, b2, npt]
  | sy a =>
    simp only [wrds, List.length_cons, List.length_nil] at hk
    match k, hk with
    | 0, _ => simp [wrds, badW, b3, b4]
    | 1, _ => exact absurd rfl k1
  | go t =>
    simp only [wrds, List.length_cons, List.length_nil] at hk
    match k, hk with
    | 0, _ => simp [wrds, badW, b3, b4]
    | 1, _ => exact absurd rfl k1
  | pt a t => exact absurd rfl np
  | en => exact absurd rfl ne
theorem cut_dl {α : Type} (l : List α) (h : l ≠ []) : cut l none (some (-1)) = l.dropLast := by
  rcases snoc_or l with rfl | ⟨q, a, rfl⟩
  · exact absurd rfl h
  · rw [cut_last]; simp
theorem none_ok (c : Int) (p : Nat) (S : Store) (l : List Tx) (h : S[p]? = some (.lst (l.map .str))) (hl : l.length = 4) (hn : ∀ t ∈ l, Nm t) : ∃ (t : Tx) (S' : Store), m_law_none [.int c, .ref p] S = .ok (.str t) S' ∧ Pre S S' ∧ BadT t := by
  obtain ⟨S1, hS1⟩ : ∃ S1 : Store, S1 = S ++ [.lst (FA.map .str), .lst (FB.map .str), .lst ((FA ++ FB).map .str)] := ⟨_, rfl⟩
  have p1 : Pre S S1 := by rw [hS1]; exact Pre.app _ _
  have gF1 : S1[S.length + 2]? = some (.lst ((FA ++ FB).map .str)) := by rw [hS1]; simp [get_app]
  obtain ⟨r, W, S2, e2, p2, gW, rd, ne⟩ := lline_ok (c / 7) p S1 l (p1.get h) hl hn
  have gF := p2.get gF1
  have wk := row_wk rd hn
  have wl := wrds_len r
  have b0 := bad_0 rd hn ne
  have b1a := bad_1a rd hn ne
  have b2 := fun (w : Tx) (hw : BW w) (k : Nat) (hk : k < (wrds r).length) => bad_2 rd hn ne hw hk
  have wne := wrds_ne r
  obtain ⟨ws, hws⟩ : ∃ ws, ws = wrds r := ⟨_, rfl⟩
  rw [← hws] at gW wk wl b0 b1a b2 wne
  have wp : 0 < ws.length := List.length_pos_iff.mpr wne
  obtain ⟨w0, hw0⟩ : ∃ w0, ws[0]? = some w0 := ⟨_, List.getElem?_eq_getElem wp⟩
  have a0 : atI (ws.map D.str) 0 = some (.str w0) := at_of (k := 0) (by rw [List.getElem?_map, hw0]; rfl)
  obtain ⟨k, hk, hkl⟩ : ∃ k : Nat, c / 7 % (ws.length : Int) = (k : Int) ∧ k < ws.length := by
    have h1 := Int.emod_nonneg (c / 7) (show (ws.length : Int) ≠ 0 by omega)
    have h2 := Int.emod_lt_of_pos (c / 7) (show (0 : Int) < ws.length by omega)
    exact ⟨(c / 7 % (ws.length : Int)).toNat, by omega, by omega⟩
  have lp : (0 : Int) < (ws.length : Int) := by omega
  have c1 : cut (ws.map D.str) none (some (k : Int)) = (ws.take k).map D.str := by rw [cut_to _ _ (by rw [List.length_map]; omega), List.map_take]
  have c2 : cut (ws.map D.str) (some ((k : Int) + 1)) none = (ws.drop (k + 1)).map D.str := by
    have := cut_from (ws.map D.str) (k + 1) (by rw [List.length_map]; omega)
    rw [show ((k : Int) + 1) = ((k + 1 : Nat) : Int) by omega, this, List.map_drop]
  have c3 : cut (ws.map D.str) none (some (-1)) = ws.dropLast.map D.str := by rw [cut_dl _ (by simpa using wne), List.map_dropLast]
  have d7 : divOk 7 := div_ok (by decide) (by decide)
  have d49 : divOk 49 := div_ok (by decide) (by decide)
  have pt : Pre S S2 := p1.trans p2
  have eS1 : S ++ [O.lst (FA.map .str), .lst (FB.map .str), .lst ((FA ++ FB).map .str)] = S1 := hS1.symm
  simp only [FA, FB, List.map_cons, List.map_nil, List.cons_append, List.nil_append] at eS1 gF
  have k1i : ∀ n : Nat, ((k : Int) = (n : Int)) ↔ k = n := fun n => by omega
  have gWa : ∀ G, (S2 ++ G)[W]? = some (.lst (ws.map D.str)) := fun G => app_get gW
  have wl16 : ws.length + 1 ≤ 16777216 := by omega
  have wkt : ∀ w ∈ ws.take k, Wk w := fun w h => wk w (List.mem_of_mem_take h)
  have wkd : ∀ w ∈ ws.drop (k + 1), Wk w := fun w h => wk w (List.mem_of_mem_drop h)
  have tl : (ws.take k).length = k := by rw [List.length_take]; omega
  have dl : (ws.drop (k + 1)).length = ws.length - (k + 1) := List.length_drop
  by_cases w0' : c % 7 = 0
  · have wkx : ∀ w ∈ ws ++ [[120]], Wk w := fun w hw => by
      rcases List.mem_append.mp hw with z | z
      · exact wk w z
      · rw [List.mem_singleton.mp z]; exact wk_x
    refine ⟨_, _, ?_, pt.trans (Pre.app S2 [.lst [.str [120]], .lst ((ws ++ [[120]]).map .str)]), badT_join (ws := ws ++ [[120]]) wkx (by simp; omega) b0⟩
    simp [-sJoin_s, m_law_none, b_law_none, LINE, eS1, d7, d49, e2, gW, gWa, lp, wp, wne, hk, get_len, w0', wl16]
    rw [joins30 (ws := ws ++ [[120]]) (by simp [get_app]) wkx (by simp; omega)]
    simp
  · by_cases w1 : c % 7 = 1
    · by_cases hs : ws.length = 5 ∧ k ≠ 1
      · have wkx : ∀ w ∈ ws.take k ++ ws.drop (k + 1), Wk w := fun w hw => by
          rcases List.mem_append.mp hw with z | z
          · exact wkt w z
          · exact wkd w z
        refine ⟨_, _, ?_, pt.trans (Pre.app S2 [.lst ((ws.take k).map .str), .lst ((ws.drop (k + 1)).map .str), .lst ((ws.take k ++ ws.drop (k + 1)).map .str)]), badT_join (ws := ws.take k ++ ws.drop (k + 1)) wkx (by simp; omega) (bad_1b hs.1 (by omega))⟩
        have n5 : ((ws.length : Int) = 5) := by omega
        have hk5 : c / 7 % 5 = (k : Int) := by rw [← hk, n5]
        have n1 : ¬ ((k : Int) = 1) := by omega
        have kl4 : min k ws.length + (ws.length - (k + 1)) ≤ 16777216 := by omega
        simp [-sJoin_s, m_law_none, b_law_none, LINE, eS1, d7, d49, e2, gW, gWa, lp, wp, wne, hk, get_len, w1, n5, hk5, n1, hs.2, c1, c2, kl4]
        rw [joins30 (ws := ws.take k ++ ws.drop (k + 1)) (by simp [get_app]) wkx (by simp; omega)]
        simp
      · have wkx : ∀ w ∈ ws.dropLast ++ [[33]], Wk w := fun w hw => by
          rcases List.mem_append.mp hw with z | z
          · exact wk w (List.dropLast_subset _ z)
          · rw [List.mem_singleton.mp z]; exact wk_33
        refine ⟨_, _, ?_, pt.trans (Pre.app S2 [.lst (ws.dropLast.map .str), .lst [.str [33]], .lst ((ws.dropLast ++ [[33]]).map .str)]), badT_join (ws := ws.dropLast ++ [[33]]) wkx (by simp; omega) b1a⟩
        have dl2 : ws.length - 1 + 1 ≤ 16777216 := by omega
        by_cases h5 : ws.length = 5
        · have h1 : k = 1 := Decidable.byContradiction fun z => hs ⟨h5, z⟩
          have n5 : ((ws.length : Int) = 5) := by omega
          have hk5 : c / 7 % 5 = (k : Int) := by rw [← hk, n5]
          have n1 : ((k : Int) = 1) := by omega
          simp [-sJoin_s, m_law_none, b_law_none, LINE, eS1, d7, d49, e2, gW, gWa, lp, wp, wne, hk, get_len, w1, n5, hk5, n1, h1, c3, dl2]
          rw [joins30 (ws := ws.dropLast ++ [[33]]) (by simp [get_app]) wkx (by simp; omega)]
          simp
        · have n5 : ¬ ((ws.length : Int) = 5) := by omega
          simp [-sJoin_s, m_law_none, b_law_none, LINE, eS1, d7, d49, e2, gW, gWa, lp, wp, wne, hk, get_len, w1, n5, h5, c3, dl2]
          rw [joins30 (ws := ws.dropLast ++ [[33]]) (by simp [get_app]) wkx (by simp; omega)]
          simp
    · by_cases h2 : c % 7 = 2 ∧ k ≠ 1 ∧ w0 ≠ w_pt ∧ ¬ (ws.length = 5 ∧ k = 3)
      · obtain ⟨w2, hk1, hwp, hk3⟩ := h2
        obtain ⟨w, S3, e3, p3, hw⟩ := badword_ok (c / 49) (S2 ++ [.lst ((ws.take k).map .str)])
        have gT := p3.get (app_new S2 (.lst ((ws.take k).map .str)) [])
        have gW3 := p3.get (app_get (G := [.lst ((ws.take k).map .str)]) gW)
        have gTa : ∀ G, (S3 ++ G)[S2.length]? = some (.lst ((ws.take k).map D.str)) := fun G => app_get gT
        have gWb : ∀ G, (S3 ++ G)[W]? = some (.lst (ws.map D.str)) := fun G => app_get gW3
        have wkx : ∀ x ∈ ws.take k ++ [w] ++ ws.drop (k + 1), Wk x := fun x hx => by
          rcases List.mem_append.mp hx with z | z
          · rcases List.mem_append.mp z with z | z
            · exact wkt x z
            · rw [List.mem_singleton.mp z]; exact hw.wk
          · exact wkd x z
        have bd := b2 w hw k hkl hk1 (by rw [hw0]; intro z; exact hwp (Option.some.inj z)) hk3
        refine ⟨_, _, ?_, (pt.trans ((Pre.app _ _).trans p3)).trans (Pre.app S3 [.lst [.str w], .lst ((ws.take k ++ [w]).map .str), .lst ((ws.drop (k + 1)).map .str), .lst ((ws.take k ++ [w] ++ ws.drop (k + 1)).map .str)]), badT_join (ws := ws.take k ++ [w] ++ ws.drop (k + 1)) wkx (by simp; omega) bd⟩
        have n1 : ¬ ((k : Int) = 1) := by omega
        simp only [List.map_take] at e3 gTa
        have kl1 : min k ws.length + 1 ≤ 16777216 := by omega
        have kl2 : min k ws.length + (1 + (ws.length - (k + 1))) ≤ 16777216 := by omega
        have kl3 : min k ws.length + 1 + (ws.length - (k + 1)) ≤ 16777216 := by omega
        by_cases h5 : ws.length = 5
        · have n5 : ((ws.length : Int) = 5) := by omega
          have hk5 : c / 7 % 5 = (k : Int) := by rw [← hk, n5]
          have k3 : ¬ k = 3 := fun z => hk3 ⟨h5, z⟩
          have n3 : ¬ ((k : Int) = 3) := by omega
          simp [-sJoin_s, m_law_none, b_law_none, LINE, eS1, d7, d49, e2, gW, gWa, lp, wp, wne, hk, get_len, w2, hk1, n1, a0, hwp, n5, hk5, n3, k3, c1, c2, e3, gTa, gWb, kl1, kl2, kl3]
          rw [joins30 (ws := ws.take k ++ [w] ++ ws.drop (k + 1)) (by simp [get_app]) wkx (by simp; omega)]
          simp
        · have n5 : ¬ ((ws.length : Int) = 5) := by omega
          simp [-sJoin_s, m_law_none, b_law_none, LINE, eS1, d7, d49, e2, gW, gWa, lp, wp, wne, hk, get_len, w2, hk1, n1, a0, hwp, n5, h5, c1, c2, e3, gTa, gWb, kl1, kl2, kl3]
          rw [joins30 (ws := ws.take k ++ [w] ++ ws.drop (k + 1)) (by simp [get_app]) wkx (by simp; omega)]
          simp
      · obtain ⟨j, hj, hj36⟩ : ∃ j : Nat, c / 7 % 36 = (j : Int) ∧ j < 36 := ⟨(c / 7 % 36).toNat, by omega, by omega⟩
        have hjl : j < (FA ++ FB ++ FC ++ FE).length := hj36
        have ej : atI ((FA ++ FB ++ FC ++ FE).map D.str) (c / 7 % 36) = some (.str (FA ++ FB ++ FC ++ FE)[j]) := by
          rw [hj]
          exact at_of (by rw [List.getElem?_map, List.getElem?_eq_getElem hjl]; rfl)
        have hin : (FA ++ FB ++ FC ++ FE)[j] ∈ FA ++ FB ++ FC ++ FE := List.getElem_mem hjl
        have bt := fix_ok hin
        generalize (FA ++ FB ++ FC ++ FE)[j] = T at *
        refine ⟨T, _, ?_, pt.trans (Pre.app S2 [.lst (FC.map .str), .lst ((FA ++ FB ++ FC).map .str), .lst (FE.map .str), .lst ((FA ++ FB ++ FC ++ FE).map .str)]), bt⟩
        have gFa : ∀ G, (S2 ++ G)[S.length + 2]? = _ := fun G => app_get gF
        simp only [FA, FB, FC, FE, List.map_cons, List.map_nil, List.cons_append, List.nil_append] at ej ⊢
        by_cases w2 : c % 7 = 2
        · by_cases hk1 : k = 1
          · have n1 : ((k : Int) = 1) := by omega
            simp [-sJoin_s, m_law_none, b_law_none, LINE, eS1, d7, d49, e2, gW, gWa, lp, wp, wne, hk, get_len, w2, n1, hk1, gF, gFa, ej]
          · have n1 : ¬ ((k : Int) = 1) := by omega
            by_cases hwp : w0 = w_pt
            · simp [-sJoin_s, m_law_none, b_law_none, LINE, eS1, d7, d49, e2, gW, gWa, lp, wp, wne, hk, get_len, w2, n1, hk1, a0, hwp, gF, gFa, ej]
            · have h53 : ws.length = 5 ∧ k = 3 := Decidable.byContradiction fun z => h2 ⟨w2, hk1, hwp, z⟩
              have n5 : ((ws.length : Int) = 5) := by omega
              have hk5 : c / 7 % 5 = (k : Int) := by rw [← hk, n5]
              have n3 : ((k : Int) = 3) := by omega
              simp [-sJoin_s, m_law_none, b_law_none, LINE, eS1, d7, d49, e2, gW, gWa, lp, wp, wne, hk, get_len, w2, n1, hk1, a0, hwp, n5, hk5, n3, gF, gFa, ej]
        · simp [-sJoin_s, m_law_none, b_law_none, LINE, eS1, d7, d49, e2, gW, gWa, lp, wp, wne, hk, get_len, w0', w1, w2, gF, gFa, ej]
end Lk15

set_option Elab.async false
set_option linter.all false
set_option maxHeartbeats 1000000
namespace Lk15
open Mi
/-! ### lines, texts of lines -/
theorem spC_join : ∀ (ts : List Tx), ts ≠ [] → (∀ t ∈ ts, 10 ∉ t) → spC 10 [] (joinT [10] ts) = ts
  | [], h, _ => absurd rfl h
  | [x], _, h => by rw [joinT, spC_free [] (h x (by simp))]; rfl
  | x :: y :: r, _, h => by
    rw [joinT, List.append_assoc, List.singleton_append, spC_app, spC_free [] (h x (by simp)), spC_join (y :: r) (by simp) fun t ht => h t (List.mem_cons_of_mem _ ht)]
    rfl
theorem joins_len : ∀ (ws : List Tx) (n : Nat), (∀ w ∈ ws, w.length ≤ n) → (joinT [10] ws).length ≤ (n + 1) * ws.length
  | [], n, _ => by simp [joinT]
  | [w], n, h => by rw [joinT]; have := h w (by simp); simp; omega
  | w :: v :: r, n, h => by
    have h1 := h w (by simp)
    have h2 := joins_len (v :: r) n fun x hx => h x (List.mem_cons_of_mem _ hx)
    rw [joinT]
    simp only [List.length_append, List.length_cons, List.length_nil, Nat.mul_succ] at h2 ⊢
    omega
theorem tw_lt {p : Nat → Bool} : ∀ {l : List Nat}, (∃ x ∈ l, p x = false) → (l.takeWhile p).length < l.length
  | [], ⟨_, h, _⟩ => by cases h
  | a :: r, ⟨x, h, hx⟩ => by
    rw [List.takeWhile_cons]
    cases ha : p a with
    | false => simp
    | true =>
      have hr : ∃ x ∈ r, p x = false := by
        rcases List.mem_cons.mp h with rfl | h
        · rw [ha] at hx; cases hx
        · exact ⟨x, h, hx⟩
      have := tw_lt hr
      simp only [if_true, List.length_cons]
      omega
theorem strip_ne {c : Nat} {a : Tx} {d : Nat} (h : a[0]? = some d) (hd : d ≠ c) : stripT c a ≠ [] := by
  cases a with
  | nil => cases h
  | cons x r =>
    obtain rfl := Option.some.inj h
    have lo : stLo c (x :: r) = 0 := by
      unfold stLo
      rw [List.takeWhile_cons]
      have : (x == c) = false := by simpa using hd
      rw [this]; rfl
    have hi : 0 < stHi c (x :: r) 0 := by
      unfold stHi
      have q := tw_lt (p := fun d => d == c) (l := ((x :: r).drop 0).reverse) ⟨x, by simp, by simpa using hd⟩
      rw [List.length_reverse, List.drop_zero] at q
      rw [List.drop_zero]
      omega
    unfold stripT
    rw [lo, List.drop_zero, Nat.sub_zero]
    intro z
    have := congrArg List.length z
    rw [List.length_take] at this
    simp only [List.length_cons, List.length_nil] at this
    omega
def hdC (u : Tx) : Tx := (spC 35 [] u).headD []
/-- a line that is read, or has no words -/
structure Ln (l : List Tx) (u : Tx) : Prop where
  n : 10 ∉ u
  g : LnG l u
  len : u.length ≤ 200
  cnt : stripT 32 (hdC u) ≠ [] ↔ rdl u ≠ []
def BL : List Tx := [[], [32, 32], [35, 32, 120, 32, 61, 32, 61, 32, 121], [32, 32, 32, 35, 32, 55]]
def blB (u : Tx) : Bool := decide (10 ∉ u) && decide (rdl u = []) && decide (u.length ≤ 200) && decide (stripT 32 (hdC u) = [])
theorem bl_ln (l : List Tx) {u : Tx} (h : u ∈ BL) : Ln l u ∧ rdl u = [] := by
  have q : BL.all blB = true := by decide +kernel
  have q := List.all_eq_true.mp q u h
  unfold blB at q
  simp only [Bool.and_eq_true, decide_eq_true_eq] at q
  obtain ⟨⟨⟨h1, h2⟩, h3⟩, h4⟩ := q
  exact ⟨⟨h1, .inl h2, h3, by rw [h2, h4]; simp⟩, h2⟩
theorem row_ln {l : List Tx} {r : Row} (h : Rdb l r) (hl : ∀ t ∈ l, Nm t) : Ln l (joinT [32] (wrds r)) ∧ rdl (joinT [32] (wrds r)) = wrds r := by
  have wd := h.wd hl
  have e := rdl_join (wrds r) wd
  have h35 := join_free (c := 35) (s := 32) (by decide) (wrds r) fun w hw => (wd w hw).h
  refine ⟨⟨join_free (by decide) _ fun w hw => (wd w hw).n, .inr ⟨r, h, e⟩, ?_, ?_⟩, e⟩
  · have h1 := joinT_len (wrds r) fun w hw => (wd w hw).l
    have h2 := wrds_len r
    omega
  · rw [e]
    refine ⟨fun _ => wrds_ne r, fun _ => ?_⟩
    have hh : hdC (joinT [32] (wrds r)) = joinT [32] (wrds r) := by
      unfold hdC
      rw [spC_free [] h35]; rfl
    rw [hh]
    have wne := wrds_ne r
    generalize wrds r = ws at *
    match ws, wne with
    | w :: q, _ =>
      have w1 := (wd w (by simp)).ne
      have w2 := (wd w (by simp)).s
      match w, w1 with
      | d :: w', _ =>
        have hd : d ≠ 32 := fun z => w2 (by rw [z]; simp)
        refine strip_ne (d := d) ?_ hd
        cases q with
        | nil => rfl
        | cons v r => rfl
def cntL (us : List Tx) : Nat := (us.filter fun u => decide (rdl u ≠ [])).length
theorem cnt_app (a b : List Tx) : cntL (a ++ b) = cntL a + cntL b := by
  unfold cntL
  rw [List.filter_append, List.length_append]
theorem rows_of {l : List Tx} (us : List Tx) (h : ∀ u ∈ us, Ln l u) : ∃ rows : List Row, rdT (joinT [10] us) = rows.map wrds ∧ (∀ r ∈ rows, Rdb l r) ∧ rows.length = cntL us := by
  rw [rdT_join]
  induction us with
  | nil => exact ⟨[], rfl, (fun r h => by cases h), rfl⟩
  | cons u q ih =>
    obtain ⟨rows, e, hr, hl⟩ := ih fun x hx => h x (List.mem_cons_of_mem _ hx)
    have hu := h u (by simp)
    rcases hu.g with g | ⟨r, hrd, g⟩
    · refine ⟨rows, ?_, hr, ?_⟩
      · have : rdT u = [] := by
          unfold rdT
          rw [spC_free [] hu.n]
          simp [g]
        rw [List.flatMap_cons, this, e]; rfl
      · unfold cntL at hl ⊢
        rw [List.filter_cons]
        simp [g, hl]
    · refine ⟨r :: rows, ?_, fun x hx => ?_, ?_⟩
      · rw [List.flatMap_cons, rdT_line hu.n (by rw [g]; exact wrds_ne r), g, e]; rfl
      · rcases List.mem_cons.mp hx with rfl | hx
        · exact hrd
        · exact hr x hx
      · have ne : rdl u ≠ [] := by rw [g]; exact wrds_ne r
        unfold cntL at hl ⊢
        rw [List.filter_cons]
        simp [ne, hl]
/-- the text of good lines is read -/
theorem read_lines {l : List Tx} (us : List Tx) (S : Store) (h : ∀ u ∈ us, Ln l u) (hl : ∀ t ∈ l, Nm t) (hn : us.length ≤ 500) (hc : 0 < cntL us) : ∃ (xs : List D) (S' : Store), m_read [.str (joinT [10] us)] S = .ok (.ref S.length) S' ∧ Pre S S' ∧ S'[S.length]? = some (.lst xs) ∧ xs.length = cntL us := by
  obtain ⟨rows, e, hr, hrl⟩ := rows_of us h
  have cl : cntL us ≤ us.length := List.length_filter_le _ _
  have tl := joins_len us 200 fun u hu => (h u hu).len
  obtain ⟨S', q, p, g⟩ := read_ok (joinT [10] us) rows l S e (by intro z; rw [z] at hrl; simp at hrl; omega) hr hl (by omega) (by omega)
  exact ⟨rows.map Row.d, S', q, p, g, by rw [List.length_map]; exact hrl⟩
/-- the text with a line that is none is refused there -/
theorem read_lines_bad {l : List Tx} (A B : List Tx) (b : Tx) (S : Store) (hA : ∀ u ∈ A, Ln l u) (hb : BadT b) (hB : ∀ u ∈ B, 10 ∉ u ∧ u.length ≤ 400) (hl : ∀ t ∈ l, Nm t) (hn : (A ++ [b] ++ B).length ≤ 1000) : ∃ S', m_read [.str (joinT [10] (A ++ [b] ++ B))] S = .exc ⟨"NoText", [(t_line, .int (A.length : Int))]⟩ S' ∧ Pre S S' := by
  have all10 : ∀ u ∈ A ++ [b] ++ B, 10 ∉ u ∧ u.length ≤ 400 := fun u hu => by
    rcases List.mem_append.mp hu with z | z
    · rcases List.mem_append.mp z with z | z
      · have := hA u z; exact ⟨this.n, Nat.le_trans this.len (by decide)⟩
      · rw [List.mem_singleton.mp z]; exact ⟨hb.n, hb.len⟩
    · exact hB u z
  have sp := spC_join (A ++ [b] ++ B) (by simp) fun u hu => (all10 u hu).1
  have tl := joins_len (A ++ [b] ++ B) 400 fun u hu => (all10 u hu).2
  refine read_bad _ l S A.length b ?_ hb.ok hb.bad ?_ hl (by omega)
  · rw [sp]; simp
  · intro j v hj hv
    rw [sp, List.append_assoc, List.getElem?_append_left hj] at hv
    exact (hA v (List.mem_of_getElem? hv)).g
theorem sTryK_s (sub : String → Option Bool) (i j : Nat) (b : SM) (fr : Fr) (S : Store) : sTryK sub i j b fr S = tryK sub (fun x S' => if i < fr.length then .ok (.nx ((fr.set i none).set j (some (.ref S'.length)))) (S' ++ [.exn x.cls x.fs]) else .bad) (b fr S) := rfl
theorem refused_ok (t : Tx) (n : Nat) (S S1 : Store) (e : m_read [.str t] S = .exc ⟨"NoText", [(t_line, .int (n : Int))]⟩ S1) (pr : Pre S S1) : ∃ S', m_law_refused [.str t, .int (n : Int)] S = .ok (.bl true) S' ∧ Pre S S' := by
  refine ⟨S1 ++ [.exn "NoText" [(t_line, .int (n : Int))]], ?_, pr.trans (Pre.app _ _)⟩
  have g : (S1 ++ [O.exn "NoText" [(t_line, .int (n : Int))]])[S1.length]? = some (.exn "NoText" [(t_line, .int (n : Int))]) := app_new _ _ _
  have x1 : exnOf (S1 ++ [O.exn "NoText" [(t_line, .int (n : Int))]]) (.ref S1.length) = some ("NoText", [(t_line, .int (n : Int))]) := by
    unfold exnOf
    simp only [g]
  have tr : ∀ X, S1 ++ [O.exn "NoText" [(t_line, .int (n : Int))]] = X → (exnOf X (.ref S1.length) = some ("NoText", [(t_line, .int (n : Int))])) → m_law_refused [.str t, .int (n : Int)] S = .ok (.bl true) X := by
    intro X hX hx
    have iT : uIsX (fun n => if n = "NoText" then some true else (fun _ => none) n) (.ref S1.length) X = .ok (.bl true) X := by
      unfold uIsX
      rw [hx]; rfl
    have iF : uIsX (fun n => if n = "NoText" then some false else (fun _ => none) n) (.ref S1.length) X = .ok (.bl false) X := by
      unfold uIsX
      rw [hx]; rfl
    have xa : uXv "NoText" t_line (.ref S1.length) X = .ok (.int (n : Int)) X := by
      unfold uXv
      rw [hx]; rfl
    simp [m_law_refused, b_law_refused, sTryK_s, e, hX, iT, iF, xa]
  exact tr _ rfl x1
/-! ### how many lines have words; lines put behind -/
theorem many_ok {l : List Tx} (L : Nat) (us : List Tx) (S : Store) (hL : S[L]? = some (.lst (us.map .str))) (h : ∀ u ∈ us, Ln l u) (hn : us.length ≤ 500) : ∃ S', m_law_many [.ref L] S = .ok (.int (cntL us : Nat)) S' ∧ Pre S S' := by
  obtain ⟨S', e, p, g⟩ := lc_fil (vs := [1]) (g := gName 1) (t := c_law_many_1) (e := e_law_many_2) (fr := [some (.ref L), none]) (hs := [(L, us.map D.str)]) (S := S) us D.str D.str (fun u => decide (rdl u ≠ [])) rfl (stand_one (lst_of hL)) (Nat.le_trans hn (by decide)) (by
    intro u hu S1 p1
    have lu := h u hu
    have ul := lu.len
    have sp := split_ok 35 u S1 (by decide) (Nat.le_trans (show u.length + 2 ≤ 202 by omega) (by decide))
    obtain ⟨h1, h2⟩ := spC_lens 35 u []
    have hne := spC_ne 35 u []
    obtain ⟨x, q, hx⟩ : ∃ x q, spC 35 [] u = x :: q := by
      cases hs : spC 35 [] u with
      | nil => exact absurd hs hne
      | cons x q => exact ⟨x, q, rfl⟩
    have hd : hdC u = x := by unfold hdC; rw [hx]; rfl
    have xl : x.length ≤ 16777216 := by
      have := h2 x (by rw [hx]; simp)
      rw [List.length_nil] at this
      omega
    have a0 : ∀ q : List D, atI (D.str x :: q) 0 = some (.str x) := fun q => at_of (k := 0) rfl
    have st : sStrip (.str x) [.str [32]] (S1 ++ [.lst ((spC 35 [] u).map .str)]) = .ok (.str (stripT 32 x)) (S1 ++ [.lst ((spC 35 [] u).map .str)]) := by
      show (if x.length ≤ LINE then (.ok (.str (stripT 32 x)) _ : Res D) else .bad) = _
      rw [if_pos xl]
    have bk : (!decide (stripT 32 x = [])) = decide (rdl u ≠ []) := by
      have c := lu.cnt
      rw [hd] at c
      by_cases z : rdl u = []
      · have : stripT 32 x = [] := Decidable.byContradiction fun w => c.mp w z
        rw [decide_eq_true this, decide_eq_false (by simp [z])]; rfl
      · rw [decide_eq_false (c.mpr z), decide_eq_true z]; rfl
    refine ⟨[some (.ref L), some (.str u)], S1 ++ [.lst ((spC 35 [] u).map .str)], by simp [unset], ?_, Pre.app _ _, fun _ => ⟨_, by simp [e_law_many_2], Pre.refl _⟩⟩
    have sp' : sSplit (.str u) [.str t_x12_] S1 = .ok (.ref S1.length) (S1 ++ [.lst ((spC 35 [] u).map .str)]) := sp
    have st' : sStrip (.str x) [.str t_x13_] (S1 ++ [.lst ((spC 35 [] u).map .str)]) = .ok (.str (stripT 32 x)) (S1 ++ [.lst ((spC 35 [] u).map .str)]) := st
    rw [← bk]
    rw [hx] at sp' st' ⊢
    simp only [List.map_cons] at sp' st' ⊢
    simp [c_law_many_1, sp', a0, st', get_len])
  refine ⟨S', ?_, p⟩
  simp [m_law_many, b_law_many, hL]
  rw [e]
  simp [g, cntL]
end Lk15

set_option Elab.async false
set_option linter.all false
set_option maxHeartbeats 1000000
namespace Lk15
open Mi
theorem more_ok {l : List Tx} (L E : Nat) (us : List Tx) (N : Nat) (S : Store) (hL : S[L]? = some (.lst (us.map .str))) (hE : S[E]? = some (.lst [.str w_en])) (h : ∀ u ∈ us, Ln l u) (hn : us.length ≤ 200) (hN : cntL us ≤ N) (hN2 : N ≤ 200) : ∃ (F : Nat) (S' : Store), m_law_more [.ref L, .ref E, .int (N : Nat)] S = .ok (.ref F) S' ∧ Pre S S' ∧ S'[F]? = some (.lst ((us ++ List.replicate (N - cntL us) w_en).map .str)) := by
  obtain ⟨S1, e1, p1⟩ := many_ok L us S hL h (by omega)
  obtain ⟨K, hK⟩ : ∃ K, K = N - cntL us := ⟨_, rfl⟩
  have hE1 := p1.get hE
  obtain ⟨S2, e2, p2, g2⟩ := lc_fil (vs := [3]) (g := gName 3) (t := tYes) (e := e_law_more_1) (fr := [some (.ref L), some (.ref E), some (.int (N : Nat)), none]) (l := rng 0 K) (hs := []) (S := S1) (List.range K) (fun k => .int (0 + (k : Nat))) (fun _ => .str w_en) (fun _ => true) rfl (fun _ h => by cases h) (by rw [List.length_range]; exact Nat.le_trans (show K ≤ 200 by omega) (by decide)) (by
    intro n hn S' pr
    have jn := joins (a := [32]) (ws := [w_en]) (S := S') (p := E) (pr.get hE1) (by decide)
    exact ⟨[some (.ref L), some (.ref E), some (.int (N : Nat)), some (.int (0 + (n : Nat)))], S', by simp [unset], by simp, Pre.refl _, fun _ => ⟨S', by simp [-sJoin_s, e_law_more_1, jn, joinT], Pre.refl _⟩⟩)
  have hf : (List.range K).filter (fun _ => true) = List.range K := by simp
  have hr : ((List.range K).map fun _ => D.str w_en) = (List.replicate K w_en).map .str := by
    rw [List.map_replicate, List.map_const', List.length_range]
  rw [hf, hr] at g2
  have gL2 := p2.get (p1.get hL)
  refine ⟨S2.length, S2 ++ [.lst ((us ++ List.replicate K w_en).map .str)], ?_, (p1.trans p2).trans (Pre.app _ _), by rw [hK]; exact app_new _ _ _⟩
  have mx : bMax [.int ((N : Int) - (cntL us : Nat)), .int 0] S1 = .ok (.int (K : Nat)) S1 := by
    rw [bMax_s]
    split
    · omega
    · congr 2; omega
  have fK : far (K : Int) := by unfold far; omega
  have ll : us.length + K ≤ 16777216 := by omega
  simp only [List.map_replicate] at g2
  simp [-bMax_s, m_law_more, b_law_more, e1, mx, fK]
  rw [e2]
  simp [gL2, g2, ll]
theorem en_ln (l : List Tx) (hl : ∀ t ∈ l, Nm t) : Ln l w_en ∧ rdl w_en ≠ [] := by
  have h : Rdb l .en := ⟨trivial, (fun t z => by cases z), (fun a t z => by cases z)⟩
  have q := row_ln h hl
  exact ⟨q.1, by rw [show w_en = joinT [32] (wrds .en) from rfl, q.2]; exact wrds_ne _⟩
def g3 : Tx := [103, 111, 32, 51]
theorem g3_ln (l : List Tx) (hl : ∀ t ∈ l, Nm t) : Ln l g3 ∧ rdl g3 ≠ [] := by
  have h : Rdb l (.go 3) := ⟨trivial, (fun t z => by cases z; exact ⟨by decide, by decide⟩), (fun a t z => by cases z)⟩
  have q := row_ln h hl
  have e : joinT [32] (wrds (.go 3)) = g3 := by decide +kernel
  rw [e] at q
  exact ⟨q.1, by rw [q.2]; exact wrds_ne _⟩
theorem cnt_rep (K : Nat) (l : List Tx) (hl : ∀ t ∈ l, Nm t) : cntL (List.replicate K w_en) = K := by
  have q := (en_ln l hl).2
  unfold cntL
  rw [List.filter_eq_self.mpr, List.length_replicate]
  intro u hu
  rw [(List.mem_replicate.mp hu).2]
  exact decide_eq_true q
/-- one more line, or two -/
theorem line_turn (m L : Nat) (l us : List Tx) (one : Int) (i : Nat) (S : Store) (c2 x4 x5 : Option D) (hm : S[m]? = some (.lst (l.map .str))) (hl4 : l.length = 4) (hl : ∀ t ∈ l, Nm t) (hL : S[L]? = some (.lst (us.map .str))) (h : ∀ u ∈ us, Ln l u) (hu : us.length ≤ 200) (hmL : m ≠ L) :
    ∃ (vs : List Tx) (S' : Store), turnM (gTup 2 (gCons (gName 4) (gCons (gName 5) gNil))) l_law_1 (.tup [.int (i : Int), .int one]) [some (.ref 0), some (.ref m), c2, some (.ref L), x4, x5, none, none, none, none, none, none] S = .ok (.nx [some (.ref 0), some (.ref m), c2, some (.ref L), some (.int (i : Int)), some (.int one), none, none, none, none, none, none]) S' ∧ (∀ n o, n ≠ L → S[n]? = some o → S'[n]? = some o) ∧ S'[L]? = some (.lst ((us ++ vs).map .str)) ∧ (∀ u ∈ us ++ vs, Ln l u) ∧ vs.length ≤ 2 ∧ cntL vs = 1 := by
  have d6 : divOk 6 := div_ok (by decide) (by decide)
  have fin : ∀ (vs : List Tx) (S1 : Store), (∀ n o, n ≠ L → S[n]? = some o → S1[n]? = some o) → S1[m]? = some (.lst (l.map .str)) → S1[L]? = some (.lst ((us ++ vs).map .str)) → vs.length ≤ 1 → ∃ (r : Row) (S2 : Store), Rdb l r ∧ (sExp (mMt isLst lAppend (mVar 3) (aCons (mMt isStr sJoin (mC (.str t_x13_)) (aCons (mCall m_law_line (aCons (mOp oDiv (mVar 5) (mC (.int 6))) (aCons (mVar 1) aNil))) aNil)) aNil))) [some (.ref 0), some (.ref m), c2, some (.ref L), some (.int (i : Int)), some (.int one), none, none, none, none, none, none] S1 = .ok (.nx [some (.ref 0), some (.ref m), c2, some (.ref L), some (.int (i : Int)), some (.int one), none, none, none, none, none, none]) S2 ∧ (∀ n o, n ≠ L → S[n]? = some o → S2[n]? = some o) ∧ S2[L]? = some (.lst ((us ++ vs ++ [joinT [32] (wrds r)]).map .str)) := by
    intro vs S1 p1 gm gL hv
    obtain ⟨r, W, S2, e2, p2, gW, rd, ne⟩ := lline_ok (one / 6) m S1 l gm hl4 hl
    have gL2 := p2.get gL
    have jn : sJoin (.str t_x13_) [.ref W] S2 = .ok (.str (joinT [32] (wrds r))) S2 := joins30 gW (row_wk rd hl) (by have := wrds_len r; omega)
    have ll : us.length + vs.length < 16777216 := by omega
    refine ⟨r, S2.set L (.lst ((us ++ vs ++ [joinT [32] (wrds r)]).map .str)), rd, ?_, (fun n o hn ho => by rw [set_ne (Ne.symm hn)]; exact p2.get (p1 n o hn ho)), set_get gL2⟩
    simp at gL2 gL
    simp [-sJoin_s, d6, e2, jn, gL, gL2, ll, LINE]
  by_cases w : one % 6 = 5
  · obtain ⟨j, hj, hj4⟩ : ∃ j : Nat, one / 6 % 4 = (j : Int) ∧ j < 4 := ⟨(one / 6 % 4).toNat, by omega, by omega⟩
    have hjl : j < BL.length := hj4
    have ej : atI (BL.map D.str) (one / 6 % 4) = some (.str BL[j]) := by
      rw [hj]
      exact at_of (by rw [List.getElem?_map, List.getElem?_eq_getElem hjl]; rfl)
    have hb := bl_ln l (List.getElem_mem hjl)
    generalize BL[j] = b at *
    obtain ⟨S1, hS1⟩ : ∃ S1 : Store, S1 = (S ++ [O.lst (BL.map D.str)]).set L (.lst ((us ++ [b]).map .str)) := ⟨_, rfl⟩
    have gLa := app_get (G := [O.lst (BL.map D.str)]) hL
    have gL1 : S1[L]? = some (.lst ((us ++ [b]).map .str)) := by rw [hS1]; exact set_get gLa
    have p1 : ∀ n o, n ≠ L → S[n]? = some o → S1[n]? = some o := fun n o hn ho => by rw [hS1, set_ne (Ne.symm hn)]; exact app_get ho
    have gm1 : S1[m]? = some (.lst (l.map .str)) := by exact p1 m _ hmL hm
    obtain ⟨r, S2, rd, e2, p2, g2⟩ := fin [b] S1 p1 gm1 gL1 (by simp)
    have rl := row_ln rd hl
    refine ⟨[b, joinT [32] (wrds r)], S2, ?_, p2, by rw [g2]; simp, fun u hu => ?_, by simp, ?_⟩
    · have ul : us.length < 16777216 := by omega
      simp only [BL, List.map_cons, List.map_nil] at ej hS1 gLa
      simp at hS1
      have hS1' := hS1.symm
      simp at e2
      simp [-sJoin_s, turnM_s, l_law_1, w, d6, LINE, ej, hL, gLa, get_len, ul]
      rw [hS1']
      exact e2
    · rcases List.mem_append.mp hu with z | z
      · exact h u z
      · simp only [List.mem_cons, List.not_mem_nil, or_false] at z
        rcases z with rfl | rfl
        · exact hb.1
        · exact rl.1
    · have n1 : rdl (joinT [32] (wrds r)) ≠ [] := by rw [rl.2]; exact wrds_ne r
      unfold cntL
      rw [List.filter_cons, List.filter_cons]
      simp [hb.2, n1]
  · obtain ⟨r, S2, rd, e2, p2, g2⟩ := fin [] S (fun _ _ _ h => h) hm (by rw [List.append_nil]; exact hL) (by simp)
    have rl := row_ln rd hl
    refine ⟨[joinT [32] (wrds r)], S2, ?_, p2, by rw [g2]; simp, fun u hu => ?_, by simp, ?_⟩
    · simp at e2
      simp [-sJoin_s, turnM_s, l_law_1, w, d6]
      exact e2
    · rcases List.mem_append.mp hu with z | z
      · exact h u z
      · rw [List.mem_singleton.mp z]; exact rl.1
    · have n1 : rdl (joinT [32] (wrds r)) ≠ [] := by rw [rl.2]; exact wrds_ne r
      unfold cntL
      rw [List.filter_cons]
      simp [n1]
end Lk15

set_option Elab.async false
set_option linter.all false
set_option maxHeartbeats 1000000
namespace Lk15
open Mi
def EL : List Tx := [[], [32], [35, 120, 32, 61, 32, 51], [32, 32, 35, 32, 101, 110, 100]]
theorem el_ok : ∀ j : Nat, j < 5 → ((spC 10 [] (joinT [10] (EL.take j))).all fun u => decide (rdl u = [])) = true ∧ (joinT [10] (EL.take j)).length ≤ 1000 := by decide +kernel
theorem joinsL {S : Store} {p : Nat} {ws : List Tx} (g : S[p]? = some (.lst (ws.map .str))) (h : ∀ w ∈ ws, w.length ≤ 400) (hl : ws.length ≤ 1000) : sJoin (.str [10]) [.ref p] S = .ok (.str (joinT [10] ws)) S := joins g (by
  have h1 := sum_le (ws := ws) (n := 400) h
  show _ ≤ 16777216
  simp only [List.length_singleton]
  omega)
theorem law_pure (ns : List Int) (hn : ns.length ≤ 63) : ∃ S, m_law [.ref 0] [.fls (ns.map .int)] = .ok (.bl true) S := by
  obtain ⟨S0, e0⟩ : ∃ S : Store, S = [.fls (ns.map .int)] := ⟨_, rfl⟩
  have s00 : S0[0]? = some (.fls (ns.map .int)) := by rw [e0]; rfl
  rw [← e0]
  obtain ⟨v0, c0⟩ := cell_ok s00 0
  obtain ⟨l, m, S1, en, p1, hm, gm, hl4, hnm⟩ := names_ok v0 4 S0 (by decide)
  have s10 := p1.get s00
  obtain ⟨c, c1⟩ := cell_ok s10 1
  obtain ⟨cs, hcs⟩ : ∃ cs, cs = cut ns (some 3) (some 59) := ⟨_, rfl⟩
  have hcl : cs.length ≤ 56 := by
    rw [hcs]
    unfold cut
    rw [List.length_take]
    simp [sIx]
    omega
  have cm : cut (ns.map D.int) (some 3) (some 59) = cs.map .int := by rw [hcs, cut_map]
  obtain ⟨S2, hS2⟩ : ∃ S2 : Store, S2 = S1 ++ [.lst [], .lst (cs.map .int)] := ⟨_, rfl⟩
  have p2 : Pre S1 S2 := by rw [hS2]; exact Pre.app _ _
  have gL2 : S2[S1.length]? = some (.lst []) := by rw [hS2]; exact app_new _ _ _
  have gC2 : S2[S1.length + 1]? = some (.lst (cs.map .int)) := by rw [hS2]; simp [get_app]
  have s20 := p2.get s10
  have gm2 := p2.get gm
  have hmL : m < S1.length := Pre.lt (S' := S1) gm
  have key := loop_inv (hs := [(S1.length + 1, cs.map D.int)]) (turn := turnM (gTup 2 (gCons (gName 4) (gCons (gName 5) gNil))) l_law_1)
    (fun i fr S' => ∃ (x4 x5 : Option D) (us : List Tx), fr = [some (.ref 0), some (.ref m), some (.int c), some (.ref S1.length), x4, x5, none, none, none, none, none, none] ∧ S'[0]? = some (.fls (ns.map .int)) ∧ S'[m]? = some (.lst (l.map .str)) ∧ S'[S1.length + 1]? = some (.lst (cs.map .int)) ∧ S'[S1.length]? = some (.lst (us.map .str)) ∧ (∀ u ∈ us, Ln l u) ∧ us.length ≤ 2 * i ∧ cntL us = i)
    (prs 0 (cs.map D.int)) 0 [some (.ref 0), some (.ref m), some (.int c), some (.ref S1.length), none, none, none, none, none, none, none, none] S2
    ⟨none, none, [], rfl, s20, gm2, gC2, gL2, (fun u h => by cases h), by simp, rfl⟩
    (by
      rintro i fr S' ⟨x4, x5, us, rfl, _, _, g, _⟩
      exact stands_one (lst_of g))
    (by
      rintro i d fr S' hd ⟨x4, x5, us, rfl, g0, gm', gc, gL, hu, hul, hcn⟩
      rw [prs_get, List.getElem?_map, Option.map_map] at hd
      obtain ⟨one, ho, rfl⟩ := Option.map_eq_some_iff.mp hd
      have hi := (List.getElem?_eq_some_iff.mp ho).1
      rw [show 0 + i = i by omega] at *
      obtain ⟨vs, S4, e4, k4, g4, hv, vl, vc⟩ := line_turn m S1.length l us one i S' (some (.int c)) x4 x5 gm' hl4 hnm gL hu (by omega) (by omega)
      exact ⟨_, S4, .inl e4, _, _, us ++ vs, rfl, k4 0 _ (by omega) g0, k4 m _ (by omega) gm', k4 _ _ (by omega) gc, g4, hv, by rw [List.length_append]; omega, by rw [cnt_app]; omega⟩)
  obtain ⟨fr', S3, e3, x4, x5, us, rfl, s30, gm3, _, gL3, hus, husl, hcnt⟩ := key
  rw [prs_len, List.length_map, Nat.zero_add] at husl hcnt
  have ul : us.length ≤ 112 := by omega
  obtain ⟨d, hd, hd100⟩ : ∃ d : Nat, c % 100 = (d : Int) ∧ d < 100 := ⟨(c % 100).toNat, by omega, by omega⟩
  obtain ⟨S4, hS4⟩ : ∃ S4 : Store, S4 = S3 ++ [.lst [.str w_en]] := ⟨_, rfl⟩
  have p4 : Pre S3 S4 := by rw [hS4]; exact Pre.app _ _
  have gE4 : S4[S3.length]? = some (.lst [.str w_en]) := by rw [hS4]; exact app_new _ _ _
  obtain ⟨F, S5, e5, p5, gF5⟩ := more_ok S1.length S3.length us (60 + d) S4 (p4.get gL3) gE4 hus (by omega) (by omega) (by omega)
  rw [show ((60 + d : Nat) : Int) = 60 + (d : Int) by omega] at e5
  obtain ⟨full, hfull⟩ : ∃ full, full = us ++ List.replicate (60 + d - cntL us) w_en := ⟨_, rfl⟩
  rw [← hfull] at gF5
  have fl : full.length ≤ 280 := by rw [hfull, List.length_append, List.length_replicate]; omega
  obtain ⟨ov, hov⟩ : ∃ ov, ov = full ++ [g3] := ⟨_, rfl⟩
  have ovl : ov.length ≤ 281 := by rw [hov, List.length_append, List.length_singleton]; omega
  have hovs : ∀ u ∈ ov, Ln l u := fun u hu => by
    rw [hov, hfull] at hu
    rcases List.mem_append.mp hu with z | z
    · rcases List.mem_append.mp z with z | z
      · exact hus u z
      · rw [(List.mem_replicate.mp z).2]; exact (en_ln l hnm).1
    · rw [List.mem_singleton.mp z]; exact (g3_ln l hnm).1
  have ovc : cntL ov = 61 + d := by
    have q := (g3_ln l hnm).2
    have q2 : cntL [g3] = 1 := by unfold cntL; rw [List.filter_cons]; simp [q]
    rw [hov, hfull, cnt_app, cnt_app, cnt_rep _ l hnm, q2]
    omega
  obtain ⟨S6, hS6⟩ : ∃ S6 : Store, S6 = S5 ++ [.lst [.str g3], .lst (ov.map .str)] := ⟨_, rfl⟩
  have p6 : Pre S5 S6 := by rw [hS6]; exact Pre.app _ _
  have gO6 : S6[S5.length + 1]? = some (.lst (ov.map .str)) := by rw [hS6]; simp [get_app]
  have p36 : Pre S3 S6 := (p4.trans p5).trans p6
  obtain ⟨v2, c2⟩ := cell_ok (p36.get s30) 2
  obtain ⟨t, S7, e7, p7, hbad⟩ := none_ok v2 m S6 l (p36.get gm3) hl4 hnm
  have gL7 := p7.get (p36.get gL3)
  have gO7 := p7.get gO6
  obtain ⟨k, hk, hkl⟩ : ∃ k : Nat, c / 4 % ((us.length : Int) + 1) = (k : Int) ∧ k ≤ us.length := by
    have h1 := Int.emod_nonneg (c / 4) (show ((us.length : Int) + 1) ≠ 0 by omega)
    have h2 := Int.emod_lt_of_pos (c / 4) (show (0 : Int) < (us.length : Int) + 1 by omega)
    exact ⟨(c / 4 % ((us.length : Int) + 1)).toNat, by omega, by omega⟩
  obtain ⟨j, hj, hj5⟩ : ∃ j : Nat, c / 4 % 5 = (j : Int) ∧ j < 5 := ⟨(c / 4 % 5).toNat, by omega, by omega⟩
  have uo : us.length ≤ ov.length := by rw [hov, hfull, List.length_append, List.length_append]; omega
  have tk1 : (us.take k).length = k := by rw [List.length_take]; omega
  have mk : min k us.length = k := Nat.min_eq_left hkl
  have htk : ∀ u ∈ us.take k, Ln l u := fun u h => hus u (List.mem_of_mem_take h)
  have ln400 : ∀ u, Ln l u → 10 ∉ u ∧ u.length ≤ 400 := fun u h => ⟨h.n, Nat.le_trans h.len (by decide)⟩
  have ch : ∀ {P : Store → Store → Prop}, (∀ S, ∃ S', P S S') → ∃ f : Store → Store, ∀ S, P S (f S) := fun h => ⟨fun S => (h S).choose, fun S => (h S).choose_spec⟩
  -- the texts
  obtain ⟨T1, hT1⟩ : ∃ T, T = joinT [10] (us.take k ++ [t] ++ us.drop k) := ⟨_, rfl⟩
  obtain ⟨T2, hT2⟩ : ∃ T, T = joinT [10] (EL.take j) := ⟨_, rfl⟩
  obtain ⟨T3, hT3⟩ : ∃ T, T = joinT [10] ov := ⟨_, rfl⟩
  obtain ⟨T4, hT4⟩ : ∃ T, T = joinT [10] (ov ++ [t]) := ⟨_, rfl⟩
  obtain ⟨T5, hT5⟩ : ∃ T, T = joinT [10] (us.take k ++ [t] ++ ov.drop k ++ [t]) := ⟨_, rfl⟩
  obtain ⟨T6, hT6⟩ : ∃ T, T = joinT [10] us := ⟨_, rfl⟩
  obtain ⟨F1, r1⟩ := ch (P := fun S S' => m_law_refused [.str T1, .int (k : Int)] S = .ok (.bl true) S' ∧ Pre S S') (fun S => by
    obtain ⟨S', e, p⟩ := read_lines_bad (us.take k) (us.drop k) t S htk hbad (fun u h => ln400 u (hus u (List.mem_of_mem_drop h))) hnm (by simp; omega)
    rw [tk1, ← hT1] at e
    exact refused_ok T1 k S S' e p)
  obtain ⟨F2, r2⟩ := ch (P := fun S S' => m_law_refused [.str T2, .int 0] S = .ok (.bl true) S' ∧ Pre S S') (fun S => by
    obtain ⟨q1, q2⟩ := el_ok j hj5
    obtain ⟨S', e, p⟩ := read_empty (joinT [10] (EL.take j)) l S (fun v hv => of_decide_eq_true (List.all_eq_true.mp q1 v hv)) hnm (by omega)
    rw [← hT2] at e
    exact refused_ok T2 0 S S' e p)
  have rd3 : ∀ S, ∃ (S' : Store) (xs : List D), m_read [.str T3] S = .ok (.ref S.length) S' ∧ Pre S S' ∧ S'[S.length]? = some (.lst xs) ∧ xs.length = 61 + d := fun S => by
    obtain ⟨xs, S', e, p, g, hx⟩ := read_lines ov S hovs hnm (by omega) (by omega)
    rw [← hT3] at e
    exact ⟨S', xs, e, p, g, by rw [hx, ovc]⟩
  obtain ⟨F3, X3, r3⟩ : ∃ (F3 : Store → Store) (X3 : Store → List D), ∀ S, m_read [.str T3] S = .ok (.ref S.length) (F3 S) ∧ Pre S (F3 S) ∧ (F3 S)[S.length]? = some (.lst (X3 S)) ∧ (X3 S).length = 61 + d := ⟨fun S => (rd3 S).choose, fun S => (rd3 S).choose_spec.choose, fun S => (rd3 S).choose_spec.choose_spec⟩
  obtain ⟨F4, r4⟩ := ch (P := fun S S' => m_law_refused [.str T4, .int (ov.length : Int)] S = .ok (.bl true) S' ∧ Pre S S') (fun S => by
    obtain ⟨S', e, p⟩ := read_lines_bad ov [] t S hovs hbad (fun u h => by cases h) hnm (by simp; omega)
    rw [List.append_nil, ← hT4] at e
    exact refused_ok T4 ov.length S S' e p)
  obtain ⟨F5, r5⟩ := ch (P := fun S S' => m_law_refused [.str T5, .int (k : Int)] S = .ok (.bl true) S' ∧ Pre S S') (fun S => by
    obtain ⟨S', e, p⟩ := read_lines_bad (us.take k) (ov.drop k ++ [t]) t S htk hbad (fun u h => by
      rcases List.mem_append.mp h with z | z
      · exact ln400 u (hovs u (List.mem_of_mem_drop z))
      · rw [List.mem_singleton.mp z]; exact ⟨hbad.n, hbad.len⟩) hnm (by simp; omega)
    rw [tk1, ← List.append_assoc, ← hT5] at e
    exact refused_ok T5 k S S' e p)
  -- what stands, stands on
  have e1 := fun S => (r1 S).1
  have e2 := fun S => (r2 S).1
  have e3' := fun S => (r3 S).1
  have e4 := fun S => (r4 S).1
  have e5' := fun S => (r5 S).1
  have g3' := fun S => (r3 S).2.2.1
  have l3 := fun S => (r3 S).2.2.2
  have c0' : m_law_cell [.ref 0, .int 0] S0 = .ok (.int v0) S0 := c0
  have c1' : m_law_cell [.ref 0, .int 1] S1 = .ok (.int c) S1 := c1
  have c2' : m_law_cell [.ref 0, .int 2] S6 = .ok (.int v2) S6 := c2
  have en' : m_law_names [.int v0, .int 4] S0 = .ok (.ref m) S1 := en
  have d4 : divOk 4 := div_ok (by decide) (by decide)
  obtain ⟨Sx, eSx⟩ : ∃ Sx : Store, S1 ++ [O.lst []] = Sx := ⟨_, rfl⟩
  have s0x : Sx[0]? = some (.fls (ns.map D.int)) := by rw [← eSx]; exact app_get s10
  have eS2 : Sx ++ [O.lst (cs.map .int)] = S2 := by rw [← eSx, hS2]; simp
  have lSx : Sx.length = S1.length + 1 := by rw [← eSx]; simp
  have eS4 : S3 ++ [O.lst [.str w_en]] = S4 := hS4.symm
  have eS6 : S5 ++ [O.lst [.str g3], .lst (ov.map .str)] = S6 := hS6.symm
  have gFa : ∀ G, (S5 ++ G)[F]? = some (.lst (full.map D.str)) := fun G => app_get gF5
  have gLa : ∀ G, (S7 ++ G)[S1.length]? = some (.lst (us.map D.str)) := fun G => app_get gL7
  have fl1 : full.length + 1 ≤ 16777216 := by omega
  have c1r : cut (us.map D.str) none (some (k : Int)) = (us.take k).map D.str := by rw [cut_to _ _ (by rw [List.length_map]; omega), List.map_take]
  have c2r : cut (us.map D.str) (some (k : Int)) none = (us.drop k).map D.str := by rw [cut_from _ _ (by rw [List.length_map]; omega), List.map_drop]
  have c3r : cut (ov.map D.str) (some (k : Int)) none = (ov.drop k).map D.str := by rw [cut_from _ _ (by rw [List.length_map]; omega), List.map_drop]
  have c4r : cut (EL.map D.str) none (some (j : Int)) = (EL.take j).map D.str := by rw [cut_to _ _ (by rw [List.length_map]; show j ≤ 4; omega), List.map_take]
  have lp : (0 : Int) < (us.length : Int) + 1 := by omega
  rw [hov, List.map_append] at eS6
  simp only [g3, List.map_cons, List.map_nil] at eS6
  rw [← lSx] at e3 gC2
  have c4 : cut [D.str [], .str [32], .str [35, 120, 32, 61, 32, 51], .str [32, 32, 35, 32, 101, 110, 100]] none (some (j : Int)) = (EL.take j).map D.str := c4r
  have kk1 : k ≤ 16777215 := by omega
  have kk2 : k + (1 + (us.length - k)) ≤ 16777216 := by omega
  have kk3 : k + 1 + (us.length - k) ≤ 16777216 := by omega
  have kk4 : k + (1 + (ov.length - k)) ≤ 16777216 := by omega
  have kk5 : k + 1 + (ov.length - k) ≤ 16777216 := by omega
  have kk6 : k + (1 + (ov.length - k)) ≤ 16777215 := by omega
  have kk7 : k + 1 + (ov.length - k) ≤ 16777215 := by omega
  have ov1 : ov.length ≤ 16777215 := by omega
  have kk8 : k + (ov.length - k + 1) ≤ 16777215 := by omega
  have L : ∀ (G : Store → Store), (∀ S, Pre S (G S)) → ∀ S, S[S1.length]? = some (.lst (us.map D.str)) → (G S)[S1.length]? = some (.lst (us.map D.str)) := fun G h S g => (h S).get g
  have O' : ∀ (G : Store → Store), (∀ S, Pre S (G S)) → ∀ S, S[S5.length + 1]? = some (.lst (ov.map D.str)) → (G S)[S5.length + 1]? = some (.lst (ov.map D.str)) := fun G h S g => (h S).get g
  have la : ∀ (S H : Store), S[S1.length]? = some (.lst (us.map D.str)) → (S ++ H)[S1.length]? = some (.lst (us.map D.str)) := fun S H g => app_get g
  have oa : ∀ (S H : Store), S[S5.length + 1]? = some (.lst (ov.map D.str)) → (S ++ H)[S5.length + 1]? = some (.lst (ov.map D.str)) := fun S H g => app_get g
  have l1 := L F1 fun S => (r1 S).2
  have l2 := L F2 fun S => (r2 S).2
  have l3' := L F3 fun S => (r3 S).2.1
  have l4 := L F4 fun S => (r4 S).2
  have l5 := L F5 fun S => (r5 S).2
  have o1 := O' F1 fun S => (r1 S).2
  have o2 := O' F2 fun S => (r2 S).2
  have o3 := O' F3 fun S => (r3 S).2.1
  have o4 := O' F4 fun S => (r4 S).2
  have o5 := O' F5 fun S => (r5 S).2
  have len1 : ∀ w ∈ us.take k ++ [t] ++ us.drop k, w.length ≤ 400 := fun w hw => by
    rcases List.mem_append.mp hw with z | z
    · rcases List.mem_append.mp z with z | z
      · exact (ln400 w (htk w z)).2
      · rw [List.mem_singleton.mp z]; exact hbad.len
    · exact (ln400 w (hus w (List.mem_of_mem_drop z))).2
  have len2 : ∀ w ∈ EL.take j, w.length ≤ 400 := fun w hw => by
    have : ∀ w ∈ EL, w.length ≤ 400 := by decide
    exact this w (List.mem_of_mem_take hw)
  have len3 : ∀ w ∈ ov, w.length ≤ 400 := fun w hw => (ln400 w (hovs w hw)).2
  have len4 : ∀ w ∈ ov ++ [t], w.length ≤ 400 := fun w hw => by
    rcases List.mem_append.mp hw with z | z
    · exact len3 w z
    · rw [List.mem_singleton.mp z]; exact hbad.len
  have len5 : ∀ w ∈ us.take k ++ [t] ++ ov.drop k ++ [t], w.length ≤ 400 := fun w hw => by
    rcases List.mem_append.mp hw with z | z
    · rcases List.mem_append.mp z with z | z
      · rcases List.mem_append.mp z with z | z
        · exact (ln400 w (htk w z)).2
        · rw [List.mem_singleton.mp z]; exact hbad.len
      · exact len3 w (List.mem_of_mem_drop z)
    · rw [List.mem_singleton.mp z]; exact hbad.len
  have len6 : ∀ w ∈ us, w.length ≤ 400 := fun w hw => (ln400 w (hus w hw)).2
  have mq : ∀ (g : Fn) (ds : List D) (S : Store), mQt g ds S = quiet (g ds S) := fun _ _ _ => rfl
  simp [-sJoin_s, m_law, b_law, c0', en', c1', cm, eSx, s0x, LINE, eS2, gC2]
  rw [e3]
  simp [-sJoin_s, LINE, hd, eS4, e5, gF5, gFa, get_len, fl1, eS6, c2', e7, d4, gL7, gLa, lp, hk]
  simp [-sJoin_s, LINE, c1r, c2r, mk, gLa, get_len, kk1, kk2, kk3]
  rw [joinsL (ws := us.take k ++ [t] ++ us.drop k) (by simp [get_app]) len1 (by simp; omega), ← hT1]
  simp [-sJoin_s, LINE, d4, hj, c4, get_len]
  rw [joinsL (ws := EL.take j) (by simp [get_app]) len2 (by simp; omega), ← hT2]
  simp [-sJoin_s, LINE, e1, e2]
  rw [joinsL (ws := ov) (o2 _ (o1 _ (oa _ _ gO7))) len3 (by omega), ← hT3]
  simp (maxDischargeDepth := 30) [-sJoin_s, mq, e3', g3', l3, hd, o1, o2, o3, oa, gO7, get_len, ov1, LINE]
  rw [joinsL (ws := ov ++ [t]) (by simp [get_app]) len4 (by simp; omega), ← hT4]
  simp (maxDischargeDepth := 30) [-sJoin_s, e4, o1, o2, o3, o4, oa, la, l1, l2, l3', l4, gO7, gL7, get_len, c1r, c2r, c3r, mk, kk1, kk2, kk3, kk4, kk5, kk6, kk7, kk8, LINE]
  rw [joinsL (ws := us.take k ++ [t] ++ ov.drop k ++ [t]) (by simp [get_app]) len5 (by simp; omega), ← hT5]
  simp (maxDischargeDepth := 30) [-sJoin_s, e5', o1, o2, o3, o4, o5, oa, la, l1, l2, l3', l4, l5, gO7, gL7, get_len, LINE]
  by_cases hu0 : us = []
  · have u0 : us.length = 0 := by rw [hu0]; rfl
    simp (maxDischargeDepth := 30) [-sJoin_s, u0, hu0, e1]
  · have up : 0 < us.length := List.length_pos_iff.mpr hu0
    have cp : 0 < cntL us := by omega
    have rd6 : ∀ S, ∃ (S' : Store) (xs : List D), m_read [.str T6] S = .ok (.ref S.length) S' ∧ Pre S S' ∧ S'[S.length]? = some (.lst xs) ∧ xs.length = cntL us := fun S => by
      obtain ⟨xs, S', e, p, g, hx⟩ := read_lines us S hus hnm (by omega) cp
      rw [← hT6] at e
      exact ⟨S', xs, e, p, g, hx⟩
    obtain ⟨F6, X6, r6⟩ : ∃ (F6 : Store → Store) (X6 : Store → List D), ∀ S, m_read [.str T6] S = .ok (.ref S.length) (F6 S) ∧ Pre S (F6 S) ∧ (F6 S)[S.length]? = some (.lst (X6 S)) ∧ (X6 S).length = cntL us := ⟨fun S => (rd6 S).choose, fun S => (rd6 S).choose_spec.choose, fun S => (rd6 S).choose_spec.choose_spec⟩
    have e6 := fun S => (r6 S).1
    have g6 := fun S => (r6 S).2.2.1
    have n6 := fun S => (r6 S).2.2.2
    have l6 := L F6 fun S => (r6 S).2.1
    obtain ⟨F7, r7⟩ := ch (P := fun S S' => S[S1.length]? = some (.lst (us.map D.str)) → m_law_many [.ref S1.length] S = .ok (.int (cntL us : Nat)) S' ∧ Pre S S') (fun S => by
      by_cases g : S[S1.length]? = some (.lst (us.map D.str))
      · obtain ⟨S', e, p⟩ := many_ok S1.length us S g hus (by omega)
        exact ⟨S', fun _ => ⟨e, p⟩⟩
      · exact ⟨S, fun z => absurd z g⟩)
    have e7 := fun S g => (r7 S g).1
    simp (maxDischargeDepth := 30) [-sJoin_s, up, hu0]
    rw [joinsL (ws := us) (l5 _ (la _ _ (l4 _ (la _ _ (l3' _ (l2 _ (l1 _ (la _ _ gL7)))))))) len6 (by omega), ← hT6]
    simp (maxDischargeDepth := 30) [-sJoin_s, mq, e6, g6, n6, e7, e1, l1, l2, l3', l4, l5, l6, la, gL7]
end Lk15

set_option Elab.async false
set_option linter.all false
set_option maxRecDepth 100000
set_option maxHeartbeats 4000000
/-! that the text is these steps (printed by gen.py) -/
namespace Lk15
open PySem PySem.Spec PyProof.Rows L2 Mi Sm
def topS (i : Nat) : Stmt := PySem.Challenge.pw_lazyhoist_k15_texts_refused.main.body.getD i (.Pass ⟨0, 0, 0, 0⟩)
theorem q_x0_abcdefghijkl : ("abcdefghijklmnopqrstuvwxyz" : Str) = sOf t_x0_abcdefghijkl := by decide +kernel
theorem q_x1_0123456789 : ("0123456789" : Str) = sOf t_x1_0123456789 := by decide +kernel
theorem q_x2_ : ("" : Str) = sOf t_x2_ := by decide +kernel
theorem q_x3_0 : ("0" : Str) = sOf t_x3_0 := by decide +kernel
theorem q_copy : ("copy" : Str) = sOf t_copy := by decide +kernel
theorem q_reckon : ("reckon" : Str) = sOf t_reckon := by decide +kernel
theorem q_end : ("end" : Str) = sOf t_end := by decide +kernel
theorem q_say : ("say" : Str) = sOf t_say := by decide +kernel
theorem q_go : ("go" : Str) = sOf t_go := by decide +kernel
theorem q_part : ("part" : Str) = sOf t_part := by decide +kernel
theorem q_x10_ : ("=" : Str) = sOf t_x10_ := by decide +kernel
theorem q_x11_ : ("\n" : Str) = sOf t_x11_ := by decide +kernel
theorem q_x12_ : ("#" : Str) = sOf t_x12_ := by decide +kernel
theorem q_x13_ : (" " : Str) = sOf t_x13_ := by decide +kernel
theorem q_line : ("line" : Str) = sOf t_line := by decide +kernel
theorem q_x15_abcdefghijkl : ("abcdefghijklmnopqrstuvwxyz0123456789" : Str) = sOf t_x15_abcdefghijkl := by decide +kernel
theorem q_x16_ : ("+-*&|^<=" : Str) = sOf t_x16_ := by decide +kernel
theorem q_x17_0 : ("-0" : Str) = sOf t_x17_0 := by decide +kernel
theorem q_x18_01 : ("01" : Str) = sOf t_x18_01 := by decide +kernel
theorem q_x19_10 : ("1_0" : Str) = sOf t_x19_10 := by decide +kernel
theorem q_x20_1 : ("+1" : Str) = sOf t_x20_1 := by decide +kernel
theorem q_x21_1e3 : ("1e3" : Str) = sOf t_x21_1e3 := by decide +kernel
theorem q_x22_x : ("x." : Str) = sOf t_x22_x := by decide +kernel
theorem q_x23_ab : ("a_b" : Str) = sOf t_x23_ab := by decide +kernel
theorem q_x24_ : ("+" : Str) = sOf t_x24_ := by decide +kernel
theorem q_x25_1 : ("-1" : Str) = sOf t_x25_1 := by decide +kernel
theorem q_x26_007 : ("007" : Str) = sOf t_x26_007 := by decide +kernel
theorem q_abcdefghi : ("abcdefghi" : Str) = sOf t_abcdefghi := by decide +kernel
theorem q_x28_9a : ("9a" : Str) = sOf t_x28_9a := by decide +kernel
theorem q_x29_a : ("A" : Str) = sOf t_x29_a := by decide +kernel
theorem q_x30_go12 : ("go 1 2" : Str) = sOf t_x30_go12 := by decide +kernel
theorem q_x31_gox : ("go x" : Str) = sOf t_x31_gox := by decide +kernel
theorem q_x32_sayxy : ("say x y" : Str) = sOf t_x32_sayxy := by decide +kernel
theorem q_x33_x3 : ("x == 3" : Str) = sOf t_x33_x3 := by decide +kernel
theorem q_x34_x34 : ("x = 3 4" : Str) = sOf t_x34_x34 := by decide +kernel
theorem q_x35_x3 : ("x = + 3" : Str) = sOf t_x35_x3 := by decide +kernel
theorem q_x36_x3 : ("x = 3 +" : Str) = sOf t_x36_x3 := by decide +kernel
theorem q_x37_3 : ("= 3" : Str) = sOf t_x37_3 := by decide +kernel
theorem q_x38_x : ("x =" : Str) = sOf t_x38_x := by decide +kernel
theorem q_x : ("x" : Str) = sOf t_x := by decide +kernel
theorem q_x40_go1 : ("go -1" : Str) = sOf t_x40_go1 := by decide +kernel
theorem q_x41_partx12 : ("part x 1 2" : Str) = sOf t_x41_partx12 := by decide +kernel
theorem q_x42_go01 : ("go 01" : Str) = sOf t_x42_go01 := by decide +kernel
theorem q_x43_xyz : ("x = y > z" : Str) = sOf t_x43_xyz := by decide +kernel
theorem q_x44_say3 : ("say = 3" : Str) = sOf t_x44_say3 := by decide +kernel
theorem q_x45_x3 : ("x=3" : Str) = sOf t_x45_x3 := by decide +kernel
theorem q_x46_end : ("End" : Str) = sOf t_x46_end := by decide +kernel
theorem q_x47_end0 : ("end 0" : Str) = sOf t_x47_end0 := by decide +kernel
theorem q_x48_partxy : ("part x y" : Str) = sOf t_x48_partxy := by decide +kernel
theorem q_x49_part1 : ("part 1" : Str) = sOf t_x49_part1 := by decide +kernel
theorem q_x50_ : ("!" : Str) = sOf t_x50_ := by decide +kernel
theorem q_x51_x1 : ("x = +1" : Str) = sOf t_x51_x1 := by decide +kernel
theorem q_x52_say0 : ("say -0" : Str) = sOf t_x52_say0 := by decide +kernel
theorem q_x53_partx01 : ("part x 01" : Str) = sOf t_x53_partx01 := by decide +kernel
theorem q_x54_go10 : ("go 1_0" : Str) = sOf t_x54_go10 := by decide +kernel
theorem q_x55_go1 : ("go +1" : Str) = sOf t_x55_go1 := by decide +kernel
theorem q_x56_x34 : ("x = 3 + + 4" : Str) = sOf t_x56_x34 := by decide +kernel
theorem q_x57_x34 : ("x = 3 *| 4" : Str) = sOf t_x57_x34 := by decide +kernel
theorem q_x58_x34 : ("x = 3 +- 4" : Str) = sOf t_x58_x34 := by decide +kernel
theorem q_x59_g3 : ("g 3" : Str) = sOf t_x59_g3 := by decide +kernel
theorem q_x60_endend : ("end end" : Str) = sOf t_x60_endend := by decide +kernel
theorem q_x61_x34 : ("x = 3, 4" : Str) = sOf t_x61_x34 := by decide +kernel
theorem q_x62_partx3 : ("part x, 3" : Str) = sOf t_x62_partx3 := by decide +kernel
theorem q_x63_saysay3 : ("saysay 3" : Str) = sOf t_x63_saysay3 := by decide +kernel
theorem q_x64_sa3 : ("sa 3" : Str) = sOf t_x64_sa3 := by decide +kernel
theorem q_x65_7 : ("   # 7" : Str) = sOf t_x65_7 := by decide +kernel
theorem q_x66_xy : ("# x = = y" : Str) = sOf t_x66_xy := by decide +kernel
theorem q_x67_ : ("  " : Str) = sOf t_x67_ := by decide +kernel
theorem q_x68_go3 : ("go 3" : Str) = sOf t_x68_go3 := by decide +kernel
theorem q_x69_end : ("  # end" : Str) = sOf t_x69_end := by decide +kernel
theorem q_x70_x3 : ("#x = 3" : Str) = sOf t_x70_x3 := by decide +kernel
theorem q_x71_ : ("-" : Str) = sOf t_x71_ := by decide +kernel
theorem q_x72_ : ("*" : Str) = sOf t_x72_ := by decide +kernel
theorem q_x73_ : ("&" : Str) = sOf t_x73_ := by decide +kernel
theorem q_x74_ : ("|" : Str) = sOf t_x74_ := by decide +kernel
theorem q_x75_ : ("^" : Str) = sOf t_x75_ := by decide +kernel
theorem q_x76_ : ("<" : Str) = sOf t_x76_ := by decide +kernel
abbrev s_law_cell : Stmt := topS 21
abbrev n_law_cell : List Str := ["_law_script", "_law_k", "_law_many_here"]
theorem sc_law_cell : FnScope n_law_cell ["_law_script", "_law_k"] (defScope s_law_cell) := ⟨rfl, rfl, rfl, by decide +kernel, rfl, by decide +kernel, by decide +kernel⟩
abbrev s_law_digits : Stmt := topS 23
abbrev n_law_digits : List Str := ["_law_cell_here", "_law_sizes", "_law_number", "_law_found", "_law_size"]
theorem sc_law_digits : FnScope n_law_digits ["_law_cell_here", "_law_sizes"] (defScope s_law_digits) := ⟨rfl, rfl, rfl, by decide +kernel, rfl, by decide +kernel, by decide +kernel⟩
abbrev s_law_operand : Stmt := topS 24
abbrev n_law_operand : List Str := ["_law_digit", "_law_cell_here", "_law_names_here"]
theorem sc_law_operand : FnScope n_law_operand ["_law_digit", "_law_cell_here", "_law_names_here"] (defScope s_law_operand) := ⟨rfl, rfl, rfl, by decide +kernel, rfl, by decide +kernel, by decide +kernel⟩
abbrev s_law_line : Stmt := topS 25
abbrev n_law_line : List Str := ["_law_cell_here", "_law_names_here", "_law_wide", "_law_kind", "_law_x", "_law_s", "_law_one", "_law_other", "_law_words"]
theorem sc_law_line : FnScope n_law_line ["_law_cell_here", "_law_names_here"] (defScope s_law_line) := ⟨rfl, rfl, rfl, by decide +kernel, rfl, by decide +kernel, by decide +kernel⟩
abbrev s_law_many : Stmt := topS 29
abbrev n_law_many : List Str := ["_law_lines", "_law_line_here"]
theorem sc_law_many : FnScope n_law_many ["_law_lines"] (defScope s_law_many) := ⟨rfl, rfl, rfl, by decide +kernel, rfl, by decide +kernel, by decide +kernel⟩
abbrev s_law_more : Stmt := topS 30
abbrev n_law_more : List Str := ["_law_lines", "_law_words", "_law_many_here", "_law_k"]
theorem sc_law_more : FnScope n_law_more ["_law_lines", "_law_words", "_law_many_here"] (defScope s_law_more) := ⟨rfl, rfl, rfl, by decide +kernel, rfl, by decide +kernel, by decide +kernel⟩
abbrev s_law_names : Stmt := topS 22
abbrev n_law_names : List Str := ["_law_cell_here", "_law_many_here", "_law_signs", "_law_size", "_law_spot", "_law_some", "_law_j", "_law_found", "_law_k", "_law_name"]
theorem sc_law_names : FnScope n_law_names ["_law_cell_here", "_law_many_here"] (defScope s_law_names) := ⟨rfl, rfl, rfl, by decide +kernel, rfl, by decide +kernel, by decide +kernel⟩
abbrev s_law_bad_word : Stmt := topS 26
abbrev n_law_bad_word : List Str := ["_law_cell_here", "_law_far", "_law_some"]
theorem sc_law_bad_word : FnScope n_law_bad_word ["_law_cell_here"] (defScope s_law_bad_word) := ⟨rfl, rfl, rfl, by decide +kernel, rfl, by decide +kernel, by decide +kernel⟩
abbrev s_law_none : Stmt := topS 27
abbrev n_law_none : List Str := ["_law_cell_here", "_law_names_here", "_law_some", "_law_words", "_law_way", "_law_spot"]
theorem sc_law_none : FnScope n_law_none ["_law_cell_here", "_law_names_here"] (defScope s_law_none) := ⟨rfl, rfl, rfl, by decide +kernel, rfl, by decide +kernel, by decide +kernel⟩
abbrev s_is_name : Stmt := topS 12
abbrev n_is_name : List Str := ["thing", "sign"]
theorem sc_is_name : FnScope n_is_name ["thing"] (defScope s_is_name) := ⟨rfl, rfl, rfl, by decide +kernel, rfl, by decide +kernel, by decide +kernel⟩
abbrev s_number_of : Stmt := topS 14
abbrev n_number_of : List Str := ["word", "sign"]
theorem sc_number_of : FnScope n_number_of ["word"] (defScope s_number_of) := ⟨rfl, rfl, rfl, by decide +kernel, rfl, by decide +kernel, by decide +kernel⟩
abbrev s_operand_of : Stmt := topS 15
abbrev n_operand_of : List Str := ["word", "number"]
theorem sc_operand_of : FnScope n_operand_of ["word"] (defScope s_operand_of) := ⟨rfl, rfl, rfl, by decide +kernel, rfl, by decide +kernel, by decide +kernel⟩
abbrev s_whole_row : Stmt := topS 16
abbrev n_whole_row : List Str := ["row"]
theorem sc_whole_row : FnScope n_whole_row ["row"] (defScope s_whole_row) := ⟨rfl, rfl, rfl, by decide +kernel, rfl, by decide +kernel, by decide +kernel⟩
abbrev s_given_row : Stmt := topS 17
abbrev n_given_row : List Str := ["words"]
theorem sc_given_row : FnScope n_given_row ["words"] (defScope s_given_row) := ⟨rfl, rfl, rfl, by decide +kernel, rfl, by decide +kernel, by decide +kernel⟩
abbrev s_row_of : Stmt := topS 18
abbrev n_row_of : List Str := ["words"]
theorem sc_row_of : FnScope n_row_of ["words"] (defScope s_row_of) := ⟨rfl, rfl, rfl, by decide +kernel, rfl, by decide +kernel, by decide +kernel⟩
abbrev s_read : Stmt := topS 19
abbrev n_read : List Str := ["text", "rows", "line", "written", "words", "word", "row"]
theorem sc_read : FnScope n_read ["text"] (defScope s_read) := ⟨rfl, rfl, rfl, by decide +kernel, rfl, by decide +kernel, by decide +kernel⟩
abbrev s_law_refused : Stmt := topS 28
abbrev n_law_refused : List Str := ["_law_text", "_law_line_here", "_law_told", "e"]
theorem sc_law_refused : FnScope n_law_refused ["_law_text", "_law_line_here"] (defScope s_law_refused) := ⟨rfl, rfl, rfl, by decide +kernel, rfl, by decide +kernel, by decide +kernel⟩
abbrev s_law : Stmt := topS 31
abbrev n_law : List Str := ["_law_script", "_law_names_here", "_law_cell_here", "_law_lines", "_law_k", "_law_one", "_law_full", "_law_over", "_law_bad", "_law_spot", "_law_text", "_law_empty"]
theorem sc_law : FnScope n_law ["_law_script"] (defScope s_law) := ⟨rfl, rfl, rfl, by decide +kernel, rfl, by decide +kernel, by decide +kernel⟩
theorem bo_ValueError : bootBuiltins "ValueError" = some (.type "ValueError") := by decide +kernel
theorem bo_abs : bootBuiltins "abs" = some (.builtin "abs") := by decide +kernel
theorem bo_bool : bootBuiltins "bool" = some (.type "bool") := by decide +kernel
theorem bo_enumerate : bootBuiltins "enumerate" = some (.type "enumerate") := by decide +kernel
theorem bo_int : bootBuiltins "int" = some (.type "int") := by decide +kernel
theorem bo_isinstance : bootBuiltins "isinstance" = some (.builtin "isinstance") := by decide +kernel
theorem bo_len : bootBuiltins "len" = some (.builtin "len") := by decide +kernel
theorem bo_max : bootBuiltins "max" = some (.builtin "max") := by decide +kernel
theorem bo_range : bootBuiltins "range" = some (.type "range") := by decide +kernel
theorem bo_str : bootBuiltins "str" = some (.type "str") := by decide +kernel
abbrev s_NoText_init : Stmt := (clsBody (topS 2)).getD 0 (.Pass ⟨0, 0, 0, 0⟩)
theorem sc_NoText_init : FnScope ["self", "line"] ["self", "line"] (defScope s_NoText_init) := ⟨rfl, rfl, rfl, by decide +kernel, rfl, by decide +kernel, by decide +kernel⟩
structure Txt (K : PySem.W.Frag) (mg : Str → Option Value) where
  f_law_cell : Addr
  fd_law_cell : FuncData
  F_law_cell : Fun K "_law_cell" "_law_cell" s_law_cell f_law_cell fd_law_cell
  g_law_cell : mg "_law_cell" = some (.ref f_law_cell)
  b_law_cell : Binds K fd_law_cell ["_law_script", "_law_k"] []
  f_law_digits : Addr
  fd_law_digits : FuncData
  F_law_digits : Fun K "_law_digits" "_law_digits" s_law_digits f_law_digits fd_law_digits
  g_law_digits : mg "_law_digits" = some (.ref f_law_digits)
  b_law_digits : Binds K fd_law_digits ["_law_cell_here", "_law_sizes"] []
  f_law_operand : Addr
  fd_law_operand : FuncData
  F_law_operand : Fun K "_law_operand" "_law_operand" s_law_operand f_law_operand fd_law_operand
  g_law_operand : mg "_law_operand" = some (.ref f_law_operand)
  b_law_operand : Binds K fd_law_operand ["_law_digit", "_law_cell_here", "_law_names_here"] []
  f_law_line : Addr
  fd_law_line : FuncData
  F_law_line : Fun K "_law_line" "_law_line" s_law_line f_law_line fd_law_line
  g_law_line : mg "_law_line" = some (.ref f_law_line)
  b_law_line : Binds K fd_law_line ["_law_cell_here", "_law_names_here"] []
  f_law_many : Addr
  fd_law_many : FuncData
  F_law_many : Fun K "_law_many" "_law_many" s_law_many f_law_many fd_law_many
  g_law_many : mg "_law_many" = some (.ref f_law_many)
  b_law_many : Binds K fd_law_many ["_law_lines"] []
  f_law_more : Addr
  fd_law_more : FuncData
  F_law_more : Fun K "_law_more" "_law_more" s_law_more f_law_more fd_law_more
  g_law_more : mg "_law_more" = some (.ref f_law_more)
  b_law_more : Binds K fd_law_more ["_law_lines", "_law_words", "_law_many_here"] []
  f_law_names : Addr
  fd_law_names : FuncData
  F_law_names : Fun K "_law_names" "_law_names" s_law_names f_law_names fd_law_names
  g_law_names : mg "_law_names" = some (.ref f_law_names)
  b_law_names : Binds K fd_law_names ["_law_cell_here", "_law_many_here"] []
  f_law_bad_word : Addr
  fd_law_bad_word : FuncData
  F_law_bad_word : Fun K "_law_bad_word" "_law_bad_word" s_law_bad_word f_law_bad_word fd_law_bad_word
  g_law_bad_word : mg "_law_bad_word" = some (.ref f_law_bad_word)
  b_law_bad_word : Binds K fd_law_bad_word ["_law_cell_here"] []
  f_law_none : Addr
  fd_law_none : FuncData
  F_law_none : Fun K "_law_none" "_law_none" s_law_none f_law_none fd_law_none
  g_law_none : mg "_law_none" = some (.ref f_law_none)
  b_law_none : Binds K fd_law_none ["_law_cell_here", "_law_names_here"] []
  f_is_name : Addr
  fd_is_name : FuncData
  F_is_name : Fun K "is_name" "is_name" s_is_name f_is_name fd_is_name
  g_is_name : mg "is_name" = some (.ref f_is_name)
  b_is_name : Binds K fd_is_name ["thing"] []
  f_number_of : Addr
  fd_number_of : FuncData
  F_number_of : Fun K "number_of" "number_of" s_number_of f_number_of fd_number_of
  g_number_of : mg "number_of" = some (.ref f_number_of)
  b_number_of : Binds K fd_number_of ["word"] []
  f_operand_of : Addr
  fd_operand_of : FuncData
  F_operand_of : Fun K "operand_of" "operand_of" s_operand_of f_operand_of fd_operand_of
  g_operand_of : mg "operand_of" = some (.ref f_operand_of)
  b_operand_of : Binds K fd_operand_of ["word"] []
  f_whole_row : Addr
  fd_whole_row : FuncData
  F_whole_row : Fun K "whole_row" "whole_row" s_whole_row f_whole_row fd_whole_row
  g_whole_row : mg "whole_row" = some (.ref f_whole_row)
  b_whole_row : Binds K fd_whole_row ["row"] []
  f_given_row : Addr
  fd_given_row : FuncData
  F_given_row : Fun K "given_row" "given_row" s_given_row f_given_row fd_given_row
  g_given_row : mg "given_row" = some (.ref f_given_row)
  b_given_row : Binds K fd_given_row ["words"] []
  f_row_of : Addr
  fd_row_of : FuncData
  F_row_of : Fun K "row_of" "row_of" s_row_of f_row_of fd_row_of
  g_row_of : mg "row_of" = some (.ref f_row_of)
  b_row_of : Binds K fd_row_of ["words"] []
  f_read : Addr
  fd_read : FuncData
  F_read : Fun K "read" "read" s_read f_read fd_read
  g_read : mg "read" = some (.ref f_read)
  b_read : Binds K fd_read ["text"] []
  f_law_refused : Addr
  fd_law_refused : FuncData
  F_law_refused : Fun K "_law_refused" "_law_refused" s_law_refused f_law_refused fd_law_refused
  g_law_refused : mg "_law_refused" = some (.ref f_law_refused)
  b_law_refused : Binds K fd_law_refused ["_law_text", "_law_line_here"] []
  f_law : Addr
  fd_law : FuncData
  F_law : Fun K "law" "law" s_law f_law fd_law
  g_law : mg "law" = some (.ref f_law)
  b_law : Binds K fd_law ["_law_script"] []
  z_ValueError : mg "ValueError" = none
  z_abs : mg "abs" = none
  z_bool : mg "bool" = none
  z_enumerate : mg "enumerate" = none
  z_int : mg "int" = none
  z_isinstance : mg "isinstance" = none
  z_len : mg "len" = none
  z_max : mg "max" = none
  z_range : mg "range" = none
  z_str : mg "str" = none
  tk_FIGURES : Tok
  g_FIGURES : mg "FIGURES" = some (.str "0123456789" tk_FIGURES)
  tk_LETTERS : Tok
  g_LETTERS : mg "LETTERS" = some (.str "abcdefghijklmnopqrstuvwxyz" tk_LETTERS)
  tk_LONGEST : Tok
  g_LONGEST : mg "LONGEST" = some (.int 8 tk_LONGEST)
  a_SIGNS : Addr
  xs_SIGNS : List V
  g_SIGNS : mg "SIGNS" = some (.ref a_SIGNS)
  k_SIGNS : SqT K H0 a_SIGNS xs_SIGNS ∧ ∃ o : Obj, K.lookup a_SIGNS = some o ∧ o.dict = none
  r_SIGNS : RelL K H0 [] w_SIGNS xs_SIGNS
  a_TAKEN : Addr
  xs_TAKEN : List V
  g_TAKEN : mg "TAKEN" = some (.ref a_TAKEN)
  k_TAKEN : SqT K H0 a_TAKEN xs_TAKEN ∧ ∃ o : Obj, K.lookup a_TAKEN = some o ∧ o.dict = none
  r_TAKEN : RelL K H0 [] w_TAKEN xs_TAKEN
  tk_WORTHS : Tok
  g_WORTHS : mg "WORTHS" = some (.int 18446744073709551616 tk_WORTHS)
  C_HoistError : Addr
  xg_HoistError : mg "HoistError" = some (.ref C_HoistError)
  xb_HoistError : BaseC K C_HoistError
  C_NoText : Addr
  I_NoText : Addr
  fdI_NoText : FuncData
  xg_NoText : mg "NoText" = some (.ref C_NoText)
  xt_NoText : OexC K C_NoText
  xf_NoText : XfC K C_NoText
  xe_NoText : PySem.W.exmOne K (.ref C_NoText) (.ref C_NoText) = some true
  xi_NoText : PySem.W.findIn K (.ref C_NoText) "__init__" = some (some (.ref I_NoText))
  xu_NoText : PySem.W.typeIn K (.ref I_NoText) = some (.type "function")
  FI_NoText : Fun K "__init__" "NoText.__init__" s_NoText_init I_NoText fdI_NoText
  bI_NoText : Binds K fdI_NoText ["self", "line"] []
  xn_NoText_line : PySem.W.findIn K (.ref C_NoText) "line" = some none
  xzb_NoText : PySem.W.exmOne K (.ref C_NoText) (.ref C_HoistError) = some true
  N_NoPaper : Addr
  ng_NoPaper : mg "NoPaper" = some (.ref N_NoPaper)
  N_NoProgram : Addr
  ng_NoProgram : mg "NoProgram" = some (.ref N_NoProgram)
  N_NoText : Addr
  ng_NoText : mg "NoText" = some (.ref N_NoText)
  xq_NoText : ExcC K C_NoText
  ik_NoText_NoPaper : PySem.W.kitOne K (.ref C_NoText) (.ref N_NoPaper) = some false
  ik_NoText_NoProgram : PySem.W.kitOne K (.ref C_NoText) (.ref N_NoProgram) = some false
  ik_NoText_NoText : PySem.W.kitOne K (.ref C_NoText) (.ref N_NoText) = some true
  ik_NoText_ValueError : PySem.W.kitOne K (.ref C_NoText) (.type "ValueError") = some true
section
variable {P : Program} {w : World} {K : PySem.W.Frag} {mg : Str → Option Value} {base : Heap}
theorem ini_NoText (T : Txt K mg) : FnOk P w K mg base CX0 1 T.I_NoText T.fdI_NoText ["self", "line"] (spInit T.C_NoText [t_line]) :=
  T.FI_NoText.ok sc_NoText_init (fun vs H Q E h => spInit_len h) fun cdv A outer s H vs Q E hr h => ⟨_, pss_cons (ps_expr (pe_hinit T.xb_HoistError (by rfl) T.xg_HoistError (pa_cons (pv 0) (pa_cons pe_str pa_nil)))) (pss_one (ps_ost (pv 0) (pv 1))), init_pure1 T.xt_NoText q_line T.xn_NoText_line rfl h⟩
theorem xok_NoText (T : Txt K mg) : ExcOk P w K mg base "NoText" T.C_NoText T.I_NoText 1 T.fdI_NoText ["self", "line"] [t_line] := ⟨T.xg_NoText, T.xt_NoText, T.xi_NoText, T.xu_NoText, ini_NoText T, T.bI_NoText⟩
theorem ok_law_cell (T : Txt K mg) : FnOk P w K mg base CX0 1 T.f_law_cell T.fd_law_cell ["_law_script", "_law_k"] (spM ⟨K, mg⟩ m_law_cell) :=
  fn_ok (N := n_law_cell) (b := b_law_cell) T.F_law_cell sc_law_cell fun cdv A outer s H E hr =>
    (sss_cons (ss_if (st_cmp om_lt (se_var 1) (se_callB cm_len (by rfl) T.z_len bo_len (sa_cons (se_var 0) sa_nil)) (nomark _)) (sss_one (ss_ret (se_ix (im_ix (hu65 hr)) (se_var 0) (se_var 1) (fun _ _ => rfl)))) sss_nil) (sss_cons (ss_set (i := 2) sc_law_cell.nd rfl (by first | exact Or.inl rfl | exact Or.inr rfl) (se_callB cm_len (by rfl) T.z_len bo_len (sa_cons (se_var 0) sa_nil))) (sss_cons (ss_if (st_cmp (om_eq (hu65 hr)) (se_var 2) se_int (nomark _)) (sss_one (ss_ret (se_op om_mul (se_var 1) se_int))) sss_nil) (sss_one (ss_ret (se_op om_add (se_op om_mul (se_op om_mod (se_callB cm_abs (by rfl) T.z_abs bo_abs (sa_cons (se_ix (im_ix (hu65 hr)) (se_var 0) (se_op om_mod (se_var 1) (se_var 2)) (fun _ _ => rfl)) sa_nil)) se_int) (se_op om_add (se_var 1) se_int)) (se_op om_mul (se_var 1) se_int)))))))
theorem ok_law_digits (T : Txt K mg) : FnOk P w K mg base CX0 1 T.f_law_digits T.fd_law_digits ["_law_cell_here", "_law_sizes"] (spM ⟨K, mg⟩ m_law_digits) :=
  fn_ok (N := n_law_digits) (b := b_law_digits) T.F_law_digits sc_law_digits fun cdv A outer s H E hr =>
    (sss_cons (ss_set (i := 2) sc_law_digits.nd rfl (by first | exact Or.inl rfl | exact Or.inr rfl) (se_op om_mod (se_op om_mul (se_var 0) se_int) se_int)) (sss_cons (ss_set (i := 3) sc_law_digits.nd rfl (by first | exact Or.inl rfl | exact Or.inr rfl) (se_lst sa_nil)) (sss_cons (ss_for PassesOwn.never rfl (si_seq (se_var 1)) (sg_name (i := 4) sc_law_digits.nd rfl (by first | exact Or.inl rfl | exact Or.inr rfl)) (sss_cons (ss_expr (se_mt PySem.F.plainAttrs_list PySem.F.slot_list_append PySem.F.type_list_append mm_append ty_list (se_var 3) (sa_cons (se_op om_mod (se_var 2) (se_var 4)) sa_nil))) (sss_one (ss_set (i := 2) sc_law_digits.nd rfl (by first | exact Or.inl rfl | exact Or.inr rfl) (se_op om_div (se_var 2) (se_var 4)))))) (sss_one (ss_ret (se_var 3))))))
theorem ok_law_operand (T : Txt K mg) : FnOk P w K mg base CX0 1 T.f_law_operand T.fd_law_operand ["_law_digit", "_law_cell_here", "_law_names_here"] (spM ⟨K, mg⟩ m_law_operand) :=
  fn_ok (N := n_law_operand) (b := b_law_operand) T.F_law_operand sc_law_operand fun cdv A outer s H E hr =>
    (sss_cons (ss_if (st_cmp om_lt (se_var 0) (se_callB cm_len (by rfl) T.z_len bo_len (sa_cons (se_var 2) sa_nil)) (nomark _)) (sss_one (ss_ret (se_ix (im_ix (hu65 hr)) (se_var 2) (se_var 0) (fun _ _ => rfl)))) sss_nil) (sss_cons (ss_if (st_cmp (om_eq (hu65 hr)) (se_var 0) (se_callB cm_len (by rfl) T.z_len bo_len (sa_cons (se_var 2) sa_nil)) (nomark _)) (sss_one (ss_ret (se_op om_mod (se_var 1) se_int))) sss_nil) (sss_cons (ss_if (st_cmp (om_eq (hu65 hr)) (se_op om_mod (se_var 1) se_int) se_int (nomark _)) (sss_one (ss_ret (se_op om_sub se_int (se_op om_mod (se_op om_div (se_var 1) se_int) se_int)))) sss_nil) (sss_one (ss_ret (se_op om_mod (se_op om_mul (se_var 1) se_int) se_int))))))
theorem ok_law_line (T : Txt K mg) : FnOk P w K mg base CX0 2 T.f_law_line T.fd_law_line ["_law_cell_here", "_law_names_here"] (spM ⟨K, mg⟩ m_law_line) :=
  fn_ok (N := n_law_line) (b := b_law_line) T.F_law_line sc_law_line fun cdv A outer s H E hr =>
    (sss_cons (ss_set (i := 2) sc_law_line.nd rfl (by first | exact Or.inl rfl | exact Or.inr rfl) (se_op om_add (se_callB cm_len (by rfl) T.z_len bo_len (sa_cons (se_var 1) sa_nil)) se_int)) (sss_cons (ss_asg (se_call (ok_law_digits T) (hr.mono (by decide)) (by rfl) T.g_law_digits T.F_law_digits.kp T.b_law_digits pass0 (sa_cons (se_var 0) (sa_cons (se_lst (sa_cons se_int (sa_cons (se_callB cm_len (by rfl) T.z_len bo_len (sa_cons (se_var 1) sa_nil)) (sa_cons se_int (sa_cons (se_var 2) (sa_cons (se_var 2) sa_nil)))))) sa_nil))) (sg_tup rfl (sgs_cons (sg_name (i := 3) sc_law_line.nd rfl (by first | exact Or.inl rfl | exact Or.inr rfl)) (sgs_cons (sg_name (i := 4) sc_law_line.nd rfl (by first | exact Or.inl rfl | exact Or.inr rfl)) (sgs_cons (sg_name (i := 5) sc_law_line.nd rfl (by first | exact Or.inl rfl | exact Or.inr rfl)) (sgs_cons (sg_name (i := 6) sc_law_line.nd rfl (by first | exact Or.inl rfl | exact Or.inr rfl)) (sgs_cons (sg_name (i := 7) sc_law_line.nd rfl (by first | exact Or.inl rfl | exact Or.inr rfl)) sgs_nil))))))) (sss_cons (ss_set (i := 8) sc_law_line.nd rfl (by first | exact Or.inl rfl | exact Or.inr rfl) (se_lst (sa_cons (se_callTy cm_str (by rfl) T.z_str bo_str (sa_cons (se_call (ok_law_operand T) (hr.mono (by decide)) (by rfl) T.g_law_operand T.F_law_operand.kp T.b_law_operand pass0 (sa_cons (se_var 6) (sa_cons (se_var 0) (sa_cons (se_var 1) sa_nil)))) sa_nil)) (sa_cons (se_callTy cm_str (by rfl) T.z_str bo_str (sa_cons (se_call (ok_law_operand T) (hr.mono (by decide)) (by rfl) T.g_law_operand T.F_law_operand.kp T.b_law_operand pass0 (sa_cons (se_var 7) (sa_cons (se_op om_div (se_var 0) se_int) (sa_cons (se_var 1) sa_nil)))) sa_nil)) sa_nil)))) (sss_cons (ss_if (st_cmp om_lt (se_var 3) se_int (nomark _)) (sss_one (ss_ret (se_lst (sa_cons (se_ix (im_ix (hu65 hr)) (se_var 1) (se_var 4) (fun _ _ => rfl)) (sa_cons (se_str q_x10_) (sa_cons (se_ix (im_ix (hu65 hr)) (se_var 8) se_int (fun _ _ => rfl)) (sa_cons (se_ix (im_ix (hu65 hr)) (se_str q_x16_) (se_var 5) (fun _ _ => rfl)) (sa_cons (se_ix (im_ix (hu65 hr)) (se_var 8) se_int (fun _ _ => rfl)) sa_nil)))))))) sss_nil) (sss_cons (ss_if (st_cmp om_lt (se_var 3) se_int (nomark _)) (sss_one (ss_ret (se_lst (sa_cons (se_ix (im_ix (hu65 hr)) (se_var 1) (se_var 4) (fun _ _ => rfl)) (sa_cons (se_str q_x10_) (sa_cons (se_ix (im_ix (hu65 hr)) (se_var 8) se_int (fun _ _ => rfl)) sa_nil)))))) sss_nil) (sss_one (ss_ret (se_ix (im_ix (hu65 hr)) (se_lst (sa_cons (se_lst (sa_cons (se_str q_say) (sa_cons (se_ix (im_ix (hu65 hr)) (se_var 8) se_int (fun _ _ => rfl)) sa_nil))) (sa_cons (se_lst (sa_cons (se_str q_go) (sa_cons (se_callTy cm_str (by rfl) T.z_str bo_str (sa_cons (se_op om_mod (se_var 0) se_int) sa_nil)) sa_nil))) (sa_cons (se_lst (sa_cons (se_str q_part) (sa_cons (se_ix (im_ix (hu65 hr)) (se_var 8) se_int (fun _ _ => rfl)) (sa_cons (se_callTy cm_str (by rfl) T.z_str bo_str (sa_cons (se_op om_mod (se_var 0) se_int) sa_nil)) sa_nil)))) sa_nil)))) (se_op om_sub (se_var 3) se_int) (fun _ _ => rfl)))))))))
theorem ok_law_many (T : Txt K mg) : FnOk P w K mg base CX0 1 T.f_law_many T.fd_law_many ["_law_lines"] (spM ⟨K, mg⟩ m_law_many) :=
  fn_ok (N := n_law_many) (b := b_law_many) T.F_law_many sc_law_many fun cdv A outer s H E hr =>
    (sss_one (ss_ret (se_callB cm_len (by rfl) T.z_len bo_len (sa_cons (se_lc (own := [("_law_line_here", 1)]) rfl sc_law_many.nd (si_seq (se_var 0)) (blkOk_by (own := [("_law_line_here", 1)]) (N := n_law_many) (sc := defScope s_law_many) (by decide +kernel)) (gonly_name (by decide)) (fun _ _ _ _ _ => pg_name (i := 1) sc_law_many.nd rfl (by first | exact Or.inl rfl | exact Or.inr rfl)) (fun _ _ _ _ _ => sts_one (st_cmp (om_ne (hu65 hr)) (se_mt PySem.F.plainAttrs_str PySem.F.slot_str_strip PySem.F.type_str_strip mm_strip ty_str (se_ix (im_ix (hu65 hr)) (se_mt PySem.F.plainAttrs_str PySem.F.slot_str_split PySem.F.type_str_split mm_split ty_str (se_var 1) (sa_cons (se_str q_x12_) sa_nil)) se_int (fun _ _ => rfl)) (sa_cons (se_str q_x13_) sa_nil)) (se_str q_x2_) (nomark _))) (fun _ _ _ _ _ => (se_var 1))) sa_nil))))
theorem ok_law_more (T : Txt K mg) : FnOk P w K mg base CX0 2 T.f_law_more T.fd_law_more ["_law_lines", "_law_words", "_law_many_here"] (spM ⟨K, mg⟩ m_law_more) :=
  fn_ok (N := n_law_more) (b := b_law_more) T.F_law_more sc_law_more fun cdv A outer s H E hr =>
    (sss_one (ss_ret (se_op om_add (se_var 0) (se_lc (own := [("_law_k", 3)]) rfl sc_law_more.nd (si_rng1 (by rfl) T.z_range (sa_cons (se_callB (cm_max rfl) (by rfl) T.z_max bo_max (sa_cons (se_op om_sub (se_var 2) (se_call (ok_law_many T) (hr.mono (by decide)) (by rfl) T.g_law_many T.F_law_many.kp T.b_law_many pass0 (sa_cons (se_var 0) sa_nil))) (sa_cons se_int sa_nil))) sa_nil)) (blkOk_by (own := [("_law_k", 3)]) (N := n_law_more) (sc := defScope s_law_more) (by decide +kernel)) (gonly_name (by decide)) (fun _ _ _ _ _ => pg_name (i := 3) sc_law_more.nd rfl (by first | exact Or.inl rfl | exact Or.inr rfl)) (fun _ _ _ _ _ => sts_nil) (fun _ _ _ _ _ => (se_mt PySem.F.plainAttrs_str PySem.F.slot_str_join PySem.F.type_str_join mm_join ty_str (se_str q_x13_) (sa_cons (se_var 1) sa_nil)))))))
theorem ok_law_names (T : Txt K mg) : FnOk P w K mg base CX0 1 T.f_law_names T.fd_law_names ["_law_cell_here", "_law_many_here"] (spM ⟨K, mg⟩ m_law_names) :=
  fn_ok (N := n_law_names) (b := b_law_names) T.F_law_names sc_law_names fun cdv A outer s H E hr =>
    (sss_cons (ss_set (i := 2) sc_law_names.nd rfl (by first | exact Or.inl rfl | exact Or.inr rfl) (se_str q_x15_abcdefghijkl)) (sss_cons (ss_set (i := 3) sc_law_names.nd rfl (by first | exact Or.inl rfl | exact Or.inr rfl) (se_op om_add se_int (se_op om_mod (se_var 0) se_int))) (sss_cons (ss_set (i := 4) sc_law_names.nd rfl (by first | exact Or.inl rfl | exact Or.inr rfl) (se_op om_mod (se_op om_div (se_var 0) se_int) (se_var 3))) (sss_cons (ss_setLc (i := 5) (own := [("_law_j", 6)]) rfl sc_law_names.nd rfl rfl (sw_true rfl rfl rfl (by decide +kernel)) (si_rng1 (by rfl) T.z_range (sa_cons (se_var 3) sa_nil)) (blkOk_by (own := [("_law_j", 6)]) (N := n_law_names) (sc := defScope s_law_names) (by decide +kernel)) (gonly_name (by decide)) (fun _ _ _ _ _ => pg_name (i := 6) sc_law_names.nd rfl (by first | exact Or.inl rfl | exact Or.inr rfl)) (fun _ _ _ _ _ => sts_nil) (fun _ _ _ _ _ => (se_ix (im_ix (hu65 hr)) (se_var 2) (se_op om_mod (se_op om_div (se_var 0) (se_op om_add se_int (se_op om_mul se_int (se_var 6)))) (se_ix (im_ix (hu65 hr)) (se_lst (sa_cons se_int (sa_cons se_int sa_nil))) (se_callTy cm_int (by rfl) T.z_int bo_int (sa_cons (se_cmp om_gt (se_var 6) se_int (nomark _)) sa_nil)) (fun _ _ => rfl))) (fun _ _ => rfl)))) (sss_cons (ss_set (i := 7) sc_law_names.nd rfl (by first | exact Or.inl rfl | exact Or.inr rfl) (se_lst sa_nil)) (sss_cons (ss_for PassesOwn.never rfl (si_rng1 (by rfl) T.z_range (sa_cons (se_var 1) sa_nil)) (sg_name (i := 8) sc_law_names.nd rfl (by first | exact Or.inl rfl | exact Or.inr rfl)) (sss_cons (ss_asg (se_ix (im_ix (hu65 hr)) (se_var 2) (se_op om_mod (se_op om_add (se_op om_div (se_var 0) se_int) (se_var 8)) se_int) (fun _ _ => rfl)) (sg_sub (hu65 hr) (se_var 5) (se_var 4))) (sss_cons (ss_set (i := 9) sc_law_names.nd rfl (by first | exact Or.inl rfl | exact Or.inr rfl) (se_mt PySem.F.plainAttrs_str PySem.F.slot_str_join PySem.F.type_str_join mm_join ty_str (se_str q_x2_) (sa_cons (se_var 5) sa_nil))) (sss_cons (ss_if (st_cmp (om_in (hu65 hr)) (se_var 9) (se_tup (sa_cons (se_str q_say) (sa_cons (se_str q_go) (sa_cons (se_str q_part) (sa_cons (se_str q_end) sa_nil))))) rfl) (sss_one (ss_set (i := 9) sc_law_names.nd rfl (by first | exact Or.inl rfl | exact Or.inr rfl) (se_op om_add (se_var 9) (se_str q_x3_0)))) sss_nil) (sss_one (ss_expr (se_mt PySem.F.plainAttrs_list PySem.F.slot_list_append PySem.F.type_list_append mm_append ty_list (se_var 7) (sa_cons (se_var 9) sa_nil)))))))) (sss_one (ss_ret (se_var 7)))))))))
theorem ok_law_bad_word (T : Txt K mg) : FnOk P w K mg base CX0 1 T.f_law_bad_word T.fd_law_bad_word ["_law_cell_here"] (spM ⟨K, mg⟩ m_law_bad_word) :=
  fn_ok (N := n_law_bad_word) (b := b_law_bad_word) T.F_law_bad_word sc_law_bad_word fun cdv A outer s H E hr =>
    (sss_cons (ss_set (i := 1) sc_law_bad_word.nd rfl (by first | exact Or.inl rfl | exact Or.inr rfl) (se_callTy cm_str (by rfl) T.z_str bo_str (sa_cons (se_op om_add se_int (se_op om_mod (se_op om_div (se_var 0) se_int) se_int)) sa_nil))) (sss_cons (ss_set (i := 2) sc_law_bad_word.nd rfl (by first | exact Or.inl rfl | exact Or.inr rfl) (se_lst (sa_cons (se_str q_x29_a) (sa_cons (se_str q_x28_9a) (sa_cons (se_str q_abcdefghi) (sa_cons (se_str q_x26_007) (sa_cons (se_str q_x25_1) (sa_cons (se_str q_x24_) (sa_cons (se_str q_x10_) (sa_cons (se_str q_x23_ab) (sa_cons (se_var 1) (sa_cons (se_str q_x22_x) (sa_cons (se_str q_x21_1e3) (sa_cons (se_str q_end) (sa_cons (se_str q_x20_1) (sa_cons (se_str q_x19_10) (sa_cons (se_str q_x18_01) (sa_cons (se_str q_x17_0) sa_nil)))))))))))))))))) (sss_one (ss_ret (se_ix (im_ix (hu65 hr)) (se_var 2) (se_op om_mod (se_var 0) se_int) (fun _ _ => rfl))))))
theorem ok_law_none (T : Txt K mg) : FnOk P w K mg base CX0 3 T.f_law_none T.fd_law_none ["_law_cell_here", "_law_names_here"] (spM ⟨K, mg⟩ m_law_none) :=
  fn_ok (N := n_law_none) (b := b_law_none) T.F_law_none sc_law_none fun cdv A outer s H E hr =>
    (sss_cons (ss_set (i := 2) sc_law_none.nd rfl (by first | exact Or.inl rfl | exact Or.inr rfl) (se_lst (sa_cons (se_str q_x) (sa_cons (se_str q_x38_x) (sa_cons (se_str q_x37_3) (sa_cons (se_str q_x36_x3) (sa_cons (se_str q_x35_x3) (sa_cons (se_str q_x34_x34) (sa_cons (se_str q_x33_x3) (sa_cons (se_str q_say) (sa_cons (se_str q_x32_sayxy) (sa_cons (se_str q_go) (sa_cons (se_str q_x31_gox) (sa_cons (se_str q_x30_go12) sa_nil)))))))))))))) (sss_cons (ss_set (i := 2) sc_law_none.nd rfl (by first | exact Or.inl rfl | exact Or.inr rfl) (se_op om_add (se_var 2) (se_lst (sa_cons (se_str q_x49_part1) (sa_cons (se_str q_x48_partxy) (sa_cons (se_str q_x47_end0) (sa_cons (se_str q_x46_end) (sa_cons (se_str q_x45_x3) (sa_cons (se_str q_x44_say3) (sa_cons (se_str q_x43_xyz) (sa_cons (se_str q_x42_go01) (sa_cons (se_str q_x41_partx12) (sa_cons (se_str q_x40_go1) sa_nil))))))))))))) (sss_cons (ss_set (i := 3) sc_law_none.nd rfl (by first | exact Or.inl rfl | exact Or.inr rfl) (se_call (ok_law_line T) (hr.mono (by decide)) (by rfl) T.g_law_line T.F_law_line.kp T.b_law_line pass0 (sa_cons (se_op om_div (se_var 0) se_int) (sa_cons (se_var 1) sa_nil)))) (sss_cons (ss_set (i := 4) sc_law_none.nd rfl (by first | exact Or.inl rfl | exact Or.inr rfl) (se_op om_mod (se_var 0) se_int)) (sss_cons (ss_set (i := 5) sc_law_none.nd rfl (by first | exact Or.inl rfl | exact Or.inr rfl) (se_op om_mod (se_op om_div (se_var 0) se_int) (se_callB cm_len (by rfl) T.z_len bo_len (sa_cons (se_var 3) sa_nil)))) (sss_cons (ss_if (st_cmp (om_eq (hu65 hr)) (se_var 4) se_int (nomark _)) (sss_one (ss_ret (se_mt PySem.F.plainAttrs_str PySem.F.slot_str_join PySem.F.type_str_join mm_join ty_str (se_str q_x13_) (sa_cons (se_op om_add (se_var 3) (se_lst (sa_cons (se_str q_x) sa_nil))) sa_nil)))) sss_nil) (sss_cons (ss_if (st_w (sw_and (st_cmp (om_eq (hu65 hr)) (se_var 4) se_int (nomark _)) (sw_and1 (st_w (sw_or (st_cmp (om_ne (hu65 hr)) (se_callB cm_len (by rfl) T.z_len bo_len (sa_cons (se_var 3) sa_nil)) se_int (nomark _)) (sw_or1 (st_cmp (om_eq (hu65 hr)) (se_var 5) se_int (nomark _)))))))) (sss_one (ss_ret (se_mt PySem.F.plainAttrs_str PySem.F.slot_str_join PySem.F.type_str_join mm_join ty_str (se_str q_x13_) (sa_cons (se_op om_add (se_sl slm (se_var 3) so_none (so_some (se_neg se_int))) (se_lst (sa_cons (se_str q_x50_) sa_nil))) sa_nil)))) sss_nil) (sss_cons (ss_if (st_cmp (om_eq (hu65 hr)) (se_var 4) se_int (nomark _)) (sss_one (ss_ret (se_mt PySem.F.plainAttrs_str PySem.F.slot_str_join PySem.F.type_str_join mm_join ty_str (se_str q_x13_) (sa_cons (se_op om_add (se_sl slm (se_var 3) so_none (so_some (se_var 5))) (se_sl slm (se_var 3) (so_some (se_op om_add (se_var 5) se_int)) so_none)) sa_nil)))) sss_nil) (sss_cons (ss_if (st_w (sw_and (st_cmp (om_eq (hu65 hr)) (se_var 4) se_int (nomark _)) (sw_and (st_cmp (om_ne (hu65 hr)) (se_var 5) se_int (nomark _)) (sw_and (st_cmp (om_ne (hu65 hr)) (se_ix (im_ix (hu65 hr)) (se_var 3) se_int (fun _ _ => rfl)) (se_str q_part) (nomark _)) (sw_and1 (st_not (st_w (sw_and (st_cmp (om_eq (hu65 hr)) (se_callB cm_len (by rfl) T.z_len bo_len (sa_cons (se_var 3) sa_nil)) se_int (nomark _)) (sw_and1 (st_cmp (om_eq (hu65 hr)) (se_var 5) se_int (nomark _))))))))))) (sss_one (ss_ret (se_mt PySem.F.plainAttrs_str PySem.F.slot_str_join PySem.F.type_str_join mm_join ty_str (se_str q_x13_) (sa_cons (se_op om_add (se_op om_add (se_sl slm (se_var 3) so_none (so_some (se_var 5))) (se_lst (sa_cons (se_call (ok_law_bad_word T) (hr.mono (by decide)) (by rfl) T.g_law_bad_word T.F_law_bad_word.kp T.b_law_bad_word pass0 (sa_cons (se_op om_div (se_var 0) se_int) sa_nil)) sa_nil))) (se_sl slm (se_var 3) (so_some (se_op om_add (se_var 5) se_int)) so_none)) sa_nil)))) sss_nil) (sss_cons (ss_set (i := 2) sc_law_none.nd rfl (by first | exact Or.inl rfl | exact Or.inr rfl) (se_op om_add (se_var 2) (se_lst (sa_cons (se_str q_x58_x34) (sa_cons (se_str q_x57_x34) (sa_cons (se_str q_x56_x34) (sa_cons (se_str q_x55_go1) (sa_cons (se_str q_x54_go10) (sa_cons (se_str q_x53_partx01) (sa_cons (se_str q_x52_say0) (sa_cons (se_str q_x51_x1) sa_nil))))))))))) (sss_cons (ss_set (i := 2) sc_law_none.nd rfl (by first | exact Or.inl rfl | exact Or.inr rfl) (se_op om_add (se_var 2) (se_lst (sa_cons (se_str q_x64_sa3) (sa_cons (se_str q_x63_saysay3) (sa_cons (se_str q_x62_partx3) (sa_cons (se_str q_x61_x34) (sa_cons (se_str q_x60_endend) (sa_cons (se_str q_x59_g3) sa_nil))))))))) (sss_one (ss_ret (se_ix (im_ix (hu65 hr)) (se_var 2) (se_op om_mod (se_op om_div (se_var 0) se_int) se_int) (fun _ _ => rfl)))))))))))))))
theorem ok_is_name (T : Txt K mg) : FnOk P w K mg base CX0 1 T.f_is_name T.fd_is_name ["thing"] (spM ⟨K, mg⟩ m_is_name) :=
  fn_ok (N := n_is_name) (b := b_is_name) T.F_is_name sc_is_name fun cdv A outer s H E hr =>
    (sss_cons (ss_if (st_w (sw_or (st_not (st_tru (se_isi .str (by rfl) T.z_isinstance (by rfl) T.z_str PyProof.Rows.boot_str (se_var 0)))) (sw_or (st_not (st_chain om_le om_le se_int (se_callB cm_len (by rfl) T.z_len bo_len (sa_cons (se_var 0) sa_nil)) (se_gint (by rfl) T.g_LONGEST))) (sw_or1 (st_cmp (om_in (hu65 hr)) (se_var 0) (se_gtup (by rfl) T.g_TAKEN T.k_TAKEN T.r_TAKEN) rfl))))) (sss_one (ss_ret se_bl)) sss_nil) (sss_cons (ss_for PassesOwn.never rfl (si_str (se_var 0)) (sg_name (i := 1) sc_is_name.nd rfl (by first | exact Or.inl rfl | exact Or.inr rfl)) (sss_one (ss_if (st_w (sw_and (st_cmp (om_notin (hu65 hr)) (se_var 1) (se_gstr (by rfl) T.g_LETTERS q_x0_abcdefghijkl) rfl) (sw_and1 (st_cmp (om_notin (hu65 hr)) (se_var 1) (se_gstr (by rfl) T.g_FIGURES q_x1_0123456789) rfl)))) (sss_one (ss_ret se_bl)) sss_nil))) (sss_one (ss_ret (se_cmp (om_in (hu65 hr)) (se_ix (im_ix (hu65 hr)) (se_var 0) se_int (fun _ _ => rfl)) (se_gstr (by rfl) T.g_LETTERS q_x0_abcdefghijkl) rfl)))))
theorem ok_number_of (T : Txt K mg) : FnOk P w K mg base CX0 1 T.f_number_of T.fd_number_of ["word"] (spM ⟨K, mg⟩ m_number_of) :=
  fn_ok (N := n_number_of) (b := b_number_of) T.F_number_of sc_number_of fun cdv A outer s H E hr =>
    (sss_cons (ss_for PassesOwn.never rfl (si_str (se_var 0)) (sg_name (i := 1) sc_number_of.nd rfl (by first | exact Or.inl rfl | exact Or.inr rfl)) (sss_one (ss_if (st_cmp (om_notin (hu65 hr)) (se_var 1) (se_gstr (by rfl) T.g_FIGURES q_x1_0123456789) rfl) (sss_one (ss_ret se_non)) sss_nil))) (sss_cons (ss_if (st_w (sw_or (st_cmp (om_eq (hu65 hr)) (se_var 0) (se_str q_x2_) (nomark _)) (sw_or1 (st_w (sw_and (st_cmp (om_eq (hu65 hr)) (se_ix (im_ix (hu65 hr)) (se_var 0) se_int (fun _ _ => rfl)) (se_str q_x3_0) (nomark _)) (sw_and1 (st_cmp (om_ne (hu65 hr)) (se_var 0) (se_str q_x3_0) (nomark _)))))))) (sss_one (ss_ret se_non)) sss_nil) (sss_one (ss_ret (se_callTy cm_intS (by rfl) T.z_int bo_int (sa_cons (se_var 0) sa_nil))))))
theorem ok_operand_of (T : Txt K mg) : FnOk P w K mg base CX0 2 T.f_operand_of T.fd_operand_of ["word"] (spM ⟨K, mg⟩ m_operand_of) :=
  fn_ok (N := n_operand_of) (b := b_operand_of) T.F_operand_of sc_operand_of fun cdv A outer s H E hr =>
    (sss_cons (ss_if (st_tru (se_call (ok_is_name T) (hr.mono (by decide)) (by rfl) T.g_is_name T.F_is_name.kp T.b_is_name pass0 (sa_cons (se_var 0) sa_nil))) (sss_one (ss_ret (se_var 0))) sss_nil) (sss_cons (ss_set (i := 1) sc_operand_of.nd rfl (by first | exact Or.inl rfl | exact Or.inr rfl) (se_call (ok_number_of T) (hr.mono (by decide)) (by rfl) T.g_number_of T.F_number_of.kp T.b_number_of pass0 (sa_cons (se_var 0) sa_nil))) (sss_cons (ss_if (st_w (sw_and (st_cmp om_isnot (se_var 1) se_non (nomark _)) (sw_and1 (st_cmp om_ge (se_var 1) (se_gint (by rfl) T.g_WORTHS) (nomark _))))) (sss_one (ss_ret se_non)) sss_nil) (sss_one (ss_ret (se_var 1))))))
theorem ok_whole_row (T : Txt K mg) : FnOk P w K mg base CX0 1 T.f_whole_row T.fd_whole_row ["row"] (spM ⟨K, mg⟩ m_whole_row) :=
  fn_ok (N := n_whole_row) (b := b_whole_row) T.F_whole_row sc_whole_row fun cdv A outer s H E hr =>
    (sss_cons (ss_if (st_cmp (om_in (hu65 hr)) se_non (se_var 0) rfl) (sss_one (ss_ret se_non)) sss_nil) (sss_one (ss_ret (se_var 0))))
theorem ok_given_row (T : Txt K mg) : FnOk P w K mg base CX0 3 T.f_given_row T.fd_given_row ["words"] (spM ⟨K, mg⟩ m_given_row) :=
  fn_ok (N := n_given_row) (b := b_given_row) T.F_given_row sc_given_row fun cdv A outer s H E hr =>
    (sss_cons (ss_if (st_cmp (om_eq (hu65 hr)) (se_callB cm_len (by rfl) T.z_len bo_len (sa_cons (se_var 0) sa_nil)) se_int (nomark _)) (sss_one (ss_ret (se_call (ok_whole_row T) (hr.mono (by decide)) (by rfl) T.g_whole_row T.F_whole_row.kp T.b_whole_row pass0 (sa_cons (se_tup (sa_cons (se_str q_copy) (sa_cons (se_ix (im_ix (hu65 hr)) (se_var 0) se_int (fun _ _ => rfl)) (sa_cons (se_call (ok_operand_of T) (hr.mono (by decide)) (by rfl) T.g_operand_of T.F_operand_of.kp T.b_operand_of pass0 (sa_cons (se_ix (im_ix (hu65 hr)) (se_var 0) se_int (fun _ _ => rfl)) sa_nil)) sa_nil)))) sa_nil)))) sss_nil) (sss_cons (ss_if (st_w (sw_or (st_cmp (om_ne (hu65 hr)) (se_callB cm_len (by rfl) T.z_len bo_len (sa_cons (se_var 0) sa_nil)) se_int (nomark _)) (sw_or1 (st_cmp (om_notin (hu65 hr)) (se_ix (im_ix (hu65 hr)) (se_var 0) se_int (fun _ _ => rfl)) (se_gtup (by rfl) T.g_SIGNS T.k_SIGNS T.r_SIGNS) rfl)))) (sss_one (ss_ret se_non)) sss_nil) (sss_one (ss_ret (se_call (ok_whole_row T) (hr.mono (by decide)) (by rfl) T.g_whole_row T.F_whole_row.kp T.b_whole_row pass0 (sa_cons (se_tup (sa_cons (se_str q_reckon) (sa_cons (se_ix (im_ix (hu65 hr)) (se_var 0) se_int (fun _ _ => rfl)) (sa_cons (se_ix (im_ix (hu65 hr)) (se_var 0) se_int (fun _ _ => rfl)) (sa_cons (se_call (ok_operand_of T) (hr.mono (by decide)) (by rfl) T.g_operand_of T.F_operand_of.kp T.b_operand_of pass0 (sa_cons (se_ix (im_ix (hu65 hr)) (se_var 0) se_int (fun _ _ => rfl)) sa_nil)) (sa_cons (se_call (ok_operand_of T) (hr.mono (by decide)) (by rfl) T.g_operand_of T.F_operand_of.kp T.b_operand_of pass0 (sa_cons (se_ix (im_ix (hu65 hr)) (se_var 0) se_int (fun _ _ => rfl)) sa_nil)) sa_nil)))))) sa_nil))))))
theorem ok_row_of (T : Txt K mg) : FnOk P w K mg base CX0 4 T.f_row_of T.fd_row_of ["words"] (spM ⟨K, mg⟩ m_row_of) :=
  fn_ok (N := n_row_of) (b := b_row_of) T.F_row_of sc_row_of fun cdv A outer s H E hr =>
    (sss_cons (ss_if (st_cmp (om_eq (hu65 hr)) (se_var 0) (se_lst (sa_cons (se_str q_end) sa_nil)) (nomark _)) (sss_one (ss_ret (se_tup (sa_cons (se_str q_end) sa_nil)))) sss_nil) (sss_cons (ss_if (st_w (sw_and (st_cmp (om_eq (hu65 hr)) (se_ix (im_ix (hu65 hr)) (se_var 0) se_int (fun _ _ => rfl)) (se_str q_say) (nomark _)) (sw_and1 (st_cmp (om_eq (hu65 hr)) (se_callB cm_len (by rfl) T.z_len bo_len (sa_cons (se_var 0) sa_nil)) se_int (nomark _))))) (sss_one (ss_ret (se_call (ok_whole_row T) (hr.mono (by decide)) (by rfl) T.g_whole_row T.F_whole_row.kp T.b_whole_row pass0 (sa_cons (se_tup (sa_cons (se_str q_say) (sa_cons (se_call (ok_operand_of T) (hr.mono (by decide)) (by rfl) T.g_operand_of T.F_operand_of.kp T.b_operand_of pass0 (sa_cons (se_ix (im_ix (hu65 hr)) (se_var 0) se_int (fun _ _ => rfl)) sa_nil)) sa_nil))) sa_nil)))) sss_nil) (sss_cons (ss_if (st_w (sw_and (st_cmp (om_eq (hu65 hr)) (se_ix (im_ix (hu65 hr)) (se_var 0) se_int (fun _ _ => rfl)) (se_str q_go) (nomark _)) (sw_and1 (st_cmp (om_eq (hu65 hr)) (se_callB cm_len (by rfl) T.z_len bo_len (sa_cons (se_var 0) sa_nil)) se_int (nomark _))))) (sss_one (ss_ret (se_call (ok_whole_row T) (hr.mono (by decide)) (by rfl) T.g_whole_row T.F_whole_row.kp T.b_whole_row pass0 (sa_cons (se_tup (sa_cons (se_str q_go) (sa_cons (se_call (ok_number_of T) (hr.mono (by decide)) (by rfl) T.g_number_of T.F_number_of.kp T.b_number_of pass0 (sa_cons (se_ix (im_ix (hu65 hr)) (se_var 0) se_int (fun _ _ => rfl)) sa_nil)) sa_nil))) sa_nil)))) sss_nil) (sss_cons (ss_if (st_w (sw_and (st_cmp (om_eq (hu65 hr)) (se_ix (im_ix (hu65 hr)) (se_var 0) se_int (fun _ _ => rfl)) (se_str q_part) (nomark _)) (sw_and1 (st_cmp (om_eq (hu65 hr)) (se_callB cm_len (by rfl) T.z_len bo_len (sa_cons (se_var 0) sa_nil)) se_int (nomark _))))) (sss_one (ss_ret (se_call (ok_whole_row T) (hr.mono (by decide)) (by rfl) T.g_whole_row T.F_whole_row.kp T.b_whole_row pass0 (sa_cons (se_tup (sa_cons (se_str q_part) (sa_cons (se_call (ok_operand_of T) (hr.mono (by decide)) (by rfl) T.g_operand_of T.F_operand_of.kp T.b_operand_of pass0 (sa_cons (se_ix (im_ix (hu65 hr)) (se_var 0) se_int (fun _ _ => rfl)) sa_nil)) (sa_cons (se_call (ok_number_of T) (hr.mono (by decide)) (by rfl) T.g_number_of T.F_number_of.kp T.b_number_of pass0 (sa_cons (se_ix (im_ix (hu65 hr)) (se_var 0) se_int (fun _ _ => rfl)) sa_nil)) sa_nil)))) sa_nil)))) sss_nil) (sss_cons (ss_if (st_w (sw_and (st_tru (se_call (ok_is_name T) (hr.mono (by decide)) (by rfl) T.g_is_name T.F_is_name.kp T.b_is_name pass0 (sa_cons (se_ix (im_ix (hu65 hr)) (se_var 0) se_int (fun _ _ => rfl)) sa_nil))) (sw_and (st_cmp om_gt (se_callB cm_len (by rfl) T.z_len bo_len (sa_cons (se_var 0) sa_nil)) se_int (nomark _)) (sw_and1 (st_cmp (om_eq (hu65 hr)) (se_ix (im_ix (hu65 hr)) (se_var 0) se_int (fun _ _ => rfl)) (se_str q_x10_) (nomark _)))))) (sss_one (ss_ret (se_call (ok_given_row T) (hr.mono (by decide)) (by rfl) T.g_given_row T.F_given_row.kp T.b_given_row pass0 (sa_cons (se_var 0) sa_nil)))) sss_nil) (sss_one (ss_ret se_non)))))))
theorem ok_read (T : Txt K mg) : FnOk P w K mg base (L2.CX P w) 5 T.f_read T.fd_read ["text"] (spM ⟨K, mg⟩ m_read) :=
  fn_okX (N := n_read) (b := b_read) T.F_read sc_read fun cdv A outer s H E hr =>
    (sss_cons (ss_set (i := 1) sc_read.nd rfl (by first | exact Or.inl rfl | exact Or.inr rfl) (se_lst sa_nil)) (sss_cons (ss_for (passes_of rfl) rfl (si_enum (by rfl) T.z_enumerate (sa_cons (se_mt PySem.F.plainAttrs_str PySem.F.slot_str_split PySem.F.type_str_split mm_split ty_str (se_var 0) (sa_cons (se_str q_x11_) sa_nil)) sa_nil)) (sg_tup rfl (sgs_cons (sg_name (i := 2) sc_read.nd rfl (by first | exact Or.inl rfl | exact Or.inr rfl)) (sgs_cons (sg_name (i := 3) sc_read.nd rfl (by first | exact Or.inl rfl | exact Or.inr rfl)) sgs_nil))) (sss_cons (ss_setLc (i := 4) (own := [("word", 5)]) rfl sc_read.nd rfl rfl (sw_true rfl rfl rfl (by decide +kernel)) (si_seq (se_mt PySem.F.plainAttrs_str PySem.F.slot_str_split PySem.F.type_str_split mm_split ty_str (se_ix (im_ix (hu65 hr)) (se_mt PySem.F.plainAttrs_str PySem.F.slot_str_partition PySem.F.type_str_partition mm_partition ty_str (se_var 3) (sa_cons (se_str q_x12_) sa_nil)) se_int (fun _ _ => rfl)) (sa_cons (se_str q_x13_) sa_nil))) (blkOk_by (own := [("word", 5)]) (N := n_read) (sc := defScope s_read) (by decide +kernel)) (gonly_name (by decide)) (fun _ _ _ _ _ => pg_name (i := 5) sc_read.nd rfl (by first | exact Or.inl rfl | exact Or.inr rfl)) (fun _ _ _ _ _ => sts_one (st_cmp (om_ne (hu65 hr)) (se_var 5) (se_str q_x2_) (nomark _))) (fun _ _ _ _ _ => (se_var 5))) (sss_one (ss_if (st_cmp (om_ne (hu65 hr)) (se_var 4) (se_lst sa_nil) (nomark _)) (sss_cons (ss_set (i := 6) sc_read.nd rfl (by first | exact Or.inl rfl | exact Or.inr rfl) (se_call (ok_row_of T) (hr.mono (by decide)) (by rfl) T.g_row_of T.F_row_of.kp T.b_row_of pass0 (sa_cons (se_var 4) sa_nil))) (sss_cons (ss_if (st_cmp om_is (se_var 6) se_non (nomark _)) (sss_one (ss_raise (cn := "NoText") rfl rfl (takes_of rfl rfl rfl rfl) (xok_NoText T) (hr.mono (by decide)) (by rfl) (by decide) (sa_cons (se_var 2) sa_nil))) sss_nil) (sss_one (ss_expr (se_mt PySem.F.plainAttrs_list PySem.F.slot_list_append PySem.F.type_list_append mm_append ty_list (se_var 1) (sa_cons (se_var 6) sa_nil)))))) sss_nil)))) (sss_cons (ss_if (st_cmp (om_eq (hu65 hr)) (se_var 1) (se_lst sa_nil) (nomark _)) (sss_one (ss_raise (cn := "NoText") rfl rfl (takes_of rfl rfl rfl rfl) (xok_NoText T) (hr.mono (by decide)) (by rfl) (by decide) (sa_cons se_int sa_nil))) sss_nil) (sss_one (ss_ret (se_var 1))))))
theorem ok_law_refused (T : Txt K mg) : FnOk P w K mg base CX0 6 T.f_law_refused T.fd_law_refused ["_law_text", "_law_line_here"] (spM ⟨K, mg⟩ m_law_refused) :=
  fn_ok (N := n_law_refused) (b := b_law_refused) T.F_law_refused sc_law_refused fun cdv A outer s H E hr =>
    (sss_cons (ss_set (i := 2) sc_law_refused.nd rfl (by first | exact Or.inl rfl | exact Or.inr rfl) se_non) (sss_cons (ss_tryK (i := 3) (j := 2) rfl rfl sc_law_refused.nd rfl rfl rfl (by decide) (by first | exact Or.inl rfl | exact Or.inr rfl) ⟨by rfl, by decide, .inl T.xg_HoistError⟩ takes0 (sub_cons T.xg_NoText T.xzb_NoText sub_nil) (fun W pn xe tk _ => sb_set (i := 2) sc_law_refused.nd rfl (by first | exact Or.inl rfl | exact Or.inr rfl) (se_callW (ok_read T) (hr.mono (by decide)) (by rfl) T.g_read T.F_read.kp T.b_read (fun σ => passAt tk σ) (fun E => (sa_cons (se_var 0) sa_nil))))) (sss_cons (ss_if (st_w (sw_or (st_not (st_tru (se_isX (by rfl) T.z_isinstance (pe_glob (v := .ref T.N_NoText) (by rfl) T.ng_NoText rfl) (fun _ z => z) (subI_cons T.xg_NoText T.xq_NoText T.ik_NoText_NoText subI_nil) (se_var 2)))) (sw_or (st_tru (se_isX (by rfl) T.z_isinstance (pe_glob (v := .ref T.N_NoProgram) (by rfl) T.ng_NoProgram rfl) (fun _ z => z) (subI_cons T.xg_NoText T.xq_NoText T.ik_NoText_NoProgram subI_nil) (se_var 2))) (sw_or1 (st_tru (se_isX (by rfl) T.z_isinstance (pe_glob (v := .ref T.N_NoPaper) (by rfl) T.ng_NoPaper rfl) (fun _ z => z) (subI_cons T.xg_NoText T.xq_NoText T.ik_NoText_NoPaper subI_nil) (se_var 2))))))) (sss_one (ss_ret se_bl)) sss_nil) (sss_one (ss_ret (se_and (se_isX (by rfl) T.z_isinstance (pe_bltn (v := .ty "ValueError") (by rfl) T.z_ValueError bo_ValueError rfl) (fun _ z => z) (subI_cons T.xg_NoText T.xq_NoText T.ik_NoText_ValueError subI_nil) (se_var 2)) (se_and (se_cmp (om_eq (hu65 hr)) (se_xv T.xf_NoText T.xn_NoText_line q_line T.xg_NoText (se_var 2)) (se_var 1) (nomark _)) (se_one (se_not (se_isi .bool (by rfl) T.z_isinstance (by rfl) T.z_bool PyProof.Rows.boot_bool (se_xv T.xf_NoText T.xn_NoText_line q_line T.xg_NoText (se_var 2))))))))))))
theorem ok_law (T : Txt K mg) : FnOk P w K mg base CX0 7 T.f_law T.fd_law ["_law_script"] (spM ⟨K, mg⟩ m_law) :=
  fn_ok (N := n_law) (b := b_law) T.F_law sc_law fun cdv A outer s H E hr =>
    (sss_cons (ss_set (i := 1) sc_law.nd rfl (by first | exact Or.inl rfl | exact Or.inr rfl) (se_call (ok_law_names T) (hr.mono (by decide)) (by rfl) T.g_law_names T.F_law_names.kp T.b_law_names pass0 (sa_cons (se_call (ok_law_cell T) (hr.mono (by decide)) (by rfl) T.g_law_cell T.F_law_cell.kp T.b_law_cell pass0 (sa_cons (se_var 0) (sa_cons se_int sa_nil))) (sa_cons se_int sa_nil)))) (sss_cons (ss_set (i := 2) sc_law.nd rfl (by first | exact Or.inl rfl | exact Or.inr rfl) (se_call (ok_law_cell T) (hr.mono (by decide)) (by rfl) T.g_law_cell T.F_law_cell.kp T.b_law_cell pass0 (sa_cons (se_var 0) (sa_cons se_int sa_nil)))) (sss_cons (ss_set (i := 3) sc_law.nd rfl (by first | exact Or.inl rfl | exact Or.inr rfl) (se_lst sa_nil)) (sss_cons (ss_for PassesOwn.never rfl (si_enum (by rfl) T.z_enumerate (sa_cons (se_sl slm (se_var 0) (so_some se_int) (so_some se_int)) sa_nil)) (sg_tup rfl (sgs_cons (sg_name (i := 4) sc_law.nd rfl (by first | exact Or.inl rfl | exact Or.inr rfl)) (sgs_cons (sg_name (i := 5) sc_law.nd rfl (by first | exact Or.inl rfl | exact Or.inr rfl)) sgs_nil))) (sss_cons (ss_if (st_cmp (om_eq (hu65 hr)) (se_op om_mod (se_var 5) se_int) se_int (nomark _)) (sss_one (ss_expr (se_mt PySem.F.plainAttrs_list PySem.F.slot_list_append PySem.F.type_list_append mm_append ty_list (se_var 3) (sa_cons (se_ix (im_ix (hu65 hr)) (se_lst (sa_cons (se_str q_x2_) (sa_cons (se_str q_x67_) (sa_cons (se_str q_x66_xy) (sa_cons (se_str q_x65_7) sa_nil))))) (se_op om_mod (se_op om_div (se_var 5) se_int) se_int) (fun _ _ => rfl)) sa_nil)))) sss_nil) (sss_one (ss_expr (se_mt PySem.F.plainAttrs_list PySem.F.slot_list_append PySem.F.type_list_append mm_append ty_list (se_var 3) (sa_cons (se_mt PySem.F.plainAttrs_str PySem.F.slot_str_join PySem.F.type_str_join mm_join ty_str (se_str q_x13_) (sa_cons (se_call (ok_law_line T) (hr.mono (by decide)) (by rfl) T.g_law_line T.F_law_line.kp T.b_law_line pass0 (sa_cons (se_op om_div (se_var 5) se_int) (sa_cons (se_var 1) sa_nil))) sa_nil)) sa_nil)))))) (sss_cons (ss_set (i := 6) sc_law.nd rfl (by first | exact Or.inl rfl | exact Or.inr rfl) (se_call (ok_law_more T) (hr.mono (by decide)) (by rfl) T.g_law_more T.F_law_more.kp T.b_law_more pass0 (sa_cons (se_var 3) (sa_cons (se_lst (sa_cons (se_str q_end) sa_nil)) (sa_cons (se_op om_add se_int (se_op om_mod (se_var 2) se_int)) sa_nil))))) (sss_cons (ss_set (i := 7) sc_law.nd rfl (by first | exact Or.inl rfl | exact Or.inr rfl) (se_op om_add (se_var 6) (se_lst (sa_cons (se_str q_x68_go3) sa_nil)))) (sss_cons (ss_set (i := 8) sc_law.nd rfl (by first | exact Or.inl rfl | exact Or.inr rfl) (se_call (ok_law_none T) (hr.mono (by decide)) (by rfl) T.g_law_none T.F_law_none.kp T.b_law_none pass0 (sa_cons (se_call (ok_law_cell T) (hr.mono (by decide)) (by rfl) T.g_law_cell T.F_law_cell.kp T.b_law_cell pass0 (sa_cons (se_var 0) (sa_cons se_int sa_nil))) (sa_cons (se_var 1) sa_nil)))) (sss_cons (ss_set (i := 9) sc_law.nd rfl (by first | exact Or.inl rfl | exact Or.inr rfl) (se_op om_mod (se_op om_div (se_var 2) se_int) (se_op om_add (se_callB cm_len (by rfl) T.z_len bo_len (sa_cons (se_var 3) sa_nil)) se_int))) (sss_cons (ss_set (i := 10) sc_law.nd rfl (by first | exact Or.inl rfl | exact Or.inr rfl) (se_mt PySem.F.plainAttrs_str PySem.F.slot_str_join PySem.F.type_str_join mm_join ty_str (se_str q_x11_) (sa_cons (se_op om_add (se_op om_add (se_sl slm (se_var 3) so_none (so_some (se_var 9))) (se_lst (sa_cons (se_var 8) sa_nil))) (se_sl slm (se_var 3) (so_some (se_var 9)) so_none)) sa_nil))) (sss_cons (ss_set (i := 11) sc_law.nd rfl (by first | exact Or.inl rfl | exact Or.inr rfl) (se_mt PySem.F.plainAttrs_str PySem.F.slot_str_join PySem.F.type_str_join mm_join ty_str (se_str q_x11_) (sa_cons (se_sl slm (se_lst (sa_cons (se_str q_x2_) (sa_cons (se_str q_x13_) (sa_cons (se_str q_x70_x3) (sa_cons (se_str q_x69_end) sa_nil))))) so_none (so_some (se_op om_mod (se_op om_div (se_var 2) se_int) se_int))) sa_nil))) (sss_cons (ss_if (st_w (sw_or (st_not (st_tru (se_call (ok_law_refused T) (hr.mono (by decide)) (by rfl) T.g_law_refused T.F_law_refused.kp T.b_law_refused pass0 (sa_cons (se_var 10) (sa_cons (se_var 9) sa_nil))))) (sw_or1 (st_not (st_tru (se_call (ok_law_refused T) (hr.mono (by decide)) (by rfl) T.g_law_refused T.F_law_refused.kp T.b_law_refused pass0 (sa_cons (se_var 11) (sa_cons se_int sa_nil)))))))) (sss_one (ss_ret se_bl)) sss_nil) (sss_cons (ss_if (st_w (sw_or (st_cmp (om_ne (hu65 hr)) (se_callB cm_len (by rfl) T.z_len bo_len (sa_cons (se_callQ (ok_read T) (hr.mono (by decide)) (by rfl) T.g_read T.F_read.kp T.b_read (sa_cons (se_mt PySem.F.plainAttrs_str PySem.F.slot_str_join PySem.F.type_str_join mm_join ty_str (se_str q_x11_) (sa_cons (se_var 7) sa_nil)) sa_nil)) sa_nil)) (se_op om_add se_int (se_op om_mod (se_var 2) se_int)) (nomark _)) (sw_or1 (st_not (st_tru (se_call (ok_law_refused T) (hr.mono (by decide)) (by rfl) T.g_law_refused T.F_law_refused.kp T.b_law_refused pass0 (sa_cons (se_mt PySem.F.plainAttrs_str PySem.F.slot_str_join PySem.F.type_str_join mm_join ty_str (se_str q_x11_) (sa_cons (se_op om_add (se_var 7) (se_lst (sa_cons (se_var 8) sa_nil))) sa_nil)) (sa_cons (se_callB cm_len (by rfl) T.z_len bo_len (sa_cons (se_var 7) sa_nil)) sa_nil)))))))) (sss_one (ss_ret se_bl)) sss_nil) (sss_cons (ss_if (st_not (st_tru (se_call (ok_law_refused T) (hr.mono (by decide)) (by rfl) T.g_law_refused T.F_law_refused.kp T.b_law_refused pass0 (sa_cons (se_mt PySem.F.plainAttrs_str PySem.F.slot_str_join PySem.F.type_str_join mm_join ty_str (se_str q_x11_) (sa_cons (se_op om_add (se_op om_add (se_op om_add (se_sl slm (se_var 3) so_none (so_some (se_var 9))) (se_lst (sa_cons (se_var 8) sa_nil))) (se_sl slm (se_var 7) (so_some (se_var 9)) so_none)) (se_lst (sa_cons (se_var 8) sa_nil))) sa_nil)) (sa_cons (se_var 9) sa_nil))))) (sss_one (ss_ret se_bl)) sss_nil) (sss_cons (ss_if (st_w (sw_and (st_cmp om_gt (se_callB cm_len (by rfl) T.z_len bo_len (sa_cons (se_var 3) sa_nil)) se_int (nomark _)) (sw_and1 (st_cmp (om_ne (hu65 hr)) (se_callB cm_len (by rfl) T.z_len bo_len (sa_cons (se_callQ (ok_read T) (hr.mono (by decide)) (by rfl) T.g_read T.F_read.kp T.b_read (sa_cons (se_mt PySem.F.plainAttrs_str PySem.F.slot_str_join PySem.F.type_str_join mm_join ty_str (se_str q_x11_) (sa_cons (se_var 3) sa_nil)) sa_nil)) sa_nil)) (se_call (ok_law_many T) (hr.mono (by decide)) (by rfl) T.g_law_many T.F_law_many.kp T.b_law_many pass0 (sa_cons (se_var 3) sa_nil)) (nomark _))))) (sss_one (ss_ret se_bl)) sss_nil) (sss_one (ss_ret (se_call (ok_law_refused T) (hr.mono (by decide)) (by rfl) T.g_law_refused T.F_law_refused.kp T.b_law_refused pass0 (sa_cons (se_var 10) (sa_cons (se_var 9) sa_nil)))))))))))))))))))
end
theorem all_mk {P : Program} {w : World} {K : PySem.W.Frag} {h : Heap} {mg : Str → Option Value} {fa : Addr} (X : K.In h) (G : h.Ns mainGlobals mg) (hfa : mg "law" = some (.ref fa))
    {od1 an1 : Option Addr} {sl1 : Array (Option Value)} {oc1 kV1 dc1 pm1 cd1 ct1 : Value} {f1 : Addr}
    {od2 an2 : Option Addr} {sl2 : Array (Option Value)} {oc2 kV2 dc2 pm2 cd2 ct2 : Value} {f2 : Addr}
    {od3 an3 : Option Addr} {sl3 : Array (Option Value)} {oc3 kV3 dc3 pm3 cd3 ct3 : Value} {f3 : Addr}
    {od4 an4 : Option Addr} {sl4 : Array (Option Value)} {oc4 kV4 dc4 pm4 cd4 ct4 : Value} {f4 : Addr}
    {od5 an5 : Option Addr} {sl5 : Array (Option Value)} {oc5 kV5 dc5 pm5 cd5 ct5 : Value} {f5 : Addr}
    {od6 an6 : Option Addr} {sl6 : Array (Option Value)} {oc6 kV6 dc6 pm6 cd6 ct6 : Value} {f6 : Addr}
    {od7 an7 : Option Addr} {sl7 : Array (Option Value)} {oc7 kV7 dc7 pm7 cd7 ct7 : Value} {f7 : Addr}
    {od8 an8 : Option Addr} {sl8 : Array (Option Value)} {oc8 kV8 dc8 pm8 cd8 ct8 : Value} {f8 : Addr}
    {od9 an9 : Option Addr} {sl9 : Array (Option Value)} {oc9 kV9 dc9 pm9 cd9 ct9 : Value} {f9 : Addr}
    {od10 an10 : Option Addr} {sl10 : Array (Option Value)} {oc10 kV10 dc10 pm10 cd10 ct10 : Value} {f10 : Addr}
    {od11 an11 : Option Addr} {sl11 : Array (Option Value)} {oc11 kV11 dc11 pm11 cd11 ct11 : Value} {f11 : Addr}
    {od12 an12 : Option Addr} {sl12 : Array (Option Value)} {oc12 kV12 dc12 pm12 cd12 ct12 : Value} {f12 : Addr}
    {od13 an13 : Option Addr} {sl13 : Array (Option Value)} {oc13 kV13 dc13 pm13 cd13 ct13 : Value} {f13 : Addr}
    {od14 an14 : Option Addr} {sl14 : Array (Option Value)} {oc14 kV14 dc14 pm14 cd14 ct14 : Value} {f14 : Addr}
    {od15 an15 : Option Addr} {sl15 : Array (Option Value)} {oc15 kV15 dc15 pm15 cd15 ct15 : Value} {f15 : Addr}
    {od16 an16 : Option Addr} {sl16 : Array (Option Value)} {oc16 kV16 dc16 pm16 cd16 ct16 : Value} {f16 : Addr}
    {od17 an17 : Option Addr} {sl17 : Array (Option Value)} {oc17 kV17 dc17 pm17 cd17 ct17 : Value} {f17 : Addr}
    {od18 an18 : Option Addr} {sl18 : Array (Option Value)} {oc18 kV18 dc18 pm18 cd18 ct18 : Value} {f18 : Addr}
    {tk1 : Tok}
    {tk2 : Tok}
    {tk3 : Tok}
    {ta4 : Addr} {tn4 : Nat} {tsl4 : Array (Option Value)} {tk4_0 tk4_1 tk4_2 tk4_3 tk4_4 tk4_5 tk4_6 tk4_7 : Tok}
    {ta5 : Addr} {tn5 : Nat} {tsl5 : Array (Option Value)} {tk5_0 tk5_1 tk5_2 tk5_3 : Tok}
    {tk6 : Tok}
    {xC0 : Addr}
    {xC1 xI1 xN1 : Addr} {xnm1 xq1 : Str} {xbs1 xsub1 : List Value} {xsn1 : List Str} {xab1 : Bool} {xcol1 : Option Bool} {xdd1 : Option Addr} {xm0_1 xm1_1 xm2_1 xm3_1 xm5_1 : Option Value} {xod1 xan1 : Option Addr} {xsl1 : Array (Option Value)} {xoc1 xkV1 xdc1 xpm1 xcd1 xct1 : Value}
    {nC1 : Addr}
    {nC2 : Addr}
    {nC3 : Addr}
    (a1 : PySem.W.nsIn K mainGlobals "_law_cell" = some (some (.ref f1))) (l1 : K.lookup f1 = some ⟨oc1, od1, .func (PySem.W.fnOf "_law_cell" "_law_cell" (defArgs s_law_cell) (defBody s_law_cell) (defScope s_law_cell) .none kV1 dc1 pm1 an1 cd1 ct1), sl1⟩) (c1 : PySem.W.codeIn K cd1 "_law_cell" = true) (k1 : PySem.W.keepIn K (.ref f1) = true)
    (a2 : PySem.W.nsIn K mainGlobals "_law_digits" = some (some (.ref f2))) (l2 : K.lookup f2 = some ⟨oc2, od2, .func (PySem.W.fnOf "_law_digits" "_law_digits" (defArgs s_law_digits) (defBody s_law_digits) (defScope s_law_digits) .none kV2 dc2 pm2 an2 cd2 ct2), sl2⟩) (c2 : PySem.W.codeIn K cd2 "_law_digits" = true) (k2 : PySem.W.keepIn K (.ref f2) = true)
    (a3 : PySem.W.nsIn K mainGlobals "_law_operand" = some (some (.ref f3))) (l3 : K.lookup f3 = some ⟨oc3, od3, .func (PySem.W.fnOf "_law_operand" "_law_operand" (defArgs s_law_operand) (defBody s_law_operand) (defScope s_law_operand) .none kV3 dc3 pm3 an3 cd3 ct3), sl3⟩) (c3 : PySem.W.codeIn K cd3 "_law_operand" = true) (k3 : PySem.W.keepIn K (.ref f3) = true)
    (a4 : PySem.W.nsIn K mainGlobals "_law_line" = some (some (.ref f4))) (l4 : K.lookup f4 = some ⟨oc4, od4, .func (PySem.W.fnOf "_law_line" "_law_line" (defArgs s_law_line) (defBody s_law_line) (defScope s_law_line) .none kV4 dc4 pm4 an4 cd4 ct4), sl4⟩) (c4 : PySem.W.codeIn K cd4 "_law_line" = true) (k4 : PySem.W.keepIn K (.ref f4) = true)
    (a5 : PySem.W.nsIn K mainGlobals "_law_many" = some (some (.ref f5))) (l5 : K.lookup f5 = some ⟨oc5, od5, .func (PySem.W.fnOf "_law_many" "_law_many" (defArgs s_law_many) (defBody s_law_many) (defScope s_law_many) .none kV5 dc5 pm5 an5 cd5 ct5), sl5⟩) (c5 : PySem.W.codeIn K cd5 "_law_many" = true) (k5 : PySem.W.keepIn K (.ref f5) = true)
    (a6 : PySem.W.nsIn K mainGlobals "_law_more" = some (some (.ref f6))) (l6 : K.lookup f6 = some ⟨oc6, od6, .func (PySem.W.fnOf "_law_more" "_law_more" (defArgs s_law_more) (defBody s_law_more) (defScope s_law_more) .none kV6 dc6 pm6 an6 cd6 ct6), sl6⟩) (c6 : PySem.W.codeIn K cd6 "_law_more" = true) (k6 : PySem.W.keepIn K (.ref f6) = true)
    (a7 : PySem.W.nsIn K mainGlobals "_law_names" = some (some (.ref f7))) (l7 : K.lookup f7 = some ⟨oc7, od7, .func (PySem.W.fnOf "_law_names" "_law_names" (defArgs s_law_names) (defBody s_law_names) (defScope s_law_names) .none kV7 dc7 pm7 an7 cd7 ct7), sl7⟩) (c7 : PySem.W.codeIn K cd7 "_law_names" = true) (k7 : PySem.W.keepIn K (.ref f7) = true)
    (a8 : PySem.W.nsIn K mainGlobals "_law_bad_word" = some (some (.ref f8))) (l8 : K.lookup f8 = some ⟨oc8, od8, .func (PySem.W.fnOf "_law_bad_word" "_law_bad_word" (defArgs s_law_bad_word) (defBody s_law_bad_word) (defScope s_law_bad_word) .none kV8 dc8 pm8 an8 cd8 ct8), sl8⟩) (c8 : PySem.W.codeIn K cd8 "_law_bad_word" = true) (k8 : PySem.W.keepIn K (.ref f8) = true)
    (a9 : PySem.W.nsIn K mainGlobals "_law_none" = some (some (.ref f9))) (l9 : K.lookup f9 = some ⟨oc9, od9, .func (PySem.W.fnOf "_law_none" "_law_none" (defArgs s_law_none) (defBody s_law_none) (defScope s_law_none) .none kV9 dc9 pm9 an9 cd9 ct9), sl9⟩) (c9 : PySem.W.codeIn K cd9 "_law_none" = true) (k9 : PySem.W.keepIn K (.ref f9) = true)
    (a10 : PySem.W.nsIn K mainGlobals "is_name" = some (some (.ref f10))) (l10 : K.lookup f10 = some ⟨oc10, od10, .func (PySem.W.fnOf "is_name" "is_name" (defArgs s_is_name) (defBody s_is_name) (defScope s_is_name) .none kV10 dc10 pm10 an10 cd10 ct10), sl10⟩) (c10 : PySem.W.codeIn K cd10 "is_name" = true) (k10 : PySem.W.keepIn K (.ref f10) = true)
    (a11 : PySem.W.nsIn K mainGlobals "number_of" = some (some (.ref f11))) (l11 : K.lookup f11 = some ⟨oc11, od11, .func (PySem.W.fnOf "number_of" "number_of" (defArgs s_number_of) (defBody s_number_of) (defScope s_number_of) .none kV11 dc11 pm11 an11 cd11 ct11), sl11⟩) (c11 : PySem.W.codeIn K cd11 "number_of" = true) (k11 : PySem.W.keepIn K (.ref f11) = true)
    (a12 : PySem.W.nsIn K mainGlobals "operand_of" = some (some (.ref f12))) (l12 : K.lookup f12 = some ⟨oc12, od12, .func (PySem.W.fnOf "operand_of" "operand_of" (defArgs s_operand_of) (defBody s_operand_of) (defScope s_operand_of) .none kV12 dc12 pm12 an12 cd12 ct12), sl12⟩) (c12 : PySem.W.codeIn K cd12 "operand_of" = true) (k12 : PySem.W.keepIn K (.ref f12) = true)
    (a13 : PySem.W.nsIn K mainGlobals "whole_row" = some (some (.ref f13))) (l13 : K.lookup f13 = some ⟨oc13, od13, .func (PySem.W.fnOf "whole_row" "whole_row" (defArgs s_whole_row) (defBody s_whole_row) (defScope s_whole_row) .none kV13 dc13 pm13 an13 cd13 ct13), sl13⟩) (c13 : PySem.W.codeIn K cd13 "whole_row" = true) (k13 : PySem.W.keepIn K (.ref f13) = true)
    (a14 : PySem.W.nsIn K mainGlobals "given_row" = some (some (.ref f14))) (l14 : K.lookup f14 = some ⟨oc14, od14, .func (PySem.W.fnOf "given_row" "given_row" (defArgs s_given_row) (defBody s_given_row) (defScope s_given_row) .none kV14 dc14 pm14 an14 cd14 ct14), sl14⟩) (c14 : PySem.W.codeIn K cd14 "given_row" = true) (k14 : PySem.W.keepIn K (.ref f14) = true)
    (a15 : PySem.W.nsIn K mainGlobals "row_of" = some (some (.ref f15))) (l15 : K.lookup f15 = some ⟨oc15, od15, .func (PySem.W.fnOf "row_of" "row_of" (defArgs s_row_of) (defBody s_row_of) (defScope s_row_of) .none kV15 dc15 pm15 an15 cd15 ct15), sl15⟩) (c15 : PySem.W.codeIn K cd15 "row_of" = true) (k15 : PySem.W.keepIn K (.ref f15) = true)
    (a16 : PySem.W.nsIn K mainGlobals "read" = some (some (.ref f16))) (l16 : K.lookup f16 = some ⟨oc16, od16, .func (PySem.W.fnOf "read" "read" (defArgs s_read) (defBody s_read) (defScope s_read) .none kV16 dc16 pm16 an16 cd16 ct16), sl16⟩) (c16 : PySem.W.codeIn K cd16 "read" = true) (k16 : PySem.W.keepIn K (.ref f16) = true)
    (a17 : PySem.W.nsIn K mainGlobals "_law_refused" = some (some (.ref f17))) (l17 : K.lookup f17 = some ⟨oc17, od17, .func (PySem.W.fnOf "_law_refused" "_law_refused" (defArgs s_law_refused) (defBody s_law_refused) (defScope s_law_refused) .none kV17 dc17 pm17 an17 cd17 ct17), sl17⟩) (c17 : PySem.W.codeIn K cd17 "_law_refused" = true) (k17 : PySem.W.keepIn K (.ref f17) = true)
    (a18 : PySem.W.nsIn K mainGlobals "law" = some (some (.ref f18))) (l18 : K.lookup f18 = some ⟨oc18, od18, .func (PySem.W.fnOf "law" "law" (defArgs s_law) (defBody s_law) (defScope s_law) .none kV18 dc18 pm18 an18 cd18 ct18), sl18⟩) (c18 : PySem.W.codeIn K cd18 "law" = true) (k18 : PySem.W.keepIn K (.ref f18) = true)
    (z1 : PySem.W.nsIn K mainGlobals "ValueError" = some none)
    (z2 : PySem.W.nsIn K mainGlobals "abs" = some none)
    (z3 : PySem.W.nsIn K mainGlobals "bool" = some none)
    (z4 : PySem.W.nsIn K mainGlobals "enumerate" = some none)
    (z5 : PySem.W.nsIn K mainGlobals "int" = some none)
    (z6 : PySem.W.nsIn K mainGlobals "isinstance" = some none)
    (z7 : PySem.W.nsIn K mainGlobals "len" = some none)
    (z8 : PySem.W.nsIn K mainGlobals "max" = some none)
    (z9 : PySem.W.nsIn K mainGlobals "range" = some none)
    (z10 : PySem.W.nsIn K mainGlobals "str" = some none)
    (u1 : PySem.W.nsIn K mainGlobals "FIGURES" = some (some (.str "0123456789" tk1)))
    (u2 : PySem.W.nsIn K mainGlobals "LETTERS" = some (some (.str "abcdefghijklmnopqrstuvwxyz" tk2)))
    (u3 : PySem.W.nsIn K mainGlobals "LONGEST" = some (some (.int 8 tk3)))
    (u4 : PySem.W.nsIn K mainGlobals "SIGNS" = some (some (.ref ta4))) (v4 : K.lookup ta4 = some ⟨.type "tuple", none, .seq #[.str "+" tk4_0, .str "-" tk4_1, .str "*" tk4_2, .str "&" tk4_3, .str "|" tk4_4, .str "^" tk4_5, .str "<" tk4_6, .str "=" tk4_7] tn4, tsl4⟩)
    (u5 : PySem.W.nsIn K mainGlobals "TAKEN" = some (some (.ref ta5))) (v5 : K.lookup ta5 = some ⟨.type "tuple", none, .seq #[.str "say" tk5_0, .str "go" tk5_1, .str "part" tk5_2, .str "end" tk5_3] tn5, tsl5⟩)
    (u6 : PySem.W.nsIn K mainGlobals "WORTHS" = some (some (.int 18446744073709551616 tk6)))
    (xa0 : PySem.W.nsIn K mainGlobals "HoistError" = some (some (.ref xC0))) (xb1 : PySem.W.specialIn K (.ref xC0) "__getattribute__" = some (some (.builtin "type.__getattribute__"))) (xb2 : PySem.W.readsIn K xC0 (.type "type") = true) (xb3 : PySem.W.findCls K (.ref xC0) (.type "type") "__init__" = some (.val (.builtin "ValueError.__init__")))
    (xg1 : PySem.W.nsIn K mainGlobals "NoText" = some (some (.ref xC1))) (xl1 : K.lookup xC1 = some (excClassObj xnm1 xq1 xC1 xN1 xbs1 [.ref xC0, .type "ValueError", .type "Exception", .type "BaseException", .type "object"] true xsn1 xsub1 xab1 xcol1 xdd1 xm0_1 xm1_1 xm2_1 xm3_1 xm5_1 "ValueError.__new__"))
    (xs1 : PySem.W.findIn K (.ref xC1) "__setattr__" = some (some (.builtin "object.__setattr__"))) (xe1 : PySem.W.subIn K (.ref xC1) (.type "BaseException") = some true) (xt1 : PySem.W.typeIn K (.ref xC1) = some (.type "type")) (xk1 : PySem.W.keepIn K (.ref xC1) = true) (xm1 : PySem.W.subIn K (.ref xC1) (.ref xC1) = some true) (xw1 : PySem.W.isClsIn K xC1 = true) (xga1 : PySem.W.findIn K (.ref xC1) "__getattribute__" = some (some (.builtin "BaseException.__getattribute__"))) (xgg1 : PySem.W.findIn K (.ref xC1) "__getattr__" = some none) (xhd1 : PySem.W.hasDictIn K xC1 = true)
    (xi1 : PySem.W.findIn K (.ref xC1) "__init__" = some (some (.ref xI1))) (xu1 : PySem.W.typeIn K (.ref xI1) = some (.type "function")) (xj1 : K.lookup xI1 = some ⟨xoc1, xod1, .func (PySem.W.fnOf "__init__" "NoText.__init__" (defArgs s_NoText_init) (defBody s_NoText_init) (defScope s_NoText_init) .none xkV1 xdc1 xpm1 xan1 xcd1 xct1), xsl1⟩) (xc1 : PySem.W.codeIn K xcd1 "NoText.__init__" = true) (xy1 : PySem.W.keepIn K (.ref xI1) = true)
    (xn1_line : PySem.W.findIn K (.ref xC1) "line" = some none)
    (xa1 : PySem.W.hasDictIn K xC0 = true) (xa2 : PySem.W.subIn K (.ref xC0) (.type "BaseException") = some true) (xa3 : PySem.W.typeIn K (.ref xC0) = some (.type "type"))
    (xz1 : PySem.W.subIn K (.ref xC1) (.ref xC0) = some true)
    (xqn : PySem.W.specialIn K (.builtin "object.__class__") "__get__" = some (some (.builtin "getset_descriptor.__get__"))) (xqt : PySem.W.takesIn K (.builtin "object.__class__") = some true)
    (xqa1 : PySem.W.findIn K (.ref xC1) "__class__" = some (some (.builtin "object.__class__"))) (xqm1 : PySem.W.mroIn K xC1 (.type "object") = some true)
    (ng1 : PySem.W.nsIn K mainGlobals "NoPaper" = some (some (.ref nC1))) (ni1 : PySem.W.isClsIn K nC1 = true) (nt1 : PySem.W.typeIn K (.ref nC1) = some (.type "type"))
    (ng2 : PySem.W.nsIn K mainGlobals "NoProgram" = some (some (.ref nC2))) (ni2 : PySem.W.isClsIn K nC2 = true) (nt2 : PySem.W.typeIn K (.ref nC2) = some (.type "type"))
    (ng3 : PySem.W.nsIn K mainGlobals "NoText" = some (some (.ref nC3))) (ni3 : PySem.W.isClsIn K nC3 = true) (nt3 : PySem.W.typeIn K (.ref nC3) = some (.type "type"))
    (ik1 : PySem.W.subIn K (.ref xC1) (.ref nC1) = some false)
    (ik2 : PySem.W.subIn K (.ref xC1) (.ref nC2) = some false)
    (ik3 : PySem.W.subIn K (.ref xC1) (.ref nC3) = some true)
    (ik4 : PySem.W.subIn K (.ref xC1) (.type "ValueError") = some true)
    (pure : ∀ ns : List Int, ns.length ≤ 63 → ∃ S, m_law [.ref 0] [.fls (ns.map .int)] = .ok (.bl true) S) :
    ∃ fd : FuncData, (∀ (s : Shared) (v : Value), BindsTo s fd ⟨[v], []⟩ [("_law_script", v)]) ∧ ∀ base : Heap, K.In base → base.Ns mainGlobals mg → FnOk P w K mg base CX0 7 fa fd ["_law_script"] (spLaw K) := by
  have e := hfa.symm.trans (PySem.W.mg_of X G a18)
  cases e
  have F1 := fun_mk (st := s_law_cell) l1 c1 k1
  have F2 := fun_mk (st := s_law_digits) l2 c2 k2
  have F3 := fun_mk (st := s_law_operand) l3 c3 k3
  have F4 := fun_mk (st := s_law_line) l4 c4 k4
  have F5 := fun_mk (st := s_law_many) l5 c5 k5
  have F6 := fun_mk (st := s_law_more) l6 c6 k6
  have F7 := fun_mk (st := s_law_names) l7 c7 k7
  have F8 := fun_mk (st := s_law_bad_word) l8 c8 k8
  have F9 := fun_mk (st := s_law_none) l9 c9 k9
  have F10 := fun_mk (st := s_is_name) l10 c10 k10
  have F11 := fun_mk (st := s_number_of) l11 c11 k11
  have F12 := fun_mk (st := s_operand_of) l12 c12 k12
  have F13 := fun_mk (st := s_whole_row) l13 c13 k13
  have F14 := fun_mk (st := s_given_row) l14 c14 k14
  have F15 := fun_mk (st := s_row_of) l15 c15 k15
  have F16 := fun_mk (st := s_read) l16 c16 k16
  have F17 := fun_mk (st := s_law_refused) l17 c17 k17
  have F18 := fun_mk (st := s_law) l18 c18 k18
  have FX1 := fun_mk (st := s_NoText_init) xj1 xc1 xy1
  let T : Txt K mg := {
    C_HoistError := xC0, xg_HoistError := PySem.W.mg_of X G xa0, xb_HoistError := ⟨xb1, xb2, xb3⟩,
    C_NoText := xC1, I_NoText := xI1, fdI_NoText := _, xg_NoText := PySem.W.mg_of X G xg1, xt_NoText := ⟨⟨_, _, _, _, _, _, _, _, _, _, _, _, _, _, _, xl1, rfl⟩, xs1, xe1, xt1, xk1⟩, xf_NoText := ⟨xga1, xgg1, xe1, xhd1⟩, xe_NoText := exm_self xe1 xw1 xt1 xm1, xi_NoText := xi1, xu_NoText := xu1, FI_NoText := FX1, bI_NoText := FX1.binds (ps := ["self", "line"]) fun _ _ _ _ _ _ us hl => match us, hl with | [_, _], _ => rfl, xn_NoText_line := xn1_line,
    xzb_NoText := PySem.W.exm_ref xa2 xa1 xa3 xz1,
    xq_NoText := ⟨xga1, xgg1, xe1, xhd1, xqa1, xqn, xqt, xqm1⟩,
    N_NoPaper := nC1, ng_NoPaper := PySem.W.mg_of X G ng1,
    N_NoProgram := nC2, ng_NoProgram := PySem.W.mg_of X G ng2,
    N_NoText := nC3, ng_NoText := PySem.W.mg_of X G ng3,
    ik_NoText_NoPaper := kit_ref ni1 nt1 ik1 xm1,
    ik_NoText_NoProgram := kit_ref ni2 nt2 ik2 xm1,
    ik_NoText_NoText := kit_ref ni3 nt3 ik3 xm1,
    ik_NoText_ValueError := kit_bt (by decide +kernel) ik4,
    f_law_cell := f1, fd_law_cell := _, F_law_cell := F1, g_law_cell := PySem.W.mg_of X G a1, b_law_cell := F1.binds (ps := ["_law_script", "_law_k"]) fun _ _ _ _ _ _ us hl => match us, hl with | [_, _], _ => rfl,
    f_law_digits := f2, fd_law_digits := _, F_law_digits := F2, g_law_digits := PySem.W.mg_of X G a2, b_law_digits := F2.binds (ps := ["_law_cell_here", "_law_sizes"]) fun _ _ _ _ _ _ us hl => match us, hl with | [_, _], _ => rfl,
    f_law_operand := f3, fd_law_operand := _, F_law_operand := F3, g_law_operand := PySem.W.mg_of X G a3, b_law_operand := F3.binds (ps := ["_law_digit", "_law_cell_here", "_law_names_here"]) fun _ _ _ _ _ _ us hl => match us, hl with | [_, _, _], _ => rfl,
    f_law_line := f4, fd_law_line := _, F_law_line := F4, g_law_line := PySem.W.mg_of X G a4, b_law_line := F4.binds (ps := ["_law_cell_here", "_law_names_here"]) fun _ _ _ _ _ _ us hl => match us, hl with | [_, _], _ => rfl,
    f_law_many := f5, fd_law_many := _, F_law_many := F5, g_law_many := PySem.W.mg_of X G a5, b_law_many := F5.binds (ps := ["_law_lines"]) fun _ _ _ _ _ _ us hl => match us, hl with | [_], _ => rfl,
    f_law_more := f6, fd_law_more := _, F_law_more := F6, g_law_more := PySem.W.mg_of X G a6, b_law_more := F6.binds (ps := ["_law_lines", "_law_words", "_law_many_here"]) fun _ _ _ _ _ _ us hl => match us, hl with | [_, _, _], _ => rfl,
    f_law_names := f7, fd_law_names := _, F_law_names := F7, g_law_names := PySem.W.mg_of X G a7, b_law_names := F7.binds (ps := ["_law_cell_here", "_law_many_here"]) fun _ _ _ _ _ _ us hl => match us, hl with | [_, _], _ => rfl,
    f_law_bad_word := f8, fd_law_bad_word := _, F_law_bad_word := F8, g_law_bad_word := PySem.W.mg_of X G a8, b_law_bad_word := F8.binds (ps := ["_law_cell_here"]) fun _ _ _ _ _ _ us hl => match us, hl with | [_], _ => rfl,
    f_law_none := f9, fd_law_none := _, F_law_none := F9, g_law_none := PySem.W.mg_of X G a9, b_law_none := F9.binds (ps := ["_law_cell_here", "_law_names_here"]) fun _ _ _ _ _ _ us hl => match us, hl with | [_, _], _ => rfl,
    f_is_name := f10, fd_is_name := _, F_is_name := F10, g_is_name := PySem.W.mg_of X G a10, b_is_name := F10.binds (ps := ["thing"]) fun _ _ _ _ _ _ us hl => match us, hl with | [_], _ => rfl,
    f_number_of := f11, fd_number_of := _, F_number_of := F11, g_number_of := PySem.W.mg_of X G a11, b_number_of := F11.binds (ps := ["word"]) fun _ _ _ _ _ _ us hl => match us, hl with | [_], _ => rfl,
    f_operand_of := f12, fd_operand_of := _, F_operand_of := F12, g_operand_of := PySem.W.mg_of X G a12, b_operand_of := F12.binds (ps := ["word"]) fun _ _ _ _ _ _ us hl => match us, hl with | [_], _ => rfl,
    f_whole_row := f13, fd_whole_row := _, F_whole_row := F13, g_whole_row := PySem.W.mg_of X G a13, b_whole_row := F13.binds (ps := ["row"]) fun _ _ _ _ _ _ us hl => match us, hl with | [_], _ => rfl,
    f_given_row := f14, fd_given_row := _, F_given_row := F14, g_given_row := PySem.W.mg_of X G a14, b_given_row := F14.binds (ps := ["words"]) fun _ _ _ _ _ _ us hl => match us, hl with | [_], _ => rfl,
    f_row_of := f15, fd_row_of := _, F_row_of := F15, g_row_of := PySem.W.mg_of X G a15, b_row_of := F15.binds (ps := ["words"]) fun _ _ _ _ _ _ us hl => match us, hl with | [_], _ => rfl,
    f_read := f16, fd_read := _, F_read := F16, g_read := PySem.W.mg_of X G a16, b_read := F16.binds (ps := ["text"]) fun _ _ _ _ _ _ us hl => match us, hl with | [_], _ => rfl,
    f_law_refused := f17, fd_law_refused := _, F_law_refused := F17, g_law_refused := PySem.W.mg_of X G a17, b_law_refused := F17.binds (ps := ["_law_text", "_law_line_here"]) fun _ _ _ _ _ _ us hl => match us, hl with | [_, _], _ => rfl,
    f_law := fa, fd_law := _, F_law := F18, g_law := PySem.W.mg_of X G a18, b_law := F18.binds (ps := ["_law_script"]) fun _ _ _ _ _ _ us hl => match us, hl with | [_], _ => rfl,
    z_ValueError := PySem.W.mg_none_of X G z1,
    z_abs := PySem.W.mg_none_of X G z2,
    z_bool := PySem.W.mg_none_of X G z3,
    z_enumerate := PySem.W.mg_none_of X G z4,
    z_int := PySem.W.mg_none_of X G z5,
    z_isinstance := PySem.W.mg_none_of X G z6,
    z_len := PySem.W.mg_none_of X G z7,
    z_max := PySem.W.mg_none_of X G z8,
    z_range := PySem.W.mg_none_of X G z9,
    z_str := PySem.W.mg_none_of X G z10,
    tk_FIGURES := tk1, g_FIGURES := PySem.W.mg_of X G u1,
    tk_LETTERS := tk2, g_LETTERS := PySem.W.mg_of X G u2,
    tk_LONGEST := tk3, g_LONGEST := PySem.W.mg_of X G u3,
    a_SIGNS := ta4, xs_SIGNS := [.str (sOf t_x24_), .str (sOf t_x71_), .str (sOf t_x72_), .str (sOf t_x73_), .str (sOf t_x74_), .str (sOf t_x75_), .str (sOf t_x76_), .str (sOf t_x10_)], g_SIGNS := PySem.W.mg_of X G u4, k_SIGNS := ⟨.inr ⟨_, _, _, v4, rfl, rfl, (by show (8 : Nat) ≤ sizeLine; decide), .cons ⟨_, congrArg (fun z => Value.str z _) q_x24_⟩ (.cons ⟨_, congrArg (fun z => Value.str z _) q_x71_⟩ (.cons ⟨_, congrArg (fun z => Value.str z _) q_x72_⟩ (.cons ⟨_, congrArg (fun z => Value.str z _) q_x73_⟩ (.cons ⟨_, congrArg (fun z => Value.str z _) q_x74_⟩ (.cons ⟨_, congrArg (fun z => Value.str z _) q_x75_⟩ (.cons ⟨_, congrArg (fun z => Value.str z _) q_x76_⟩ (.cons ⟨_, congrArg (fun z => Value.str z _) q_x10_⟩ (.nil))))))))⟩, _, v4, rfl⟩, r_SIGNS := .cons (.str _) (.cons (.str _) (.cons (.str _) (.cons (.str _) (.cons (.str _) (.cons (.str _) (.cons (.str _) (.cons (.str _) (.nil)))))))),
    a_TAKEN := ta5, xs_TAKEN := [.str (sOf t_say), .str (sOf t_go), .str (sOf t_part), .str (sOf t_end)], g_TAKEN := PySem.W.mg_of X G u5, k_TAKEN := ⟨.inr ⟨_, _, _, v5, rfl, rfl, (by show (4 : Nat) ≤ sizeLine; decide), .cons ⟨_, congrArg (fun z => Value.str z _) q_say⟩ (.cons ⟨_, congrArg (fun z => Value.str z _) q_go⟩ (.cons ⟨_, congrArg (fun z => Value.str z _) q_part⟩ (.cons ⟨_, congrArg (fun z => Value.str z _) q_end⟩ (.nil))))⟩, _, v5, rfl⟩, r_TAKEN := .cons (.str _) (.cons (.str _) (.cons (.str _) (.cons (.str _) (.nil)))),
    tk_WORTHS := tk6, g_WORTHS := PySem.W.mg_of X G u6 }
  exact ⟨T.fd_law, fun s v => .of_eq rfl, fun base _ _ => (ok_law T).imp (law_sp pure)⟩
end Lk15
open PySem PySem.W PyProof.Rows
set_option maxRecDepth 100000 in
set_option maxHeartbeats 0 in
theorem PySem.Challenge.cw_lazyhoist_k15_texts_refused_holds : PySem.Challenge.rw_lazyhoist_k15_texts_refused.Holds := by
  w_on; o_law; k_head; (case hw => w_witness2)
  k_fill
  refine L2.walk_of (l := PySem.Challenge.rw_lazyhoist_k15_texts_refused) (n := 63) (k := 7) (x := "_law_script") (CX := fun _ => L2.CX0) (sp := fun w => Sm.spLaw _) rfl (by decide) rfl ⟨rfl, by decide, by decide⟩ (fun w h Y => PySem.W.kIn_of Y) ?F (fun _ _ a ns hl hO hS => ⟨a, ns, rfl, hS, hO, hl, fun _ => rfl⟩) (fun _ _ _ _ _ h => h)
  case F =>
    intro w mg fa h KX G hmg
    refine' Lk15.all_mk KX G hmg ?a1 ?l1 ?c1 ?k1 ?a2 ?l2 ?c2 ?k2 ?a3 ?l3 ?c3 ?k3 ?a4 ?l4 ?c4 ?k4 ?a5 ?l5 ?c5 ?k5 ?a6 ?l6 ?c6 ?k6 ?a7 ?l7 ?c7 ?k7 ?a8 ?l8 ?c8 ?k8 ?a9 ?l9 ?c9 ?k9 ?a10 ?l10 ?c10 ?k10 ?a11 ?l11 ?c11 ?k11 ?a12 ?l12 ?c12 ?k12 ?a13 ?l13 ?c13 ?k13 ?a14 ?l14 ?c14 ?k14 ?a15 ?l15 ?c15 ?k15 ?a16 ?l16 ?c16 ?k16 ?a17 ?l17 ?c17 ?k17 ?a18 ?l18 ?c18 ?k18 ?z1 ?z2 ?z3 ?z4 ?z5 ?z6 ?z7 ?z8 ?z9 ?z10 ?u1 ?u2 ?u3 ?u4 ?v4 ?u5 ?v5 ?u6 ?xa0 ?xb1 ?xb2 ?xb3 ?xg1 ?xl1 ?xs1 ?xe1 ?xt1 ?xk1 ?xm1 ?xw1 ?xga1 ?xgg1 ?xhd1 ?xi1 ?xu1 ?xj1 ?xc1 ?xy1 ?xn1_line ?xa1 ?xa2 ?xa3 ?xz1 ?xqn ?xqt ?xqa1 ?xqm1 ?ng1 ?ni1 ?nt1 ?ng2 ?ni2 ?nt2 ?ng3 ?ni3 ?nt3 ?ik1 ?ik2 ?ik3 ?ik4 ?pure
    (case a1 => k_is); (case l1 => k_is); (case c1 => k_is); (case k1 => k_is); (case a2 => k_is); (case l2 => k_is); (case c2 => k_is); (case k2 => k_is)
    (case a3 => k_is); (case l3 => k_is); (case c3 => k_is); (case k3 => k_is); (case a4 => k_is); (case l4 => k_is); (case c4 => k_is); (case k4 => k_is)
    (case a5 => k_is); (case l5 => k_is); (case c5 => k_is); (case k5 => k_is); (case a6 => k_is); (case l6 => k_is); (case c6 => k_is); (case k6 => k_is)
    (case a7 => k_is); (case l7 => k_is); (case c7 => k_is); (case k7 => k_is); (case a8 => k_is); (case l8 => k_is); (case c8 => k_is); (case k8 => k_is)
    (case a9 => k_is); (case l9 => k_is); (case c9 => k_is); (case k9 => k_is); (case a10 => k_is); (case l10 => k_is); (case c10 => k_is); (case k10 => k_is)
    (case a11 => k_is); (case l11 => k_is); (case c11 => k_is); (case k11 => k_is); (case a12 => k_is); (case l12 => k_is); (case c12 => k_is); (case k12 => k_is)
    (case a13 => k_is); (case l13 => k_is); (case c13 => k_is); (case k13 => k_is); (case a14 => k_is); (case l14 => k_is); (case c14 => k_is); (case k14 => k_is)
    (case a15 => k_is); (case l15 => k_is); (case c15 => k_is); (case k15 => k_is); (case a16 => k_is); (case l16 => k_is); (case c16 => k_is); (case k16 => k_is)
    (case a17 => k_is); (case l17 => k_is); (case c17 => k_is); (case k17 => k_is); (case a18 => k_is); (case l18 => k_is); (case c18 => k_is); (case k18 => k_is)
    (case z1 => k_is); (case z2 => k_is); (case z3 => k_is); (case z4 => k_is); (case z5 => k_is); (case z6 => k_is); (case z7 => k_is); (case z8 => k_is)
    (case z9 => k_is); (case z10 => k_is); (case u1 => k_is); (case u2 => k_is); (case u3 => k_is); (case u4 => k_is); (case v4 => k_is); (case u5 => k_is)
    (case v5 => k_is); (case u6 => k_is); (case xa0 => k_is); (case xb1 => k_is); (case xb2 => k_is); (case xb3 => k_is); (case xg1 => k_is); (case xl1 => k_is)
    (case xs1 => k_is); (case xe1 => k_is); (case xt1 => k_is); (case xk1 => k_is); (case xm1 => first | rfl | k_is); (case xw1 => k_is); (case xga1 => k_is)
    (case xgg1 => k_is); (case xhd1 => k_is); (case xi1 => k_is); (case xu1 => k_is); (case xj1 => k_is); (case xc1 => k_is); (case xy1 => k_is); (case xn1_line => k_is)
    (case xa1 => k_is); (case xa2 => k_is); (case xa3 => k_is); (case xz1 => k_is); (case xqn => k_is); (case xqt => k_is); (case xqa1 => k_is); (case xqm1 => k_is)
    (case ng1 => k_is); (case ni1 => k_is); (case nt1 => k_is); (case ng2 => k_is); (case ni2 => k_is); (case nt2 => k_is); (case ng3 => k_is); (case ni3 => k_is)
    (case nt3 => k_is); (case ik1 => k_is); (case ik2 => k_is); (case ik3 => k_is); (case ik4 => k_is)
    (case pure => exact Lk15.law_pure)
