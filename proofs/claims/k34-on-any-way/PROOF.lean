import PyProof.Rows.All
import PyProof.EqLayable
import PySem.Builtin.Str.Common
import HandS.Dict
import KE.KeyNested
import KE.KDictCopyH
import HandS.Strs
import HandS.Zip
import PyProof.Rows.CountFlat
import Wide.All
import OpenK.AllK
import Wide.FinOn
import HandS.ForMost
import HandS.Wide
import HandS.Deep
import HandS.IsInst
import HandS.Walk
import HandS.TupLen
import HandS.Exc
import HandS.Lambda
import HandS.Replace
import HandS.Conv
import HandS.More
import HandS.NoneIn
import HandS.RevRange
import HandS.Text
import HandS.FStr
import HandS.RaiseMore
import KE.KxIndex
import HandS.TupAny
import PyProof.EqAt
import PyProof.EqKinds
import HandS.Iter
import HandS.DictTup
import HandS.DictComp
import HandS.Finally
import KE.KDictWalk
import HandS.Defaults
import KE.KDictPairs
import KE.DataFind
import HandS.ForExc
import HandS.ExcInit
import HandS.ExcField
import HandS.TryOnly
import HandS.WordsExc
import HandS.WideBits
import KE.KDictList
import HandS.ListEq
import HandS.DeepEq
import HandS.Sort
import HandS.SortRule
import KE.KExcIs
import HandS.ExcIs
import HandS.Rev
import HandS.RevTup
import HandS.StrMore
import HandS.Nested
import HandS.FromBytesMap
import KE.KMinKey
import PyProof.Rows.CallKwBuiltin
import HandS.EndTab
import PySem.Challenge.RW_lazyhoist_k34_whole_on_any_way
set_option Elab.async false
set_option linter.all false
/-! Mi: a small language of values, stores and steps, in plain Lean. -/
namespace Mi
abbrev Tx := List Nat
inductive D where
  | non | bl (b : Bool) | int (i : Int) | str (s : Tx) | tup (l : List D) | wtp (l : List D) | ref (n : Nat)
abbrev Ky := Sum Int Tx
inductive O where
  | lst (l : List D) | fls (l : List D) | dK (k : List (Ky × D)) | dT (k : List (List Ky × D)) | zK (k : List (Ky × D)) | zT (k : List (List Ky × D)) | ins (C : String) (f : List (Tx × D)) | exn (C : String) (f : List (Tx × D)) | dN (k : List ((Int × Int) × Bool)) | gone
abbrev Store := List O
structure Exn where
  cls : String
  fs : List (Tx × D)
inductive Res (α : Type) where
  | ok (a : α) (S : Store) | exc (x : Exn) (S : Store) | bad
def Res.bind {α β : Type} : Res α → (α → Store → Res β) → Res β
  | .ok a S, f => f a S
  | .exc x S, _ => .exc x S
  | .bad, _ => .bad
@[simp] theorem bind_ok {α β : Type} (a : α) (S : Store) (f : α → Store → Res β) : (Res.ok a S).bind f = f a S := rfl
@[simp] theorem bind_exc {α β : Type} (x : Exn) (S : Store) (f : α → Store → Res β) : (Res.exc x S).bind f = .exc x S := rfl
@[simp] theorem bind_bad {α β : Type} (f : α → Store → Res β) : (Res.bad : Res α).bind f = .bad := rfl
abbrev Fr := List (Option D)
abbrev EM := Fr → Store → Res D
abbrev TM := Fr → Store → Res Bool
abbrev AM := Fr → Store → Res (List D)
inductive Out where
  | nx (fr : Fr) | rt (d : D) | bk (fr : Fr) | ct (fr : Fr)
abbrev SM := Fr → Store → Res Out
abbrev Op2 := D → D → Store → Res D
abbrev Fn := List D → Store → Res D
abbrev LINE : Nat := 16777216
/-! ### data -/
mutual
def toP (rd : Nat → Option PySem.PyData) : D → Option PySem.PyData
  | .non => some .none
  | .bl b => some (.bool b)
  | .int i => some (.int i)
  | .str s => some (.str ⟨s.toArray⟩)
  | .tup l => (toPs rd l).map .tuple
  | .wtp l => (toPs rd l).map .tuple
  | .ref n => rd n
def toPs (rd : Nat → Option PySem.PyData) : List D → Option (List PySem.PyData)
  | [] => some []
  | d :: l => (toP rd d).bind fun p => (toPs rd l).map fun r => p :: r
end
def lookP : Nat → Store → Nat → Option PySem.PyData
  | 0, _, _ => none
  | k + 1, S, n => match S[n]? with
    | some (.lst l) => (toPs (lookP k S) l).map .list
    | some (.fls l) => (toPs (lookP k S) l).map .list
    | _ => none
def pd (S : Store) (d : D) : Option PySem.PyData := toP (lookP 8 S) d
def shp (p : PySem.PyData) : Bool := PySem.SeqAt.shaped p
/-- == of scalars -/
def scq : D → D → Option Bool
  | .non, .non => some true
  | .non, .int _ => some false | .int _, .non => some false
  | .non, .bl _ => some false | .bl _, .non => some false
  | .non, .str _ => some false | .str _, .non => some false
  | .int i, .int j => some (decide (i = j))
  | .bl a, .bl b => some (decide (a = b))
  | .str a, .str b => some (decide (a = b))
  | .int _, .str _ => some false | .str _, .int _ => some false
  | .bl _, .str _ => some false | .str _, .bl _ => some false
  | _, _ => none
def pyEq (x y : D) (S : Store) : Option Bool := match scq x y with
  | some b => some b
  | none => match pd S x, pd S y with
    | some p, some q => if shp p = true ∧ shp q = true then some (PySem.PyData.eqv p q) else none
    | _, _ => none
def oEq : Op2 := fun x y S => match pyEq x y S with
  | some b => .ok (.bl b) S
  | none => .bad
def oNe : Op2 := fun x y S => match pyEq x y S with
  | some b => .ok (.bl (!b)) S
  | none => .bad
def isN : D → Bool
  | .non => true
  | _ => false
def oIs : Op2 := fun x y S => if isN y then .ok (.bl (isN x)) S else .bad
def oIsNot : Op2 := fun x y S => if isN y then .ok (.bl (!isN x)) S else .bad
/-! ### keys -/
def kyOf : D → Option Ky
  | .int i => some (.inl i)
  | .str s => some (.inr s)
  | _ => none
def kyD : Ky → D
  | .inl i => .int i
  | .inr s => .str s
def kysOf : List D → Option (List Ky)
  | [] => some []
  | d :: l => (kyOf d).bind fun k => (kysOf l).map fun r => k :: r
def ktOf : D → Option (List Ky)
  | .tup l => kysOf l
  | _ => none
def dGet {κ α : Type} [DecidableEq κ] (kvs : List (κ × α)) (k : κ) : Option α := (kvs.find? fun kv => decide (kv.1 = k)).map (·.2)
def dPut {κ α : Type} [DecidableEq κ] (kvs : List (κ × α)) (k : κ) (v : α) : List (κ × α) :=
  if (kvs.any fun kv => decide (kv.1 = k)) = true then kvs.map fun kv => if kv.1 = k then (kv.1, v) else kv else kvs ++ [(k, v)]
/-- what a dict holds at a key: none where it is no dict or no key -/
def dLook (S : Store) (n : Nat) (k : D) : Option (Option D) := match S[n]? with
  | some (.dK kvs) => (kyOf k).map (dGet kvs)
  | some (.dT kvs) => (ktOf k).map (dGet kvs)
  | some (.zK kvs) => (kyOf k).map (dGet kvs)
  | some (.zT kvs) => (ktOf k).map (dGet kvs)
  | _ => none
/-! ### lists and tuples -/
def lstOf (S : Store) (n : Nat) : Option (List D) := match S[n]? with
  | some (.lst l) => some l
  | some (.fls l) => some l
  | _ => none
def seqOf (S : Store) : D → Option (List D)
  | .tup l => some l
  | .wtp l => some l
  | .ref n => lstOf S n
  | _ => none
def ixN (n : Nat) (i : Int) : Option Nat := if 0 ≤ i then (if i < n then some i.toNat else none) else if -(n : Int) ≤ i then some (i + n).toNat else none
def atI {α : Type} (xs : List α) (i : Int) : Option α := (ixN xs.length i).bind fun j => xs[j]?
def sIx (n d : Nat) : Option Int → Nat
  | none => d
  | some v => if v < 0 then (v + (n : Int)).toNat else min v.toNat n
def cut {α : Type} (xs : List α) (lo hi : Option Int) : List α := (xs.drop (sIx xs.length 0 lo)).take (sIx xs.length xs.length hi - sIx xs.length 0 lo)
def new (o : O) (S : Store) : Res D := .ok (.ref S.length) (S ++ [o])
/-! ### operators -/
def small (i : Int) : Prop := -(2 ^ 64) < i ∧ i < 2 ^ 64
instance (i : Int) : Decidable (small i) := by unfold small; infer_instance
def mulOk (i j : Int) : Prop := small i ∨ small j ∨ i.natAbs.log2 + j.natAbs.log2 < 1000000
instance (i j : Int) : Decidable (mulOk i j) := by unfold mulOk; infer_instance
def oAdd : Op2
  | .int i, .int j, S => .ok (.int (i + j)) S
  | .str a, .str b, S => if a.length + b.length ≤ LINE then .ok (.str (a ++ b)) S else .bad
  | .tup a, .tup b, S => if a ≠ [] ∧ a.length + b.length ≤ LINE then .ok (.tup (a ++ b)) S else .bad
  | .ref m, .ref n, S => match S[m]?, S[n]? with
    | some (.lst a), some (.lst b) => if a.length + b.length ≤ LINE then new (.lst (a ++ b)) S else .bad
    | _, _ => .bad
  | _, _, _ => .bad
def oSub : Op2
  | .int i, .int j, S => .ok (.int (i - j)) S
  | _, _, _ => .bad
def oMul : Op2
  | .int i, .int j, S => if mulOk i j then .ok (.int (i * j)) S else .bad
  | .ref m, .int k, S => match S[m]? with
    | some (.lst a) => if -(2 ^ 63) ≤ k ∧ k < 2 ^ 63 ∧ a.length * k.toNat ≤ LINE then new (.lst (List.replicate k.toNat a).flatten) S else .bad
    | _ => .bad
  | _, _, _ => .bad
def divOk (j : Int) : Prop := 0 < j ∧ j.natAbs.log2 < 9000
instance (j : Int) : Decidable (divOk j) := by unfold divOk; infer_instance
def oDiv : Op2
  | .int i, .int j, S => if divOk j then .ok (.int (i / j)) S else .bad
  | _, _, _ => .bad
def oMod : Op2
  | .int i, .int j, S => if 0 < j then .ok (.int (i % j)) S else .bad
  | _, _, _ => .bad
def powOk (i j : Int) : Prop := 0 ≤ j ∧ j ≤ 1000000 ∧ i.natAbs < 2 ^ 64
instance (i j : Int) : Decidable (powOk i j) := by unfold powOk; infer_instance
def oPow : Op2
  | .int i, .int j, S => if powOk i j then .ok (.int (i ^ j.toNat)) S else .bad
  | _, _, _ => .bad
def oShl : Op2
  | .int i, .int j, S => if powOk i j then .ok (.int (i * 2 ^ j.toNat)) S else .bad
  | _, _, _ => .bad
def oShr : Op2
  | .int i, .int j, S => if 0 ≤ j then .ok (.int (i / 2 ^ j.toNat)) S else .bad
  | _, _, _ => .bad
def oBit (f : Nat → Nat → Nat) : Op2
  | .int i, .int j, S => if 0 ≤ i ∧ 0 ≤ j then .ok (.int (f i.toNat j.toNat : Nat)) S else .bad
  | _, _, _ => .bad
def oAnd : Op2 := oBit fun a b => a &&& b
def oOr : Op2 := oBit fun a b => a ||| b
def oXor : Op2 := oBit fun a b => a ^^^ b
def oCmp (p : Int → Int → Bool) : Op2
  | .int i, .int j, S => .ok (.bl (p i j)) S
  | _, _, _ => .bad
def oLt : Op2 := oCmp fun i j => decide (i < j)
def oLe : Op2 := oCmp fun i j => decide (i ≤ j)
def oGt : Op2 := oCmp fun i j => decide (j < i)
def oGe : Op2 := oCmp fun i j => decide (j ≤ i)
/-- x in y: a list or a tuple, a dict, a text (one sign) -/
def flatD : D → Bool
  | .non => true
  | .bl _ => true
  | .int _ => true
  | .str _ => true
  | _ => false
def eqF : D → D → Bool
  | .non, .non => true
  | .bl a, .bl b => a == b
  | .bl a, .int b => (if a then 1 else 0) == b
  | .int a, .bl b => a == (if b then 1 else 0)
  | .int a, .int b => a == b
  | .str a, .str b => a == b
  | _, _ => false
def inSeq (x : D) (l : List D) (S : Store) : Option Bool :=
  if flatD x = true ∧ l.all flatD = true then some (l.any fun y => eqF y x) else
  match pd S x, toPs (lookP 8 S) l with
    | some p, some q => if shp p = true ∧ shp (.list q) = true then some (q.any fun z => PySem.PyData.eqv z p) else none
    | _, _ => none
def isIn (x y : D) (S : Store) : Option Bool := match y with
  | .str z => match x with
    | .str [c] => some (decide (c ∈ z))
    | _ => none
  | .tup l => inSeq x l S
  | .wtp l => inSeq x l S
  | .ref n => match S[n]? with
    | some (.lst l) => inSeq x l S
    | some (.fls l) => inSeq x l S
    | some (.dK kvs) => (kyOf x).map fun k => (dGet kvs k).isSome
    | some (.dT kvs) => (ktOf x).map fun k => (dGet kvs k).isSome
    | _ => none
  | _ => none
def oIn : Op2 := fun x y S => match isIn x y S with
  | some b => .ok (.bl b) S
  | none => .bad
def oNotIn : Op2 := fun x y S => match isIn x y S with
  | some b => .ok (.bl (!b)) S
  | none => .bad
/-- x[y] -/
def oIx : Op2 := fun x y S => match x, y with
  | .str z, .int i => if z.length ≤ LINE then (match atI z i with
    | some c => .ok (.str [c]) S
    | none => .bad) else .bad
  | .tup l, .int i => match atI l i with
    | some v => .ok v S
    | none => .bad
  | .wtp l, .int i => match atI l i with
    | some v => .ok v S
    | none => .bad
  | .ref n, k => match S[n]? with
    | some (.lst l) => (match k with
      | .int i => (match atI l i with
        | some v => .ok v S
        | none => .bad)
      | _ => .bad)
    | some (.fls l) => (match k with
      | .int i => (match atI l i with
        | some v => .ok v S
        | none => .bad)
      | _ => .bad)
    | _ => match dLook S n k with
      | some (some v) => .ok v S
      | _ => .bad
  | _, _ => .bad
/-- x[lo:hi] -/
def oSl (x : D) (lo hi : Option Int) (S : Store) : Res D := match x with
  | .str z => if z.length ≤ LINE then .ok (.str (cut z lo hi)) S else .bad
  | .tup l => if (cut l lo hi).length < l.length then .ok (.tup (cut l lo hi)) S else .bad
  | .ref n => match lstOf S n with
    | some l => new (.lst (cut l lo hi)) S
    | none => .bad
  | _ => .bad
/-- -x -/
def uNeg : D → Store → Res D
  | .int i, S => .ok (.int (-i)) S
  | _, _ => .bad
/-- truth -/
def truth (d : D) (S : Store) : Option Bool := match d with
  | .non => some false
  | .bl b => some b
  | .int i => some (i != 0)
  | .str s => if s.length ≤ LINE then some (s.length != 0) else none
  | .tup l => some (!l.isEmpty)
  | .ref n => match lstOf S n with
    | some l => some (!l.isEmpty)
    | none => none
  | _ => none
end Mi
set_option Elab.async false
set_option linter.all false
/-! Mi: steps. -/
namespace Mi
/-- a decision on any statement -/
noncomputable def dec (p : Prop) : Bool := @decide p (Classical.propDecidable p)
theorem dec_true {p : Prop} (h : p) : dec p = true := @decide_eq_true p (Classical.propDecidable p) h
theorem of_dec {p : Prop} (h : dec p = true) : p := @of_decide_eq_true p (Classical.propDecidable p) h
/-! ### expressions -/
def mVar (i : Nat) : EM := fun fr S => match fr[i]? with
  | some (some d) => .ok d S
  | _ => .bad
def mC (d : D) : EM := fun _ S => .ok d S
def mOp (g : Op2) (a b : EM) : EM := fun fr S => (a fr S).bind fun x S1 => (b fr S1).bind fun y S2 => g x y S2
def mUn (g : D → Store → Res D) (a : EM) : EM := fun fr S => (a fr S).bind fun x S1 => g x S1
def toB (d : D) (S : Store) : Res Bool := match d with
  | .bl b => .ok b S
  | _ => .bad
def mNot (a : EM) : EM := fun fr S => (a fr S).bind fun x S1 => (toB x S1).bind fun b S2 => .ok (.bl (!b)) S2
def mAnd (a b : EM) : EM := fun fr S => (a fr S).bind fun x S1 => (toB x S1).bind fun c S2 => if c then b fr S2 else .ok (.bl false) S2
def mOr (a b : EM) : EM := fun fr S => (a fr S).bind fun x S1 => (toB x S1).bind fun c S2 => if c then .ok (.bl true) S2 else b fr S2
def tTru (a : EM) : TM := fun fr S => (a fr S).bind fun x S1 => match truth x S1 with
  | some b => .ok b S1
  | none => .bad
def tBl (a : EM) : TM := fun fr S => (a fr S).bind fun x S1 => toB x S1
def tAnd (a b : TM) : TM := fun fr S => (a fr S).bind fun c S1 => if c then b fr S1 else .ok false S1
def tOr (a b : TM) : TM := fun fr S => (a fr S).bind fun c S1 => if c then .ok true S1 else b fr S1
def tNot (a : TM) : TM := fun fr S => (a fr S).bind fun c S1 => .ok (!c) S1
def mIfE (t : TM) (a b : EM) : EM := fun fr S => (t fr S).bind fun c S1 => if c then a fr S1 else b fr S1
/-- a < b < c -/
def mChain (g h : Op2) (a b c : EM) : EM := fun fr S => (a fr S).bind fun x S1 => (b fr S1).bind fun y S2 => (g x y S2).bind fun z S3 => (toB z S3).bind fun k S4 =>
  if k then (c fr S4).bind fun w S5 => h y w S5 else .ok (.bl false) S4
def aNil : AM := fun _ S => .ok [] S
def aCons (a : EM) (r : AM) : AM := fun fr S => (a fr S).bind fun x S1 => (r fr S1).bind fun xs S2 => .ok (x :: xs) S2
def mTup (a : AM) : EM := fun fr S => (a fr S).bind fun xs S1 => if xs.length ≤ LINE then .ok (.tup xs) S1 else .bad
def mLst (a : AM) : EM := fun fr S => (a fr S).bind fun xs S1 => if xs.length ≤ LINE then new (.lst xs) S1 else .bad
def mCall (f : Fn) (a : AM) : EM := fun fr S => (a fr S).bind f
/-- o.m(..) of a built-in type: first the type, then the arguments -/
def mMt (T : D → Store → Bool) (f : D → Fn) (o : EM) (a : AM) : EM := fun fr S => (o fr S).bind fun x S1 => if T x S1 then (a fr S1).bind (f x) else .bad
def mNewK : EM := fun _ S => new (.dK []) S
def mNewT : EM := fun _ S => new (.dT []) S
/-- a slice's part -/
abbrev PM := Fr → Store → Res (Option Int)
def pNo : PM := fun _ S => .ok none S
def pSome (a : EM) : PM := fun fr S => (a fr S).bind fun x S1 => match x with
  | .int i => .ok (some i) S1
  | _ => .bad
def mSl (a : EM) (lo hi : PM) : EM := fun fr S => (a fr S).bind fun x S1 => (lo fr S1).bind fun l S2 => (hi fr S2).bind fun h S3 => oSl x l h S3
/-! ### targets -/
abbrev GM := D → Fr → Store → Res Fr
abbrev GMs := List D → Fr → Store → Res Fr
def gName (i : Nat) : GM := fun d fr S => .ok (fr.set i (some d)) S
def gNil : GMs := fun ds fr S => match ds with
  | [] => .ok fr S
  | _ => .bad
def gCons (g : GM) (gs : GMs) : GMs := fun ds fr S => match ds with
  | d :: r => (g d fr S).bind fun fr' S' => gs r fr' S'
  | [] => .bad
/-- a, b, ..: of a tuple of that size -/
def gTup (n : Nat) (g : GMs) : GM := fun d fr S => match seqOf S d with
  | some l => if l.length = n then g l fr S else .bad
  | none => .bad
/-- o[i] = v: a list, a dict -/
def setIx (o i v : D) (S : Store) : Res Unit := match o with
  | .ref n => match S[n]? with
    | some (.lst l) => match i with
      | .int k => match ixN l.length k with
        | some j => .ok () (S.set n (.lst (l.set j v)))
        | none => .bad
      | _ => .bad
    | some (.dK kvs) => match kyOf i with
      | some k => if kvs.length < LINE then .ok () (S.set n (.dK (dPut kvs k v))) else .bad
      | none => .bad
    | some (.dT kvs) => match ktOf i with
      | some k => if kvs.length < LINE then .ok () (S.set n (.dT (dPut kvs k v))) else .bad
      | none => .bad
    | _ => .bad
  | _ => .bad
def gSub (o i : EM) : GM := fun v fr S => (o fr S).bind fun x S1 => (i fr S1).bind fun y S2 => (setIx x y v S2).bind fun _ S3 => .ok fr S3
/-! ### statements -/
def sNx : SM := fun fr S => .ok (.nx fr) S
def sSeq (a b : SM) : SM := fun fr S => (a fr S).bind fun o S1 => match o with
  | .nx fr' => b fr' S1
  | o => .ok o S1
def sAsg (e : EM) (g : GM) : SM := fun fr S => (e fr S).bind fun x S1 => (g x fr S1).bind fun fr' S2 => .ok (.nx fr') S2
def oAddI : Op2 := fun x y S => match x, y with
  | .int a, .int b => .ok (.int (a + b)) S
  | _, _ => .bad
def sAug (i : Nat) (g : Op2) (e : EM) : SM := fun fr S => match fr[i]? with
  | some (some x) => (e fr S).bind fun y S1 => (g x y S1).bind fun z S2 => .ok (.nx (fr.set i (some z))) S2
  | _ => .bad
def sExp (e : EM) : SM := fun fr S => (e fr S).bind fun _ S1 => .ok (.nx fr) S1
def sRet (e : EM) : SM := fun fr S => (e fr S).bind fun x S1 => .ok (.rt x) S1
def sRetN : SM := fun _ S => .ok (.rt .non) S
def sBrk : SM := fun fr S => .ok (.bk fr) S
def sCnt : SM := fun fr S => .ok (.ct fr) S
def sIf (t : TM) (a b : SM) : SM := fun fr S => (t fr S).bind fun c S1 => if c then a fr S1 else b fr S1
/-! ### what is walked -/
structure Its where
  items : List D
  hs : List (Nat × List D)
abbrev IM := Fr → Store → Res Its
def stands (hs : List (Nat × List D)) (S : Store) : Prop := ∀ p, p ∈ hs → lstOf S p.1 = some p.2
def iSeq (e : EM) : IM := fun fr S => (e fr S).bind fun x S1 => match x with
  | .tup l => .ok ⟨l, []⟩ S1
  | .wtp l => .ok ⟨l, []⟩ S1
  | .ref n => match lstOf S1 n with
    | some l => .ok ⟨l, [(n, l)]⟩ S1
    | none => .bad
  | _ => .bad
def iStr (e : EM) : IM := fun fr S => (e fr S).bind fun x S1 => match x with
  | .str z => .ok ⟨z.map fun c => .str [c], []⟩ S1
  | _ => .bad
def rng (lo : Int) (n : Nat) : List D := (List.range n).map fun k => .int (lo + (k : Nat))
def far (i : Int) : Prop := -(2 ^ 62) ≤ i ∧ i < 2 ^ 62
instance (i : Int) : Decidable (far i) := by unfold far; infer_instance
def iRng1 (a : AM) : IM := fun fr S => (a fr S).bind fun ds S1 => match ds with
  | [.int j] => if far j then .ok ⟨rng 0 j.toNat, []⟩ S1 else .bad
  | _ => .bad
def iRng2 (a : AM) : IM := fun fr S => (a fr S).bind fun ds S1 => match ds with
  | [.int i, .int j] => if far i ∧ far j then .ok ⟨rng i (j - i).toNat, []⟩ S1 else .bad
  | _ => .bad
/-- range(a, b, -1) -/
def iRngD (a : AM) : IM := fun fr S => (a fr S).bind fun ds S1 => match ds with
  | [.int i, .int j, .int c] => if far i ∧ far j ∧ c = -1 then .ok ⟨(List.range (i - j).toNat).map fun k => .int (i - (k : Nat)), []⟩ S1 else .bad
  | _ => .bad
/-- enumerate(list): the pairs -/
def prs (i : Nat) : List D → List D
  | [] => []
  | d :: l => .tup [.int (i : Nat), d] :: prs (i + 1) l
def iEnum (a : AM) : IM := fun fr S => (a fr S).bind fun ds S1 => match ds with
  | [.ref n] => match lstOf S1 n with
    | some l => .ok ⟨prs 0 l, [(n, l)]⟩ S1
    | none => .bad
  | _ => .bad
def iRev (a : AM) : IM := fun fr S => (a fr S).bind fun ds S1 => match ds with
  | [.ref n] => match lstOf S1 n with
    | some l => .ok ⟨l.reverse, [(n, l)]⟩ S1
    | none => .bad
  | _ => .bad
/-- behind a turn -/
def goOn (k : SM) : Out → Store → Res Out
  | .nx fr, S => k fr S
  | .ct fr, S => k fr S
  | .bk fr, S => .ok (.nx fr) S
  | .rt x, S => .ok (.rt x) S
noncomputable def loopM (hs : List (Nat × List D)) (turn : D → SM) : List D → SM
  | [], fr, S => if dec (stands hs S) = true then .ok (.nx fr) S else .bad
  | d :: ds, fr, S => if dec (stands hs S) = true then (turn d fr S).bind (goOn (loopM hs turn ds)) else .bad
noncomputable def sFor (i : IM) (g : GM) (b : SM) : SM := fun fr S => (i fr S).bind fun I S1 => loopM I.hs (fun d fr S => (g d fr S).bind fun fr' S' => b fr' S') I.items fr S1
def whileN (t : TM) (b : SM) : Nat → SM
  | 0, _, _ => .bad
  | n + 1, fr, S => (t fr S).bind fun c S1 => if c then (b fr S1).bind (goOn (whileN t b n)) else .ok (.nx fr) S1
open Classical in
noncomputable def sWhile (t : TM) (b : SM) : SM := fun fr S => if h : ∃ n, whileN t b n fr S ≠ .bad then whileN t b (Classical.choose h) fr S else .bad
/-! ### comprehensions -/
def unset : List Nat → Fr → Fr
  | [], fr => fr
  | i :: r, fr => (unset r fr).set i none
noncomputable def lcLoop (hs : List (Nat × List D)) (n : Nat) (g : GM) (t : TM) (e : EM) (fr : Fr) : List D → Store → Res D
  | [], S => if dec (stands hs S) = true then .ok (.ref n) S else .bad
  | d :: ds, S => if dec (stands hs S) = true then (g d fr S).bind fun fr' S1 => (t fr' S1).bind fun c S2 =>
      if c then (e fr' S2).bind fun x S3 => match S3[n]? with
        | some (.lst acc) => if acc.length < LINE then lcLoop hs n g t e fr ds (S3.set n (.lst (acc ++ [x]))) else .bad
        | _ => .bad
      else lcLoop hs n g t e fr ds S2
    else .bad
def tYes : TM := fun _ S => .ok true S
/-- no refusal within -/
def quiet {α : Type} : Res α → Res α
  | .ok a S => .ok a S
  | _ => .bad
noncomputable def mLc (vs : List Nat) (i : IM) (g : GM) (t : TM) (e : EM) : EM := fun fr S => (i fr S).bind fun I S1 =>
  lcLoop I.hs S1.length g (fun fr S => quiet (t fr S)) (fun fr S => quiet (e fr S)) (unset vs fr) I.items (S1 ++ [.lst []])
/-! ### a def -/
def startF (n : Nat) (ds : List D) : Fr := ds.map some ++ List.replicate (n - ds.length) none
def mDefX (np n : Nat) (b : SM) : Fn := fun ds S => if ds.length = np then (b (startF n ds) S).bind fun o S1 => match o with
  | .rt x => .ok x S1
  | .nx _ => .ok .non S1
  | _ => .bad
  else .bad
/-- a def that refuses nothing -/
def mDef (np n : Nat) (b : SM) : Fn := fun ds S => quiet (mDefX np n b ds S)
/-! ### built-ins -/
def bLen : Fn := fun ds S => match ds with
  | [.str s] => if s.length ≤ LINE then .ok (.int (s.length : Nat)) S else .bad
  | [.tup l] => .ok (.int (l.length : Nat)) S
  | [.wtp l] => .ok (.int (l.length : Nat)) S
  | [.ref n] => match S[n]? with
    | some (.lst l) => .ok (.int (l.length : Nat)) S
    | some (.fls l) => .ok (.int (l.length : Nat)) S
    | some (.dK k) => .ok (.int (k.length : Nat)) S
    | some (.dT k) => .ok (.int (k.length : Nat)) S
    | _ => .bad
  | _ => .bad
def bAbs : Fn := fun ds S => match ds with
  | [.int i] => .ok (.int (if i < 0 then -i else i)) S
  | _ => .bad
def bInt : Fn := fun ds S => match ds with
  | [.int i] => .ok (.int i) S
  | [.bl b] => .ok (.int (if b then 1 else 0)) S
  | _ => .bad
def bMax : Fn := fun ds S => match ds with
  | [.int i, .int j] => .ok (.int (if j > i then j else i)) S
  | _ => .bad
def bMin : Fn := fun ds S => match ds with
  | [.int i, .int j] => .ok (.int (if j < i then j else i)) S
  | _ => .bad
def bList : Fn := fun ds S => match ds with
  | [x] => match seqOf S x with
    | some l => new (.lst l) S
    | none => match x with
      | .ref n => match S[n]? with
        | some (.dK k) => new (.lst (k.map fun p => kyD p.1)) S
        | some (.dT k) => new (.lst (k.map fun p => .tup (p.1.map kyD))) S
        | _ => .bad
      | _ => .bad
  | _ => .bad
def bTuple : Fn := fun ds S => match ds with
  | [.tup l] => .ok (.tup l) S
  | [.ref n] => match lstOf S n with
    | some l => .ok (.tup l) S
    | none => .bad
  | _ => .bad
def intsOf : List D → Option (List Int)
  | [] => some []
  | .int i :: r => (intsOf r).map fun l => i :: l
  | _ => none
def bSum : Fn := fun ds S => match ds with
  | [.ref n] => match (lstOf S n).bind intsOf with
    | some l => .ok (.int l.sum) S
    | none => .bad
  | _ => .bad
/-- isinstance(x, T), T one of the built-in types by name -/
inductive Ty where
  | int | bool | str | list | tuple | dict
  deriving DecidableEq
def tyOf (S : Store) : D → Option Ty
  | .bl _ => some .bool
  | .int _ => some .int
  | .str _ => some .str
  | .tup _ => some .tuple
  | .wtp _ => none
  | .non => none
  | .ref n => match S[n]? with
    | some (.lst _) => some .list
    | some (.fls _) => some .list
    | some (.dK _) => some .dict
    | some (.dT _) => some .dict
    | _ => none
def isI (T : Ty) (x : D) (S : Store) : Option Bool := match x with
  | .non => some false
  | x => (tyOf S x).map fun U => decide (U = T) || (decide (U = .bool) && decide (T = .int))
def bIsI (T : Ty) : D → Store → Res D := fun x S => match isI T x S with
  | some b => .ok (.bl b) S
  | none => .bad
/-! ### methods -/
def isLst (d : D) (S : Store) : Bool := match d with
  | .ref n => (lstOf S n).isSome
  | _ => false
def isDct (d : D) (S : Store) : Bool := match d with
  | .ref n => match S[n]? with
    | some (.dK _) => true
    | some (.dT _) => true
    | _ => false
  | _ => false
def isStr (d : D) (_ : Store) : Bool := match d with
  | .str _ => true
  | _ => false
def mutL (d : D) (S : Store) (f : Nat → List D → Res D) : Res D := match d with
  | .ref n => match S[n]? with
    | some (.lst l) => f n l
    | _ => .bad
  | _ => .bad
def lAppend (o : D) : Fn := fun ds S => match ds with
  | [x] => mutL o S fun n l => if l.length < LINE then .ok .non (S.set n (.lst (l ++ [x]))) else .bad
  | _ => .bad
def lPop (o : D) : Fn := fun ds S => match ds with
  | [] => mutL o S fun n l => match l[l.length - 1]? with
    | some y => .ok y (S.set n (.lst l.dropLast))
    | none => .bad
  | [.int i] => mutL o S fun n l => if -(2 ^ 63) ≤ i ∧ i < 2 ^ 63 then (match (ixN l.length i) with
    | some k => (match l[k]? with
      | some y => .ok y (S.set n (.lst (l.eraseIdx k)))
      | none => .bad)
    | none => .bad) else .bad
  | _ => .bad
def lReverse (o : D) : Fn := fun ds S => match ds with
  | [] => mutL o S fun n l => .ok .non (S.set n (.lst l.reverse))
  | _ => .bad
def lClear (o : D) : Fn := fun ds S => match ds with
  | [] => mutL o S fun n l => .ok .non (S.set n (.lst []))
  | _ => .bad
/-- l.insert(i, x), i from 0 on -/
def lInsert (o : D) : Fn := fun ds S => match ds with
  | [.int i, x] => mutL o S fun n l => if l.length < LINE ∧ 0 ≤ i ∧ i < 2 ^ 63 then .ok .non (S.set n (.lst (l.take i.toNat ++ [x] ++ l.drop i.toNat))) else .bad
  | _ => .bad
/-- texts of a list -/
def txsOf : List D → Option (List Tx)
  | [] => some []
  | .str s :: r => (txsOf r).map fun l => s :: l
  | _ => none
def joinT (sep : Tx) : List Tx → Tx
  | [] => []
  | [x] => x
  | x :: y :: r => x ++ sep ++ joinT sep (y :: r)
def sJoin (o : D) : Fn := fun ds S => match o with
  | .str a => match ds with
    | [d] => match (seqOf S d).bind txsOf with
      | some ys => if (ys.map List.length).sum + ys.length * a.length ≤ LINE then .ok (.str (joinT a ys)) S else .bad
      | none => .bad
    | _ => .bad
  | _ => .bad
/-- reversed(range(n)) -/
def iRevR (a : EM) : IM := fun fr S => (a fr S).bind fun x S1 => match x with
  | .int j => if far j then .ok ⟨(List.range j.toNat).map fun k => .int ((j.toNat : Int) - 1 - (k : Nat)), []⟩ S1 else .bad
  | _ => .bad
end Mi
set_option Elab.async false
set_option linter.all false
/-! Mi: more steps. -/
namespace Mi
theorem Res.bind_assoc {α β γ : Type} (r : Res α) (f : α → Store → Res β) (g : β → Store → Res γ) : (r.bind f).bind g = r.bind fun a S => (f a S).bind g := by
  cases r <;> rfl
/-- the pairs of a display -/
def mPairs : List (EM × EM) → Fr → Store → Res (List (D × D))
  | [], _, S => .ok [] S
  | (a, b) :: r, fr, S => (a fr S).bind fun x S1 => (b fr S1).bind fun y S2 => (mPairs r fr S2).bind fun ps S3 => .ok ((x, y) :: ps) S3
def kvsM : List (D × D) → Option (List (Ky × D))
  | [] => some []
  | (k, v) :: r => (kyOf k).bind fun q => (kvsM r).map fun l => (q, v) :: l
def putM (l : List (Ky × D)) : List (Ky × D) := l.foldl (fun acc kv => dPut acc kv.1 kv.2) []
def disK (n : Nat) (S : Store) : Option (List (Ky × D)) → Option O → Res D
  | some kvs, some (.dK []) => if kvs.length ≤ 15 then .ok (.ref n) (S.set n (.dK (putM kvs))) else .bad
  | _, _ => .bad
/-- {k: v, ..} -/
def mDis (ps : List (EM × EM)) : EM := fun fr S => (mPairs ps fr (S ++ [.dK []])).bind fun xs S1 => disK S.length S1 (kvsM xs) S1[S.length]?
/-! ### texts -/
end Mi
set_option Elab.async false
set_option linter.all false
/-! Mi: == where a dict may stand, upper of the six words -/
namespace Mi
def oEqX : Op2 := fun x y S => match x, y with
  | .ref n, .str _ => (match S[n]? with
    | some (.dK _) => .ok (.bl false) S
    | _ => oEq x y S)
  | _, _ => oEq x y S
def sixW : List Tx := [[114, 101, 99, 107, 111, 110], [99, 111, 112, 121], [115, 97, 121], [103, 111], [112, 97, 114, 116], [101, 110, 100]]
def sUpper (o : D) : Fn := fun ds S => match o with
  | .str s => match ds with
    | [] => if s ∈ sixW then .ok (.str (s.map fun c => c - 32)) S else .bad
    | _ => .bad
  | _ => .bad
/-- x + y, tuples of any size -/
def oAddA : Op2 := fun x y S => match x, y with
  | .tup a, .tup b => if a.length + b.length ≤ LINE then .ok (.tup (a ++ b)) S else .bad
  | _, _ => oAdd x y S
/-- x[lo:hi], tuples of any size -/
def oSlA (x : D) (lo hi : Option Int) (S : Store) : Res D := match x with
  | .tup l => .ok (.tup (cut l lo hi)) S
  | _ => oSl x lo hi S
def mSlA (a : EM) (lo hi : PM) : EM := fun fr S => (a fr S).bind fun x S1 => (lo fr S1).bind fun l S2 => (hi fr S2).bind fun h S3 => oSlA x l h S3
end Mi
set_option Elab.async false
set_option linter.all false
/-! Mi: a[::-1] of a list -/
namespace Mi
def oRev (x : D) (S : Store) : Res D := match x with
  | .ref n => (match lstOf S n with
    | some l => new (.lst l.reverse) S
    | none => .bad)
  | _ => .bad
def mRev (a : EM) (st : PM) : EM := fun fr S => (a fr S).bind fun x S1 => (st fr S1).bind fun o S2 => if o = some (-1) then oRev x S2 else .bad
end Mi
set_option Elab.async false
set_option linter.all false
/-! Mi: walks over dicts, == of dicts, clear -/
namespace Mi
end Mi
set_option Elab.async false
set_option linter.all false
/-! Mi: defaults; tuples known as they stand; dict(..) -/
namespace Mi
/-- the defaults behind what is written -/
def mDfl (g : Fn) (xs : List D) : Fn := fun ds S => g (ds ++ xs) S
@[simp] theorem mDfl_s (g : Fn) (xs ds : List D) (S : Store) : mDfl g xs ds S = g (ds ++ xs) S := (rfl)
end Mi
set_option Elab.async false
set_option linter.all false
/-! Mi: a[lo::st] of a list -/
namespace Mi
end Mi
set_option Elab.async false
set_option linter.all false
/-! Mi: list + list, either side a fixed list -/
namespace Mi
end Mi
set_option Elab.async false
set_option linter.all false
/-! Mi: l.remove(x) of data; o[i] += x -/
namespace Mi
end Mi
set_option Elab.async false
set_option linter.all false
/-! Mi: own exceptions raised and caught -/
namespace Mi
end Mi
set_option Elab.async false
set_option linter.all false
/-! Mi: l.index(x) of data; o[i] += e of a list -/
namespace Mi
end Mi
set_option Elab.async false
set_option linter.all false
/-! Mi: calls with keywords -/
namespace Mi
end Mi
set_option Elab.async false
set_option linter.all false
/-! Mi: displays, slices and sums of tuples known as they stand -/
namespace Mi
end Mi
set_option Elab.async false
set_option linter.all false
/-! Mi: instances of own classes -/
namespace Mi
end Mi
set_option Elab.async false
set_option linter.all false
/-! Mi: s.isalpha() of one sign -/
namespace Mi
end Mi
set_option Elab.async false
set_option linter.all false
/-! Mi: list(d.values()), sorted([i, j]) -/
namespace Mi
end Mi
set_option Elab.async false
set_option linter.all false
/-! Mi: sorted([i, j]); == of tuples of equal items, dicts among them -/
namespace Mi
end Mi
set_option Elab.async false
set_option linter.all false
/-! Mi: len(set(l)); sorted of pairs of numbers, in a list or as the keys of a dict -/
namespace Mi
/-- len(set(l)): numbers, none twice -/
def mLenSet (a : EM) : EM := fun fr S => (a fr S).bind fun x S1 => match x with
  | .ref n => (match (lstOf S1 n).bind intsOf with
    | some ns => if ns.Nodup ∧ ns.length ≤ 4000 then .ok (.int (ns.length : Nat)) S1 else .bad
    | none => .bad)
  | _ => .bad
end Mi
set_option Elab.async false
set_option linter.all false
/-! Mi: list(range(..)) -/
namespace Mi
end Mi
set_option Elab.async false
set_option linter.all false
/-! Mi: a caught exception handed on as a value -/
namespace Mi
end Mi
set_option Elab.async false
set_option linter.all false
/-! Mi: list(reversed(l)); isinstance of the exception that a suite holds -/
namespace Mi
end Mi
set_option Elab.async false
set_option linter.all false
/-! Mi: x is True -/
namespace Mi
end Mi
set_option Elab.async false
set_option linter.all false
/-! Mi: s.strip(c) -/
namespace Mi
end Mi
set_option Elab.async false
set_option linter.all false
/-! Mi: dicts whose keys are ((n, m), truth), whose values are True -/
namespace Mi
end Mi
set_option Elab.async false
set_option linter.all false
/-! Mi: for x in d.keys() of a dict with nested tuple keys; the dict is not looked at again -/
namespace Mi
end Mi
set_option Elab.async false
set_option linter.all false
/-! Mi: len(set(l)) and l.count(t) of texts -/
namespace Mi
end Mi
set_option Elab.async false
set_option linter.all false
/-! min of a list of whole numbers by a key: lambda x: g[x], g a list of whole numbers -/
namespace Mi
def keysM (ys : List D) : List Int → Option (List Int)
  | [] => some []
  | n :: r => match atI ys n with
    | some (.int k) => (keysM ys r).map (k :: ·)
    | _ => none
/-- the first one with the least key -/
def pickM : Int → Int → List (Int × Int) → Int
  | n, _, [] => n
  | n, k, (m, j) :: r => if j < k then pickM m j r else pickM n k r
def intsM : List D → Option (List Int)
  | [] => some []
  | .int i :: r => (intsM r).map (i :: ·)
  | _ => none
def minL (l ys : List D) (S : Store) : Res D := match intsM l with
  | some (i :: r) => match keysM ys (i :: r) with
    | some (k :: ks) => .ok (.int (pickM i k (r.zip ks))) S
    | _ => .bad
  | _ => .bad
def minK (y x : D) (S : Store) : Res D := match x, y with
  | .ref n, .ref q => match S[n]?, S[q]? with
    | some (.lst l), some (.lst ys) => minL l ys S
    | _, _ => .bad
  | _, _ => .bad
def minJ (y : Option (Option D)) (x : D) (S : Store) : Res D := match y with
  | some (some y) => minK y x S
  | _ => .bad
/-- min(a, key=lambda x: g[x]), g the variable j -/
def mMinKey (a : EM) (j : Nat) : EM := fun fr S => (a fr S).bind fun x S1 => minJ fr[j]? x S1
end Mi
set_option Elab.async false
set_option linter.all false
set_option maxRecDepth 100000
set_option maxHeartbeats 2000000
/-! dicts whose keys are ((n, m), truth) and whose values are True -/
namespace Sm
open PySem PySem.Spec PyProof.Rows L2
abbrev NKey := (Int × Int) × Bool
def nkOf (k : NKey) : NestedKey := .tup [.tup [.num k.1.1, .num k.1.2], .num (if k.2 = true then 1 else 0)]
theorem nkOf_inj {k l : NKey} (e : nkOf k = nkOf l) : k = l := by
  obtain ⟨⟨a, b⟩, c⟩ := k
  obtain ⟨⟨a', b'⟩, c'⟩ := l
  simp only [nkOf, NestedKey.tup.injEq, List.cons.injEq, NestedKey.num.injEq, and_true] at e
  obtain ⟨⟨e1, e2⟩, e3⟩ := e
  subst e1 e2
  cases c <;> cases c' <;> simp at e3 ⊢
/-- the tuple ((n, m), truth) at p -/
def KeyAt (H : Hp) (k : NKey) (p : Addr) : Prop := ∃ q, H p = some (.tup [.ref q, .bl k.2]) ∧ H q = some (.tup [.int k.1.1, .int k.1.2])
theorem KeyAt.mono {H H' : Hp} {k : NKey} {p : Addr} (x : KeyAt H k p) (e : ∀ b xs, H b = some (.tup xs) → H' b = some (.tup xs)) : KeyAt H' k p :=
  let ⟨q, a, b⟩ := x; ⟨q, e _ _ a, e _ _ b⟩
section
variable {P : Program} {w : World} {H : Hp} {h : Heap} {k : NKey} {p a : Addr}
theorem keyAt_is (ok : HOk P w H h) (x : KeyAt H k p) : (nestedKind P w).is h (nkOf k) p := by
  obtain ⟨q, h1, h2⟩ := x
  obtain ⟨_, its, r, o, e1, e2, n, e3⟩ := (show ObjOk P w H h p (.tup _) from ok p _ h1)
  obtain ⟨_, jts, u, o', f1, f2, n', f3⟩ := (show ObjOk P w H h q (.tup _) from ok q _ h2)
  refine ⟨.tup e1 e2 e3 ?_, by simp [nkOf, NestedKey.depth, NestedKey.depthAll]⟩
  cases r with
  | cons r1 r =>
    cases r with
    | cons r2 r =>
      cases r
      cases u with
      | cons u1 u =>
        cases u with
        | cons u2 u =>
          cases u
          obtain ⟨t1, rfl⟩ := u1
          obtain ⟨t2, rfl⟩ := u2
          cases r1
          cases r2
          exact .cons (.tup f1 f2 f3 (.cons (.int _ _) (.cons (.int _ _) .nil))) (.cons (.bool rfl) .nil)
/-- the dict's own object -/
def NDo (P : Program) (w : World) (a : Addr) (xs : List (NKey × Addr)) : HO :=
  .ext fun h => ∃ o es ep, h.get? a = some o ∧ o.ExactDict ∧ o.data = .dict es ep ∧ es.toList = xs.map fun x => entryOfKey (nestedKind P w) (nkOf x.1, x.2, .bool true)
theorem ndo_mut {xs : List (NKey × Addr)} : Mut (some (NDo P w a xs)) := True.intro
/-- the dict at a has just the keys ks, in this order -/
structure NDs (P : Program) (w : World) (H : Hp) (a : Addr) (xs : List (NKey × Addr)) : Prop where
  at_ : H a = some (NDo P w a xs)
  sm : (a == sysModules) = false
  le : xs.length ≤ sizeLine
  nd : (xs.map (·.1)).Nodup
  key : ∀ x ∈ xs, KeyAt H x.1 x.2
theorem NDs.mono {H' : Hp} {xs : List (NKey × Addr)} (x : NDs P w H a xs) (e : H' a = some (NDo P w a xs)) (t : ∀ b l, H b = some (.tup l) → H' b = some (.tup l)) : NDs P w H' a xs :=
  ⟨e, x.sm, x.le, x.nd, fun y hy => (x.key y hy).mono t⟩
theorem nodup_nk : ∀ {l : List (NKey × Addr)}, (l.map (·.1)).Nodup → ((l.map fun x => (nkOf x.1, x.2, Value.bool true)).map (·.1)).Nodup
  | [], _ => by simp
  | x :: l, h => by
    simp only [List.map_cons, List.nodup_cons] at h ⊢
    refine ⟨fun m => h.1 ?_, nodup_nk h.2⟩
    simp only [List.map_map, List.mem_map, Function.comp] at m
    obtain ⟨y, hy, e⟩ := m
    exact List.mem_map.mpr ⟨y, hy, nkOf_inj e⟩
theorem NDs.dict {xs : List (NKey × Addr)} (ok : HOk P w H h) (x : NDs P w H a xs) : h.DictOfH (nestedKind P w) a (xs.map fun x => (nkOf x.1, x.2, .bool true)) := by
  obtain ⟨⟨o, es, ep, h1, h2, h3, h4⟩, _⟩ := (show ObjOk P w H h a (.ext _) from ok a _ x.at_)
  refine ⟨o, es, ep, h1, h2, h3, by rw [h4, List.map_map]; rfl, fun y hy => ?_, nodup_nk x.nd⟩
  obtain ⟨z, hz, rfl⟩ := List.mem_map.mp hy
  exact keyAt_is ok (x.key z hz)
end
end Sm
set_option Elab.async false
set_option linter.all false
set_option maxRecDepth 100000
/-! Sets of texts, any number of them; how often a text stands in a list. -/
namespace L2
open PySem PySem.Spec PyProof.Rows
end L2
set_option Elab.async false
set_option linter.all false
set_option maxRecDepth 100000
set_option maxHeartbeats 2000000
/-! the small language against the layer -/
namespace Sm
open PySem PySem.Spec PyProof.Rows L2 Mi
/-- tables of code objects that are tracked, each with the name that its code objects bear -/
class Tbs where
  T : PySem.W.Frag → List (Addr × Str)
variable [Tbs]
/-- what the written part is, what the module's names stand for -/
structure Ct where
  K : PySem.W.Frag
  mg : Str → Option Value
  P : Program
  w : World
def sOf (s : Tx) : Str := ⟨s.toArray⟩
theorem sOf_inj {a b : Tx} (h : sOf a = sOf b) : a = b := by
  have e : a.toArray = b.toArray := congrArg Str.cps h
  simpa using e
theorem sOf_eq {a b : Tx} : decide (sOf a = sOf b) = decide (a = b) := by
  by_cases h : a = b
  · subst h; simp
  · have q : ¬ sOf a = sOf b := fun z => h (sOf_inj z)
    rw [decide_eq_false h, decide_eq_false q]
theorem sOf_len (a : Tx) : (sOf a).length = a.length := by
  show a.toArray.size = a.length
  simp
def H0 : Hp := fun _ => none
/-- a tuple known as it stands: no dict of its own -/
def Wt (K : PySem.W.Frag) (H : Hp) (a : Addr) (xs : List V) : Prop := (∃ o : Obj, H a = some (.frz o (.tup xs)) ∧ o.dict = none) ∨ (SqT K H0 a xs ∧ ∃ o : Obj, K.lookup a = some o ∧ o.dict = none)
mutual
inductive RelD (K : PySem.W.Frag) (H : Hp) (m : List Addr) : D → V → Prop
  | non : RelD K H m .non .non
  | bl (b : Bool) : RelD K H m (.bl b) (.bl b)
  | int (i : Int) : RelD K H m (.int i) (.int i)
  | str (s : Tx) : RelD K H m (.str s) (.str (sOf s))
  | tup {l : List D} {a : Addr} {xs : List V} (h : H a = some (.tup xs)) (r : RelL K H m l xs) : RelD K H m (.tup l) (.ref a)
  | wtp {l : List D} {a : Addr} {xs : List V} (h : Wt K H a xs) (r : RelL K H m l xs) : RelD K H m (.wtp l) (.ref a)
  | ref {n : Nat} {a : Addr} (h : m[n]? = some a) : RelD K H m (.ref n) (.ref a)
inductive RelL (K : PySem.W.Frag) (H : Hp) (m : List Addr) : List D → List V → Prop
  | nil : RelL K H m [] []
  | cons {d : D} {l : List D} {v : V} {r : List V} (h : RelD K H m d v) (t : RelL K H m l r) : RelL K H m (d :: l) (v :: r)
end
def tupO (u : HO) : Prop := (∃ xs, u = .tup xs) ∨ (∃ o xs, u = .frz o (.tup xs)) ∨ ∃ fs, u = .xd fs
def TStay (H H' : Hp) : Prop := ∀ a u, tupO u → H a = some u → H' a = some u
theorem Wt.mono {K : PySem.W.Frag} {H H' : Hp} {a : Addr} {xs : List V} (t : TStay H H') (h : Wt K H a xs) : Wt K H' a xs := by
  rcases h with ⟨o, h, e⟩ | h
  · exact .inl ⟨o, t _ _ (.inr (.inl ⟨o, xs, rfl⟩)) h, e⟩
  · exact .inr h
theorem Wt.sq {K : PySem.W.Frag} {H : Hp} {a : Addr} {xs : List V} (h : Wt K H a xs) : SqT K H a xs := by
  rcases h with ⟨o, h, _⟩ | ⟨h, _⟩
  · exact .inl (.inr ⟨o, h⟩)
  · rcases h with h | h
    · rcases h with h | ⟨o, h⟩ <;> cases h
    · exact .inr h
def MExt (m m' : List Addr) : Prop := ∀ (n : Nat) (a : Addr), m[n]? = some a → m'[n]? = some a
structure Ex0 (m : List Addr) (H : Hp) (m' : List Addr) (H' : Hp) : Prop where
  mx : MExt m m'
  ts : TStay H H'
structure Ext (m : List Addr) (H : Hp) (m' : List Addr) (H' : Hp) : Prop extends Ex0 m H m' H' where
  fz : ∀ a o u, H a = some (.frz o u) → H' a = some (.frz o u)
theorem Ext.refl (m : List Addr) (H : Hp) : Ext m H m H := ⟨⟨fun _ _ h => h, fun _ _ _ h => h⟩, fun _ _ _ h => h⟩
theorem Ext.trans {m m1 m2 : List Addr} {H H1 H2 : Hp} (a : Ext m H m1 H1) (b : Ext m1 H1 m2 H2) : Ext m H m2 H2 :=
  ⟨⟨fun n x h => b.mx n x (a.mx n x h), fun x u t h => b.ts x u t (a.ts x u t h)⟩, fun x o u h => b.fz x o u (a.fz x o u h)⟩
section
variable {K : PySem.W.Frag} {H H' : Hp} {m m' : List Addr}
mutual
theorem RelD.mono0 (e : Ex0 m H m' H') : ∀ {d : D} {v : V}, RelD K H m d v → RelD K H' m' d v
  | _, _, .non => .non
  | _, _, .bl b => .bl b
  | _, _, .int i => .int i
  | _, _, .str s => .str s
  | _, _, .tup h r => .tup (e.ts _ _ (.inl ⟨_, rfl⟩) h) (RelL.mono0 e r)
  | _, _, .wtp h r => .wtp (h.mono e.ts) (RelL.mono0 e r)
  | _, _, .ref h => .ref (e.mx _ _ h)
theorem RelL.mono0 (e : Ex0 m H m' H') : ∀ {d : List D} {v : List V}, RelL K H m d v → RelL K H' m' d v
  | _, _, .nil => .nil
  | _, _, .cons h t => .cons (RelD.mono0 e h) (RelL.mono0 e t)
end
theorem RelD.mono (e : Ext m H m' H') {d : D} {v : V} (h : RelD K H m d v) : RelD K H' m' d v := h.mono0 e.toEx0
theorem RelL.mono (e : Ext m H m' H') {d : List D} {v : List V} (h : RelL K H m d v) : RelL K H' m' d v := h.mono0 e.toEx0
theorem RelL.len : ∀ {l : List D} {xs : List V}, RelL K H m l xs → l.length = xs.length
  | _, _, .nil => rfl
  | _, _, .cons _ t => by rw [List.length_cons, List.length_cons, RelL.len t]
theorem RelL.ix : ∀ {l : List D} {xs : List V} {i : Nat} {d : D}, RelL K H m l xs → l[i]? = some d → ∃ v, xs[i]? = some v ∧ RelD K H m d v
  | _, _, 0, _, .cons h _, e => by
    have e' := Option.some.inj e
    subst e'
    exact ⟨_, rfl, h⟩
  | _, _, i + 1, _, .cons _ t, e => RelL.ix (i := i) t e
  | _, _, _, _, .nil, e => by cases e
theorem RelL.app : ∀ {l r : List D} {xs ys : List V}, RelL K H m l xs → RelL K H m r ys → RelL K H m (l ++ r) (xs ++ ys)
  | _, _, _, _, .nil, h => h
  | _, _, _, _, .cons h t, h2 => .cons h (RelL.app t h2)
theorem RelL.one {d : D} {v : V} (h : RelD K H m d v) : RelL K H m [d] [v] := .cons h .nil
theorem RelL.take : ∀ {l : List D} {xs : List V} (n : Nat), RelL K H m l xs → RelL K H m (l.take n) (xs.take n)
  | _, _, 0, _ => .nil
  | _, _, _ + 1, .nil => .nil
  | _, _, n + 1, .cons h t => .cons h (RelL.take n t)
theorem RelL.drop : ∀ {l : List D} {xs : List V} (n : Nat), RelL K H m l xs → RelL K H m (l.drop n) (xs.drop n)
  | _, _, 0, h => h
  | _, _, _ + 1, .nil => .nil
  | _, _, n + 1, .cons _ t => RelL.drop n t
theorem RelL.set {d : D} {v : V} (h : RelD K H m d v) : ∀ {l : List D} {xs : List V} (i : Nat), RelL K H m l xs → RelL K H m (l.set i d) (xs.set i v)
  | _, _, _, .nil => .nil
  | _, _, 0, .cons _ t => .cons h t
  | _, _, i + 1, .cons q t => .cons q (RelL.set h i t)
theorem RelL.erase : ∀ {l : List D} {xs : List V} (i : Nat), RelL K H m l xs → RelL K H m (l.eraseIdx i) (xs.eraseIdx i)
  | _, _, _, .nil => .nil
  | _, _, 0, .cons _ t => t
  | _, _, i + 1, .cons q t => .cons q (RelL.erase i t)
theorem RelL.dropLast {l : List D} {xs : List V} (h : RelL K H m l xs) : RelL K H m l.dropLast xs.dropLast := by
  rw [List.dropLast_eq_take, List.dropLast_eq_take, h.len]
  exact h.take _
end
/-! ### keys -/
def kyK : Ky → Key
  | .inl i => .inl i
  | .inr s => .inr (sOf s)
theorem kyK_inj {a b : Ky} (h : kyK a = kyK b) : a = b := by
  cases a with
  | inl i => cases b with
    | inl j => cases (Sum.inl.inj h); rfl
    | inr s => cases h
  | inr s => cases b with
    | inl j => cases h
    | inr t => rw [sOf_inj (Sum.inr.inj h)]
theorem kysK_inj {a b : List Ky} (h : a.map kyK = b.map kyK) : a = b := by
  induction a generalizing b with
  | nil => cases b with
    | nil => rfl
    | cons => cases h
  | cons x a ih => cases b with
    | nil => cases h
    | cons y b =>
      rw [List.map_cons, List.map_cons] at h
      obtain ⟨h1, h2⟩ := List.cons.inj h
      rw [kyK_inj h1, ih h2]
section
variable {K : PySem.W.Frag} {H H' : Hp} {m m' : List Addr}
abbrev RelK (K : PySem.W.Frag) (H : Hp) (m : List Addr) {κ κ' : Type} (f : κ → κ') : List (κ × D) → List (κ' × V) → Prop := Paired fun p q => f p.1 = q.1 ∧ RelD K H m p.2 q.2
theorem RelK.mono0 {κ κ' : Type} {f : κ → κ'} (e : Ex0 m H m' H') {k : List (κ × D)} {kv : List (κ' × V)} (h : RelK K H m f k kv) : RelK K H' m' f k kv := Paired.mapP h fun _ _ z => ⟨z.1, z.2.mono0 e⟩
theorem RelK.mono {κ κ' : Type} {f : κ → κ'} (e : Ext m H m' H') {k : List (κ × D)} {kv : List (κ' × V)} (h : RelK K H m f k kv) : RelK K H' m' f k kv := RelK.mono0 e.toEx0 h
end
/-- an exception's object, of that class and with that dict -/
def XO (cls : Value) (d : Option Addr) (a : Addr) : HO := .ext fun h => ∃ (ob : Obj) (ws : Array Value), h.get? a = some ob ∧ Zc cls d ob ∧ ob.data = .fields ws
/-- what stands at an address -/
def RelO (c : Ct) (H : Hp) (m : List Addr) (a : Addr) : O → Prop
  | .lst l => ∃ xs, H a = some (.lst xs) ∧ RelL c.K H m l xs
  | .fls l => ∃ xs, ((∃ o, H a = some (.frz o (.lst xs))) ∨ SqL c.K H0 a xs) ∧ RelL c.K H m l xs
  | .dK k => ∃ kv, H a = some (.dK kv) ∧ RelK c.K H m kyK k kv
  | .dT k => ∃ kv, H a = some (.dT kv) ∧ RelK c.K H m (fun x => x.map kyK) k kv
  | .zK k => ∃ od kv, H a = some (.frz od (.dK kv)) ∧ RelK c.K H m kyK k kv
  | .zT k => ∃ od kv, H a = some (.frz od (.dT kv)) ∧ RelK c.K H m (fun x => x.map kyK) k kv
  | .ins C f => ∃ Ca dx fs, c.mg (C : Str) = some (.ref Ca) ∧ H a = some (.ins Ca dx fs) ∧ RelK c.K H m sOf f fs
  | .exn C f => ∃ Ca da fs, c.mg (C : Str) = some (.ref Ca) ∧ H a = some (XO (.ref Ca) (some da) a) ∧ H da = some (.xd fs) ∧ RelK c.K H m sOf f fs
  | .dN k => ∃ xs, NDs c.P c.w H a xs ∧ xs.map (·.1) = k
  | .gone => True
def liv : O → Prop
  | .fls _ => False
  | .zK _ => False
  | .zT _ => False
  | .gone => False
  | _ => True
def own : O → Prop
  | .fls _ => False
  | .gone => False
  | _ => True
theorem liv.own {o : O} (h : liv o) : own o := by cases o <;> trivial
structure RS (c : Ct) (m : List Addr) (S : Store) (H : Hp) : Prop where
  len : m.length = S.length
  ob : ∀ (n : Nat) (a : Addr) (o : O), m[n]? = some a → S[n]? = some o → RelO c H m a o
  inj : ∀ (n n' : Nat) (a : Addr) (o o' : O), m[n]? = some a → m[n']? = some a → S[n]? = some o → S[n']? = some o' → own o → own o' → n = n'
  tb : LamX.Tabs (Tbs.T c.K) H
structure RF (K : PySem.W.Frag) (H : Hp) (m : List Addr) (fr : Fr) (σ : L2.St) : Prop where
  len : fr.length = σ.length
  get : ∀ (i : Nat) (d : D), fr[i]? = some (some d) → ∃ v, σ[i]? = some (some v) ∧ RelD K H m d v
section
variable {c : Ct} {H H' : Hp} {m m' : List Addr} {S : Store}
theorem RF.mono {fr : Fr} {σ : L2.St} (e : Ext m H m' H') (h : RF c.K H m fr σ) : RF c.K H' m' fr σ := ⟨h.len, fun i d q => let ⟨v, h1, h2⟩ := h.get i d q; ⟨v, h1, h2.mono e⟩⟩
theorem RF.set {fr : Fr} {σ : L2.St} {d : D} {v : V} (h : RF c.K H m fr σ) (r : RelD c.K H m d v) (i : Nat) : RF c.K H m (fr.set i (some d)) (σ.set i (some v)) := by
  refine ⟨by rw [List.length_set, List.length_set]; exact h.len, fun j d' q => ?_⟩
  by_cases e : i = j
  · subst e
    have hi : i < fr.length := by
      have := (List.getElem?_eq_some_iff.mp q).1
      rwa [List.length_set] at this
    rw [List.getElem?_set_self hi] at q
    cases q
    exact ⟨v, by rw [List.getElem?_set_self (by rw [← h.len]; exact hi)], r⟩
  · rw [List.getElem?_set_ne e] at q
    rw [List.getElem?_set_ne e]
    exact h.get j d' q
theorem RF.none {fr : Fr} {σ : L2.St} (h : RF c.K H m fr σ) (i : Nat) : RF c.K H m (fr.set i none) (σ.set i none) := by
  refine ⟨by rw [List.length_set, List.length_set]; exact h.len, fun j d' q => ?_⟩
  by_cases e : i = j
  · subst e
    have hi : i < fr.length := by
      have := (List.getElem?_eq_some_iff.mp q).1
      rwa [List.length_set] at this
    rw [List.getElem?_set_self hi] at q
    cases q
  · rw [List.getElem?_set_ne e] at q
    rw [List.getElem?_set_ne e]
    exact h.get j d' q
theorem RF.unset {fr : Fr} {σ : L2.St} (h : RF c.K H m fr σ) : ∀ vs : List Nat, RF c.K H m (unset vs fr) (wipe σ vs)
  | [] => h
  | i :: r => (RF.unset h r).none i
theorem RelO.mono0 {a : Addr} {o : O} (e : Ex0 m H m' H') (hk : liv o → ∀ u, H a = some u → H' a = some u) (hf : ∀ ob u, H a = some (.frz ob u) → H' a = some (.frz ob u)) (h : RelO c H m a o) : RelO c H' m' a o := by
  cases o with
  | lst l => obtain ⟨xs, h1, h2⟩ := h; exact ⟨xs, hk trivial _ h1, h2.mono0 e⟩
  | fls l =>
    obtain ⟨xs, h1, h2⟩ := h
    refine ⟨xs, ?_, h2.mono0 e⟩
    rcases h1 with ⟨ob, h1⟩ | h1
    · exact .inl ⟨ob, hf _ _ h1⟩
    · exact .inr h1
  | dK k => obtain ⟨xs, h1, h2⟩ := h; exact ⟨xs, hk trivial _ h1, RelK.mono0 e h2⟩
  | dT k => obtain ⟨xs, h1, h2⟩ := h; exact ⟨xs, hk trivial _ h1, RelK.mono0 e h2⟩
  | zK k => obtain ⟨od, xs, h1, h2⟩ := h; exact ⟨od, xs, hf _ _ h1, RelK.mono0 e h2⟩
  | zT k => obtain ⟨od, xs, h1, h2⟩ := h; exact ⟨od, xs, hf _ _ h1, RelK.mono0 e h2⟩
  | ins C f => obtain ⟨Ca, dx, fs, h0, h1, h2⟩ := h; exact ⟨Ca, dx, fs, h0, hk trivial _ h1, RelK.mono0 e h2⟩
  | exn C f => obtain ⟨Ca, da, fs, h0, h1, h2, h3⟩ := h; exact ⟨Ca, da, fs, h0, hk trivial _ h1, e.ts _ _ (.inr (.inr ⟨_, rfl⟩)) h2, RelK.mono0 e h3⟩
  | dN k => obtain ⟨xs, h1, h2⟩ := h; exact ⟨xs, h1.mono (hk trivial _ h1.at_) fun b l q => e.ts _ _ (.inl ⟨l, rfl⟩) q, h2⟩
  | gone => trivial
theorem RelO.mono {a : Addr} {o : O} (e : Ext m H m' H') (hk : liv o → ∀ u, H a = some u → H' a = some u) (hf : ∀ ob u, H a = some (.frz ob u) → H' a = some (.frz ob u)) (h : RelO c H m a o) : RelO c H' m' a o := h.mono0 e.toEx0 hk hf
/-- a live object is tracked, and may be changed -/
theorem RelO.mut {a : Addr} {o : O} (h : RelO c H m a o) (l : liv o) : Mut (H a) := by
  cases o with
  | lst l => obtain ⟨xs, h1, _⟩ := h; rw [h1]; trivial
  | fls l => exact l.elim
  | dK k => obtain ⟨xs, h1, _⟩ := h; rw [h1]; trivial
  | dT k => obtain ⟨xs, h1, _⟩ := h; rw [h1]; trivial
  | zK k => exact l.elim
  | zT k => exact l.elim
  | ins C f => obtain ⟨Ca, dx, fs, h0, h1, _⟩ := h; rw [h1]; trivial
  | exn C f => obtain ⟨Ca, da, fs, h0, h1, _⟩ := h; rw [h1]; trivial
  | dN k => obtain ⟨xs, h1, _⟩ := h; rw [h1.at_]; exact ndo_mut
  | gone => exact l.elim
/-- an own object stands -/
theorem RelO.stands {a : Addr} {o : O} (h : RelO c H m a o) (l : own o) : H a ≠ none := by
  cases o with
  | lst l => obtain ⟨xs, h1, _⟩ := h; rw [h1]; simp
  | fls l => exact l.elim
  | dK k => obtain ⟨xs, h1, _⟩ := h; rw [h1]; simp
  | dT k => obtain ⟨xs, h1, _⟩ := h; rw [h1]; simp
  | zK k => obtain ⟨od, xs, h1, _⟩ := h; rw [h1]; simp
  | zT k => obtain ⟨od, xs, h1, _⟩ := h; rw [h1]; simp
  | ins C f => obtain ⟨Ca, dx, fs, h0, h1, _⟩ := h; rw [h1]; simp
  | exn C f => obtain ⟨Ca, da, fs, h0, h1, _⟩ := h; rw [h1]; simp
  | dN k => obtain ⟨xs, h1, _⟩ := h; rw [h1.at_]; simp
  | gone => exact l.elim
theorem tstay_new {p : Addr} {o : HO} (h : H p = none) : TStay H (upd H p o) := fun a u _ e => by rw [upd_ne (ne_of_none e h)]; exact e
theorem tstay_mut {p : Addr} {o : HO} (h : Mut (H p)) : TStay H (upd H p o) := fun a u t e => by
  have ne : a ≠ p := fun z => by
    subst z; rw [e] at h
    rcases t with ⟨xs, rfl⟩ | ⟨o, xs, rfl⟩ | ⟨fs, rfl⟩ <;> exact h
  rw [upd_ne ne]; exact e
theorem fstay_new {p : Addr} {o : HO} (h : H p = none) : ∀ a ob u, H a = some (.frz ob u) → upd H p o a = some (.frz ob u) := fun a ob u e => by rw [upd_ne (ne_of_none e h)]; exact e
theorem fstay_mut {p : Addr} {o : HO} (h : Mut (H p)) : ∀ a ob u, H a = some (.frz ob u) → upd H p o a = some (.frz ob u) := fun a ob u e => by
  have ne : a ≠ p := fun z => by subst z; rw [e] at h; exact h
  rw [upd_ne ne]; exact e
theorem mext_push (m : List Addr) (p : Addr) : MExt m (m ++ [p]) := fun n a h => by
  rw [List.getElem?_append_left (List.getElem?_eq_some_iff.mp h).1]; exact h
/-! tables stay -/
theorem codeO_sat (a : Addr) (q : Str) : ∃ h : Heap, ∃ ob : Obj, h.get? a = some ob ∧ ob.cls = .none ∧ ob.data = .fields #[.none, .str q 0] := by
  refine ⟨{ objs := Array.replicate (a + 1) ⟨.none, none, .fields #[.none, .str q 0], #[]⟩ }, ⟨.none, none, .fields #[.none, .str q 0], #[]⟩, ?_, rfl, rfl⟩
  unfold Heap.get?
  have : (Array.replicate (a + 1) (⟨.none, none, .fields #[.none, .str q 0], #[]⟩ : Obj))[a]? = some ⟨.none, none, .fields #[.none, .str q 0], #[]⟩ := by simp
  rw [this]
theorem codeO_no {a : Addr} {q : Str} {φ : Heap → Prop} (h : HO.ext φ = LamX.CodeO a q) (n : ∀ (h : Heap) (ob : Obj), h.get? a = some ob → ob.cls = .none → ob.data = .fields #[.none, .str q 0] → ¬ φ h) : False := by
  obtain ⟨h0, ob, h1, h2, h3⟩ := codeO_sat a q
  unfold LamX.CodeO at h
  injection h with h
  refine n h0 ob h1 h2 h3 ?_
  rw [h]
  exact ⟨ob, _, 0, h1, h3, rfl⟩
/-- neither a table nor a code object -/
def NoTb (H : Hp) (a : Addr) : Prop := (∀ ps, H a ≠ some (.tbl ps)) ∧ ∀ q, H a ≠ some (LamX.CodeO a q)
theorem ntb_lst {a : Addr} {xs : List V} (h : H a = some (.lst xs)) : NoTb H a := ⟨(fun ps z => by rw [h] at z; cases z), fun q z => by rw [h] at z; unfold LamX.CodeO at z; cases z⟩
theorem RelO.ntb {a : Addr} {o : O} (h : RelO c H m a o) (l : liv o) : NoTb H a := by
  cases o with
  | lst l => obtain ⟨xs, h1, _⟩ := h; exact ntb_lst h1
  | fls l => exact l.elim
  | dK k => obtain ⟨xs, h1, _⟩ := h; exact ⟨(fun ps z => by rw [h1] at z; cases z), fun q z => by rw [h1] at z; unfold LamX.CodeO at z; cases z⟩
  | dT k => obtain ⟨xs, h1, _⟩ := h; exact ⟨(fun ps z => by rw [h1] at z; cases z), fun q z => by rw [h1] at z; unfold LamX.CodeO at z; cases z⟩
  | zK k => exact l.elim
  | zT k => exact l.elim
  | ins C f => obtain ⟨Ca, dx, fs, h0, h1, _⟩ := h; exact ⟨(fun ps z => by rw [h1] at z; cases z), fun q z => by rw [h1] at z; unfold LamX.CodeO at z; cases z⟩
  | exn C f =>
    obtain ⟨Ca, da, fs, h0, h1, _⟩ := h
    refine ⟨(fun ps z => by rw [h1] at z; unfold XO at z; cases z), fun q z => ?_⟩
    rw [h1] at z
    have z := Option.some.inj z
    unfold XO at z
    refine codeO_no z fun hp ob g1 g2 g3 ⟨ob', ws, g4, g5, _⟩ => ?_
    rw [g1] at g4
    obtain rfl := Option.some.inj g4
    have := g5.1
    rw [g2] at this
    cases this
  | dN k =>
    obtain ⟨xs, h1, _⟩ := h
    refine ⟨(fun ps z => by rw [h1.at_] at z; unfold NDo at z; cases z), fun q z => ?_⟩
    rw [h1.at_] at z
    have z := Option.some.inj z
    unfold NDo at z
    refine codeO_no z fun hp ob g1 g2 g3 ⟨ob', es, ep, g4, _, g5, _⟩ => ?_
    rw [g1] at g4
    obtain rfl := Option.some.inj g4
    rw [g3] at g5
    cases g5
  | gone => exact l.elim
theorem tabs_new {p : Addr} {u : HO} {T : List (Addr × Str)} (h : H p = none) (t : LamX.Tabs T H) : LamX.Tabs T (upd H p u) := t.ext fun b o e => by rw [upd_ne (ne_of_none e h)]; exact e
theorem tabs_mut {p : Addr} {u : HO} {T : List (Addr × Str)} (h : NoTb H p) (t : LamX.Tabs T H) : LamX.Tabs T (upd H p u) := fun x hx => by
  obtain ⟨ps, h1, h2, h3⟩ := t x hx
  refine ⟨ps, by rw [upd_ne (fun z => h.1 ps (by rw [← z]; exact h1))]; exact h1, h2, fun pos cv hc => ?_⟩
  obtain ⟨c', e1, e2⟩ := h3 pos cv hc
  exact ⟨c', e1, by rw [upd_ne (fun z => h.2 _ (by rw [← z]; exact e2))]; exact e2⟩
/-- a new object -/
theorem RS.push {p : Addr} {o : O} {u : HO} (r : RS c m S H) (h : H p = none) (ho : RelO c (upd H p u) (m ++ [p]) p o) : RS c (m ++ [p]) (S ++ [o]) (upd H p u) ∧ Ext m H (m ++ [p]) (upd H p u) := by
  have e : Ext m H (m ++ [p]) (upd H p u) := ⟨⟨mext_push m p, tstay_new h⟩, fstay_new h⟩
  have old : ∀ (n : Nat) (a : Addr), n < m.length → (m ++ [p])[n]? = some a → m[n]? = some a := fun n a hn q => by rwa [List.getElem?_append_left hn] at q
  have oldS : ∀ (n : Nat) (x : O), n < m.length → (S ++ [o])[n]? = some x → S[n]? = some x := fun n x hn q => by rwa [List.getElem?_append_left (by rw [← r.len]; exact hn)] at q
  have last : ∀ (n : Nat) (a : Addr), ¬ n < m.length → (m ++ [p])[n]? = some a → n = m.length ∧ a = p := fun n a hn q => by
    have h1 := (List.getElem?_eq_some_iff.mp q).1
    rw [List.length_append] at h1
    have h2 : n = m.length := by simp at h1; omega
    subst h2
    rw [List.getElem?_append_right (Nat.le_refl _), Nat.sub_self] at q
    exact ⟨rfl, (Option.some.inj q).symm⟩
  have lastS : ∀ (n : Nat) (x : O), n = m.length → (S ++ [o])[n]? = some x → x = o := fun n x hn q => by
    rw [hn, r.len, List.getElem?_append_right (Nat.le_refl _), Nat.sub_self] at q
    exact (Option.some.inj q).symm
  refine ⟨⟨by rw [List.length_append, List.length_append, r.len] <;> rfl, fun n a x q1 q2 => ?_, fun n n' a x x' q1 q2 q3 q4 l1 l2 => ?_, tabs_new h r.tb⟩, e⟩
  · by_cases hn : n < m.length
    · have k1 := old n a hn q1
      have k2 := r.ob n a x k1 (oldS n x hn q2)
      exact k2.mono e (fun _ u' z => by rw [upd_ne (ne_of_none z h)]; exact z) fun ob u' z => by rw [upd_ne (ne_of_none z h)]; exact z
    · obtain ⟨e1, e2⟩ := last n a hn q1
      have e3 := lastS n x e1 q2
      subst e2 e3
      exact ho
  · have nl : ∀ (n : Nat) (a : Addr) (x : O), n < m.length → (m ++ [p])[n]? = some a → (S ++ [o])[n]? = some x → own x → a ≠ p := fun n a x hn q1 q3 l => by
      have k := (r.ob n a x (old n a hn q1) (oldS n x hn q3)).stands l
      intro z
      subst z
      exact k h
    by_cases hn : n < m.length
    · by_cases hn' : n' < m.length
      · exact r.inj n n' a x x' (old n a hn q1) (old n' a hn' q2) (oldS n x hn q3) (oldS n' x' hn' q4) l1 l2
      · exact absurd (last n' a hn' q2).2 (nl n a x hn q1 q3 l1)
    · by_cases hn' : n' < m.length
      · exact absurd (last n a hn q1).2 (nl n' a x' hn' q2 q4 l2)
      · rw [(last n a hn q1).1, (last n' a hn' q2).1]
/-- a fresh thing that is not in the store -/
theorem RS.fresh {p : Addr} {u : HO} (r : RS c m S H) (h : H p = none) : RS c m S (upd H p u) := by
  have e : Ext m H m (upd H p u) := ⟨⟨fun _ _ z => z, tstay_new h⟩, fstay_new h⟩
  exact ⟨r.len, fun n a x q1 q2 => (r.ob n a x q1 q2).mono e (fun _ u' z => by rw [upd_ne (ne_of_none z h)]; exact z) fun ob u' z => by rw [upd_ne (ne_of_none z h)]; exact z, r.inj, tabs_new h r.tb⟩
/-- an object changed -/
theorem RS.set {n : Nat} {a : Addr} {o o' : O} {u : HO} (r : RS c m S H) (ha : m[n]? = some a) (hs : S[n]? = some o) (l : liv o) (l' : liv o') (ho : Ext m H m (upd H a u) → RelO c (upd H a u) m a o') : RS c m (S.set n o') (upd H a u) ∧ Ext m H m (upd H a u) := by
  have mu := (r.ob n a o ha hs).mut l
  have e : Ext m H m (upd H a u) := ⟨⟨fun _ _ z => z, tstay_mut mu⟩, fstay_mut mu⟩
  refine ⟨⟨by rw [List.length_set]; exact r.len, fun k b x q1 q2 => ?_, fun k k' b x x' q1 q2 q3 q4 l1 l2 => ?_, tabs_mut ((r.ob n a o ha hs).ntb l) r.tb⟩, e⟩
  · by_cases hk : n = k
    · subst hk
      rw [ha] at q1
      cases q1
      have hn := (List.getElem?_eq_some_iff.mp hs).1
      rw [List.getElem?_set_self hn] at q2
      cases q2
      exact ho e
    · rw [List.getElem?_set_ne hk] at q2
      have k2 := r.ob k b x q1 q2
      refine k2.mono e (fun lx u' z => ?_) fun ob u' z => ?_
      · have ne : b ≠ a := fun w => hk (r.inj n k a o x ha (by rw [← w]; exact q1) hs q2 l.own lx.own)
        rw [upd_ne ne]; exact z
      · have ne : b ≠ a := fun w => by subst w; rw [z] at mu; exact mu
        rw [upd_ne ne]; exact z
  · have at_ : ∀ (k : Nat) (x : O), (S.set n o')[k]? = some x → own x → ∃ x0, S[k]? = some x0 ∧ own x0 := fun k x q lx => by
      by_cases hk : n = k
      · subst hk; exact ⟨o, hs, l.own⟩
      · rw [List.getElem?_set_ne hk] at q; exact ⟨x, q, lx⟩
    obtain ⟨y, z1, z2⟩ := at_ k x q3 l1
    obtain ⟨y', z1', z2'⟩ := at_ k' x' q4 l2
    exact r.inj k k' b y y' q1 q2 z1 z1' z2 z2'
theorem RS.get {n : Nat} {a : Addr} (r : RS c m S H) (h : m[n]? = some a) : ∃ o, S[n]? = some o := by
  have h1 := (List.getElem?_eq_some_iff.mp h).1
  rw [r.len] at h1
  exact ⟨S[n], List.getElem?_eq_getElem h1⟩
theorem RS.adr {n : Nat} {o : O} (r : RS c m S H) (h : S[n]? = some o) : ∃ a, m[n]? = some a := by
  have h1 := (List.getElem?_eq_some_iff.mp h).1
  rw [← r.len] at h1
  exact ⟨m[n], List.getElem?_eq_getElem h1⟩
/-- a list may be read -/
theorem sql0 {K : PySem.W.Frag} {H : Hp} {a : Addr} {xs : List V} (h : SqL K H0 a xs) : SqL K H a xs := by
  rcases h with h | h
  · rcases h with h | ⟨o, h⟩ <;> cases h
  · exact .inr h
theorem RS.lst {n : Nat} {a : Addr} {l : List D} (r : RS c m S H) (ha : m[n]? = some a) (hl : lstOf S n = some l) : ∃ xs, SqL c.K H a xs ∧ RelL c.K H m l xs := by
  unfold lstOf at hl
  split at hl
  · rename_i l' e
    cases hl
    obtain ⟨xs, h1, h2⟩ := r.ob n a _ ha e
    exact ⟨xs, .inl (.inl h1), h2⟩
  · rename_i l' e
    cases hl
    obtain ⟨xs, h1, h2⟩ := r.ob n a _ ha e
    refine ⟨xs, ?_, h2⟩
    rcases h1 with ⟨ob, h1⟩ | h1
    · exact .inl (.inr ⟨ob, h1⟩)
    · exact sql0 h1
  · cases hl
end
end Sm
set_option Elab.async false
set_option linter.all false
set_option maxRecDepth 100000
set_option maxHeartbeats 2000000
/-! readings by the small language: expressions -/
namespace Sm
open PySem PySem.Spec PyProof.Rows L2 Mi
variable [Tbs]
/-- an exception as the layer bears it -/
def RelX (c : Ct) (H : Hp) (m : List Addr) (x : Exn) (cls : Value) (da : Option Addr) : Prop :=
  ∃ C : Addr, c.mg (x.cls : Str) = some (.ref C) ∧ cls = .ref C ∧ ∃ d fs, da = some d ∧ H d = some (.xd fs) ∧ RelK c.K H m sOf x.fs fs
def Post {α : Type} (c : Ct) (E : XK) (m : List Addr) (H : Hp) (r : Res α) (k : α → Store → List Addr → Hp → Prop) : Prop := match r with
  | .ok a S => ∀ m' H', Ext m H m' H' → RS c m' S H' → k a S m' H'
  | .exc x S => ∀ m' H', Ext m H m' H' → RS c m' S H' → ∀ cls da, RelX c H' m' x cls da → E cls da H'
  | .bad => False
section
variable {α β : Type} {c : Ct} {E : XK} {m m' : List Addr} {H H' : Hp} {r : Res α} {k k' : α → Store → List Addr → Hp → Prop}
theorem Post.ext (p : Post c E m H r k) (e : Ext m H m' H') : Post c E m' H' r k := by
  cases r with
  | ok a S => exact fun m2 H2 e2 r2 => p m2 H2 (e.trans e2) r2
  | exc x S => exact fun m2 H2 e2 r2 => p m2 H2 (e.trans e2) r2
  | bad => exact p
theorem Post.imp (p : Post c E m H r k) (f : ∀ a S m' H', Ext m H m' H' → RS c m' S H' → k a S m' H' → k' a S m' H') : Post c E m H r k' := by
  cases r with
  | ok a S => exact fun m2 H2 e2 r2 => f a S m2 H2 e2 r2 (p m2 H2 e2 r2)
  | exc x S => exact p
  | bad => exact p
theorem post_bind {f : α → Store → Res β} {k : β → Store → List Addr → Hp → Prop} (p : Post c E m H (r.bind f) k) : Post c E m H r fun a S m1 H1 => Post c E m1 H1 (f a S) k := by
  cases r with
  | ok a S => exact fun m2 H2 e2 _ => Post.ext (r := f a S) p e2
  | exc x S => exact p
  | bad => exact p
theorem post_quiet {E' : XK} (p : Post c E m H (quiet r) k) : Post c E' m H r k := by
  cases r with
  | ok a S => exact p
  | exc x S => exact p.elim
  | bad => exact p
theorem Post.here {a : α} {S : Store} (p : Post c E m H (.ok a S) k) (r : RS c m S H) : k a S m H := p m H (Ext.refl m H) r
end
/-! ### readings -/
abbrev cx (X : Cx) : Ct := ⟨X.K, X.mg, X.prog, X.w⟩
abbrev kE (c : Ct) (Q : VK) : D → Store → List Addr → Hp → Prop := fun d _ m H => ∀ v, RelD c.K H m d v → Q v H
def rdE (c : Ct) (E : XK) (f : EM) : TE := fun σ H Q => ∃ fr S m, RF c.K H m fr σ ∧ RS c m S H ∧ Post c E m H (f fr S) (kE c Q)
def rdT (c : Ct) (E : XK) (f : TM) : TT := fun σ H Q => ∃ fr S m, RF c.K H m fr σ ∧ RS c m S H ∧ Post c E m H (f fr S) fun b _ _ H => Q b H
def rdA (c : Ct) (E : XK) (f : AM) : TA := fun σ H Q => ∃ fr S m, RF c.K H m fr σ ∧ RS c m S H ∧ Post c E m H (f fr S) fun ds _ m H => ∀ vs, RelL c.K H m ds vs → Q vs H
def rdP (c : Ct) (E : XK) (f : PM) : TO := fun σ H Q => ∃ fr S m, RF c.K H m fr σ ∧ RS c m S H ∧ Post c E m H (f fr S) fun o _ _ H => Q o H
def rdG (c : Ct) (E : XK) (g : GM) : TG := fun v σ H Q => ∃ d fr S m, RelD c.K H m d v ∧ RF c.K H m fr σ ∧ RS c m S H ∧ Post c E m H (g d fr S) fun fr' _ m H => ∀ σ', RF c.K H m fr' σ' → Q σ' H
def rdGs (c : Ct) (E : XK) (g : GMs) : TGs := fun vs σ H Q => ∃ ds fr S m, RelL c.K H m ds vs ∧ RF c.K H m fr σ ∧ RS c m S H ∧ Post c E m H (g ds fr S) fun fr' _ m H => ∀ σ', RF c.K H m fr' σ' → Q σ' H
def kS (c : Ct) (D : Ends) : Out → Store → List Addr → Hp → Prop := fun o _ m H => match o with
  | .nx fr => ∀ σ, RF c.K H m fr σ → D.nx σ H
  | .rt d => ∀ v, RelD c.K H m d v → D.rt v H
  | .bk fr => ∀ σ, RF c.K H m fr σ → D.bk σ H
  | .ct fr => ∀ σ, RF c.K H m fr σ → D.ct σ H
def rdS (c : Ct) (E : XK) (g : SM) : TS := fun D σ H => ∃ fr S m, RF c.K H m fr σ ∧ RS c m S H ∧ Post c E m H (g fr S) (kS c D)
abbrev SE (X : Cx) (E : XK) (e : Expr) (f : EM) : Prop := PE X e (rdE (cx X) E f)
abbrev STt (X : Cx) (E : XK) (e : Expr) (f : TM) : Prop := PT X e (rdT (cx X) E f)
abbrev SW (X : Cx) (E : XK) (e : Expr) (f : TM) : Prop := PW X e (rdT (cx X) E f)
abbrev SA (X : Cx) (E : XK) (es : List Expr) (f : AM) : Prop := PA X es (rdA (cx X) E f)
abbrev SO (X : Cx) (E : XK) (e : Option Expr) (f : PM) : Prop := PO X e (rdP (cx X) E f)
abbrev SG (X : Cx) (E : XK) (e : Expr) (g : GM) : Prop := PG X e (rdG (cx X) E g)
abbrev SGs (X : Cx) (E : XK) (e : List Expr) (g : GMs) : Prop := PGs X e (rdGs (cx X) E g)
abbrev SS (X : Cx) (E : XK) (st : Stmt) (g : SM) : Prop := PS X st (rdS (cx X) E g)
abbrev SSs (X : Cx) (E : XK) (st : List Stmt) (g : SM) : Prop := PSs X st (rdS (cx X) E g)
section
variable {X : Cx}
theorem PE.mono {e : Expr} {t t' : TE} (h : PE X e t) (f : ∀ σ H Q, t' σ H Q → t σ H Q) : PE X e t' := ⟨fun pins s σ H Q I q => h.run pins s σ H Q I (f σ H Q q)⟩
theorem PT.mono {e : Expr} {t t' : TT} (h : PT X e t) (f : ∀ σ H Q, t' σ H Q → t σ H Q) : PT X e t' := ⟨fun pins s σ H Q I q => h.run pins s σ H Q I (f σ H Q q)⟩
theorem PW.mono {e : Expr} {t t' : TT} (h : PW X e t) (f : ∀ σ H Q, t' σ H Q → t σ H Q) : PW X e t' := ⟨fun wh pins s σ H Q I q => h.run wh pins s σ H Q I (f σ H Q q)⟩
theorem PA.mono {e : List Expr} {t t' : TA} (h : PA X e t) (f : ∀ σ H Q, t' σ H Q → t σ H Q) : PA X e t' := ⟨fun pos pins s σ H Q I q => h.run pos pins s σ H Q I (f σ H Q q)⟩
theorem PS.mono {e : Stmt} {t t' : TS} (h : PS X e t) (f : ∀ D σ H, t' D σ H → t D σ H) : PS X e t' := ⟨fun pins s σ H D I q => h.run pins s σ H D I (f D σ H q)⟩
theorem PSs.mono {e : List Stmt} {t t' : TS} (h : PSs X e t) (f : ∀ D σ H, t' D σ H → t D σ H) : PSs X e t' := ⟨fun pins s σ H D I q => h.run pins s σ H D I (f D σ H q)⟩
end
section
variable {X : Cx} {E : XK} {a b e : Expr} {fa fb : EM} {pos : Pos}
/-- the reading of a part, from a bind -/
theorem rd_bind {f : EM} {fr : Fr} {S : Store} {m : List Addr} {σ : L2.St} {H : Hp} {Q : VK} {c : Ct} {α : Type} {h : D → Store → Res α} {kk : α → Store → List Addr → Hp → Prop}
    (rf : RF c.K H m fr σ) (rs : RS c m S H) (p : Post c E m H ((f fr S).bind h) kk)
    (n : ∀ d S1 m1 H1, Ext m H m1 H1 → RF c.K H1 m1 fr σ → RS c m1 S1 H1 → Post c E m1 H1 (h d S1) kk → ∀ v, RelD c.K H1 m1 d v → Q v H1) : rdE c E f σ H Q :=
  ⟨fr, S, m, rf, rs, (post_bind p).imp fun d S1 m1 H1 e1 rs1 p1 => n d S1 m1 H1 e1 (rf.mono e1) rs1 p1⟩
theorem rdT_bind {f : TM} {fr : Fr} {S : Store} {m : List Addr} {σ : L2.St} {H : Hp} {Q : Bool → Hp → Prop} {c : Ct} {α : Type} {h : Bool → Store → Res α} {kk : α → Store → List Addr → Hp → Prop}
    (rf : RF c.K H m fr σ) (rs : RS c m S H) (p : Post c E m H ((f fr S).bind h) kk)
    (n : ∀ d S1 m1 H1, Ext m H m1 H1 → RF c.K H1 m1 fr σ → RS c m1 S1 H1 → Post c E m1 H1 (h d S1) kk → Q d H1) : rdT c E f σ H Q :=
  ⟨fr, S, m, rf, rs, (post_bind p).imp fun d S1 m1 H1 e1 rs1 p1 => n d S1 m1 H1 e1 (rf.mono e1) rs1 p1⟩
theorem rdA_bind {f : AM} {fr : Fr} {S : Store} {m : List Addr} {σ : L2.St} {H : Hp} {Q : List V → Hp → Prop} {c : Ct} {α : Type} {h : List D → Store → Res α} {kk : α → Store → List Addr → Hp → Prop}
    (rf : RF c.K H m fr σ) (rs : RS c m S H) (p : Post c E m H ((f fr S).bind h) kk)
    (n : ∀ d S1 m1 H1, Ext m H m1 H1 → RF c.K H1 m1 fr σ → RS c m1 S1 H1 → Post c E m1 H1 (h d S1) kk → ∀ v, RelL c.K H1 m1 d v → Q v H1) : rdA c E f σ H Q :=
  ⟨fr, S, m, rf, rs, (post_bind p).imp fun d S1 m1 H1 e1 rs1 p1 => n d S1 m1 H1 e1 (rf.mono e1) rs1 p1⟩
theorem rdP_bind {f : PM} {fr : Fr} {S : Store} {m : List Addr} {σ : L2.St} {H : Hp} {Q : Option Int → Hp → Prop} {c : Ct} {α : Type} {h : Option Int → Store → Res α} {kk : α → Store → List Addr → Hp → Prop}
    (rf : RF c.K H m fr σ) (rs : RS c m S H) (p : Post c E m H ((f fr S).bind h) kk)
    (n : ∀ d S1 m1 H1, Ext m H m1 H1 → RF c.K H1 m1 fr σ → RS c m1 S1 H1 → Post c E m1 H1 (h d S1) kk → Q d H1) : rdP c E f σ H Q :=
  ⟨fr, S, m, rf, rs, (post_bind p).imp fun d S1 m1 H1 e1 rs1 p1 => n d S1 m1 H1 e1 (rf.mono e1) rs1 p1⟩
/-! ### names and constants -/
theorem se_var (i : Nat) {x : Str} {pos : Pos} (hN : X.N[i]? = some x := by rfl) (hv : Vis X.env.scope x := by first | exact Or.inl rfl | exact Or.inr (Or.inl rfl) | exact Or.inr (Or.inr rfl)) (hd : (x == ("__debug__" : Str)) = false := by decide)
    (hcd : (x == ("__classdict__" : Str)) = false := by decide) : SE X E (.Name x pos) (mVar i) := by
  refine PE.mono (pe_var hN hv hd hcd) fun σ H Q ⟨fr, S, m, rf, rs, p⟩ => ?_
  unfold mVar at p
  split at p
  · rename_i d e
    obtain ⟨v, h1, h2⟩ := rf.get i d e
    exact ⟨v, h1, p.here rs v h2⟩
  · exact p.elim
theorem se_c {d : D} {v : V} {e : Expr} (h : PE X e (tC v)) (r : ∀ H m, RelD X.K H m d v) : SE X E e (mC d) :=
  PE.mono h fun σ H Q ⟨fr, S, m, rf, rs, p⟩ => p.here rs v (r H m)
theorem se_int {i : Int} {j pos} : SE X E (.Constant (.int i) j pos) (mC (.int i)) := se_c pe_int fun _ _ => .int i
theorem se_bl {i : Bool} {j pos} : SE X E (.Constant (.bool i) j pos) (mC (.bl i)) := se_c pe_bl fun _ _ => .bl i
theorem se_non {j pos} : SE X E (.Constant .none j pos) (mC .non) := se_c pe_non fun _ _ => .non
theorem se_str {x : Str} {s : Tx} {j pos} (h : x = sOf s) : SE X E (.Constant (.str x) j pos) (mC (.str s)) := by
  subst h
  exact se_c pe_str fun _ _ => .str s
/-! ### operators -/
def OpM (X : Cx) (E : XK) (f : Value → Value → Sem Value) (g : Op2) : Prop := ∃ r : R2, OpR X f r ∧
  ∀ x y v w S m H Q, RS (cx X) m S H → RelD X.K H m x v → RelD X.K H m y w → Post (cx X) E m H (g x y S) (kE (cx X) Q) → r v w H Q
theorem opr_or {f : Value → Value → Sem Value} {r r' : R2} (h : OpR X f r) (h' : OpR X f r') : OpR X f fun x y H Q => r x y H Q ∨ r' x y H Q := by
  intro pins s σ H x y v u Q I rx ry q
  rcases q with q | q
  · exact h pins s σ H x y v u Q I rx ry q
  · exact h' pins s σ H x y v u Q I rx ry q
theorem se_op {op : Operator} {g : Op2} (o : OpM X E (binaryOp op) g) (ha : SE X E a fa) (hb : SE X E b fb) : SE X E (.BinOp a op b pos) (mOp g fa fb) := by
  obtain ⟨r, ho, hr⟩ := o
  refine PE.mono (pe_op ho ha hb) fun σ H Q ⟨fr, S, m, rf, rs, p⟩ => ?_
  refine rd_bind rf rs p fun x S1 m1 H1 e1 rf1 rs1 p1 v hv => ?_
  refine rd_bind rf1 rs1 p1 fun y S2 m2 H2 e2 rf2 rs2 p2 w hw => ?_
  exact hr x y v w S2 m2 H2 Q rs2 (hv.mono e2) hw p2
theorem se_cmp {op : CmpOp} {g : Op2} (o : OpM X E (compareOp op) g) (ha : SE X E a fa) (hb : SE X E b fb) (hm : behindInMarks op b = false) : SE X E (.Compare a [op] [b] pos) (mOp g fa fb) := by
  obtain ⟨r, ho, hr⟩ := o
  refine PE.mono (pe_cmpR ho ha hb hm) fun σ H Q ⟨fr, S, m, rf, rs, p⟩ => ?_
  refine rd_bind rf rs p fun x S1 m1 H1 e1 rf1 rs1 p1 v hv => ?_
  refine rd_bind rf1 rs1 p1 fun y S2 m2 H2 e2 rf2 rs2 p2 w hw => ?_
  exact hr x y v w S2 m2 H2 Q rs2 (hv.mono e2) hw p2
/-- a Bool of a value -/
theorem of_toB {c : Ct} {x : D} {S : Store} {m : List Addr} {H : Hp} {k : Bool → Store → List Addr → Hp → Prop} {v : V} (rs : RS c m S H) (hv : RelD c.K H m x v) (p : Post c E m H (toB x S) k) : ∃ b, v = .bl b ∧ k b S m H := by
  cases hv with
  | bl b => exact ⟨b, rfl, p.here rs⟩
  | _ => exact p.elim
theorem st_cmp {op : CmpOp} {g : Op2} (o : OpM X E (compareOp op) g) (ha : SE X E a fa) (hb : SE X E b fb) (hm : behindInMarks op b = false) : STt X E (.Compare a [op] [b] pos) (tBl (mOp g fa fb)) := by
  obtain ⟨r, ho, hr⟩ := o
  refine PT.mono (pt_cmpR ho ha hb hm) fun σ H Q ⟨fr, S, m, rf, rs, p⟩ => ?_
  have p' := post_bind p
  refine rd_bind rf rs p' fun x S1 m1 H1 e1 rf1 rs1 p1 v hv => ?_
  refine rd_bind rf1 rs1 p1 fun y S2 m2 H2 e2 rf2 rs2 p2 w hw => ?_
  refine hr x y v w S2 m2 H2 _ rs2 (hv.mono e2) hw (p2.imp fun d S3 m3 H3 e3 rs3 p3 z hz => ?_)
  exact of_toB rs3 hz p3
theorem st_chain {op op' : CmpOp} {g h : Op2} {d : Expr} {fd : EM} (o : OpM X E (compareOp op) g) (o' : OpM X E (compareOp op') h) (ha : SE X E a fa) (hb : SE X E b fb) (hd : SE X E d fd)
    (hm : lastMarks [op, op'] [b, d] = false := by with_unfolding_all rfl) : STt X E (.Compare a [op, op'] [b, d] pos) (tBl (mChain g h fa fb fd)) := by
  obtain ⟨r, ho, hr⟩ := o
  obtain ⟨r', ho', hr'⟩ := o'
  refine PT.mono (pt_chain ho ho' ha hb hd hm) fun σ H Q ⟨fr, S, m, rf, rs, p⟩ => ?_
  refine rd_bind rf rs (post_bind p) fun x S1 m1 H1 e1 rf1 rs1 p1 v hv => ?_
  refine rd_bind rf1 rs1 p1 fun y S2 m2 H2 e2 rf2 rs2 p2 w hw => ?_
  refine hr x y v w S2 m2 H2 _ rs2 (hv.mono e2) hw ((post_bind p2).imp fun z S3 m3 H3 e3 rs3 p3 zv hz => ?_)
  obtain ⟨k, ek, q⟩ := of_toB rs3 hz (post_bind p3)
  refine ⟨k, ek, ?_⟩
  cases k with
  | true =>
    refine rd_bind (rf2.mono e3) rs3 q fun u S4 m4 H4 e4 rf4 rs4 p4 uv hu => ?_
    exact hr' y u w uv S4 m4 H4 _ rs4 ((hw.mono e3).mono e4) hu (p4.imp fun d S5 m5 H5 e5 rs5 p5 z5 hz5 => of_toB rs5 hz5 p5)
  | false => exact ⟨false, rfl, (q.here rs3).here rs3⟩
theorem st_tru (h : SE X E e fa) (he : ∀ whole, isTrue e X.env whole = (do let v ← whole; standAt e.pos; holding [v] (truthy v)) := by intro _; rfl) : STt X E e (tTru fa) := by
  refine PT.mono (pt_truth h he) fun σ H Q ⟨fr, S, m, rf, rs, p⟩ => ?_
  refine rd_bind rf rs p fun x S1 m1 H1 e1 rf1 rs1 p1 v hv => ?_
  split at p1
  · rename_i b hb
    refine ⟨b, ?_, p1.here rs1⟩
    cases hv with
    | non => cases hb; exact rfl
    | bl k => cases hb; exact rfl
    | int i => cases hb; exact rfl
    | str s =>
      unfold truth at hb
      dsimp only at hb
      split at hb
      · rename_i hl
        cases hb
        refine ⟨by rw [sOf_len, sizeLine_eq]; exact hl, ?_⟩
        rw [sOf_len]
        cases s with
        | nil => rfl
        | cons => simp; omega
      · cases hb
    | @tup l a xs ha r =>
      cases hb
      refine .inr (.inl ⟨xs, .inl (.inl ha), ?_⟩)
      have := r.len
      cases r <;> rfl
    | wtp => cases hb
    | @ref n ad ha =>
      unfold truth at hb
      dsimp only at hb
      split at hb
      · rename_i l hl
        cases hb
        obtain ⟨xs, h1, h2⟩ := rs1.lst ha hl
        refine .inl ⟨xs, h1, ?_⟩
        cases h2 <;> rfl
      · cases hb
  · exact p1.elim
theorem se_one {op} (h : SE X E a fa) : SE X E (.BoolOp op [a] pos) fa := pe_one h
theorem se_and {rest : List Expr} (ha : SE X E a fa) (hb : SE X E (.BoolOp .And (b :: rest) pos) fb) : SE X E (.BoolOp .And (a :: b :: rest) pos) (mAnd fa fb) := by
  refine PE.mono (pe_and ha hb) fun σ H Q ⟨fr, S, m, rf, rs, p⟩ => ?_
  refine rd_bind rf rs p fun x S1 m1 H1 e1 rf1 rs1 p1 v hv => ?_
  obtain ⟨k, e, q⟩ := of_toB rs1 hv (post_bind p1)
  refine ⟨k, e, ?_⟩
  cases k with
  | true => exact ⟨fr, S1, m1, rf1, rs1, q⟩
  | false => exact q.here rs1 _ (.bl _)
/-- tests -/
theorem sw_and1 {ft : TM} (ha : STt X E a ft) : SW X E (.BoolOp .And [a] pos) ft := pw_and1 ha
theorem sw_or1 {ft : TM} (ha : STt X E a ft) : SW X E (.BoolOp .Or [a] pos) ft := pw_or1 ha
theorem sw_and {rest : List Expr} {ft fu : TM} (ha : STt X E a ft) (hb : SW X E (.BoolOp .And (b :: rest) pos) fu) : SW X E (.BoolOp .And (a :: b :: rest) pos) (tAnd ft fu) := by
  refine PW.mono (pw_and ha hb) fun σ H Q ⟨fr, S, m, rf, rs, p⟩ => ?_
  refine rdT_bind rf rs p fun k S1 m1 H1 e1 rf1 rs1 p1 => ?_
  cases k with
  | true => exact ⟨fr, S1, m1, rf1, rs1, p1⟩
  | false => exact p1.here rs1
theorem sw_or {rest : List Expr} {ft fu : TM} (ha : STt X E a ft) (hb : SW X E (.BoolOp .Or (b :: rest) pos) fu) : SW X E (.BoolOp .Or (a :: b :: rest) pos) (tOr ft fu) := by
  refine PW.mono (pw_or ha hb) fun σ H Q ⟨fr, S, m, rf, rs, p⟩ => ?_
  refine rdT_bind rf rs p fun k S1 m1 H1 e1 rf1 rs1 p1 => ?_
  cases k with
  | true => exact p1.here rs1
  | false => exact ⟨fr, S1, m1, rf1, rs1, p1⟩
theorem st_w {ft : TM} (h : SW X E e ft) : STt X E e ft := PW.pt h
theorem st_not {ft : TM} (ha : STt X E a ft) : STt X E (.UnaryOp .Not a pos) (tNot ft) := by
  refine PT.mono (pt_not ha) fun σ H Q ⟨fr, S, m, rf, rs, p⟩ => ?_
  exact rdT_bind rf rs p fun k S1 m1 H1 e1 rf1 rs1 p1 => p1.here rs1
/-! ### arguments, displays -/
theorem sa_nil : SA X E [] aNil := PA.mono pa_nil fun σ H Q ⟨fr, S, m, rf, rs, p⟩ => p.here rs [] .nil
theorem sa_cons {es : List Expr} {fs : AM} (ha : SE X E e fa) (hr : SA X E es fs) (hs : starEach (e :: es) X.env = (false, eval e X.env) :: starEach es X.env := by rfl) : SA X E (e :: es) (aCons fa fs) := by
  refine PA.mono (pa_cons ha hr hs) fun σ H Q ⟨fr, S, m, rf, rs, p⟩ => ?_
  refine rd_bind rf rs p fun x S1 m1 H1 e1 rf1 rs1 p1 v hv => ?_
  refine rdA_bind rf1 rs1 p1 fun xs S2 m2 H2 e2 rf2 rs2 p2 vs hvs => ?_
  exact p2.here rs2 _ (.cons (hv.mono e2) hvs)
theorem line_eq : sizeLine = LINE := sizeLine_eq
/-- a new object: its reference -/
theorem post_new {c : Ct} {m : List Addr} {S : Store} {H : Hp} {o : O} {Q : VK} {p : Addr} {u : HO} (rs : RS c m S H) (q : Post c E m H (new o S) (kE c Q)) (hp : H p = none) (ho : Ext m H (m ++ [p]) (upd H p u) → RelO c (upd H p u) (m ++ [p]) p o) : Q (.ref p) (upd H p u) := by
  have e0 : Ext m H (m ++ [p]) (upd H p u) := ⟨⟨mext_push m p, tstay_new hp⟩, fstay_new hp⟩
  obtain ⟨rs', e⟩ := rs.push hp (ho e0)
  refine q _ _ e rs' _ (.ref ?_)
  rw [← rs.len, List.getElem?_append_right (Nat.le_refl _), Nat.sub_self]
  rfl
theorem post_tup {c : Ct} {m : List Addr} {S : Store} {H : Hp} {l : List D} {Q : VK} {p : Addr} {xs : List V} (rs : RS c m S H) (q : Post c E m H (.ok (.tup l) S) (kE c Q)) (hp : H p = none) (r : RelL c.K H m l xs) : Q (.ref p) (upd H p (.tup xs)) := by
  have e : Ext m H m (upd H p (.tup xs)) := ⟨⟨fun _ _ z => z, tstay_new hp⟩, fstay_new hp⟩
  exact q _ _ e (rs.fresh hp) _ (.tup upd_same (r.mono e))
theorem se_tup {es : List Expr} {fs : AM} {x1} (h : SA X E es fs) : SE X E (.Tuple es x1 pos) (mTup fs) := by
  refine PE.mono (pe_tup h) fun σ H Q ⟨fr, S, m, rf, rs, p⟩ => ?_
  refine rdA_bind rf rs p fun xs S1 m1 H1 e1 rf1 rs1 p1 vs hv => ?_
  split at p1
  · rename_i hl
    exact ⟨by rw [← hv.len, line_eq]; exact hl, fun a ha => post_tup rs1 p1 ha hv⟩
  · exact p1.elim
theorem se_lst {es : List Expr} {fs : AM} (h : SA X E es fs) : SE X E (.List es pos) (mLst fs) := by
  refine PE.mono (pe_lst h) fun σ H Q ⟨fr, S, m, rf, rs, p⟩ => ?_
  refine rdA_bind rf rs p fun xs S1 m1 H1 e1 rf1 rs1 p1 vs hv => ?_
  split at p1
  · rename_i hl
    exact ⟨by rw [← hv.len, line_eq]; exact hl, fun a ha => post_new rs1 p1 ha fun e0 => ⟨vs, upd_same, hv.mono e0⟩⟩
  · exact p1.elim
theorem se_newK : SE X E (.Dict [] [] pos) mNewK := PE.mono pe_dnewK fun σ H Q ⟨fr, S, m, rf, rs, p⟩ a ha => post_new rs p ha fun _ => ⟨[], upd_same, .nil⟩
theorem se_newT : SE X E (.Dict [] [] pos) mNewT := PE.mono pe_dnewT fun σ H Q ⟨fr, S, m, rf, rs, p⟩ a ha => post_new rs p ha fun _ => ⟨[], upd_same, .nil⟩
/-! ### calls -/
/-- a def's promise by its small program -/
def spM (c : Ct) (g : Fn) : Sp := fun vs H Q E => ∃ ds S m, RelL c.K H m ds vs ∧ RS c m S H ∧ Post c E m H (g ds S) (kE c Q)
theorem rd_call {f : AM} {g : Fn} {fr : Fr} {S : Store} {m : List Addr} {σ : L2.St} {H : Hp} {Q : VK} {c : Ct} {E : XK}
    (rf : RF c.K H m fr σ) (rs : RS c m S H) (p : Post c E m H ((f fr S).bind g) (kE c Q)) : rdA c E f σ H fun vs H1 => spM c g vs H1 Q E :=
  rdA_bind rf rs p fun ds S1 m1 H1 e1 rf1 rs1 p1 vs hv => ⟨ds, S1, m1, hv, rs1, p1⟩
theorem se_call {CX : CXT} {k : Nat} {f : Addr} {fd : FuncData} {ps : List Str} {g : Fn} {x : Str} {p : Pos} {es : List Expr} {fs : AM} (F : FnOk X.prog X.w X.K X.mg X.base CX k f fd ps (spM (cx X) g)) (hr : Room k X.A) (hg : Gl X x) (hm : X.mg x = some (.ref f)) (hk : PySem.W.keepIn X.K (.ref f) = true) (hb : Binds X.K fd ps []) (hx : Passes CX X E)
    (ha : SA X E (e :: es) fs) (hdb : (x == ("__debug__" : Str)) = false := by decide) (he : starEach (e :: es) X.env = (false, eval e X.env) :: starEach es X.env := by rfl) (hpl : (backTo pos (starEach es X.env)).any (·.1) = false := by rfl) :
    SE X E (.Call (.Name x p) (e :: es) [] pos) (mCall g fs) := by
  refine PE.mono (pe_call F hr hg hm hk hb .nil hx ha hdb he hpl) fun σ H Q ⟨fr, S, m, rf, rs, p⟩ => ?_
  show rdA (cx X) E fs σ H fun vs H1 => spM (cx X) g (vs ++ []) H1 Q E
  have h := rd_call rf rs p
  simpa only [List.append_nil] using h
/-- a built-in's value rule against the small one -/
def CallM (X : Cx) (E : XK) (f : Value) (g : Fn) : Prop := ∃ r : List V → Hp → VK → Prop, CallR X f r ∧
  ∀ ds vs S m H Q, RS (cx X) m S H → RelL X.K H m ds vs → Post (cx X) E m H (g ds S) (kE (cx X) Q) → r vs H Q
theorem callr_or {f : Value} {r r' : List V → Hp → VK → Prop} (h : CallR X f r) (h' : CallR X f r') : CallR X f fun xs H Q => r xs H Q ∨ r' xs H Q := by
  intro pins s σ H xs us Q I rx q
  rcases q with q | q
  · exact h pins s σ H xs us Q I rx q
  · exact h' pins s σ H xs us Q I rx q
theorem se_callB {id : String} {g : Fn} {x : Str} {p : Pos} {es : List Expr} {fs : AM} (o : CallM X E (.builtin id) g) (hg : Gl X x) (hm : X.mg x = none) (hv : bootBuiltins x = some (.builtin id)) (ha : SA X E (e :: es) fs) (hn : x ≠ "__name__" := by decide) (hdb : (x == ("__debug__" : Str)) = false := by decide)
    (he : starEach (e :: es) X.env = (false, eval e X.env) :: starEach es X.env := by rfl) (hpl : (backTo pos (starEach es X.env)).any (·.1) = false := by rfl) : SE X E (.Call (.Name x p) (e :: es) [] pos) (mCall g fs) := by
  obtain ⟨r, hc, hr⟩ := o
  refine PE.mono (pe_callB hc hg hm hv ha hn hdb he hpl) fun σ H Q ⟨fr, S, m, rf, rs, p⟩ => ?_
  exact rdA_bind rf rs p fun ds S1 m1 H1 e1 rf1 rs1 p1 vs hvs => hr ds vs S1 m1 H1 Q rs1 hvs p1
theorem se_callTy {T : String} {g : Fn} {x : Str} {p : Pos} {es : List Expr} {fs : AM} (o : CallM X E (.type T) g) (hg : Gl X x) (hm : X.mg x = none) (hv : bootBuiltins x = some (.type T)) (ha : SA X E (e :: es) fs) (hn : x ≠ "__name__" := by decide) (hdb : (x == ("__debug__" : Str)) = false := by decide)
    (he : starEach (e :: es) X.env = (false, eval e X.env) :: starEach es X.env := by rfl) (hpl : (backTo pos (starEach es X.env)).any (·.1) = false := by rfl) : SE X E (.Call (.Name x p) (e :: es) [] pos) (mCall g fs) := by
  obtain ⟨r, hc, hr⟩ := o
  refine PE.mono (pe_callTy hc hg hm hv ha hn hdb he hpl) fun σ H Q ⟨fr, S, m, rf, rs, p⟩ => ?_
  exact rdA_bind rf rs p fun ds S1 m1 H1 e1 rf1 rs1 p1 vs hvs => hr ds vs S1 m1 H1 Q rs1 hvs p1
/-- a subscript -/
def IxM (X : Cx) (E : XK) (g : Op2) : Prop := ∃ r : R2, IxR X r ∧
  ∀ x y v w S m H Q, RS (cx X) m S H → RelD X.K H m x v → RelD X.K H m y w → Post (cx X) E m H (g x y S) (kE (cx X) Q) → r v w H Q
theorem se_ix {g : Op2} (o : IxM X E g) (ha : SE X E a fa) (hb : SE X E b fb) (hs : PlainIx b) : SE X E (.Subscript a b pos) (mOp g fa fb) := by
  obtain ⟨r, ho, hr⟩ := o
  refine PE.mono (pe_ix ho ha hb hs) fun σ H Q ⟨fr, S, m, rf, rs, p⟩ => ?_
  refine rd_bind rf rs p fun x S1 m1 H1 e1 rf1 rs1 p1 v hv => ?_
  refine rd_bind rf1 rs1 p1 fun y S2 m2 H2 e2 rf2 rs2 p2 w hw => ?_
  exact hr x y v w S2 m2 H2 Q rs2 (hv.mono e2) hw p2
/-- a slice -/
theorem so_none : SO X E none pNo := by
  refine ⟨fun pins s σ H Q I ⟨fr, S, m, rf, rs, p⟩ => po_none.run pins s σ H Q I (p.here rs)⟩
theorem so_some (h : SE X E e fa) : SO X E (some e) (pSome fa) := by
  refine ⟨fun pins s σ H Q I ⟨fr, S, m, rf, rs, p⟩ => (po_some h).run pins s σ H Q I ?_⟩
  refine rd_bind rf rs p fun x S1 m1 H1 e1 rf1 rs1 p1 v hv => ?_
  cases hv with
  | int i => exact ⟨i, rfl, p1.here rs1⟩
  | _ => exact p1.elim
def SlM (X : Cx) (E : XK) (g : D → Option Int → Option Int → Store → Res D) : Prop := ∃ r : V → Option Int → Option Int → Hp → VK → Prop, SlR X r ∧
  ∀ x lo hi v S m H Q, RS (cx X) m S H → RelD X.K H m x v → Post (cx X) E m H (g x lo hi S) (kE (cx X) Q) → r v lo hi H Q
theorem slr_or {r r' : V → Option Int → Option Int → Hp → VK → Prop} (h : SlR X r) (h' : SlR X r') : SlR X fun x a b H Q => r x a b H Q ∨ r' x a b H Q := by
  intro pins s σ H x v vl vu lo hi sl Q I rx hs pl pu q
  rcases q with q | q
  · exact h pins s σ H x v vl vu lo hi sl Q I rx hs pl pu q
  · exact h' pins s σ H x v vl vu lo hi sl Q I rx hs pl pu q
theorem se_sl {lo hi : Option Expr} {fl fh : PM} {p2 : Pos} (o : SlM X E oSl) (ha : SE X E a fa) (hl : SO X E lo fl) (hh : SO X E hi fh) : SE X E (.Subscript a (.Slice lo hi none p2) pos) (mSl fa fl fh) := by
  obtain ⟨r, ho, hr⟩ := o
  refine PE.mono (pe_slice ho ha hl hh) fun σ H Q ⟨fr, S, m, rf, rs, p⟩ => ?_
  refine rd_bind rf rs p fun x S1 m1 H1 e1 rf1 rs1 p1 v hv => ?_
  refine rdP_bind rf1 rs1 p1 fun l S2 m2 H2 e2 rf2 rs2 p2 => ?_
  refine rdP_bind rf2 rs2 p2 fun h S3 m3 H3 e3 rf3 rs3 p3 => ?_
  exact hr x l h v S3 m3 H3 Q rs3 ((hv.mono e2).mono e3) p3
/-- -a -/
theorem se_neg (ha : SE X E a fa) : SE X E (.UnaryOp .USub a pos) (mUn uNeg fa) := by
  refine PE.mono (pe_un un_neg ha) fun σ H Q ⟨fr, S, m, rf, rs, p⟩ => ?_
  refine rd_bind rf rs p fun x S1 m1 H1 e1 rf1 rs1 p1 v hv => ?_
  cases hv with
  | int i => exact ⟨i, rfl, p1.here rs1 _ (.int _)⟩
  | _ => exact p1.elim
/-- a method of a built-in type -/
def MtMm (X : Cx) (E : XK) (id : String) (g : D → Fn) : Prop := ∃ r : V → List V → Hp → VK → Prop, MtR X id r ∧
  ∀ x ds v vs S m H Q, RS (cx X) m S H → RelD X.K H m x v → RelL X.K H m ds vs → Post (cx X) E m H (g x ds S) (kE (cx X) Q) → r v vs H Q
def TyM (X : Cx) (T : String) (p : D → Store → Bool) : Prop := ∀ x v S m H, RS (cx X) m S H → RelD X.K H m x v → p x S = true → tyV X.K T v H
theorem se_mt {T id : String} {name : Str} {apos cpos : Pos} {g : D → Fn} {tp : D → Store → Bool} {o : Expr} {fo : EM} {es : List Expr} {fs : AM} (pa : PlainAttrs T) (slot : Slot T name id) (hty : typeOf (.builtin id) = pure (.type "method_descriptor")) (mt : MtMm X E id g) (ty : TyM X T tp) (ho : SE X E o fo) (ha : SA X E (e :: es) fs)
    (hbase : attributeBase o name X.env (eval o X.env) = eval o X.env := by rfl)
    (hfew : ((backTo cpos (starEach (e :: es) X.env)).all (fun x => !x.1) && (backToKw cpos (keywordEach [] X.env)).all (fun x => x.1.isSome)
      && decide ((e :: es).length + ([] : List Keyword).length + (if ([] : List Keyword).isEmpty then 0 else 1) < 30)) = true := by rfl)
    (hline : (apos.endLine == cpos.line) = true := by rfl) (hs : starEach (e :: es) X.env = (false, eval e X.env) :: starEach es X.env := by rfl) (hplain : (backTo cpos (starEach es X.env)).any (·.1) = false := by rfl) : SE X E (.Call (.Attribute o name apos) (e :: es) [] cpos) (mMt tp g fo fs) := by
  obtain ⟨r, hm, hr⟩ := mt
  refine PE.mono (pe_bm pa slot hty hm ho ha hbase hfew hline hs hplain) fun σ H Q ⟨fr, S, m, rf, rs, p⟩ => ?_
  refine rd_bind rf rs p fun x S1 m1 H1 e1 rf1 rs1 p1 v hv => ?_
  split at p1
  · rename_i h
    refine ⟨ty x v S1 m1 H1 rs1 hv h, ?_⟩
    exact rdA_bind rf1 rs1 p1 fun ds S2 m2 H2 e2 rf2 rs2 p2 vs hvs => hr x ds v vs S2 m2 H2 Q rs2 (hv.mono e2) hvs p2
  · exact p1.elim
end
end Sm
set_option Elab.async false
set_option linter.all false
set_option maxRecDepth 100000
set_option maxHeartbeats 2000000
/-! readings by the small language: operators on values -/
namespace Sm
open PySem PySem.Spec PyProof.Rows L2 Mi
variable [Tbs]
section
variable {X : Cx} {E : XK} {f : Value → Value → Sem Value}
theorem post_int {c : Ct} {E : XK} {m : List Addr} {H : Hp} {S : Store} {Q : VK} {i : Int} (rs : RS c m S H) (p : Post c E m H (.ok (.int i) S) (kE c Q)) : Q (.int i) H := p.here rs _ (.int i)
theorem post_bl {c : Ct} {E : XK} {m : List Addr} {H : Hp} {S : Store} {Q : VK} {i : Bool} (rs : RS c m S H) (p : Post c E m H (.ok (.bl i) S) (kE c Q)) : Q (.bl i) H := p.here rs _ (.bl i)
/-- an operator of two ints alone -/
theorem om_int {g : Int → Int → D} {w : Int → Int → V} (ho : OpR X f (rI0 w)) (h : ∀ i j H m, RelD X.K H m (g i j) (w i j)) :
    OpM X E f (fun x y S => match x, y with
      | .int i, .int j => .ok (g i j) S
      | _, _ => .bad) := by
  refine ⟨_, ho, fun x y v u S m H Q rs hv hw p => ?_⟩
  cases hv <;> cases hw <;> first
    | exact p.elim
    | exact ⟨_, _, rfl, rfl, p.here rs _ (h _ _ _ _)⟩
theorem om_intC {C C' : Int → Int → Prop} [∀ i j, Decidable (C i j)] {g : Int → Int → Int} {g' : Int → Int → Int} (ho : OpR X f (rI C' fun i j => .int (g' i j))) (hc : ∀ i j, C i j → C' i j) (he : ∀ i j, C i j → g' i j = g i j) :
    OpM X E f (fun x y S => match x, y with
      | .int i, .int j => if C i j then .ok (.int (g i j)) S else .bad
      | _, _ => .bad) := by
  refine ⟨_, ho, fun x y v u S m H Q rs hv hw p => ?_⟩
  cases hv <;> cases hw <;> first
    | exact p.elim
    | (rename_i i j
       dsimp only at p
       split at p
       · rename_i h
         refine ⟨_, _, rfl, rfl, hc _ _ h, ?_⟩
         show Q (.int (g' i j)) H
         rw [he _ _ h]
         exact post_int rs p
       · exact p.elim)
theorem OpM.eq {g g' : Op2} (h : OpM X E f g) (e : ∀ x y S, g x y S = g' x y S) : OpM X E f g' := by
  obtain ⟨r, h1, h2⟩ := h
  exact ⟨r, h1, fun x y v w S m H Q rs hv hw p => h2 x y v w S m H Q rs hv hw (by rw [e]; exact p)⟩
theorem om_sub : OpM X E (binaryOp .Sub) oSub := (om_int (g := fun i j => .int (i - j)) op_sub fun i j H m => .int _).eq fun x y S => by cases x <;> cases y <;> rfl
theorem om_cmp {op : CmpOp} {p : Int → Int → Bool} (ho : OpR X (compareOp op) (rI0 fun i j => .bl (p i j))) : OpM X E (compareOp op) (oCmp p) := (om_int (g := fun i j => .bl (p i j)) ho fun i j H m => .bl _).eq fun x y S => by cases x <;> cases y <;> rfl
theorem om_lt : OpM X E (compareOp .Lt) oLt := om_cmp op_lt
theorem om_le : OpM X E (compareOp .LtE) oLe := om_cmp op_le
theorem om_gt : OpM X E (compareOp .Gt) oGt := om_cmp op_gt
theorem om_div : OpM X E (binaryOp .FloorDiv) oDiv := (om_intC (C := fun _ j => divOk j) (g := fun i j => i / j) op_fdivW (fun _ _ h => h) fun _ _ _ => rfl).eq fun x y S => by cases x <;> cases y <;> rfl
theorem om_mod : OpM X E (binaryOp .Mod) oMod := (om_intC (C := fun _ j => 0 < j) (g := fun i j => i % j) op_mod (fun _ _ h => h) fun _ _ _ => rfl).eq fun x y S => by cases x <;> cases y <;> rfl
theorem om_pow : OpM X E (binaryOp .Pow) oPow := (om_intC (C := powOk) (g := fun i j => i ^ j.toNat) op_pow (fun _ _ h => h) fun _ _ _ => rfl).eq fun x y S => by cases x <;> cases y <;> rfl
theorem om_shl : OpM X E (binaryOp .LShift) oShl := (om_intC (C := powOk) (g := fun i j => i * 2 ^ j.toNat) op_shl (fun _ _ h => h) fun _ _ _ => rfl).eq fun x y S => by cases x <;> cases y <;> rfl
theorem om_shr : OpM X E (binaryOp .RShift) oShr := (om_intC (C := fun _ j => 0 ≤ j) (g := fun i j => i / 2 ^ j.toNat) op_shr (fun _ _ h => h) fun _ _ _ => rfl).eq fun x y S => by cases x <;> cases y <;> rfl
theorem om_bit {op : Operator} {b : Int → Int → Int} {g : Nat → Nat → Nat} (ho : OpR X (binaryOp op) (rI0 fun i j => .int (b i j))) (he : ∀ i j : Int, 0 ≤ i → 0 ≤ j → b i j = (g i.toNat j.toNat : Nat)) : OpM X E (binaryOp op) (oBit g) := by
  refine ⟨_, ho, fun x y v u S m H Q rs hv hw p => ?_⟩
  cases hv <;> cases hw <;> first
    | exact p.elim
    | (rename_i i j
       unfold oBit at p
       dsimp only at p
       split at p
       · rename_i h
         refine ⟨_, _, rfl, rfl, ?_⟩
         show Q (.int (b i j)) H
         rw [he _ _ h.1 h.2]
         exact post_int rs p
       · exact p.elim)
theorem bitAnd_nn {x y : Int} (hx : 0 ≤ x) (hy : 0 ≤ y) : Builtin.bitAnd x y = ((x.toNat &&& y.toNat : Nat) : Int) := by
  obtain ⟨a, rfl⟩ := Int.eq_ofNat_of_zero_le hx
  obtain ⟨b, rfl⟩ := Int.eq_ofNat_of_zero_le hy
  rfl
theorem om_and : OpM X E (binaryOp .BitAnd) oAnd := om_bit op_and fun i j h1 h2 => bitAnd_nn h1 h2
theorem om_or : OpM X E (binaryOp .BitOr) oOr := om_bit op_or fun i j h1 h2 => Bits.bitOr_pp h1 h2
theorem om_xor : OpM X E (binaryOp .BitXor) oXor := om_bit op_xor fun i j h1 h2 => Bits.bitXor_pp h1 h2
/-- two rules for one operator -/
theorem RS.mlst {c : Ct} {m : List Addr} {S : Store} {H : Hp} {n : Nat} {a : Addr} {l : List D} (rs : RS c m S H) (ha : m[n]? = some a) (hs : S[n]? = some (.lst l)) : ∃ xs, H a = some (.lst xs) ∧ RelL c.K H m l xs := rs.ob n a _ ha hs
theorem om_add : OpM X E (binaryOp .Add) oAdd := by
  refine ⟨_, opr_or op_add (opr_or op_add_str (opr_or op_cat op_catT)), fun x y v u S m H Q rs hv hw p => ?_⟩
  cases hv with
  | int i => cases hw with
    | int j => exact .inl ⟨i, j, rfl, rfl, post_int rs p⟩
    | _ => exact p.elim
  | str s => cases hw with
    | str t =>
      unfold oAdd at p
      dsimp only at p
      split at p
      · rename_i h
        refine .inr (.inl ⟨sOf s, sOf t, rfl, rfl, by rw [sOf_len, sOf_len, line_eq]; exact h, ?_⟩)
        have e : sOf s ++ sOf t = sOf (s ++ t) := by
          show Str.mk (s.toArray ++ t.toArray) = Str.mk (s ++ t).toArray
          simp
        rw [e]
        exact p.here rs _ (.str _)
      · exact p.elim
    | _ => exact p.elim
  | @tup l a xs ha r => cases hw with
    | @tup l' a' xs' ha' r' =>
      unfold oAdd at p
      dsimp only at p
      split at p
      · rename_i h
        have n1 : xs ≠ [] := fun z => by
          have := r.len
          rw [z] at this
          exact h.1 (List.length_eq_zero_iff.mp this)
        refine .inr (.inr (.inr ⟨a, a', xs, xs', rfl, rfl, .inl (.inl ha), .inl (.inl ha'), n1, by rw [← r.len, ← r'.len, line_eq]; exact h.2, fun z => ?_, fun z b hb => ?_⟩))
        · subst z
          cases r'
          rw [List.append_nil] at p
          exact p.here rs _ (.tup ha r)
        · exact post_tup rs p hb (r.app r')
      · exact p.elim
    | _ => exact p.elim
  | @ref n a ha => cases hw with
    | @ref n' a' ha' =>
      unfold oAdd at p
      dsimp only at p
      split at p
      · rename_i l l' e1 e2
        split at p
        · rename_i h
          obtain ⟨xs, h1, r1⟩ := rs.mlst ha e1
          obtain ⟨ys, h2, r2⟩ := rs.mlst ha' e2
          exact .inr (.inr (.inl ⟨a, a', xs, ys, rfl, rfl, h1, h2, by rw [← r1.len, ← r2.len, line_eq]; exact h, fun b hb => post_new rs p hb fun e0 => ⟨_, upd_same, (r1.app r2).mono e0⟩⟩))
        · exact p.elim
      · exact p.elim
    | _ => exact p.elim
  | _ => cases hw <;> exact p.elim
theorem RelL.rep {K : PySem.W.Frag} {H : Hp} {m : List Addr} {l : List D} {xs : List V} (r : RelL K H m l xs) : ∀ n, RelL K H m (List.replicate n l).flatten (List.replicate n xs).flatten
  | 0 => .nil
  | n + 1 => by
    rw [List.replicate_succ, List.replicate_succ, List.flatten_cons, List.flatten_cons]
    exact r.app (r.rep n)
theorem om_mul : OpM X E (binaryOp .Mult) oMul := by
  refine ⟨_, opr_or op_mul (opr_or op_mulW op_rep), fun x y v u S m H Q rs hv hw p => ?_⟩
  cases hv with
  | int i => cases hw with
    | int j =>
      unfold oMul at p
      dsimp only at p
      split at p
      · rename_i h
        rcases h with h | h | h
        · exact .inl ⟨i, j, rfl, rfl, .inl h, post_int rs p⟩
        · exact .inl ⟨i, j, rfl, rfl, .inr h, post_int rs p⟩
        · exact .inr (.inl ⟨i, j, rfl, rfl, h, post_int rs p⟩)
      · exact p.elim
    | _ => exact p.elim
  | @ref n a ha => cases hw with
    | int k =>
      unfold oMul at p
      dsimp only at p
      split at p
      · rename_i l e1
        split at p
        · rename_i h
          obtain ⟨xs, h1, r1⟩ := rs.mlst ha e1
          exact .inr (.inr ⟨a, k, xs, rfl, rfl, h1, h.1, h.2.1, by rw [← r1.len, line_eq]; exact h.2.2, fun b hb => post_new rs p hb fun e0 => ⟨_, upd_same, (r1.rep _).mono e0⟩⟩)
        · exact p.elim
      · exact p.elim
    | _ => exact p.elim
  | _ => cases hw <;> exact p.elim
/-! ### equality -/
mutual
theorem dp_of {rd : Nat → Option PyData} {K : PySem.W.Frag} {H : Hp} {m : List Addr} (hrd : ∀ n a d, m[n]? = some a → rd n = some d → Dp K H (.ref a) d) : ∀ (x : D) (v : V) (d : PyData), RelD K H m x v → toP rd x = some d → Dp K H v d
  | .non, _, _, h, e => by
    cases h
    simp only [toP, Option.some.injEq] at e
    subst e
    exact .non
  | .bl b, _, _, h, e => by
    cases h
    simp only [toP, Option.some.injEq] at e
    subst e
    exact .bl b
  | .int b, _, _, h, e => by
    cases h
    simp only [toP, Option.some.injEq] at e
    subst e
    exact .int b
  | .str b, _, _, h, e => by
    cases h
    simp only [toP, Option.some.injEq] at e
    subst e
    exact .str _
  | .tup l, _, _, h, e => by
    cases h with
    | tup ha r =>
      simp only [toP] at e
      obtain ⟨q, h1, h2⟩ := Option.map_eq_some_iff.mp e
      subst h2
      exact .tup (.inl (.inl ha)) (dps_of hrd l _ q r h1)
  | .wtp l, _, _, h, e => by
    cases h with
    | wtp ha r =>
      simp only [toP] at e
      obtain ⟨q, h1, h2⟩ := Option.map_eq_some_iff.mp e
      subst h2
      exact .tup ha.sq (dps_of hrd l _ q r h1)
  | .ref n, _, _, h, e => by
    cases h with
    | ref ha =>
      simp only [toP] at e
      exact hrd n _ _ ha e
theorem dps_of {rd : Nat → Option PyData} {K : PySem.W.Frag} {H : Hp} {m : List Addr} (hrd : ∀ n a d, m[n]? = some a → rd n = some d → Dp K H (.ref a) d) : ∀ (l : List D) (xs : List V) (ds : List PyData), RelL K H m l xs → toPs rd l = some ds → DpAll K H xs ds
  | [], _, _, h, e => by
    cases h
    simp only [toPs, Option.some.injEq] at e
    subst e
    exact .nil
  | x :: l, _, _, h, e => by
    cases h with
    | cons h1 h2 =>
      simp only [toPs] at e
      obtain ⟨q, e1, e2⟩ := Option.bind_eq_some_iff.mp e
      obtain ⟨r, e3, e4⟩ := Option.map_eq_some_iff.mp e2
      subst e4
      exact .cons (dp_of hrd x _ q h1 e1) (dps_of hrd l _ r h2 e3)
end
theorem look_dp {c : Ct} {m : List Addr} {S : Store} {H : Hp} (rs : RS c m S H) : ∀ (k : Nat) (n : Nat) (a : Addr) (d : PyData), m[n]? = some a → lookP k S n = some d → Dp c.K H (.ref a) d
  | 0, _, _, _, _, e => by simp only [lookP] at e; cases e
  | k + 1, n, a, d, ha, e => by
    simp only [lookP] at e
    split at e
    · rename_i l hl
      obtain ⟨q, h1, h2⟩ := Option.map_eq_some_iff.mp e
      subst h2
      obtain ⟨xs, h3, h4⟩ := rs.lst (l := l) ha (by unfold lstOf; rw [hl])
      exact .lst h3 (dps_of (look_dp rs k) l xs q h4 h1)
    · rename_i l hl
      obtain ⟨q, h1, h2⟩ := Option.map_eq_some_iff.mp e
      subst h2
      obtain ⟨xs, h3, h4⟩ := rs.lst (l := l) ha (by unfold lstOf; rw [hl])
      exact .lst h3 (dps_of (look_dp rs k) l xs q h4 h1)
    · cases e
theorem pd_dp {c : Ct} {m : List Addr} {S : Store} {H : Hp} (rs : RS c m S H) {x : D} {v : V} {d : PyData} (h : RelD c.K H m x v) (e : pd S x = some d) : Dp c.K H v d := dp_of (look_dp rs 8) x v d h e
theorem scal_scq {K : PySem.W.Frag} {H : Hp} {m : List Addr} {x y : D} {v w : V} {b : Bool} (h1 : RelD K H m x v) (h2 : RelD K H m y w) (e : scq x y = some b) : scal v w = true ∧ decide (v = w) = b := by
  cases h1 <;> cases h2 <;> simp only [scq, Option.some.injEq, reduceCtorEq] at e <;> first
    | (subst e; exact ⟨rfl, by rw [← sOf_eq]; exact decide_eq_decide.mpr ⟨fun z => V.str.inj z, fun z => congrArg V.str z⟩⟩)
    | (subst e; exact ⟨rfl, by simp⟩)
theorem om_eq (hu : X.A.units + 65 < cLine) : OpM X E (compareOp .Eq) oEq := by
  refine ⟨_, opr_or op_eq (op_eqD (by omega)), fun x y v u S m H Q rs hv hw p => ?_⟩
  unfold oEq pyEq at p
  cases e : scq x y with
  | some b =>
    rw [e] at p
    obtain ⟨h1, h2⟩ := scal_scq hv hw e
    exact .inl ⟨h1, by rw [h2]; exact post_bl rs p⟩
  | none =>
    rw [e] at p
    dsimp only at p
    cases e1 : pd S x with
    | none => rw [e1] at p; exact p.elim
    | some a =>
      cases e2 : pd S y with
      | none => rw [e1, e2] at p; exact p.elim
      | some b =>
        rw [e1, e2] at p
        dsimp only at p
        by_cases hs : shp a = true ∧ shp b = true
        · rw [if_pos hs] at p
          exact .inr ⟨a, b, pd_dp rs hv e1, pd_dp rs hw e2, hs.1, hs.2, post_bl rs p⟩
        · rw [if_neg hs] at p
          exact p.elim
theorem om_ne (hu : X.A.units + 65 < cLine) : OpM X E (compareOp .NotEq) oNe := by
  refine ⟨_, opr_or op_ne (op_neD (by omega)), fun x y v u S m H Q rs hv hw p => ?_⟩
  unfold oNe pyEq at p
  cases e : scq x y with
  | some b =>
    rw [e] at p
    obtain ⟨h1, h2⟩ := scal_scq hv hw e
    exact .inl ⟨h1, by rw [h2]; exact post_bl rs p⟩
  | none =>
    rw [e] at p
    dsimp only at p
    cases e1 : pd S x with
    | none => rw [e1] at p; exact p.elim
    | some a =>
      cases e2 : pd S y with
      | none => rw [e1, e2] at p; exact p.elim
      | some b =>
        rw [e1, e2] at p
        dsimp only at p
        by_cases hs : shp a = true ∧ shp b = true
        · rw [if_pos hs] at p
          exact .inr ⟨a, b, pd_dp rs hv e1, pd_dp rs hw e2, hs.1, hs.2, post_bl rs p⟩
        · rw [if_neg hs] at p
          exact p.elim
theorem isN_non {K : PySem.W.Frag} {H : Hp} {m : List Addr} {x : D} {v : V} (h : RelD K H m x v) : decide (v = .non) = isN x := by
  cases h <;> first | rfl | simp [isN]
theorem om_is : OpM X E (compareOp .Is) oIs := by
  refine ⟨_, op_isN, fun x y v u S m H Q rs hv hw p => ?_⟩
  unfold oIs at p
  split at p
  · rename_i h
    refine ⟨?_, ?_⟩
    · cases hw <;> first | rfl | exact absurd h (by simp [isN])
    · rw [isN_non hv]; exact post_bl rs p
  · exact p.elim
theorem om_isnot : OpM X E (compareOp .IsNot) oIsNot := by
  refine ⟨_, op_notN, fun x y v u S m H Q rs hv hw p => ?_⟩
  unfold oIsNot at p
  split at p
  · rename_i h
    refine ⟨?_, ?_⟩
    · cases hw <;> first | rfl | exact absurd h (by simp [isN])
    · rw [isN_non hv]; exact post_bl rs p
  · exact p.elim
/-! ### dicts -/
section
variable {κ κ' : Type} [DecidableEq κ] [DecidableEq κ'] {ff : κ → κ'} {K : PySem.W.Frag} {H : Hp} {m : List Addr}
theorem RelK.get (inj : ∀ a b, ff a = ff b → a = b) {k : List (κ × D)} {kv : List (κ' × V)} (r : RelK K H m ff k kv) (x : κ) : match dGet k x with
    | some d => ∃ v, valV kv (ff x) = some v ∧ RelD K H m d v
    | none => valV kv (ff x) = none := by
  induction r with
  | nil => exact rfl
  | @cons p q ps qs h t ih =>
    by_cases e : p.1 = x
    · have e1 : dGet (p :: ps) x = some p.2 := by simp [dGet, List.find?_cons, e]
      rw [e1]
      refine ⟨q.2, valV_pos (by rw [← h.1, e]), h.2⟩
    · have e1 : dGet (p :: ps) x = dGet ps x := by simp [dGet, List.find?_cons, e]
      rw [e1, valV_neg (show ¬ q.1 = ff x from fun z => e (inj _ _ (h.1.trans z)))]
      exact ih
theorem RelK.any (inj : ∀ a b, ff a = ff b → a = b) {k : List (κ × D)} {kv : List (κ' × V)} (r : RelK K H m ff k kv) (x : κ) : (kv.any fun z => decide (z.1 = ff x)) = (k.any fun z => decide (z.1 = x)) := by
  induction r with
  | nil => rfl
  | @cons p q ps qs h t ih =>
    rw [List.any_cons, List.any_cons, ih]
    congr 1
    by_cases e : p.1 = x
    · rw [decide_eq_true e, decide_eq_true (show q.1 = ff x by rw [← h.1, e])]
    · rw [decide_eq_false e, decide_eq_false (show ¬ q.1 = ff x from fun z => e (inj _ _ (h.1.trans z)))]
theorem RelK.map (inj : ∀ a b, ff a = ff b → a = b) {k : List (κ × D)} {kv : List (κ' × V)} {d : D} {v : V} (r : RelK K H m ff k kv) (x : κ) (hv : RelD K H m d v) :
    RelK K H m ff (k.map fun kv => if kv.1 = x then (kv.1, d) else kv) (kv.map fun kv => if kv.1 = ff x then (kv.1, v) else kv) := by
  induction r with
  | nil => exact .nil
  | @cons p q ps qs h t ih =>
    rw [List.map_cons, List.map_cons]
    refine .cons ?_ ih
    by_cases e : p.1 = x
    · rw [if_pos e, if_pos (show q.1 = ff x by rw [← h.1, e])]
      exact ⟨h.1, hv⟩
    · rw [if_neg e, if_neg (show ¬ q.1 = ff x from fun z => e (inj _ _ (h.1.trans z)))]
      exact h
theorem RelK.put (inj : ∀ a b, ff a = ff b → a = b) {k : List (κ × D)} {kv : List (κ' × V)} {d : D} {v : V} (r : RelK K H m ff k kv) (x : κ) (hv : RelD K H m d v) : RelK K H m ff (dPut k x d) (putK kv (ff x) v) := by
  unfold dPut putK
  rw [RelK.any inj r x]
  split
  · exact r.map inj x hv
  · exact Paired.snoc r ⟨rfl, hv⟩
end
end
end Sm
set_option Elab.async false
set_option linter.all false
set_option maxRecDepth 100000
set_option maxHeartbeats 2000000
/-! readings by the small language: in, subscripts, slices, built-ins, methods -/
namespace Sm
open PySem PySem.Spec PyProof.Rows L2 Mi
variable [Tbs]
section
variable {X : Cx} {E : XK}
theorem kys_of {K : PySem.W.Frag} {H : Hp} {m : List Addr} : ∀ {l : List D} {xs : List V} {k : List Ky}, RelL K H m l xs → kysOf l = some k → xs = (k.map kyK).map kV
  | [], _, _, .nil, e => by
    simp only [kysOf, Option.some.injEq] at e
    subst e
    rfl
  | d :: l, _, k, .cons h t, e => by
    simp only [kysOf] at e
    obtain ⟨q, e1, e2⟩ := Option.bind_eq_some_iff.mp e
    obtain ⟨r, e3, e4⟩ := Option.map_eq_some_iff.mp e2
    subst e4
    rw [List.map_cons, List.map_cons, ← kys_of t e3]
    congr 1
    cases h <;> simp only [kyOf, Option.some.injEq, reduceCtorEq] at e1 <;> (subst e1; rfl)
theorem ky_of {K : PySem.W.Frag} {H : Hp} {m : List Addr} {d : D} {v : V} {k : Ky} (h : RelD K H m d v) (e : kyOf d = some k) : v = kV (kyK k) := by
  cases h <;> simp only [kyOf, Option.some.injEq, reduceCtorEq] at e <;> (subst e; rfl)
/-- there or not, alike -/
def RelOD (K : PySem.W.Frag) (H : Hp) (m : List Addr) : Option D → Option V → Prop
  | some d, o => ∃ v, o = some v ∧ RelD K H m d v
  | none, o => o = none
theorem RelOD.isSome {K : PySem.W.Frag} {H : Hp} {m : List Addr} {r : Option D} {o : Option V} (h : RelOD K H m r o) : o.isSome = r.isSome := by
  cases r with
  | none => rw [show o = none from h] <;> rfl
  | some d => obtain ⟨v, e, _⟩ := h; rw [e] <;> rfl
/-- a look into a dict -/
theorem look_get {c : Ct} {m : List Addr} {S : Store} {H : Hp} (rs : RS c m S H) {n : Nat} {a : Addr} {k : D} {y : V} {r : Option D} (ha : m[n]? = some a) (hk : RelD c.K H m k y) (e : dLook S n k = some r) :
    ∃ o, DGet H a y o ∧ RelOD c.K H m r o := by
  unfold dLook at e
  split at e
  · rename_i kvs hs
    obtain ⟨kk, e1, e2⟩ := Option.map_eq_some_iff.mp e
    obtain ⟨kv, h1, h2⟩ := rs.ob n a _ ha hs
    have g := RelK.get (fun _ _ => kyK_inj) h2 kk
    rw [ky_of hk e1]
    refine ⟨_, DGet.k h1, ?_⟩
    rw [e2] at g
    cases r with
    | none => exact g
    | some d => exact g
  · rename_i kvs hs
    obtain ⟨kk, e1, e2⟩ := Option.map_eq_some_iff.mp e
    obtain ⟨kv, h1, h2⟩ := rs.ob n a _ ha hs
    have g := RelK.get (fun _ _ => kysK_inj) h2 kk
    cases hk with
    | tup hb hr =>
      refine ⟨_, DGet.t h1 (by rw [← kys_of hr e1]; exact hb), ?_⟩
      rw [e2] at g
      cases r with
      | none => exact g
      | some d => exact g
    | _ => cases e1
  · rename_i kvs hs
    obtain ⟨kk, e1, e2⟩ := Option.map_eq_some_iff.mp e
    obtain ⟨od, kv, h1, h2⟩ := rs.ob n a _ ha hs
    have g := RelK.get (fun _ _ => kyK_inj) h2 kk
    rw [ky_of hk e1]
    refine ⟨_, .inl ⟨_, _, .inr ⟨_, h1⟩, rfl, rfl⟩, ?_⟩
    rw [e2] at g
    cases r with
    | none => exact g
    | some d => exact g
  · rename_i kvs hs
    obtain ⟨kk, e1, e2⟩ := Option.map_eq_some_iff.mp e
    obtain ⟨od, kv, h1, h2⟩ := rs.ob n a _ ha hs
    have g := RelK.get (fun _ _ => kysK_inj) h2 kk
    cases hk with
    | tup hb hr =>
      refine ⟨_, .inr ⟨_, _, _, .inr ⟨_, h1⟩, rfl, by rw [← kys_of hr e1]; exact hb, rfl⟩, ?_⟩
      rw [e2] at g
      cases r with
      | none => exact g
      | some d => exact g
    | _ => cases e1
  · cases e
theorem look_put {c : Ct} {m : List Addr} {S : Store} {H : Hp} (rs : RS c m S H) {o k x : D} {vo vk vx : V} (ho : RelD c.K H m o vo) (hk : RelD c.K H m k vk) (hx : RelD c.K H m x vx) {q : Unit → Store → List Addr → Hp → Prop} {E : XK} (p : Post c E m H (setIx o k x S) q) :
    (rSetL vo vk vx H fun H' => ∃ S' m', Ext m H m' H' ∧ RS c m' S' H' ∧ q () S' m' H') ∨ ∃ a H', vo = .ref a ∧ DPut H a vk vx H' ∧ ∃ S' m', Ext m H m' H' ∧ RS c m' S' H' ∧ q () S' m' H' := by
  unfold setIx at p
  cases ho with
  | @ref n a ha =>
    dsimp only at p
    split at p
    · rename_i l hs
      cases hk with
      | int i =>
        dsimp only at p
        split at p
        · rename_i j hj
          obtain ⟨xs, h1, h2⟩ := rs.ob n a _ ha hs
          obtain ⟨rs', e⟩ := rs.set (o' := .lst (l.set j x)) (u := .lst (xs.set j vx)) ha hs trivial trivial fun e => ⟨_, upd_same, (h2.mono e).set (hx.mono e) j⟩
          exact .inl ⟨a, xs, i, j, rfl, rfl, h1, by rw [← h2.len]; exact hj, _, _, e, rs', p _ _ e rs'⟩
        · exact p.elim
      | _ => exact p.elim
    · rename_i kvs hs
      split at p
      · rename_i kk hkk
        split at p
        · rename_i hl
          obtain ⟨kv, h1, h2⟩ := rs.ob n a _ ha hs
          obtain ⟨rs', e⟩ := rs.set (o' := .dK (dPut kvs kk x)) (u := .dK (putK kv (kyK kk) vx)) ha hs trivial trivial fun e => ⟨_, upd_same, RelK.put (fun _ _ => kyK_inj) (RelK.mono e h2) kk (hx.mono e)⟩
          refine .inr ⟨a, _, rfl, ?_, _, _, e, rs', p _ _ e rs'⟩
          rw [ky_of hk hkk]
          exact DPut.k h1 (by rw [← Paired.length h2, line_eq]; exact hl)
        · exact p.elim
      · exact p.elim
    · rename_i kvs hs
      split at p
      · rename_i kk hkk
        split at p
        · rename_i hl
          obtain ⟨kv, h1, h2⟩ := rs.ob n a _ ha hs
          obtain ⟨rs', e⟩ := rs.set (o' := .dT (dPut kvs kk x)) (u := .dT (putK kv (kk.map kyK) vx)) ha hs trivial trivial fun e => ⟨_, upd_same, RelK.put (fun _ _ => kysK_inj) (RelK.mono e h2) kk (hx.mono e)⟩
          cases hk with
          | tup hb hr =>
            exact .inr ⟨a, _, rfl, DPut.t h1 (by rw [← kys_of hr hkk]; exact hb) (by rw [← Paired.length h2, line_eq]; exact hl), _, _, e, rs', p _ _ e rs'⟩
          | _ => cases hkk
        · exact p.elim
      · exact p.elim
    · exact p.elim
  | _ => exact p.elim
/-! ### in -/
theorem flatV_of {K : PySem.W.Frag} {H : Hp} {m : List Addr} {d : D} {v : V} (h : RelD K H m d v) (f : flatD d = true) : flatV v = true := by
  cases h <;> first | rfl | cases f
theorem flatVs_of {K : PySem.W.Frag} {H : Hp} {m : List Addr} : ∀ {l : List D} {xs : List V}, RelL K H m l xs → l.all flatD = true → xs.all flatV = true
  | _, _, .nil, _ => rfl
  | _, _, .cons h t, f => by
    rw [List.all_cons, Bool.and_eq_true] at f
    rw [List.all_cons, flatV_of h f.1, flatVs_of t f.2]
    rfl
theorem sOf_beq {a b : Tx} : (sOf a == sOf b) = (a == b) := by
  rw [Bool.eq_iff_iff, beq_iff_eq, beq_iff_eq]
  exact ⟨sOf_inj, congrArg _⟩
theorem eqF_of {K : PySem.W.Frag} {H : Hp} {m : List Addr} {d e : D} {v w : V} (h : RelD K H m d v) (h' : RelD K H m e w) (f : flatD d = true) (f' : flatD e = true) : eqV v w = eqF d e := by
  cases h <;> cases h' <;> first | rfl | exact sOf_beq | cases f | cases f'
theorem inV_of {K : PySem.W.Frag} {H : Hp} {m : List Addr} {x : D} {v : V} (h : RelD K H m x v) (f : flatD x = true) : ∀ {l : List D} {xs : List V}, RelL K H m l xs → l.all flatD = true → inV v xs = l.any fun y => eqF y x
  | _, _, .nil, _ => rfl
  | _, _, .cons h1 t, g => by
    rw [List.all_cons, Bool.and_eq_true] at g
    have ih := inV_of h f t g.2
    unfold inV at ih ⊢
    rw [List.any_cons, List.any_cons, eqF_of h1 h g.1 f, ih]
theorem op_inT (hu : X.A.units + 65 < cLine) : OpR X (compareOp .In) (fun x y H Q => ∃ d ds, Dp X.K H x d ∧ Dp X.K H y (.tuple ds) ∧ SeqAt.shaped d = true ∧ SeqAt.shaped (.list ds) = true ∧ Q (.bl (ds.any fun z => PyData.eqv z d)) H) := by
  intro pins s σ H x y v u Q I rx ry h
  obtain ⟨d, ds, hd, he, sd, se, q⟩ := h
  obtain ⟨as, r1⟩ := Dp.reads I d x v hd rx
  obtain ⟨bs, r2⟩ := Dp.reads I (.tuple ds) y u he ry
  exact SeqAt.in_tuple_reads r2 r1 (SeqAt.canLay_of_shaped se) (SeqAt.canLay_of_shaped sd) (room_in_shaped sd hu) ⟨.bl _, H, I, rfl, q⟩
theorem op_notInT (hu : X.A.units + 65 < cLine) : OpR X (compareOp .NotIn) (fun x y H Q => ∃ d ds, Dp X.K H x d ∧ Dp X.K H y (.tuple ds) ∧ SeqAt.shaped d = true ∧ SeqAt.shaped (.list ds) = true ∧ Q (.bl (!ds.any fun z => PyData.eqv z d)) H) := by
  intro pins s σ H x y v u Q I rx ry h
  obtain ⟨d, ds, hd, he, sd, se, q⟩ := h
  obtain ⟨as, r1⟩ := Dp.reads I d x v hd rx
  obtain ⟨bs, r2⟩ := Dp.reads I (.tuple ds) y u he ry
  exact SeqAt.notIn_tuple_reads r2 r1 (SeqAt.canLay_of_shaped se) (SeqAt.canLay_of_shaped sd) (room_in_shaped sd hu) ⟨.bl _, H, I, rfl, q⟩
theorem op_inDc (hu : X.A.units + 1 < cLine) : OpR X (compareOp .In) (fun y x H Q => ∃ a o, x = .ref a ∧ DGet H a y o ∧ Q (.bl o.isSome) H) := by
  intro pins s σ H y x u v Q I ry rx h
  obtain ⟨a, o, rfl, g, q⟩ := h
  obtain rfl : v = Value.ref a := rx
  exact d_in hu I g ry fun s3 I3 => ⟨.bl o.isSome, H, I3, rfl, q⟩
theorem op_notInDc (hu : X.A.units + 1 < cLine) : OpR X (compareOp .NotIn) (fun y x H Q => ∃ a o, x = .ref a ∧ DGet H a y o ∧ Q (.bl (!o.isSome)) H) := by
  intro pins s σ H y x u v Q I ry rx h
  obtain ⟨a, o, rfl, g, q⟩ := h
  obtain rfl : v = Value.ref a := rx
  exact d_notIn hu I g ry fun s3 I3 => ⟨.bl (!o.isSome), H, I3, rfl, q⟩
/-- what «in» is, whatever is asked of the answer -/
theorem in_cases {c : Ct} {m : List Addr} {S : Store} {H : Hp} (rs : RS c m S H) {x y : D} {v w : V} {b : Bool} (hv : RelD c.K H m x v) (hw : RelD c.K H m y w) (e : isIn x y S = some b) :
    (∃ (k : Nat) (z : Str), v = .str ⟨#[k]⟩ ∧ w = .str z ∧ decide (k ∈ z.cps.toList) = b) ∨ (∃ p xs, w = .ref p ∧ (SqL c.K H p xs ∨ SqT c.K H p xs) ∧ flatV v = true ∧ xs.all flatV = true ∧ inV v xs = b) ∨
    (∃ d ds, Dp c.K H v d ∧ Dp c.K H w (.list ds) ∧ SeqAt.shaped d = true ∧ SeqAt.shaped (.list ds) = true ∧ (ds.any fun z => PyData.eqv z d) = b) ∨
    (∃ d ds, Dp c.K H v d ∧ Dp c.K H w (.tuple ds) ∧ SeqAt.shaped d = true ∧ SeqAt.shaped (.list ds) = true ∧ (ds.any fun z => PyData.eqv z d) = b) ∨
    (∃ a o, w = .ref a ∧ DGet H a v o ∧ o.isSome = b) := by
  have seqc : ∀ {l : List D} {xs : List V} {p : Addr}, RelL c.K H m l xs → inSeq x l S = some b → (flatV v = true ∧ xs.all flatV = true ∧ inV v xs = b) ∨ ∃ d ds, Dp c.K H v d ∧ DpAll c.K H xs ds ∧ SeqAt.shaped d = true ∧ SeqAt.shaped (.list ds) = true ∧ (ds.any fun z => PyData.eqv z d) = b := by
    intro l xs p r h
    unfold inSeq at h
    split at h
    · rename_i f
      cases h
      exact .inl ⟨flatV_of hv f.1, flatVs_of r f.2, inV_of hv f.1 r f.2⟩
    · split at h
      · rename_i d ds e1 e2
        split at h
        · rename_i f
          cases h
          exact .inr ⟨d, ds, pd_dp rs hv e1, dps_of (look_dp rs 8) l xs ds r e2, f.1, f.2, rfl⟩
        · cases h
      · cases h
  cases hw with
  | str z =>
    unfold isIn at e
    dsimp only at e
    split at e
    · rename_i k
      cases e
      cases hv
      exact .inl ⟨k, sOf z, rfl, rfl, rfl⟩
    · cases e
  | @tup l a xs ha r =>
    rcases seqc (p := a) r e with ⟨h1, h2, h3⟩ | ⟨d, ds, h1, h2, h3, h4, h5⟩
    · exact .inr (.inl ⟨a, xs, rfl, .inr (.inl (.inl ha)), h1, h2, h3⟩)
    · exact .inr (.inr (.inr (.inl ⟨d, ds, h1, .tup (.inl (.inl ha)) h2, h3, h4, h5⟩)))
  | @wtp l a xs ha r =>
    rcases seqc (p := a) r e with ⟨h1, h2, h3⟩ | ⟨d, ds, h1, h2, h3, h4, h5⟩
    · exact .inr (.inl ⟨a, xs, rfl, .inr ha.sq, h1, h2, h3⟩)
    · exact .inr (.inr (.inr (.inl ⟨d, ds, h1, .tup ha.sq h2, h3, h4, h5⟩)))
  | @ref n a ha =>
    unfold isIn at e
    dsimp only at e
    split at e
    · rename_i l hs
      obtain ⟨xs, h0, r⟩ := rs.lst (l := l) ha (by unfold lstOf; rw [hs])
      rcases seqc (p := a) r e with ⟨h1, h2, h3⟩ | ⟨d, ds, h1, h2, h3, h4, h5⟩
      · exact .inr (.inl ⟨a, xs, rfl, .inl h0, h1, h2, h3⟩)
      · exact .inr (.inr (.inl ⟨d, ds, h1, .lst h0 h2, h3, h4, h5⟩))
    · rename_i l hs
      obtain ⟨xs, h0, r⟩ := rs.lst (l := l) ha (by unfold lstOf; rw [hs])
      rcases seqc (p := a) r e with ⟨h1, h2, h3⟩ | ⟨d, ds, h1, h2, h3, h4, h5⟩
      · exact .inr (.inl ⟨a, xs, rfl, .inl h0, h1, h2, h3⟩)
      · exact .inr (.inr (.inl ⟨d, ds, h1, .lst h0 h2, h3, h4, h5⟩))
    · rename_i kvs hs
      obtain ⟨kk, e1, e2⟩ := Option.map_eq_some_iff.mp e
      obtain ⟨o, g, q⟩ := look_get rs ha hv (r := dGet kvs kk) (by unfold dLook; rw [hs]; dsimp only; rw [e1]; rfl)
      refine .inr (.inr (.inr (.inr ⟨a, o, rfl, g, ?_⟩)))
      rw [← e2]
      exact q.isSome
    · rename_i kvs hs
      obtain ⟨kk, e1, e2⟩ := Option.map_eq_some_iff.mp e
      obtain ⟨o, g, q⟩ := look_get rs ha hv (r := dGet kvs kk) (by unfold dLook; rw [hs]; dsimp only; rw [e1]; rfl)
      refine .inr (.inr (.inr (.inr ⟨a, o, rfl, g, ?_⟩)))
      rw [← e2]
      exact q.isSome
    · cases e
  | _ => cases e
theorem om_in (hu : X.A.units + 65 < cLine) : OpM X E (compareOp .In) oIn := by
  refine ⟨_, opr_or op_in_sign (opr_or op_in_seq (opr_or (op_inD hu) (opr_or (op_inT hu) (op_inDc (by omega))))), fun x y v u S m H Q rs hv hw p => ?_⟩
  unfold oIn at p
  split at p
  · rename_i b e
    have q := post_bl rs p
    rcases in_cases rs hv hw e with ⟨k, z, h1, h2, h3⟩ | ⟨a, xs, h1, h2, h3, h4, h5⟩ | ⟨d, ds, h1, h2, h3, h4, h5⟩ | ⟨d, ds, h1, h2, h3, h4, h5⟩ | ⟨a, o, h1, h2, h3⟩
    · exact .inl ⟨k, z, h1, h2, by rw [h3]; exact q⟩
    · exact .inr (.inl ⟨a, xs, h1, h2, h3, h4, by rw [h5]; exact q⟩)
    · exact .inr (.inr (.inl ⟨d, ds, h1, h2, h3, h4, by rw [h5]; exact q⟩))
    · exact .inr (.inr (.inr (.inl ⟨d, ds, h1, h2, h3, h4, by rw [h5]; exact q⟩)))
    · exact .inr (.inr (.inr (.inr ⟨a, o, h1, h2, by rw [h3]; exact q⟩)))
  · exact p.elim
theorem om_notin (hu : X.A.units + 65 < cLine) : OpM X E (compareOp .NotIn) oNotIn := by
  refine ⟨_, opr_or op_notIn_sign (opr_or op_notIn_seq (opr_or (op_notInD hu) (opr_or (op_notInT hu) (op_notInDc (by omega))))), fun x y v u S m H Q rs hv hw p => ?_⟩
  unfold oNotIn at p
  split at p
  · rename_i b e
    have q := post_bl rs p
    rcases in_cases rs hv hw e with ⟨k, z, h1, h2, h3⟩ | ⟨a, xs, h1, h2, h3, h4, h5⟩ | ⟨d, ds, h1, h2, h3, h4, h5⟩ | ⟨d, ds, h1, h2, h3, h4, h5⟩ | ⟨a, o, h1, h2, h3⟩
    · exact .inl ⟨k, z, h1, h2, by rw [h3]; exact q⟩
    · exact .inr (.inl ⟨a, xs, h1, h2, h3, h4, by
        show Q (.bl (!inV v xs)) H
        rw [h5]; exact q⟩)
    · exact .inr (.inr (.inl ⟨d, ds, h1, h2, h3, h4, by rw [h5]; exact q⟩))
    · exact .inr (.inr (.inr (.inl ⟨d, ds, h1, h2, h3, h4, by rw [h5]; exact q⟩)))
    · exact .inr (.inr (.inr (.inr ⟨a, o, h1, h2, by rw [h3]; exact q⟩)))
  · exact p.elim
/-! ### subscripts -/
theorem ix_dict (hu : X.A.units + 1 < cLine) : IxR X (fun x y H Q => ∃ a v, x = .ref a ∧ DGet H a y (some v) ∧ Q v H) := by
  intro value slice pins s σ H x y v u Q I rx ry h hs
  obtain ⟨a, z, rfl, g, q⟩ := h
  obtain rfl : v = Value.ref a := rx
  unfold subscriptTail
  refine wpAny_bind ?_
  rw [getitemInPython_of_ne (dict_typeIs I g).not_modules]
  refine wpAny_bind (wpAny_specialOf (dict_typeIs I g) PySem.F.slot_dict_getitem.lookup ?_)
  have fin : wpAny (model X.prog X.w) X.A (subscripted slice false (.ref a) u) (fun r s₃ => wpAny (model X.prog X.w) X.A (letTemporaryGo value (.ref a) r >>= fun _ => pure r) (EP X pins σ Q) X.xe s₃) X.xe s := by
    rw [hs]
    exact wpAny_operating (d_getItem hu I g ry fun w' s3 I3 rw' => wpAny_bind (wpAny_letTemporaryGo (wpAny_pure ⟨z, H, I3, rw', q⟩)))
  first
    | exact wpAny_pure (wpAny_bind fin)
    | exact wpAny_bind (wpAny_pure (wpAny_bind fin))
    | exact wpAny_bind fin
theorem atI_rel {K : PySem.W.Frag} {H : Hp} {m : List Addr} {l : List D} {xs : List V} {i : Int} {d : D} (r : RelL K H m l xs) (e : Mi.atI l i = some d) : ∃ v, L2.atI xs i = some v ∧ RelD K H m d v := by
  unfold Mi.atI at e
  obtain ⟨j, e1, e2⟩ := Option.bind_eq_some_iff.mp e
  obtain ⟨v, h1, h2⟩ := r.ix e2
  refine ⟨v, ?_, h2⟩
  unfold L2.atI
  have e3 : L2.ixN xs.length i = some j := by rw [← r.len]; exact e1
  rw [e3]
  exact h1
theorem im_ix (hu : X.A.units + 65 < cLine) : IxM X E oIx := by
  refine ⟨_, ix_seq.or (ix_dict (by omega)), fun x y v u S m H Q rs hv hw p => ?_⟩
  unfold oIx at p
  cases hv with
  | str z =>
    cases hw with
    | int i =>
      dsimp only at p
      split at p
      · rename_i hl
        split at p
        · rename_i c hc
          refine .inl (.inr (.inr ⟨sOf z, i, c, rfl, rfl, by rw [sOf_len, line_eq]; exact hl, hc, p.here rs _ (.str [c])⟩))
        · exact p.elim
      · exact p.elim
    | _ => exact p.elim
  | @tup l a xs ha r =>
    cases hw with
    | int i =>
      dsimp only at p
      split at p
      · rename_i d hd
        obtain ⟨v, h1, h2⟩ := atI_rel r hd
        exact .inl (.inr (.inl ⟨a, xs, i, v, rfl, rfl, .inl (.inl ha), h1, p.here rs _ h2⟩))
      · exact p.elim
    | _ => exact p.elim
  | @wtp l a xs ha r =>
    cases hw with
    | int i =>
      dsimp only at p
      split at p
      · rename_i d hd
        obtain ⟨v, h1, h2⟩ := atI_rel r hd
        exact .inl (.inr (.inl ⟨a, xs, i, v, rfl, rfl, ha.sq, h1, p.here rs _ h2⟩))
      · exact p.elim
    | _ => exact p.elim
  | @ref n a ha =>
    dsimp only at p
    have lst : ∀ l, lstOf S n = some l → Post (cx X) E m H (match y with
        | .int i => (match Mi.atI l i with
          | some v => .ok v S
          | none => .bad)
        | _ => .bad) (kE (cx X) Q) → rIx X.K (.ref a) u H Q := by
      intro l hl p
      obtain ⟨xs, h0, r⟩ := rs.lst ha hl
      cases hw with
      | int i =>
        dsimp only at p
        split at p
        · rename_i d hd
          obtain ⟨v, h1, h2⟩ := atI_rel r hd
          exact .inl ⟨a, xs, i, v, rfl, rfl, h0, h1, p.here rs _ h2⟩
        · exact p.elim
      | _ => exact p.elim
    split at p
    · rename_i l hs
      exact .inl (lst l (by unfold lstOf; rw [hs]) p)
    · rename_i l hs
      exact .inl (lst l (by unfold lstOf; rw [hs]) p)
    · split at p
      · rename_i d hd
        obtain ⟨o, g, z, e, h2⟩ := look_get rs ha hw hd
        subst e
        exact .inr ⟨a, z, rfl, g, p.here rs _ h2⟩
      · exact p.elim
  | _ => exact p.elim
/-! ### slices -/
theorem cut_rel {K : PySem.W.Frag} {H : Hp} {m : List Addr} {l : List D} {xs : List V} (r : RelL K H m l xs) (lo hi : Option Int) : RelL K H m (cut l lo hi) (cutV xs lo hi) := by
  unfold cut cutV
  rw [← r.len]
  exact (r.drop _).take _
theorem slm : SlM X E oSl := by
  refine ⟨_, slr_or sl_str (slr_or sl_tup sl_list), fun x lo hi v S m H Q rs hv p => ?_⟩
  unfold oSl at p
  cases hv with
  | str z =>
    dsimp only at p
    split at p
    · rename_i hl
      refine .inl ⟨sOf z, rfl, by rw [sOf_len, line_eq]; exact hl, ?_⟩
      have e : cutS (sOf z) lo hi = sOf (cut z lo hi) := by
        unfold cutS cut
        rw [sOf_len]
        rfl
      rw [e]
      exact p.here rs _ (.str _)
    · exact p.elim
  | @tup l a xs ha r =>
    dsimp only at p
    split at p
    · rename_i hl
      refine .inr (.inl ⟨a, xs, rfl, .inl (.inl ha), fun z => ?_, fun b hb => post_tup rs p hb (cut_rel r lo hi)⟩)
      have h1 := (cut_rel r lo hi).len
      unfold cutV at h1
      rw [z.1, z.2, List.drop_zero, Nat.sub_zero, List.take_length] at h1
      rw [h1, r.len] at hl
      exact absurd hl (Nat.lt_irrefl _)
    · exact p.elim
  | @ref n a ha =>
    dsimp only at p
    split at p
    · rename_i l hl
      obtain ⟨xs, h0, r⟩ := rs.lst ha hl
      exact .inr (.inr ⟨a, xs, rfl, h0, fun b hb => post_new rs p hb fun e => ⟨_, upd_same, (cut_rel r lo hi).mono e⟩⟩)
    · exact p.elim
  | _ => exact p.elim
end
end Sm
set_option Elab.async false
set_option linter.all false
set_option maxRecDepth 100000
set_option maxHeartbeats 2000000
/-! readings by the small language: built-ins, methods -/
namespace Sm
open PySem PySem.Spec PyProof.Rows L2 Mi
variable [Tbs]
section
variable {X : Cx} {E : XK}
theorem cm_len : CallM X E (.builtin "len") bLen := by
  refine ⟨_, callr_or call_len_seq (callr_or call_len_str (callr_or call_lenD call_len_dT)), fun ds vs S m H Q rs hv p => ?_⟩
  unfold bLen at p
  split at p
  · rename_i s
    cases hv with
    | cons h t =>
      cases t
      cases h
      split at p
      · rename_i hl
        exact .inr (.inl ⟨sOf s, rfl, by rw [sOf_len, line_eq]; exact hl, by rw [sOf_len]; exact post_int rs p⟩)
      · exact p.elim
  · rename_i l
    cases hv with
    | cons h t =>
      cases t
      cases h with
      | tup ha r => exact .inl ⟨_, _, rfl, .inr (.inl (.inl ha)), by rw [← r.len]; exact post_int rs p⟩
  · rename_i l
    cases hv with
    | cons h t =>
      cases t
      cases h with
      | wtp ha r => exact .inl ⟨_, _, rfl, .inr ha.sq, by rw [← r.len]; exact post_int rs p⟩
  · rename_i n
    cases hv with
    | cons h t =>
      cases t
      cases h with
      | ref ha =>
        split at p
        · rename_i l hs
          obtain ⟨xs, h0, r⟩ := rs.lst (l := l) ha (by unfold lstOf; rw [hs])
          exact .inl ⟨_, xs, rfl, .inl h0, by rw [← r.len]; exact post_int rs p⟩
        · rename_i l hs
          obtain ⟨xs, h0, r⟩ := rs.lst (l := l) ha (by unfold lstOf; rw [hs])
          exact .inl ⟨_, xs, rfl, .inl h0, by rw [← r.len]; exact post_int rs p⟩
        · rename_i k hs
          obtain ⟨kv, h1, h2⟩ := rs.ob _ _ _ ha hs
          exact .inr (.inr (.inl ⟨_, kv, rfl, h1, by rw [← Paired.length h2]; exact post_int rs p⟩))
        · rename_i k hs
          obtain ⟨kv, h1, h2⟩ := rs.ob _ _ _ ha hs
          exact .inr (.inr (.inr ⟨_, kv, rfl, h1, by rw [← Paired.length h2]; exact post_int rs p⟩))
        · exact p.elim
  · exact p.elim
theorem rel1 {K : PySem.W.Frag} {H : Hp} {m : List Addr} {d : D} {vs : List V} (h : RelL K H m [d] vs) : ∃ v, vs = [v] ∧ RelD K H m d v := by
  cases h with
  | cons h t => cases t; exact ⟨_, rfl, h⟩
theorem rel2 {K : PySem.W.Frag} {H : Hp} {m : List Addr} {d e : D} {vs : List V} (h : RelL K H m [d, e] vs) : ∃ v w, vs = [v, w] ∧ RelD K H m d v ∧ RelD K H m e w := by
  cases h with
  | cons h t =>
    obtain ⟨w, rfl, h2⟩ := rel1 t
    exact ⟨_, w, rfl, h, h2⟩
theorem cm_int : CallM X E (.type "int") bInt := by
  refine ⟨_, call_int1, fun ds vs S m H Q rs hv p => ?_⟩
  unfold bInt at p
  split at p
  · rename_i i
    obtain ⟨v, rfl, h⟩ := rel1 hv
    cases h
    exact .inl ⟨i, rfl, post_int rs p⟩
  · rename_i i
    obtain ⟨v, rfl, h⟩ := rel1 hv
    cases h
    exact .inr ⟨i, rfl, post_int rs p⟩
  · exact p.elim
theorem cm_max (hc : X.calm = true) : CallM X E (.builtin "max") bMax := by
  refine ⟨_, call_max2 hc, fun ds vs S m H Q rs hv p => ?_⟩
  unfold bMax at p
  split at p
  · rename_i i j
    obtain ⟨v, w, rfl, h, h'⟩ := rel2 hv
    cases h
    cases h'
    exact ⟨i, j, rfl, post_int rs p⟩
  · exact p.elim
theorem cm_min (hc : X.calm = true) : CallM X E (.builtin "min") bMin := by
  refine ⟨_, call_min2 hc, fun ds vs S m H Q rs hv p => ?_⟩
  unfold bMin at p
  split at p
  · rename_i i j
    obtain ⟨v, w, rfl, h, h'⟩ := rel2 hv
    cases h
    cases h'
    exact ⟨i, j, rfl, post_int rs p⟩
  · exact p.elim
theorem RelL.keys {K : PySem.W.Frag} {H : Hp} {m : List Addr} {k : List (Ky × D)} {kv : List (Key × V)} (h : RelK K H m kyK k kv) : RelL K H m (k.map fun p => kyD p.1) (kv.map fun p => kV p.1) := by
  induction h with
  | nil => exact .nil
  | @cons p q ps qs h t ih =>
    rw [List.map_cons, List.map_cons]
    refine .cons ?_ ih
    rw [← h.1]
    cases p.1 with
    | inl i => exact .int i
    | inr s => exact .str s
theorem RelL.kys {K : PySem.W.Frag} {H : Hp} {m : List Addr} : ∀ k : List Ky, RelL K H m (k.map kyD) ((k.map kyK).map kV)
  | [] => .nil
  | .inl i :: k => .cons (.int i) (RelL.kys k)
  | .inr s :: k => .cons (.str s) (RelL.kys k)
theorem RelL.keysT {K : PySem.W.Frag} {H : Hp} {m : List Addr} {k : List (List Ky × D)} {kv : List (List Key × V)} {bs : List Addr} (h : RelK K H m (fun x => x.map kyK) k kv) (hk : IsKeys H kv bs) : RelL K H m (k.map fun p => .tup (p.1.map kyD)) (bs.map V.ref) := by
  induction h generalizing bs with
  | nil =>
    cases hk
    exact .nil
  | @cons p q ps qs h t ih =>
    cases hk with
    | cons h1 h2 =>
      rw [List.map_cons, List.map_cons]
      refine .cons (.tup h1 ?_) (ih h2)
      rw [← h.1]
      exact RelL.kys p.1
theorem seq_rel {c : Ct} {m : List Addr} {S : Store} {H : Hp} (rs : RS c m S H) {d : D} {v : V} {l : List D} (h : RelD c.K H m d v) (e : seqOf S d = some l) : ∃ a xs, v = .ref a ∧ (SqL c.K H a xs ∨ SqT c.K H a xs) ∧ RelL c.K H m l xs := by
  unfold seqOf at e
  cases h with
  | tup ha r => cases e; exact ⟨_, _, rfl, .inr (.inl (.inl ha)), r⟩
  | wtp ha r => cases e; exact ⟨_, _, rfl, .inr ha.sq, r⟩
  | ref ha =>
    obtain ⟨xs, h1, h2⟩ := rs.lst ha e
    exact ⟨_, xs, rfl, .inl h1, h2⟩
  | _ => cases e
theorem cm_list (hc : X.calm = true) : CallM X E (.type "list") bList := by
  refine ⟨_, callr_or call_list_of (callr_or (call_listD hc) (call_list_dT hc)), fun ds vs S m H Q rs hv p => ?_⟩
  unfold bList at p
  split at p
  · rename_i x
    obtain ⟨v, rfl, h⟩ := rel1 hv
    split at p
    · rename_i l hl
      obtain ⟨a, xs, rfl, h1, h2⟩ := seq_rel rs h hl
      exact .inl ⟨a, xs, rfl, h1, fun b hb => post_new rs p hb fun e => ⟨xs, upd_same, h2.mono e⟩⟩
    · cases h with
      | @ref n a ha =>
        dsimp only at p
        split at p
        · rename_i k hs
          obtain ⟨kv, h1, h2⟩ := rs.ob _ _ _ ha hs
          exact .inr (.inl ⟨a, kv, rfl, .inl h1, fun b hb => post_new rs p hb fun e => ⟨_, upd_same, (RelL.keys h2).mono e⟩⟩)
        · rename_i k hs
          obtain ⟨kv, h1, h2⟩ := rs.ob _ _ _ ha hs
          exact .inr (.inr ⟨a, kv, rfl, .inl h1, fun b bs hb hk => post_new rs p hb fun e => ⟨_, upd_same, (RelL.keysT h2 hk).mono e⟩⟩)
        · exact p.elim
      | _ => exact p.elim
  · exact p.elim
theorem ints_rel {K : PySem.W.Frag} {H : Hp} {m : List Addr} : ∀ {l : List D} {xs : List V} {ns : List Int}, RelL K H m l xs → intsOf l = some ns → xs = ns.map V.int
  | _, _, _, .nil, e => by simp only [intsOf, Option.some.injEq] at e; subst e; rfl
  | _, _, ns, .cons (d := d) h t, e => by
    cases h <;> simp only [intsOf, reduceCtorEq] at e
    obtain ⟨r, e1, e2⟩ := Option.map_eq_some_iff.mp e
    subst e2
    rw [List.map_cons, ← ints_rel t e1]
theorem cm_sum (hc : X.calm = true) : CallM X E (.builtin "sum") bSum := by
  refine ⟨_, cr_sum hc, fun ds vs S m H Q rs hv p => ?_⟩
  unfold bSum at p
  split at p
  · obtain ⟨v, rfl, h⟩ := rel1 hv
    cases h with
    | ref ha =>
      split at p
      · rename_i l hl
        obtain ⟨k, h1, h2⟩ := Option.bind_eq_some_iff.mp hl
        obtain ⟨xs, h3, h4⟩ := rs.lst ha h1
        rw [ints_rel h4 h2] at h3
        exact ⟨_, l, rfl, h3, post_int rs p⟩
      · exact p.elim
  · exact p.elim
/-! ### isinstance -/
/-! ### methods -/
theorem ty_list : TyM X "list" isLst := by
  intro x v S m H rs h e
  unfold isLst at e
  cases h with
  | @ref n a ha =>
    dsimp only at e
    obtain ⟨l, hl⟩ := Option.isSome_iff_exists.mp e
    obtain ⟨xs, h1, _⟩ := rs.lst ha hl
    exact .inl ⟨rfl, xs, h1⟩
  | _ => cases e
/-- a list that is changed -/
theorem mut_list {c : Ct} {m : List Addr} {S : Store} {H : Hp} (rs : RS c m S H) {o : D} {v : V} {f : Nat → List D → Res D} {k : D → Store → List Addr → Hp → Prop} (h : RelD c.K H m o v) (p : Post c E m H (mutL o S f) k) :
    ∃ n a l xs, o = .ref n ∧ v = .ref a ∧ m[n]? = some a ∧ S[n]? = some (.lst l) ∧ H a = some (.lst xs) ∧ RelL c.K H m l xs ∧ Post c E m H (f n l) k := by
  unfold mutL at p
  cases h with
  | @ref n a ha =>
    dsimp only at p
    split at p
    · rename_i l hs
      obtain ⟨xs, h1, h2⟩ := rs.ob n a _ ha hs
      exact ⟨n, a, l, xs, rfl, rfl, ha, hs, h1, h2, p⟩
    · exact p.elim
  | _ => exact p.elim
theorem put_list {c : Ct} {m : List Addr} {S : Store} {H : Hp} (rs : RS c m S H) {n : Nat} {a : Addr} {l l' : List D} {xs' : List V} {d : D} {Q : VK} {v : V} (ha : m[n]? = some a) (hs : S[n]? = some (.lst l)) (r : RelL c.K H m l' xs') (hd : RelD c.K H m d v)
    (p : Post c E m H (.ok d (S.set n (.lst l'))) (kE c Q)) : Q v (upd H a (.lst xs')) := by
  obtain ⟨rs', e⟩ := rs.set (o' := .lst l') (u := .lst xs') ha hs trivial trivial fun e => ⟨xs', upd_same, r.mono e⟩
  exact p _ _ e rs' _ (hd.mono e)
theorem mm_append : MtMm X E "list.append" lAppend := by
  refine ⟨_, mt_append, fun x ds v vs S m H Q rs hv hvs p => ?_⟩
  unfold lAppend at p
  split at p
  · rename_i d
    obtain ⟨w, rfl, hw⟩ := rel1 hvs
    obtain ⟨n, a, l, xs, rfl, rfl, ha, hs, h1, h2, p⟩ := mut_list rs hv p
    split at p
    · rename_i hl
      exact ⟨a, xs, w, rfl, rfl, h1, by rw [← h2.len, line_eq]; exact hl, put_list rs ha hs (h2.app (.one hw)) .non p⟩
    · exact p.elim
  · exact p.elim
end
end Sm
set_option Elab.async false
set_option linter.all false
set_option maxRecDepth 100000
set_option maxHeartbeats 2000000
/-! readings by the small language: targets, statements, loops, comprehensions, defs -/
namespace Sm
open PySem PySem.Spec PyProof.Rows L2 Mi
variable [Tbs]
abbrev EF : XK := fun _ _ _ => False
section
variable {X : Cx} {E : XK} {pos : Pos}
theorem PG.mono {e : Expr} {t t' : TG} (h : PG X e t) (f : ∀ v σ H Q, t' v σ H Q → t v σ H Q) : PG X e t' := ⟨fun pins s σ H x v Q I r q => h.run pins s σ H x v Q I r (f x σ H Q q)⟩
theorem PGs.mono {e : List Expr} {t t' : TGs} (h : PGs X e t) (f : ∀ v σ H Q, t' v σ H Q → t v σ H Q) : PGs X e t' := ⟨fun pins s σ H xs vs Q I r q => h.run pins s σ H xs vs Q I r (f xs σ H Q q)⟩
/-! ### targets -/
theorem sg_name {i : Nat} {x : Str} (hN : X.N.Nodup) (hi : X.N[i]? = some x) (hx : Loc X.env.scope x) (hf : X.fn x = true ∨ X.env.scope.names.lookup x = some .local := by first | exact .inl rfl | exact .inr rfl | assumption) : SG X E (.Name x pos) (Mi.gName i) := by
  refine PG.mono (pg_name hN hi hx hf) fun v σ H Q ⟨d, fr, S, m, r, rf, rs, p⟩ => ?_
  exact p.here rs _ (rf.set r i)
theorem sgs_nil : SGs X E [] Mi.gNil := by
  refine PGs.mono pgs_nil fun vs σ H Q ⟨ds, fr, S, m, r, rf, rs, p⟩ => ?_
  cases r with
  | nil => exact ⟨rfl, p.here rs σ rf⟩
  | cons => exact p.elim
theorem sgs_cons {e : Expr} {es : List Expr} {g : GM} {gs : GMs} (h1 : SG X E e g) (h2 : SGs X E es gs) (hs : (assignEach (e :: es) X.env).map (·.2) = assign e X.env :: (assignEach es X.env).map (·.2) := by rfl) : SGs X E (e :: es) (Mi.gCons g gs) := by
  refine PGs.mono (pgs_cons h1 h2 hs) fun vs σ H Q ⟨ds, fr, S, m, r, rf, rs, p⟩ => ?_
  cases r with
  | nil => exact p.elim
  | @cons d l v r' hd t =>
    refine ⟨v, r', rfl, d, fr, S, m, hd, rf, rs, (post_bind p).imp fun fr' S' m' H' e' rs' p' σ' rf' => ?_⟩
    exact ⟨l, fr', S', m', t.mono e', rf', rs', p'⟩
theorem pg_or {e : Expr} {t t' : TG} (h : PG X e t) (h' : PG X e t') : PG X e fun v σ H Q => t v σ H Q ∨ t' v σ H Q :=
  ⟨fun pins s σ H x v Q I r q => q.elim (fun q => h.run pins s σ H x v Q I r q) fun q => h'.run pins s σ H x v Q I r q⟩
theorem sg_tup {es : List Expr} {k : Nat} {gs : GMs} {n : Nat} (hc : X.calm = true) (h : SGs X E es gs) (hn : (assignEach es X.env).length = n := by rfl) (hst : (assignEach es X.env).findIdx? (·.1) = none := by rfl) : SG X E (.Tuple es k pos) (Mi.gTup n gs) := by
  refine PG.mono (pg_or (pg_tup hc h hn hst) (pg_unl hc h hn hst)) fun v σ H Q ⟨d, fr, S, m, r, rf, rs, p⟩ => ?_
  unfold Mi.gTup at p
  split at p
  · rename_i l hl
    split at p
    · rename_i hlen
      obtain ⟨a, xs, rfl, h1, h2⟩ := seq_rel rs r hl
      rcases h1 with h1 | h1
      · exact .inr ⟨a, xs, rfl, h1, by rw [← h2.len]; exact hlen, l, fr, S, m, h2, rf, rs, p⟩
      · exact .inl ⟨a, xs, rfl, h1, by rw [← h2.len]; exact hlen, l, fr, S, m, h2, rf, rs, p⟩
    · exact p.elim
  · exact p.elim
theorem set_dict (hu : X.A.units + 1 < cLine) : PSet X (fun o i v H Q => ∃ a H', o = V.ref a ∧ DPut H a i v H' ∧ Q H') := by
  intro pins s σ H o i v ov iv u Q I ro ri rv h
  obtain ⟨a, H', rfl, g, q⟩ := h
  obtain rfl : ov = Value.ref a := ro
  exact d_setItem hu I g ri rv fun s' I' => ⟨H', I', q⟩
theorem pset_or {t t' : TSet} (h : PSet X t) (h' : PSet X t') : PSet X fun o i v H Q => t o i v H Q ∨ t' o i v H Q := by
  intro pins s σ H o i v ov iv u Q I ro ri rv q
  exact q.elim (fun q => h pins s σ H o i v ov iv u Q I ro ri rv q) fun q => h' pins s σ H o i v ov iv u Q I ro ri rv q
theorem sg_sub {o i : Expr} {fo fi : EM} (hu : X.A.units + 65 < cLine) (ho : SE X E o fo) (hi : SE X E i fi)
    (ha : ∀ v, assign (.Subscript o i pos) X.env v = (do
      let ov ← holding [v] (eval o X.env)
      let iv ← holding [v, ov] (eval i X.env)
      standAt pos
      holding [v, ov, iv] (setItem ov iv v)
      release [v, ov, iv] []) := by intro _; rfl) : SG X E (.Subscript o i pos) (Mi.gSub fo fi) := by
  refine PG.mono (pg_sub ho hi (pset_or set_list (set_dict (by omega))) ha) fun v σ H Q ⟨d, fr, S, m, r, rf, rs, p⟩ => ?_
  refine rd_bind rf rs p fun x S1 m1 H1 e1 rf1 rs1 p1 xv hx => ?_
  refine rd_bind rf1 rs1 p1 fun y S2 m2 H2 e2 rf2 rs2 p2 yv hy => ?_
  have e12 := e1.trans e2
  rcases look_put rs2 (hx.mono e2) hy (r.mono e12) (post_bind p2) with h | ⟨a, H', e0, g, S', m', e3, rs3, q⟩
  · left
    obtain ⟨p0, xs, k, j, h1, h2, h3, h4, S', m', e3, rs3, q⟩ := h
    exact ⟨p0, xs, k, j, h1, h2, h3, h4, q.here rs3 σ (rf2.mono e3)⟩
  · exact .inr ⟨a, H', e0, g, q.here rs3 σ (rf2.mono e3)⟩
/-! ### statements -/
theorem sss_nil : SSs X E [] sNx := PSs.mono pss_nil fun D σ H ⟨fr, S, m, rf, rs, p⟩ => p.here rs σ rf
theorem sss_cons {st : Stmt} {rest : List Stmt} {a b : SM} (h1 : SS X E st a) (h2 : SSs X E rest b) : SSs X E (st :: rest) (sSeq a b) := by
  refine PSs.mono (pss_cons h1 h2) fun D σ H ⟨fr, S, m, rf, rs, p⟩ => ?_
  refine ⟨fr, S, m, rf, rs, (post_bind p).imp fun o S1 m1 H1 e1 rs1 p1 => ?_⟩
  cases o with
  | nx fr' => exact fun σ' rf' => ⟨fr', S1, m1, rf', rs1, p1⟩
  | rt d => exact p1.here rs1
  | bk fr' => exact p1.here rs1
  | ct fr' => exact p1.here rs1
theorem sss_one {st : Stmt} {a : SM} (h1 : SS X E st a) : SSs X E [st] a := pss_one h1
theorem ss_asg {tg e : Expr} {fe : EM} {g : GM} (he : SE X E e fe) (hg : SG X E tg g) (hs : swapsWithSole [tg] e pos.line X.env = pure false := by rfl) (hw : swappedStores [tg] e X.env = pure none := by rfl)
    (h1 : (assignEach [tg] X.env).map (·.2) = [assign tg X.env] := by rfl) : SS X E (.Assign [tg] e pos) (sAsg fe g) := by
  refine PS.mono (ps_asg he hg hs hw h1) fun D σ H ⟨fr, S, m, rf, rs, p⟩ => ?_
  refine rd_bind rf rs p fun x S1 m1 H1 e1 rf1 rs1 p1 v hv => ?_
  exact ⟨x, fr, S1, m1, hv, rf1, rs1, (post_bind p1).imp fun fr' S2 m2 H2 e2 rs2 p2 => p2.here rs2⟩
theorem ss_set {i : Nat} {x : Str} {e : Expr} {fe : EM} {pos' : Pos} (hN : X.N.Nodup) (hi : X.N[i]? = some x) (hx : Loc X.env.scope x) (he : SE X E e fe) (hs : swapsWith e (some (.Name x pos')) pos.line X.env = pure false := by rfl) (hf : X.fn x = true ∨ X.env.scope.names.lookup x = some .local := by first | exact .inl rfl | exact .inr rfl | assumption) :
    SS X E (.Assign [.Name x pos'] e pos) (sAsg fe (Mi.gName i)) := by
  refine PS.mono (ps_set hN hi hx he hs hf) fun D σ H ⟨fr, S, m, rf, rs, p⟩ => ?_
  refine rd_bind rf rs p fun x S1 m1 H1 e1 rf1 rs1 p1 v hv => ?_
  exact (post_bind p1).here rs1 |>.here rs1 _ (rf1.set hv i)
theorem ss_expr {e : Expr} {fe : EM} (he : SE X E e fe) (hs : swapsWith e none pos.line X.env = pure false := by rfl) : SS X E (.Expr e pos) (sExp fe) := by
  refine PS.mono (ps_expr he hs) fun D σ H ⟨fr, S, m, rf, rs, p⟩ => ?_
  exact rd_bind rf rs p fun x S1 m1 H1 e1 rf1 rs1 p1 v hv => p1.here rs1 σ rf1
theorem ss_ret {e : Expr} {fe : EM} (he : SE X E e fe) : SS X E (.Return (some e) pos) (sRet fe) := by
  refine PS.mono (ps_ret he) fun D σ H ⟨fr, S, m, rf, rs, p⟩ => ?_
  exact rd_bind rf rs p fun x S1 m1 H1 e1 rf1 rs1 p1 v hv => p1.here rs1 v hv
theorem ss_if {t : Expr} {a b : List Stmt} {ft : TM} {ga gb : SM} (ht : STt X E t ft) (ha : SSs X E a ga) (hb : SSs X E b gb) : SS X E (.If t a b pos) (sIf ft ga gb) := by
  refine PS.mono (ps_if ht ha hb) fun D σ H ⟨fr, S, m, rf, rs, p⟩ => ?_
  refine rdT_bind rf rs p fun k S1 m1 H1 e1 rf1 rs1 p1 => ?_
  cases k with
  | true => exact ⟨fr, S1, m1, rf1, rs1, p1⟩
  | false => exact ⟨fr, S1, m1, rf1, rs1, p1⟩
/-! ### what is walked -/
structure WalkD (c : Ct) (J : It) (I : Its) (m0 : List Addr) (H0 : Hp) : Prop where
  go : ∀ i m S H, i < I.items.length → Ext m0 H0 m H → RS c m S H → stands I.hs S → J.go i H
  stop : ∀ m S H, Ext m0 H0 m H → RS c m S H → stands I.hs S → J.stop I.items.length H
  yld : ∀ i m S H x H' d, I.items[i]? = some d → Ext m0 H0 m H → RS c m S H → stands I.hs S → J.yld i H x H' → Ext m H m H' ∧ RS c m S H' ∧ RelD c.K H' m d x
def rdI (c : Ct) (E : XK) (f : IM) : TI := fun σ H R => ∃ fr S m, RF c.K H m fr σ ∧ RS c m S H ∧ Post c E m H (f fr S) fun I _ m' H' => ∀ J, WalkD c J I m' H' → R J H'
abbrev SI (X : Cx) (E : XK) (tg e : Expr) (f : IM) : Prop := PI X tg e (rdI (cx X) E f)
theorem PI.mono {tg e : Expr} {t t' : TI} (h : PI X tg e t) (f : ∀ σ H R, t' σ H R → t σ H R) : PI X tg e t' := ⟨fun pins s σ H R I q => h.run pins s σ H R I (f σ H R q)⟩
theorem stand1 {n : Nat} {l : List D} {S : Store} (h : stands [(n, l)] S) : lstOf S n = some l := h (n, l) List.mem_cons_self
theorem walkd_list {c : Ct} {n : Nat} {a : Addr} {l : List D} {m0 : List Addr} {H0 : Hp} (ha : m0[n]? = some a) : WalkD c (Itl c.K a) ⟨l, [(n, l)]⟩ m0 H0 where
  go := fun i m S H hi e rs st => by
    obtain ⟨xs, h1, h2⟩ := rs.lst (e.mx _ _ ha) (stand1 st)
    obtain ⟨v, h3, _⟩ := h2.ix (List.getElem?_eq_getElem hi)
    exact ⟨xs, v, h1, h3⟩
  stop := fun m S H e rs st => by
    obtain ⟨xs, h1, h2⟩ := rs.lst (e.mx _ _ ha) (stand1 st)
    exact ⟨xs, h1, by rw [← h2.len]; exact Nat.le_refl _⟩
  yld := fun i m S H x H' d hd e rs st y => by
    obtain ⟨rfl, hy⟩ := y
    obtain ⟨xs, h1, h2⟩ := rs.lst (e.mx _ _ ha) (stand1 st)
    obtain ⟨v, h3, h4⟩ := h2.ix hd
    have := (hy xs h1).symm.trans h3
    cases this
    exact ⟨Ext.refl _ _, rs, h4⟩
theorem walkd_tup {c : Ct} {a : Addr} {l : List D} {xs : List V} {m0 : List Addr} {H0 : Hp} (hs : ∀ m H, Ext m0 H0 m H → SqT c.K H a xs) (r : RelL c.K H0 m0 l xs) : WalkD c (Itt c.K a) ⟨l, []⟩ m0 H0 where
  go := fun i m S H hi e rs st => by
    obtain ⟨v, h3, _⟩ := r.ix (List.getElem?_eq_getElem hi)
    exact ⟨xs, v, hs m H e, h3⟩
  stop := fun m S H e rs st => ⟨xs, hs m H e, by rw [← r.len]; exact Nat.le_refl _⟩
  yld := fun i m S H x H' d hd e rs st y => by
    obtain ⟨rfl, hy⟩ := y
    obtain ⟨v, h3, h4⟩ := r.ix hd
    have := (hy xs (hs m _ e)).symm.trans h3
    cases this
    exact ⟨Ext.refl _ _, rs, h4.mono e⟩
theorem walkd_rng {c : Ct} {lo : Int} {n : Nat} {m0 : List Addr} {H0 : Hp} : WalkD c (Itr lo n) ⟨rng lo n, []⟩ m0 H0 where
  go := fun i m S H hi e rs st => by
    have h : i < (rng lo n).length := hi
    unfold rng at h
    rw [List.length_map, List.length_range] at h
    exact h
  stop := fun m S H e rs st => by
    show n ≤ (rng lo n).length
    unfold rng
    rw [List.length_map, List.length_range]
    exact Nat.le_refl _
  yld := fun i m S H x H' d hd e rs st y => by
    obtain ⟨rfl, rfl⟩ := y
    have h : (rng lo n)[i]? = some d := hd
    unfold rng at h
    rw [List.getElem?_map] at h
    obtain ⟨k, h1, h2⟩ := Option.map_eq_some_iff.mp h
    obtain ⟨h3, h4⟩ := List.getElem?_eq_some_iff.mp h1
    rw [List.getElem_range] at h4
    subst h4 h2
    exact ⟨Ext.refl _ _, rs, .int _⟩
theorem walkd_rngD {c : Ct} {hi : Int} {n : Nat} {m0 : List Addr} {H0 : Hp} : WalkD c (Itc hi (-1) n) ⟨(List.range n).map fun k => .int (hi - (k : Nat)), []⟩ m0 H0 where
  go := fun i m S H hi e rs st => by
    have h : i < ((List.range n).map fun k : Nat => D.int _).length := hi
    rw [List.length_map, List.length_range] at h
    exact h
  stop := fun m S H e rs st => by
    show n ≤ ((List.range n).map fun k : Nat => D.int _).length
    rw [List.length_map, List.length_range]
    exact Nat.le_refl _
  yld := fun i m S H x H' d hd e rs st y => by
    obtain ⟨rfl, rfl⟩ := y
    have h : ((List.range n).map fun k : Nat => D.int (hi - (k : Nat)))[i]? = some d := hd
    rw [List.getElem?_map] at h
    obtain ⟨k, h1, h2⟩ := Option.map_eq_some_iff.mp h
    obtain ⟨h3, h4⟩ := List.getElem?_eq_some_iff.mp h1
    rw [List.getElem_range] at h4
    subst h4 h2
    refine ⟨Ext.refl _ _, rs, ?_⟩
    have e : hi - (i : Int) = hi + (i : Int) * -1 := by omega
    rw [e]
    exact .int _
theorem prs_at : ∀ (l : List D) (k i : Nat), (prs k l)[i]? = l[i]?.map fun d => .tup [.int ((k + i : Nat) : Int), d]
  | [], k, i => by simp [prs]
  | d :: l, k, 0 => by simp [prs]
  | d :: l, k, i + 1 => by
    have h := prs_at l (k + 1) i
    show (prs (k + 1) l)[i]? = _
    rw [h]
    show _ = l[i]?.map _
    rw [show k + 1 + i = k + (i + 1) by omega]
theorem prs_len : ∀ (l : List D) (k : Nat), (prs k l).length = l.length
  | [], _ => rfl
  | d :: l, k => by
    show (prs (k + 1) l).length + 1 = l.length + 1
    rw [prs_len l (k + 1)]
theorem rel_pair {c : Ct} {m : List Addr} {S : Store} {H : Hp} {d e : D} {x y : V} {T : Addr} (rs : RS c m S H) (h : H T = none) (r1 : RelD c.K H m d x) (r2 : RelD c.K H m e y) : Ext m H m (upd H T (.tup [x, y])) ∧ RS c m S (upd H T (.tup [x, y])) ∧ RelD c.K (upd H T (.tup [x, y])) m (.tup [d, e]) (.ref T) := by
  have ex : Ext m H m (upd H T (.tup [x, y])) := ⟨⟨fun _ _ z => z, tstay_new h⟩, fstay_new h⟩
  exact ⟨ex, rs.fresh h, .tup upd_same (.cons (r1.mono ex) (.cons (r2.mono ex) .nil))⟩
theorem walkd_enum {c : Ct} {n : Nat} {a : Addr} {l : List D} {m0 : List Addr} {H0 : Hp} (ha : m0[n]? = some a) : WalkD c (Ite c.K a) ⟨prs 0 l, [(n, l)]⟩ m0 H0 where
  go := fun i m S H hi e rs st => by
    have h : i < (prs 0 l).length := hi
    rw [prs_len] at h
    obtain ⟨xs, h1, h2⟩ := rs.lst (e.mx _ _ ha) (stand1 st)
    obtain ⟨v, h3, _⟩ := h2.ix (List.getElem?_eq_getElem h)
    exact ⟨xs, v, h1, h3⟩
  stop := fun m S H e rs st => by
    obtain ⟨xs, h1, h2⟩ := rs.lst (e.mx _ _ ha) (stand1 st)
    refine ⟨xs, h1, ?_⟩
    show xs.length ≤ (prs 0 l).length
    rw [← h2.len, prs_len]
    exact Nat.le_refl _
  yld := fun i m S H x H' d hd e rs st y => by
    obtain ⟨T, w, rfl, hT, rfl, hy⟩ := y
    obtain ⟨xs, h1, h2⟩ := rs.lst (e.mx _ _ ha) (stand1 st)
    have h : (prs 0 l)[i]? = some d := hd
    rw [prs_at, Nat.zero_add] at h
    obtain ⟨d', h3, h4⟩ := Option.map_eq_some_iff.mp h
    subst h4
    obtain ⟨v, h5, h6⟩ := h2.ix h3
    have := (hy xs h1).symm.trans h5
    cases this
    exact rel_pair rs hT (.int _) h6
/-! ### the walked thing by its syntax -/
theorem pi_seq {tg l : Expr} {tl : TE} (hl : PE X l tl) : PI X tg l (fun σ H R => tl σ H fun x H1 => (∃ a, x = .ref a ∧ (∃ xs, SqL X.K H1 a xs) ∧ R (Itl X.K a) H1) ∨ ∃ a, x = .ref a ∧ (∃ xs, SqT X.K H1 a xs) ∧ R (Itt X.K a) H1) := by
  refine ⟨fun pins s σ H R I h => ?_⟩
  refine thn (hl.run pins s σ H _ I h) fun v s1 ⟨x, H1, I1, r1, q1⟩ => ?_
  rcases q1 with ⟨a, e, ⟨xs, hq⟩, q⟩ | ⟨a, e, ⟨xs, hq⟩, q⟩
  · subst e
    cases r1
    obtain ⟨its, rv, p, hz⟩ := I1.list hq
    refine wpAny_pyIter_list p.isList ?_
    refine ⟨s1.heap.objs.size, [s1.heap.objs.size], _, _, H1, rfl, I1.kept (t' := s1.toks) fun b o e => Heap.get?_push_of_some _ e, turn_list a _, ⟨_, Heap.get?_push_size _ rfl, rfl, rfl⟩, fun b hb => ?_, q⟩
    have e : b = s1.heap.objs.size := by simpa using hb
    subst e
    exact I1.fpOk (Nat.le_refl _) (I1.hok.fresh (Nat.le_refl _))
  · subst e
    cases r1
    obtain ⟨its, rv, p, hz⟩ := I1.tuple hq
    refine wpAny_pyIter_tuple (show s1.heap.IsTuple a its.toArray from p) ?_
    refine ⟨s1.heap.objs.size, [s1.heap.objs.size], _, _, H1, rfl, I1.kept (t' := s1.toks) fun b o e => Heap.get?_push_of_some _ e, turn_tuple a _, ⟨_, Heap.get?_push_size _ rfl, rfl, rfl⟩, fun b hb => ?_, q⟩
    have e : b = s1.heap.objs.size := by simpa using hb
    subst e
    exact I1.fpOk (Nat.le_refl _) (I1.hok.fresh (Nat.le_refl _))
theorem si_seq {tg e : Expr} {fe : EM} (he : SE X E e fe) : SI X E tg e (Mi.iSeq fe) := by
  refine PI.mono (pi_seq he) fun σ H R ⟨fr, S, m, rf, rs, p⟩ => ?_
  refine rd_bind rf rs p fun x S1 m1 H1 e1 rf1 rs1 p1 v hv => ?_
  cases hv with
  | tup ha r => exact .inr ⟨_, rfl, ⟨_, .inl (.inl ha)⟩, p1.here rs1 _ (walkd_tup (fun m H e => .inl (.inl (e.ts _ _ (.inl ⟨_, rfl⟩) ha))) r)⟩
  | wtp ha r => exact .inr ⟨_, rfl, ⟨_, ha.sq⟩, p1.here rs1 _ (walkd_tup (fun m H e => (ha.mono e.ts).sq) r)⟩
  | ref ha =>
    dsimp only at p1
    split at p1
    · rename_i l hl
      obtain ⟨xs, h1, _⟩ := rs1.lst ha hl
      exact .inl ⟨_, rfl, ⟨xs, h1⟩, p1.here rs1 _ (walkd_list ha)⟩
    · exact p1.elim
  | _ => exact p1.elim
theorem si_rng1 {tg a : Expr} {fa : AM} {p pos : Pos} (hg : Gl X "range") (hm : X.mg "range" = none) (ha : SA X E [a] fa) (hs : starEach [a] X.env = [(false, eval a X.env)] := by rfl) : SI X E tg (.Call (.Name "range" p) [a] [] pos) (Mi.iRng1 fa) := by
  refine PI.mono (pi_range1 hg hm ha hs) fun σ H R ⟨fr, S, m, rf, rs, p⟩ => ?_
  refine rdA_bind rf rs p fun ds S1 m1 H1 e1 rf1 rs1 p1 vs hv => ?_
  split at p1
  · rename_i j
    obtain ⟨v, rfl, h⟩ := rel1 hv
    cases h
    split at p1
    · rename_i hj
      exact ⟨j, rfl, hj.1, hj.2, p1.here rs1 _ walkd_rng⟩
    · exact p1.elim
  · exact p1.elim
theorem si_rng2 {tg a b : Expr} {fa : AM} {p pos : Pos} (hg : Gl X "range") (hm : X.mg "range" = none) (ha : SA X E [a, b] fa) (hs : starEach [a, b] X.env = [(false, eval a X.env), (false, eval b X.env)] := by rfl) (hs2 : starEach [b] X.env = [(false, eval b X.env)] := by rfl) : SI X E tg (.Call (.Name "range" p) [a, b] [] pos) (Mi.iRng2 fa) := by
  refine PI.mono (pi_range2 hg hm ha hs hs2) fun σ H R ⟨fr, S, m, rf, rs, p⟩ => ?_
  refine rdA_bind rf rs p fun ds S1 m1 H1 e1 rf1 rs1 p1 vs hv => ?_
  split at p1
  · rename_i i j
    obtain ⟨v, w, rfl, h, h'⟩ := rel2 hv
    cases h
    cases h'
    split at p1
    · rename_i hj
      exact ⟨i, j, rfl, ⟨hj.1.1, hj.1.2, hj.2.1, hj.2.2⟩, p1.here rs1 _ walkd_rng⟩
    · exact p1.elim
  · exact p1.elim
theorem rel3 {K : PySem.W.Frag} {H : Hp} {m : List Addr} {d e f : D} {vs : List V} (h : RelL K H m [d, e, f] vs) : ∃ v w u, vs = [v, w, u] ∧ RelD K H m d v ∧ RelD K H m e w ∧ RelD K H m f u := by
  cases h with
  | cons h t =>
    obtain ⟨w, u, rfl, h2, h3⟩ := rel2 t
    exact ⟨_, w, u, rfl, h, h2, h3⟩
theorem si_rngD {tg a b d : Expr} {fa : AM} {p pos : Pos} (hg : Gl X "range") (hm : X.mg "range" = none) (ha : SA X E [a, b, d] fa) (hs : starEach [a, b, d] X.env = (false, eval a X.env) :: starEach [b, d] X.env := by rfl) (hpl : (backTo pos (starEach [b, d] X.env)).any (·.1) = false := by rfl) : SI X E tg (.Call (.Name "range" p) [a, b, d] [] pos) (Mi.iRngD fa) := by
  refine PI.mono (pi_range3 hg hm ha hs hpl) fun σ H R ⟨fr, S, m, rf, rs, p⟩ => ?_
  refine rdA_bind rf rs p fun ds S1 m1 H1 e1 rf1 rs1 p1 vs hv => ?_
  split at p1
  · rename_i i j k
    obtain ⟨v, w, u, rfl, h, h', h''⟩ := rel3 hv
    cases h
    cases h'
    cases h''
    split at p1
    · rename_i hj
      obtain ⟨h1, h2, rfl⟩ := hj
      exact ⟨i, j, -1, _, rfl, RgC.neg h1.1 h1.2 h2.1 h2.2, p1.here rs1 _ walkd_rngD⟩
    · exact p1.elim
  · exact p1.elim
theorem si_enum {e : Expr} {fe : AM} {p pos tpos : Pos} {elts : List Expr} {kk : Nat} (hg : Gl X "enumerate") (hm : X.mg "enumerate" = none) (ha : SA X E [e] fe) (hs : starEach [e] X.env = [(false, eval e X.env)] := by rfl) : SI X E (.Tuple elts kk tpos) (.Call (.Name "enumerate" p) [e] [] pos) (Mi.iEnum fe) := by
  refine PI.mono (pi_enum hg hm ha hs) fun σ H R ⟨fr, S, m, rf, rs, p⟩ => ?_
  refine rdA_bind rf rs p fun ds S1 m1 H1 e1 rf1 rs1 p1 vs hv => ?_
  split at p1
  · obtain ⟨v, rfl, h⟩ := rel1 hv
    cases h with
    | ref ha =>
      split at p1
      · rename_i l hl
        obtain ⟨xs, h1, _⟩ := rs1.lst ha hl
        exact ⟨_, xs, rfl, h1, p1.here rs1 _ (walkd_enum ha)⟩
      · exact p1.elim
  · exact p1.elim
/-! ### loops -/
theorem ss_for {tg iter : Expr} {body : List Stmt} {fi : IM} {g : GM} {b : SM} (hp : PassesOwn (model X.prog X.w) X.A X.env X.xe) (hc : X.calm = true) (hi : SI X E tg iter fi) (hg : SG X E tg g) (hb : SSs X E body b)
    (hs : ∀ x, foldedSetIterable iter X.env x = pure x := by intro _; rfl) : SS X E (.For tg iter body [] pos) (sFor fi g b) := by
  refine PS.mono (ps_for hp hc hi hg hb hs) fun D σ H ⟨fr, S, m, rf, rs, p⟩ => ?_
  refine ⟨fr, S, m, rf, rs, (post_bind p).imp fun I S1 m1 H1 e1 rs1 p1 J w => ?_⟩
  refine ⟨fun i k σ' H' => i ≤ I.items.length ∧ k = I.items.length - i ∧ ∃ fr' S' m', Ext m1 H1 m' H' ∧ RF X.K H' m' fr' σ' ∧ RS (cx X) m' S' H' ∧ Post (cx X) E m' H' (loopM I.hs (fun d fr S => (g d fr S).bind fun fr' S' => b fr' S') (I.items.drop i) fr' S') (kS (cx X) D),
    ⟨I.items.length, Nat.zero_le _, rfl, fr, S1, m1, Ext.refl _ _, rf.mono e1, rs1, p1⟩, fun i k σ' H' hw => ?_⟩
  obtain ⟨hi', hk, fr', S', m', e2, rf2, rs2, p2⟩ := hw
  by_cases hlt : i < I.items.length
  · have hd : I.items.drop i = I.items[i] :: I.items.drop (i + 1) := List.drop_eq_getElem_cons hlt
    rw [hd] at p2
    unfold loopM at p2
    split at p2
    · rename_i st
      have st := of_dec st
      refine .inr ⟨w.go i m' S' H' hlt e2 rs2 st, fun σ2 H2 => ∃ fr2 S2 m2, Ext m1 H1 m2 H2 ∧ RF X.K H2 m2 fr2 σ2 ∧ RS (cx X) m2 S2 H2 ∧ Post (cx X) E m2 H2 (loopM I.hs (fun d fr S => (g d fr S).bind fun fr' S' => b fr' S') (I.items.drop (i + 1)) fr2 S2) (kS (cx X) D),
        fun σ2 H2 q => ⟨I.items.length - (i + 1), by omega, by omega, rfl, q⟩, fun x H'' y => ?_⟩
      obtain ⟨e3, rs3, r3⟩ := w.yld i m' S' H' x H'' _ (List.getElem?_eq_getElem hlt) e2 rs2 st y
      refine ⟨_, fr', S', m', r3, rf2.mono e3, rs3, (post_bind (post_bind p2)).ext e3 |>.imp fun fr2 S2 m2 H2 e4 rs4 p4 σ2 rf4 => ?_⟩
      refine ⟨fr2, S2, m2, rf4, rs4, p4.imp fun o S3 m3 H3 e5 rs5 p5 => ?_⟩
      have ee : Ext m1 H1 m3 H3 := ((e2.trans e3).trans e4).trans e5
      cases o with
      | nx fr3 => exact fun σ3 rf5 => ⟨fr3, S3, m3, ee, rf5, rs5, p5⟩
      | ct fr3 => exact fun σ3 rf5 => ⟨fr3, S3, m3, ee, rf5, rs5, p5⟩
      | bk fr3 => exact p5.here rs5
      | rt d => exact p5.here rs5
    · exact p2.elim
  · have e : i = I.items.length := by omega
    subst e
    rw [List.drop_length] at p2
    unfold loopM at p2
    split at p2
    · rename_i st
      exact .inl ⟨w.stop m' S' H' e2 rs2 (of_dec st), p2.here rs2 σ' rf2⟩
    · exact p2.elim
theorem ss_while {t : Expr} {body : List Stmt} {ft : TM} {b : SM} (hp : PassesOwn (model X.prog X.w) X.A X.env X.xe) (ht : STt X E t ft) (hb : SSs X E body b) : SS X E (.While t body [] pos) (sWhile ft b) := by
  refine PS.mono (ps_while hp ht hb) fun D σ H ⟨fr, S, m, rf, rs, p⟩ => ?_
  unfold sWhile at p
  split at p
  · rename_i hex
    refine ⟨fun k σ' H' => ∃ fr' S' m', RF X.K H' m' fr' σ' ∧ RS (cx X) m' S' H' ∧ Post (cx X) E m' H' (whileN ft b k fr' S') (kS (cx X) D), ⟨_, fr, S, m, rf, rs, p⟩, fun k σ' H' hw => ?_⟩
    obtain ⟨fr', S', m', rf2, rs2, p2⟩ := hw
    cases k with
    | zero => exact p2.elim
    | succ k =>
      unfold whileN at p2
      refine rdT_bind rf2 rs2 p2 fun c S1 m1 H1 e1 rf1 rs1 p1 => ?_
      cases c with
      | true =>
        refine ⟨fun σ2 H2 => ∃ fr2 S2 m2, RF X.K H2 m2 fr2 σ2 ∧ RS (cx X) m2 S2 H2 ∧ Post (cx X) E m2 H2 (whileN ft b k fr2 S2) (kS (cx X) D), fun σ2 H2 q => ⟨k, Nat.lt_succ_self k, q⟩, fr', S1, m1, rf1, rs1, (post_bind p1).imp fun o S3 m3 H3 e5 rs5 p5 => ?_⟩
        cases o with
        | nx fr3 => exact fun σ3 rf5 => ⟨fr3, S3, m3, rf5, rs5, p5⟩
        | ct fr3 => exact fun σ3 rf5 => ⟨fr3, S3, m3, rf5, rs5, p5⟩
        | bk fr3 => exact p5.here rs5
        | rt d => exact p5.here rs5
      | false => exact p1.here rs1 σ' rf1
  · exact p.elim
/-! ### comprehensions -/
theorem wipe_get {σ : L2.St} : ∀ {vs : List Nat} (j : Nat), (wipe σ vs)[j]? = if j ∈ vs ∧ j < σ.length then some none else σ[j]?
  | [], j => by simp [wipe]
  | v :: vs, j => by
    unfold wipe
    by_cases e : v = j
    · subst e
      by_cases h : v < σ.length
      · rw [List.getElem?_set_self (by rw [wipe_length]; exact h), if_pos ⟨List.mem_cons_self, h⟩]
      · rw [if_neg fun z => h z.2, List.getElem?_eq_none (by rw [List.length_set, wipe_length]; omega), List.getElem?_eq_none (by omega)]
    · rw [List.getElem?_set_ne e, wipe_get j]
      by_cases h : j ∈ vs ∧ j < σ.length
      · rw [if_pos h, if_pos ⟨List.mem_cons_of_mem _ h.1, h.2⟩]
      · rw [if_neg h, if_neg fun z => h ⟨(List.mem_cons.mp z.1).resolve_left (Ne.symm e), z.2⟩]
theorem wipe_of {σ τ : L2.St} {vs : List Nat} (hl : τ.length = σ.length) (h : ∀ j, j ∉ vs → τ[j]? = (wipe σ vs)[j]?) : wipe τ vs = wipe σ vs := by
  refine List.ext_getElem? fun j => ?_
  rw [wipe_get]
  by_cases hj : j ∈ vs ∧ j < τ.length
  · rw [if_pos hj, wipe_get, if_pos ⟨hj.1, by rw [← hl]; exact hj.2⟩]
  · rw [if_neg hj]
    by_cases hv : j ∈ vs
    · have : ¬ j < τ.length := fun z => hj ⟨hv, z⟩
      rw [List.getElem?_eq_none (by omega), List.getElem?_eq_none (by rw [wipe_length]; omega)]
    · exact h j hv
/-- a target that stores nothing but at the slots vs -/
def GOnly (c : Ct) (vs : List Nat) (g : TG) (gm : GM) : Prop := ∀ (x : V) (d : D) (fr : Fr) (S : Store) (m : List Addr) (σ : L2.St) (H : Hp) (E : XK) (k : Fr → Store → List Addr → Hp → Prop) (Q : L2.St → Hp → Prop),
  RelD c.K H m d x → RF c.K H m fr (wipe σ vs) → RS c m S H → Post c E m H (gm d fr S) k → (∀ fr' σ2, RF c.K H m fr' σ2 → wipe σ2 vs = wipe σ vs → k fr' S m H → Q σ2 H) → g x (wipe σ vs) H Q
theorem gonly_name {c : Ct} {i : Nat} {vs : List Nat} (hi : i ∈ vs) : GOnly c vs (L2.gName i) (Mi.gName i) := by
  intro x d fr S m σ H E k Q r rf rs p h
  refine h _ _ (rf.set r i) (wipe_of (by rw [List.length_set, wipe_length]) fun j hj => ?_) (p.here rs)
  rw [List.getElem?_set_ne (fun e => hj (by rw [← e]; exact hi))]
theorem lc_rd {c : Ct} {vs : List Nat} {fi : IM} {g : TG} {gm : GM} {ft : TM} {fe : EM} (ho : GOnly c vs g gm) {σ : L2.St} {H : Hp} {Q : VK} (h : rdE c E (mLc vs fi gm ft fe) σ H Q) : tLc (rdI c E fi) g (rdT c EF ft) (rdE c EF fe) vs σ H Q := by
  obtain ⟨fr, S, m, rf, rs, p⟩ := h
  refine ⟨fr, S, m, rf, rs, (post_bind p).imp fun I S1 m1 H1 e1 rs1 p1 J w Dl hDl => ?_⟩
  obtain ⟨rs2, e2⟩ := rs1.push (o := .lst []) (u := .lst []) hDl ⟨[], upd_same, .nil⟩
  have hn : ∀ {m'' : List Addr} {H'' : Hp}, Ext (m1 ++ [Dl]) (upd H1 Dl (.lst [])) m'' H'' → m''[S1.length]? = some Dl := fun e => e.mx _ _ (by rw [← rs1.len, List.getElem?_append_right (Nat.le_refl _), Nat.sub_self]; rfl)
  refine ⟨fun i k H' => i ≤ I.items.length ∧ k = I.items.length - i ∧ ∃ S' m', Ext (m1 ++ [Dl]) (upd H1 Dl (.lst [])) m' H' ∧ RS c m' S' H' ∧ Post c E m' H' (lcLoop I.hs S1.length gm (fun fr S => quiet (ft fr S)) (fun fr S => quiet (fe fr S)) (unset vs fr) (I.items.drop i) S') (kE c Q),
    ⟨I.items.length, Nat.zero_le _, rfl, S1 ++ [.lst []], _, Ext.refl _ _, rs2, (show _ from by rw [List.drop_zero]; exact Post.ext p1 e2)⟩, fun i k H' hw => ?_⟩
  obtain ⟨hi', hk, S', m', e3, rs3, p3⟩ := hw
  have e13 : Ext m1 H1 m' H' := e2.trans e3
  have rfw : RF c.K H' m' (unset vs fr) (wipe σ vs) := ((rf.mono (e1.trans e13)).unset vs)
  by_cases hlt : i < I.items.length
  · have hd : I.items.drop i = I.items[i] :: I.items.drop (i + 1) := List.drop_eq_getElem_cons hlt
    rw [hd] at p3
    unfold lcLoop at p3
    split at p3
    · rename_i st
      have st := of_dec st
      refine .inr ⟨w.go i m' S' H' hlt e13 rs3 st, fun H2 => ∃ S2 m2, Ext (m1 ++ [Dl]) (upd H1 Dl (.lst [])) m2 H2 ∧ RS c m2 S2 H2 ∧ Post c E m2 H2 (lcLoop I.hs S1.length gm (fun fr S => quiet (ft fr S)) (fun fr S => quiet (fe fr S)) (unset vs fr) (I.items.drop (i + 1)) S2) (kE c Q),
        fun H2 q => ⟨I.items.length - (i + 1), by omega, by omega, rfl, q⟩, fun x H'' y => ?_⟩
      obtain ⟨e4, rs4, r4⟩ := w.yld i m' S' H' x H'' _ (List.getElem?_eq_getElem hlt) e13 rs3 st y
      refine ho x _ (unset vs fr) S' m' σ H'' E _ _ r4 (rfw.mono e4) rs4 ((post_bind p3).ext e4) fun fr2 σ2 rf2 hw2 p5 => ⟨hw2, ?_⟩
      refine ⟨fr2, S', m', rf2, rs4, (post_quiet (post_bind p5)).imp fun b S6 m6 H6 e6 rs6 p6 => ?_⟩
      have e36 : Ext (m1 ++ [Dl]) (upd H1 Dl (.lst [])) m6 H6 := (e3.trans e4).trans e6
      cases b with
      | true =>
        refine ⟨fr2, S6, m6, rf2.mono e6, rs6, (post_quiet (post_bind p6)).imp fun z S7 m7 H7 e7 rs7 p7 zv hz => ?_⟩
        have e37 := e36.trans e7
        split at p7
        · rename_i acc hacc
          obtain ⟨ys, h1, h2⟩ := rs7.mlst (hn e37) hacc
          split at p7
          · rename_i hl
            obtain ⟨rs8, e8⟩ := rs7.set (o' := .lst (acc ++ [z])) (u := .lst (ys ++ [zv])) (hn e37) hacc trivial trivial fun e => ⟨_, upd_same, (h2.mono e).app (.one (hz.mono e))⟩
            exact ⟨ys, h1, by rw [← h2.len, line_eq]; exact hl, _, m7, e37.trans e8, rs8, p7.ext e8⟩
          · exact p7.elim
        · exact p7.elim
      | false => exact ⟨S6, m6, e36, rs6, p6⟩
    · exact p3.elim
  · have e : i = I.items.length := by omega
    subst e
    rw [List.drop_length] at p3
    unfold lcLoop at p3
    split at p3
    · rename_i st
      exact .inl ⟨w.stop m' S' H' e13 rs3 (of_dec st), p3.here rs3 _ (.ref (hn e3))⟩
    · exact p3.elim
/-- a context of a comprehension's block -/
abbrev Blk (X : Cx) (scope : Scope) (P : Cx → Prop) : Prop := ∀ (s : Shared) (H : Hp) (C : Addr) (cl : List (Str × Addr)) (fp : List Addr), P (X.blk s H scope (compEnvC scope cl C X.env) fp)
theorem sts_nil {X : Cx} : PTs X [] (rdT (cx X) EF Mi.tYes) := ⟨fun pins s σ H Q I ⟨fr, S, m, rf, rs, p⟩ => pts_nil.run pins s σ H Q I (p.here rs)⟩
theorem sts_one {X : Cx} {t : Expr} {ft : TM} (h : STt X EF t ft) : PTs X [t] (rdT (cx X) EF ft) := pts_one h
theorem ss_setLc {i : Nat} {y : Str} {py spos : Pos} {elt tg iter : Expr} {ifs : List Expr} {scope : Scope} {own : List (Str × Nat)} {fi : IM} {g : TG} {gm : GM} {ft : TM} {fe : EM} (hc : X.calm = true) (hN : X.N.Nodup) (hy : X.N[i]? = some y) (hyl : X.env.scope.names.lookup y = some .local)
    (hsw : swapsWith (.ListComp elt [⟨tg, iter, ifs, 0⟩] scope pos) (some (.Name y py)) spos.line X.env = pure true) (hi : SI X E tg iter fi) (ok : BlkOk X.N X.env.scope scope own) (ho : GOnly (cx X) (own.map (·.2)) g gm)
    (hg : Blk X scope fun Y => PG Y tg g) (ht : Blk X scope fun Y => PTs Y ifs (rdT (cx X) EF ft)) (he : Blk X scope fun Y => PE Y elt (rdE (cx X) EF fe)) (hs : ∀ x, foldedSetIterable iter X.env x = pure x := by intro _; rfl) : SS X E (.Assign [.Name y py] (.ListComp elt [⟨tg, iter, ifs, 0⟩] scope pos) spos) (sAsg (mLc (own.map (·.2)) fi gm ft fe) (Mi.gName i)) := by
  refine PS.mono (ps_setLc hc hN hy hyl hsw hi ok hg ht he hs) fun D σ H ⟨fr, S, m, rf, rs, p⟩ => ?_
  refine lc_rd ho (rd_bind rf rs p fun x S1 m1 H1 e1 rf1 rs1 p1 v hv => ?_)
  exact (post_bind p1).here rs1 |>.here rs1 _ (rf1.set hv i)
end
/-! ### a def -/
theorem start_rel {c : Ct} {H : Hp} {m : List Addr} {N : List Str} {ds : List D} {vs : List V} (r : RelL c.K H m ds vs) : RF c.K H m (startF N.length ds) (L2.start N vs) := by
  unfold startF L2.start
  have hl := r.len
  refine ⟨by rw [List.length_append, List.length_append, List.length_map, List.length_map, List.length_replicate, List.length_replicate, hl], fun i d e => ?_⟩
  by_cases h : i < ds.length
  · rw [List.getElem?_append_left (by rw [List.length_map]; exact h), List.getElem?_map] at e
    obtain ⟨d', h1, h2⟩ := Option.map_eq_some_iff.mp e
    cases h2
    obtain ⟨v, h3, h4⟩ := r.ix h1
    exact ⟨v, by rw [List.getElem?_append_left (by rw [List.length_map, ← hl]; exact h), List.getElem?_map, h3]; rfl, h4⟩
  · rw [List.getElem?_append_right (by rw [List.length_map]; omega)] at e
    obtain ⟨h1, h2⟩ := List.getElem?_eq_some_iff.mp e
    rw [List.getElem_replicate] at h2
    cases h2
section
variable {P : Program} {w : World} {K : PySem.W.Frag} {mg : Str → Option Value} {base : Heap}
theorem fn_ok {x qual : Str} {st : Stmt} {f : Addr} {fd : FuncData} {N ps : List Str} {k : Nat} {b : SM} (F : Fun K x qual st f fd) (S : FnScope N ps (defScope st))
    (hb : ∀ (cdv : Value) (A : Around) (outer : List Env) (s : Shared) (H : Hp) (E : XK), Room k (A.deeper (envOfC qual (defScope st) s.heap.objs.size f cdv)) → SSs (cxOf CX0 P w K mg base N qual (defScope st) f cdv A outer s H E).nox EF (defBody st) b) :
    FnOk P w K mg base CX0 (k + 1) f fd ps (spM ⟨K, mg, P, w⟩ (mDef ps.length N.length b)) := by
  refine F.ok S (fun vs H Q E h => ?_) (fun cdv A outer s H vs Q E hr h => ?_)
  · obtain ⟨ds, S', m, r, rs, p⟩ := h
    have p := post_quiet (E' := E) p
    unfold mDefX at p
    split at p
    · rename_i hl
      rw [← r.len]; exact hl
    · exact p.elim
  · obtain ⟨ds, S', m, r, rs, p⟩ := h
    have p := post_quiet (E' := EF) p
    unfold mDefX at p
    split at p
    · refine ⟨_, hb cdv A outer s H E hr, startF N.length ds, S', m, start_rel (c := ⟨K, mg, P, w⟩) r, rs, (post_bind p).imp fun o S1 m1 H1 e1 rs1 p1 => ?_⟩
      cases o with
      | nx fr => exact fun σ rf => p1.here rs1 _ .non
      | rt d => exact fun v hv => p1.here rs1 v hv
      | bk fr => exact p1.elim
      | ct fr => exact p1.elim
    · exact p.elim
end
end Sm
set_option Elab.async false
set_option linter.all false
set_option maxRecDepth 100000
set_option maxHeartbeats 2000000
/-! readings by the small language: texts, a few words more -/
namespace Sm
open PySem PySem.Spec PyProof.Rows L2 Mi
variable [Tbs]
theorem hu65 {A : Around} {k : Nat} (hr : Room k A) : A.units + 65 < cLine := by
  have := hr.un
  omega
end Sm
namespace Sm
open PySem PySem.Spec PyProof.Rows L2 Mi
variable [Tbs]
/-- the law's own promise: on the script it answers True -/
def spLaw (K : PySem.W.Frag) : Sp := fun vs H Q _ => ∃ (a : Addr) (ns : List Int), vs = [.ref a] ∧ SqL K H a (ns.map V.int) ∧ (∀ xs, H a ≠ some (.lst xs)) ∧ ns.length ≤ 63 ∧ LamX.Tabs (Tbs.T K) H ∧ ∀ H', Q (.bl true) H'
theorem rel_ints {K : PySem.W.Frag} {H : Hp} {m : List Addr} : ∀ ns : List Int, RelL K H m (ns.map D.int) (ns.map V.int)
  | [] => .nil
  | n :: ns => .cons (.int n) (rel_ints ns)
theorem law_sp {K : PySem.W.Frag} {mg : Str → Option Value} {P : Program} {w : World} {g : Fn} (pure : ∀ ns : List Int, ns.length ≤ 63 → ∃ S, g [.ref 0] [.fls (ns.map D.int)] = .ok (.bl true) S) :
    ∀ (vs : List V) (H : Hp) (Q : VK) (E : XK), spLaw K vs H Q E → spM ⟨K, mg, P, w⟩ g vs H Q E := by
  intro vs H Q E h
  obtain ⟨a, ns, rfl, hS, hO, hl, ht, q⟩ := h
  obtain ⟨S, e⟩ := pure ns hl
  refine ⟨[.ref 0], [.fls (ns.map D.int)], [a], .cons (.ref rfl) .nil, ⟨rfl, fun n b o h1 h2 => ?_, fun n n' b o o' h1 h2 h3 h4 l1 l2 => ?_, ht⟩, ?_⟩
  · cases n with
    | succ n => cases h1
    | zero =>
      cases h1
      cases h2
      refine ⟨ns.map V.int, ?_, rel_ints ns⟩
      rcases hS with (h | ⟨ob, h⟩) | h
      · exact absurd h (hO _)
      · exact .inl ⟨ob, h⟩
      · exact .inr (.inr h)
  · cases n with
    | succ n => cases h1
    | zero => cases h3; exact l1.elim
  · rw [e]
    intro m' H' _ _ v hv
    cases hv
    exact q H'
end Sm
set_option Elab.async false
set_option linter.all false
set_option maxRecDepth 100000
set_option maxHeartbeats 2000000
/-! more steps against the layer -/
namespace Sm
open PySem PySem.Spec PyProof.Rows L2 Mi
variable [Tbs]
section
variable {X : Cx} {E : XK} {pos : Pos}
/-! ### a dict written with its pairs -/
def trP (c : Ct) (E : XK) (ps : List (EM × EM)) : List (TE × TE) := ps.map fun p => (rdE c E p.1, rdE c E p.2)
structure RelP (K : PySem.W.Frag) (H : Hp) (m : List Addr) (p : D × D) (q : V × V) : Prop where
  fst : RelD K H m p.1 q.1
  snd : RelD K H m p.2 q.2
theorem rdPs_bind {c : Ct} {α : Type} : ∀ (ps : List (EM × EM)) {fr : Fr} {S : Store} {m : List Addr} {σ : L2.St} {H : Hp} {Q : List (V × V) → Hp → Prop} {h : List (D × D) → Store → Res α} {kk : α → Store → List Addr → Hp → Prop},
    RF c.K H m fr σ → RS c m S H → Post c E m H ((mPairs ps fr S).bind h) kk →
    (∀ d S1 m1 H1, Ext m H m1 H1 → RF c.K H1 m1 fr σ → RS c m1 S1 H1 → Post c E m1 H1 (h d S1) kk → ∀ v, Paired (RelP c.K H1 m1) d v → Q v H1) → tPairs (trP c E ps) σ H Q
  | [], fr, S, m, σ, H, Q, h, kk, rf, rs, p, n => n [] S m H (Ext.refl m H) rf rs p [] .nil
  | (a, b) :: r, fr, S, m, σ, H, Q, h, kk, rf, rs, p, n => by
    have p' : Post c E m H ((a fr S).bind fun x S1 => (b fr S1).bind fun y S2 => (mPairs r fr S2).bind fun ps S3 => h ((x, y) :: ps) S3) kk := by
      have e : (mPairs ((a, b) :: r) fr S).bind h = (a fr S).bind fun x S1 => (b fr S1).bind fun y S2 => (mPairs r fr S2).bind fun ps S3 => h ((x, y) :: ps) S3 := by
        show ((a fr S).bind fun x S1 => (b fr S1).bind fun y S2 => (mPairs r fr S2).bind fun ps S3 => .ok ((x, y) :: ps) S3).bind h = _
        rw [Res.bind_assoc]
        congr 1; funext x S1
        rw [Res.bind_assoc]
        congr 1; funext y S2
        rw [Res.bind_assoc]
        rfl
      rw [← e]; exact p
    refine rd_bind rf rs p' fun x S1 m1 H1 e1 rf1 rs1 p1 v hv => ?_
    refine rd_bind rf1 rs1 p1 fun y S2 m2 H2 e2 rf2 rs2 p2 w hw => ?_
    refine rdPs_bind r rf2 rs2 p2 fun d S3 m3 H3 e3 rf3 rs3 p3 vs hvs => ?_
    exact n _ S3 m3 H3 (e1.trans (e2.trans e3)) rf3 rs3 p3 _ (.cons ⟨hv.mono (e2.trans e3), hw.mono e3⟩ hvs)
theorem kvs_of {K : PySem.W.Frag} {H : Hp} {m : List Addr} : ∀ {ps : List (D × D)} {vs : List (V × V)} {kvs : List (Ky × D)}, Paired (RelP K H m) ps vs → kvsM ps = some kvs → ∃ kws : List (Key × V), vs = kws.map (fun kv => (kV kv.1, kv.2)) ∧ Paired (fun a b => b.1 = kyK a.1 ∧ RelD K H m a.2 b.2) kvs kws
  | [], _, kvs, .nil, e => by
    obtain rfl := Option.some.inj e
    exact ⟨[], rfl, .nil⟩
  | (k, v) :: r, _, kvs, .cons hp ht, e => by
    unfold kvsM at e
    cases hk : kyOf k with
    | none => rw [hk] at e; cases e
    | some q =>
      rw [hk, Option.bind_some] at e
      obtain ⟨l, e1, rfl⟩ := Option.map_eq_some_iff.mp e
      obtain ⟨kws, rfl, rk⟩ := kvs_of ht e1
      have hk2 := ky_of hp.fst hk
      rename_i qv
      refine ⟨(kyK q, qv.2) :: kws, ?_, .cons ⟨rfl, hp.snd⟩ rk⟩
      rw [List.map_cons]
      congr 1
      show qv = (kV (kyK q), qv.2)
      rw [← hk2]
theorem merge_rel {K : PySem.W.Frag} {H : Hp} {m : List Addr} : ∀ {kvs : List (Ky × D)} {kws : List (Key × V)} {acc : List (Ky × D)} {acw : List (Key × V)}, Paired (fun a b => b.1 = kyK a.1 ∧ RelD K H m a.2 b.2) kvs kws → RelK K H m kyK acc acw → RelK K H m kyK (kvs.foldl (fun acc kv => dPut acc kv.1 kv.2) acc) (mergeK acw kws)
  | [], _, _, _, .nil, r => r
  | kv :: l, _, acc, acw, .cons (b := b) h t, r => by
    have q := RelK.put (fun _ _ => kyK_inj) r kv.1 h.2
    rw [← h.1] at q
    have z := merge_rel (kvs := l) t q
    exact z
theorem se_dis {keys : List (Option Expr)} {values : List Expr} {ps : List (EM × EM)} (h : PPs X pos keys values (trP (cx X) E ps)) (hall : keys.all (·.isSome) = true) (hl : keys.length = values.length) (h0 : keys ≠ []) (h15 : keys.length ≤ 15) : SE X E (.Dict keys values pos) (mDis ps) := by
  refine PE.mono (pe_disp h hall hl h0 h15) fun σ H Q ⟨fr, S, m, rf, rs, p⟩ a ha => ?_
  obtain ⟨rs0, e0⟩ := rs.push (o := .dK []) (u := .dK []) ha ⟨[], upd_same, .nil⟩
  refine rdPs_bind ps (rf.mono e0) rs0 (p.ext e0) fun d S1 m1 H1 e1 rf1 rs1 p1 vs hvs => ?_
  have hm : m1[S.length]? = some a := e1.mx _ _ (by rw [← rs.len, List.getElem?_append_right (Nat.le_refl _), Nat.sub_self]; rfl)
  unfold disK at p1
  split at p1
  · rename_i _ _ kvs hk hs
    split at p1
    · rename_i h15'
      obtain ⟨kw, h1, h2⟩ := rs1.ob _ a _ hm hs
      cases h2
      obtain ⟨kws, rfl, rk⟩ := kvs_of hvs hk
      obtain ⟨rs2, e2⟩ := rs1.set (o' := .dK (putM kvs)) (u := .dK (mergeK [] kws)) hm hs trivial trivial fun e => ⟨_, upd_same, RelK.mono e (merge_rel rk .nil)⟩
      refine ⟨h1, kws, rfl, by rw [← Paired.length rk]; exact h15', ?_⟩
      exact p1 _ _ e2 rs2 _ (.ref hm)
    · exact p1.elim
  · exact p1.elim
theorem sps_nil : PPs X pos [] [] (trP (cx X) E []) := pps_nil
theorem sps_cons {k v : Expr} {ks : List (Option Expr)} {vs : List Expr} {a b : EM} {r : List (EM × EM)} (hk : SE X E k a) (hv : SE X E v b) (hr : PPs X pos ks vs (trP (cx X) E r)) : PPs X pos (some k :: ks) (v :: vs) (trP (cx X) E ((a, b) :: r)) := pps_cons hk hv hr
end
end Sm
set_option Elab.async false
set_option linter.all false
set_option maxRecDepth 100000
set_option maxHeartbeats 2000000
/-! texts against the layer -/
namespace Sm
open PySem PySem.Spec PyProof.Rows L2 Mi
end Sm
set_option Elab.async false
set_option linter.all false
set_option maxRecDepth 100000
set_option maxHeartbeats 2000000
/-! == of a dict and a text; upper -/
namespace Sm
open PySem PySem.Spec PyProof.Rows L2 Mi
end Sm
set_option Elab.async false
set_option linter.all false
set_option maxRecDepth 100000
/-! x[::s] with s = -1 -/
namespace Sm
open PySem PySem.Spec PyProof.Rows L2 Mi
end Sm
set_option Elab.async false
set_option linter.all false
set_option maxRecDepth 100000
set_option maxHeartbeats 2000000
/-! dicts whose keys are tuples: values, ==, clear -/
namespace Sm
open PySem PySem.Spec PyProof.Rows L2 Mi
/-! ### == -/
end Sm
set_option Elab.async false
set_option linter.all false
set_option maxRecDepth 100000
set_option maxHeartbeats 2000000
/-! walks over dicts, == of dicts, clear, against the layer -/
namespace Sm
open PySem PySem.Spec PyProof.Rows L2 Mi
variable [Tbs]
section
variable {α β : Type} {c : Ct} {E : XK} {m m' : List Addr} {H H' : Hp} {r : Res α}
theorem RF.mono0 {fr : Fr} {σ : L2.St} (e : Ex0 m H m' H') (h : RF c.K H m fr σ) : RF c.K H' m' fr σ := ⟨h.len, fun i d q => let ⟨v, h1, h2⟩ := h.get i d q; ⟨v, h1, h2.mono0 e⟩⟩
end
end Sm
set_option Elab.async false
set_option linter.all false
set_option maxRecDepth 100000
set_option maxHeartbeats 2000000
/-! defs with defaults, against the layer -/
namespace Sm
open PySem PySem.Spec PyProof.Rows L2 Mi
end Sm
namespace Sm
open PySem PySem.Spec PyProof.Rows L2 Mi
end Sm
set_option Elab.async false
set_option linter.all false
set_option maxRecDepth 100000
set_option maxHeartbeats 2000000
/-! tuples known as they stand, dict(..), against the layer -/
namespace Sm
open PySem PySem.Spec PyProof.Rows L2 Mi
end Sm
set_option Elab.async false
set_option linter.all false
set_option maxRecDepth 100000
/-! x[lo::st], against the layer -/
namespace Sm
open PySem PySem.Spec PyProof.Rows L2 Mi
end Sm
set_option Elab.async false
set_option linter.all false
set_option maxRecDepth 100000
/-! list + list, either side a fixed list -/
namespace Sm
open PySem PySem.Spec PyProof.Rows L2 Mi
end Sm
set_option Elab.async false
set_option linter.all false
set_option maxRecDepth 100000
/-! l.remove(x) of data, against the layer -/
namespace Sm
open PySem PySem.Spec PyProof.Rows L2 Mi
end Sm
set_option Elab.async false
set_option linter.all false
set_option maxRecDepth 100000
set_option maxHeartbeats 2000000
/-! own exceptions: made, raised, caught -/
namespace Sm
open PySem PySem.Spec PyProof.Rows L2 Mi
variable [Tbs]
theorem RelX.mono {c : Ct} {H H' : Hp} {m m' : List Addr} {x : Exn} {cls : Value} {da : Option Addr} (e : Ext m H m' H') (h : RelX c H m x cls da) : RelX c H' m' x cls da := by
  obtain ⟨C, h1, h2, d, fs, h3, h4, h5⟩ := h
  exact ⟨C, h1, h2, d, fs, h3, e.ts _ _ (.inr (.inr ⟨fs, rfl⟩)) h4, RelK.mono e h5⟩
section
variable {X : Cx} {E : XK}
/-! ### a class's __init__ that first asks another own class for its __init__ -/
/-! ### try -/
/-- of the classes by name: whether they are caught -/
def Sub (c : Ct) (cc : Value) (sub : String → Option Bool) : Prop := ∀ n b, sub n = some b → ∀ C : Addr, c.mg (n : Str) = some (.ref C) → PySem.W.exmOne c.K (.ref C) cc = some b
end
/-! ### a suite that reads the fields -/
/-! ### a def that may raise -/
end Sm
set_option Elab.async false
set_option linter.all false
set_option maxRecDepth 100000
set_option maxHeartbeats 2000000
/-! an exception class's own __init__ -/
namespace Sm
open PySem PySem.Spec PyProof.Rows L2 Mi
end Sm
set_option Elab.async false
set_option linter.all false
set_option maxRecDepth 100000
set_option maxHeartbeats 2000000
/-! l.index(x) of data, o[i] += e, against the layer -/
namespace Sm
open PySem PySem.Spec PyProof.Rows L2 Mi
end Sm
set_option Elab.async false
set_option linter.all false
set_option maxRecDepth 100000
set_option maxHeartbeats 2000000
/-! calls with keywords, against the layer -/
namespace Sm
open PySem PySem.Spec PyProof.Rows L2 Mi
variable [Tbs]
section
variable {X : Cx} {E : XK} {kpos : Pos} {e : Expr} {fa : EM} {nm : Option Str}
theorem PK.mono {kws : List Keyword} {t t' : TA} (h : PK X kws t) (f : ∀ σ H Q, t' σ H Q → t σ H Q) : PK X kws t' := ⟨fun pos pins s σ H Q I q => h.run pos pins s σ H Q I (f σ H Q q)⟩
end
end Sm
set_option Elab.async false
set_option linter.all false
set_option maxRecDepth 100000
set_option maxHeartbeats 2000000
/-! displays, slices and sums of tuples known as they stand, against the layer -/
namespace Sm
open PySem PySem.Spec PyProof.Rows L2 Mi
end Sm
set_option Elab.async false
set_option linter.all false
set_option maxRecDepth 100000
set_option maxHeartbeats 2000000
/-! instances of own classes, against the layer -/
namespace Sm
open PySem PySem.Spec PyProof.Rows L2 Mi
variable [Tbs]
section
variable {c : Ct} {m : List Addr} {S : Store} {H : Hp} {E : XK}
theorem RelK.len {K : PySem.W.Frag} {κ κ' : Type} {g : κ → κ'} : ∀ {l : List (κ × D)} {fs : List (κ' × V)}, RelK K H m g l fs → l.length = fs.length
  | _, _, .nil => rfl
  | _ :: _, _ :: _, .cons _ t => congrArg Nat.succ (RelK.len t)
end
end Sm
set_option Elab.async false
set_option linter.all false
set_option maxRecDepth 100000
set_option maxHeartbeats 2000000
/-! C() without arguments, s.isalpha(), against the layer -/
namespace Sm
open PySem PySem.Spec PyProof.Rows L2 Mi
end Sm
set_option Elab.async false
set_option linter.all false
set_option maxRecDepth 100000
set_option maxHeartbeats 2000000
/-! list(d.values()), against the layer -/
namespace Sm
open PySem PySem.Spec PyProof.Rows L2 Mi
end Sm
set_option Elab.async false
set_option linter.all false
set_option maxRecDepth 100000
set_option maxHeartbeats 2000000
/-! == of tuples whose items are equal: texts, numbers, lists, dicts -/
namespace Sm
open PySem PySem.Spec PyProof.Rows L2 Mi
open PySem.AutoSeq1 (wpAny_loadPart')
open PySem.SeqAt
end Sm
set_option Elab.async false
set_option linter.all false
set_option maxRecDepth 100000
set_option maxHeartbeats 4000000
/-! len(set(l)); sorted of pairs of numbers -/
namespace Sm
open PySem PySem.Spec PyProof.Rows L2 Mi
/-! ### one sorted list -/
end Sm
set_option Elab.async false
set_option linter.all false
set_option maxRecDepth 100000
set_option maxHeartbeats 4000000
/-! list(range(..)) -/
namespace Sm
open PySem PySem.Spec PyProof.Rows L2 Mi
end Sm
set_option Elab.async false
set_option linter.all false
set_option maxRecDepth 100000
set_option maxHeartbeats 4000000
/-! a caught exception kept as a value behind the suite: its class asked, its fields read -/
namespace Sm
open PySem PySem.Spec PyProof.Rows L2 Mi
/-! ### an object that stands is tracked -/
/-! ### try: body / except x as n: suite, the exception tracked behind it -/
end Sm
set_option Elab.async false
set_option linter.all false
set_option maxRecDepth 100000
set_option maxHeartbeats 4000000
/-! the steps with an exception as a value -/
namespace Sm
open PySem PySem.Spec PyProof.Rows L2 Mi
end Sm
set_option Elab.async false
set_option linter.all false
set_option maxRecDepth 100000
set_option maxHeartbeats 4000000
/-! which classes are caught and asked for; calls of what may raise, from where nothing is raised; a tuple in a try's body -/
namespace Sm
open PySem PySem.Spec PyProof.Rows L2 Mi
end Sm
set_option Elab.async false
set_option linter.all false
set_option maxRecDepth 100000
set_option maxHeartbeats 4000000
/-! list(reversed(l)) -/
namespace Sm
open PySem PySem.Spec PySem.Calls PyProof.Rows L2 Mi RT
/-! ### isinstance of the exception that the suite holds -/
/-! ### what isinstance answers, by the classes' own lines -/
end Sm
set_option Elab.async false
set_option linter.all false
set_option maxRecDepth 100000
set_option maxHeartbeats 4000000
/-! x is True -/
namespace Sm
open PySem PySem.Spec PyProof.Rows L2 Mi
end Sm
set_option Elab.async false
set_option linter.all false
set_option maxRecDepth 100000
set_option maxHeartbeats 2000000
/-! s.strip(c) against the layer -/
namespace Sm
open PySem PySem.Spec PyProof.Rows L2 Mi
end Sm
set_option Elab.async false
set_option linter.all false
set_option maxRecDepth 100000
set_option maxHeartbeats 2000000
/-! dicts with nested tuple keys against the layer -/
namespace Sm
open PySem PySem.Spec PyProof.Rows L2 Mi
end Sm
set_option Elab.async false
set_option linter.all false
set_option maxRecDepth 100000
set_option maxHeartbeats 2000000
/-! walks over the keys of a dict with nested tuple keys -/
namespace Sm
open PySem PySem.Spec PyProof.Rows L2 Mi
end Sm
set_option Elab.async false
set_option linter.all false
set_option maxRecDepth 100000
set_option maxHeartbeats 2000000
/-! len(set(l)) and l.count(t) of texts, against the layer -/
namespace Sm
open PySem PySem.Spec PyProof.Rows L2 Mi
variable [Tbs]
theorem sOf_injT {a b : Tx} (h : sOf a = sOf b) : a = b := by
  have h1 : (sOf a).cps.toList = (sOf b).cps.toList := by rw [h]
  exact h1
theorem sOf_beqT (a b : Tx) : (sOf a == sOf b) = (a == b) := by
  by_cases h : a = b
  · subst h
    rw [beq_self_eq_true, beq_self_eq_true]
  · rw [beq_eq_false_iff_ne.mpr h, beq_eq_false_iff_ne.mpr fun z => h (sOf_injT z)]
theorem any_map (l : List Tx) (x : Tx) : (l.map sOf).any (· == sOf x) = l.any (· == x) := by
  rw [List.any_map]
  congr 1
  funext y
  exact sOf_beqT y x
end Sm
set_option Elab.async false
set_option linter.all false
set_option maxRecDepth 100000
set_option maxHeartbeats 2000000
/-! min(l, key=lambda x: ..) -/
namespace Sm
open PySem PySem.Spec PyProof.Rows L2 Mi LamX
variable [Tbs]
/-- the lambda's names: its own one, and one of the def around it -/
structure LmS (sc scope : Scope) (m g : Str) : Prop where
  kind : scope.kind = .function
  co : scope.isCoroutine = false
  gen : scope.isGenerator = false
  nm : scope.names = [(m, .local), (g, .free)]
  ne : m ≠ g
  out : sc.names.lookup g = some .cell
abbrev lmEnv (X : Cx) (scope : Scope) (L f c' : Addr) : Env := LamX.lamEnv X scope L f c'
/-- the context of its body -/
def lmCx (X : Cx) (A : Around) (s : Shared) (H : Hp) (scope : Scope) (f c' : Addr) (m g : Str) : Cx :=
  { LamX.lamCx X A X.stack s H (fun _ _ _ => False) scope f c' with N := [m, g], xe := fun _ _ => False }
abbrev lmObj (X : Cx) (params : Arguments) (body : Expr) (scope : Scope) (pm : Value) (c' : Addr) (ctv : Value) : Obj :=
  PySem.W.kla_obj "<lambda>" (X.env.qual ++ "<lambda>") params body scope (cloFrom X.env.cells scope.names []) pm c' ctv
section
variable {X : Cx} {pins : List (Addr × Obj)} {σ : L2.St} {H : Hp} {s : Shared} {A : Around} {scope : Scope} {f c' : Addr} {m g : Str}
theorem LmS.frees (L : LmS X.env.scope scope m g) (ok : X.Ok) : ∀ y ∈ scope.names, y.2 = .free → ∃ c, X.env.cells.lookup y.1 = some c := fun y hy e => by
  rw [L.nm] at hy
  rcases List.mem_cons.mp hy with z | z
  · rw [z] at e; cases e
  · rw [List.mem_singleton.mp z]
    exact ok.has g (.inl L.out)
theorem lm_start {h₁ : Heap} {tk : Nat} {um : Value} {vm vF : V} {iF : Nat} (I : Inv X pins σ H s) (L : LmS X.env.scope scope m g) (hA : A.frames = some X.stack) (hd : A.handled = none)
    (hns : h₁.Ns s.heap.objs.size fun y => ([(m, um)] : List (Str × Value)).reverse.lookup y) (kp : ∀ b o, s.heap.get? b = some o → h₁.get? b = some o)
    (hN : X.N[iF]? = some g) (hσ : σ[iF]? = some (some vF)) (rm : RelV vm um) :
    Inv (lmCx X A s H scope f c' m g) [] [some vm, some vF] H { s with heap := h₁, toks := tk } := by
  have e0 := I.env0
  obtain ⟨cc, hcc⟩ := I.ok.has g (.inl L.out)
  have hm : scope.names.lookup m = some .local := by rw [L.nm]; simp
  have hg : scope.names.lookup g = some .free := by
    rw [L.nm, List.lookup_cons]
    have : (g == m) = false := beq_eq_false_iff_ne.mpr (Ne.symm L.ne)
    rw [this]
    simp
  have onlyg : ∀ {y c}, (cloFrom X.env.cells scope.names []).lookup y = some c → y = g ∧ c = cc := fun {y c} e => by
    rcases cloFrom_mem (PySem.mem_of_lookup e) with hm | ⟨h1, h2⟩
    · cases hm
    · rw [L.nm] at h1
      rcases List.mem_cons.mp h1 with z | z
      · cases z
      · have := List.mem_singleton.mp z
        have ey : y = g := congrArg Prod.fst this
        subst ey
        refine ⟨rfl, ?_⟩
        rw [h2, hcc] <;> rfl
  have hasg : ∃ c, (cloFrom X.env.cells scope.names []).lookup g = some c := mem_lookup (cloFrom_has (cells := X.env.cells) (acc := []) (by rw [L.nm]; simp))
  have cellK : ∀ {c : Addr} {v : Option Value}, s.heap.IsCell c v → h₁.IsCell c v := fun ⟨o, ho, hd⟩ => ⟨o, kp _ _ ho, hd⟩
  have none_ex : ∀ b : Addr, b ∉ (lmCx X A s H scope f c' m g).ex := fun b z => by
    have z : b ∈ ([] : List Addr) := z
    cases z
  refine ⟨⟨I.ok.mod, L.kind, rfl, rfl, Nat.le_refl _, fun x y z e1 e2 => ?_, fun y hy => ?_, fun y c z _ => ?_, fun _ => hd, Around.frames_deeper hA, .inr ⟨rfl, rfl⟩, fun b z => absurd z (none_ex b), e0.bs, e0.bsz, fun b _ _ => none_ex b, fun b z => absurd z (none_ex b), e0.funs, e0.frf⟩,
    rfl, e0.bare, Un.kept kp, ⟨_, hns, fun i y v e1 e2 e3 => ?_⟩, fun y c e => ?_, e0.hok.fresh (Nat.le_refl _), fun y c e => ?_, fun q hq => ?_, e0.hok.kept kp, rfl⟩
  · rw [(onlyg e1).1, (onlyg e2).1]
  · have hy : scope.names.lookup y = some .cell ∨ scope.names.lookup y = some .free := hy
    have key : y = g := by
      rw [L.nm, List.lookup_cons] at hy
      split at hy
      · rcases hy with hy | hy <;> cases hy
      · rw [List.lookup_cons] at hy
        split at hy
        · rename_i z
          exact eq_of_beq z
        · rcases hy with hy | hy <;> cases hy
    rw [key]
    exact hasg
  · have z : false = true := z
    cases z
  · have two : (i = 0 ∧ y = m ∧ v = vm) ∨ (i = 1 ∧ y = g ∧ v = vF) := by
      match i with
      | 0 => exact .inl ⟨rfl, (Option.some.inj e1).symm, (Option.some.inj (Option.some.inj e2)).symm⟩
      | 1 => exact .inr ⟨rfl, (Option.some.inj e1).symm, (Option.some.inj (Option.some.inj e2)).symm⟩
      | i + 2 => cases e1
    rcases two with ⟨_, ey, ev⟩ | ⟨_, ey, ev⟩
    · subst ey ev
      exact ⟨um, rm, .inl ⟨hm, by simp⟩⟩
    · subst ey ev
      obtain ⟨m0, hn, hl⟩ := I.loc
      obtain ⟨u, r, q⟩ := hl iF y v hN hσ (.inr (.inl L.out))
      obtain ⟨c2, h2⟩ := hasg
      refine ⟨u, r, .inr ⟨.inr hg, c2, h2, ?_⟩⟩
      rcases q with ⟨k, _⟩ | ⟨_, c3, e4, z⟩
      · have k : X.env.scope.names.lookup y = some .local := k
        rw [L.out] at k
        cases k
      · rw [hcc] at e4
        cases e4
        rw [(onlyg h2).2]
        exact cellK z
  · obtain ⟨w', z⟩ := I.cell g cc hcc
    rw [(onlyg e).2]
    exact ⟨w', cellK z⟩
  · rw [(onlyg e).2]
    exact I.freeC g cc hcc
  · have hq : q ∈ ([] : List (Addr × Obj)) ++ [] := hq
    cases hq
/-- the lambda called -/
theorem lm_call {params : Arguments} {body : Expr} {pm ctv um : Value} {vm vF : V} {iF : Nat} {tb : TE} {Q : VK} (I : Inv X pins σ H s) (L : LmS X.env.scope scope m g) (hA : A.frames = some X.stack) (hd : A.handled = none) (hdep : A.depth < recursionLimit)
    (hf : s.heap.get? f = some (lmObj X params body scope pm c' ctv)) (hc : H c' = some (CodeO c' (X.env.qual ++ "<lambda>")))
    (hbind : ∀ (q : Str) (cl : List (Str × Addr)) (pm cv ctv u : Value), bindArgs (PySem.W.kla_fn "<lambda>" q params body scope cl pm cv ctv) ⟨[u], []⟩ = pure [(m, u)])
    (hN : X.N[iF]? = some g) (hσ : σ[iF]? = some (some vF)) (rm : RelV vm um) (hbody : PE (lmCx X A s H scope f c' m g) body tb) (hq : tb [some vm, some vF] H Q) :
    wpAny (model X.prog X.w) A (call (.ref f) [um]) (fun u s' => CE X.stack X.prog X.w H s Q u s') (fun _ _ => False) s := by
  refine wpAny_call (PySem.W.kla_callFunE hdep hf rfl L.co L.gen rfl (NdefX.codeO_at I.hok hc) ?_)
  rw [hbind]
  have ncell : ∀ y ∈ scope.names, y.2 ≠ .cell := fun y hy z => by
    rw [L.nm] at hy
    rcases List.mem_cons.mp hy with e | e
    · rw [e] at z; cases z
    · rw [List.mem_singleton.mp e] at z; cases z
  have mloc : ∀ y ∈ ([(m, um)] : List (Str × Value)), scope.names.lookup y.1 = some .local := fun y hy => by
    rw [List.mem_singleton.mp hy, L.nm]
    simp
  refine wpAny_pure (wpAny_newFunctionEnv ncell mloc (fun h₁ hns hsb => ⟨I.nolimit.fresh _ hsb, ?_⟩) L.kind)
  show codeAny _ _ (.expr body (lmEnv X scope s.heap.objs.size f c')) _ _
  have kp : ∀ b o, s.heap.get? b = some o → h₁.get? b = some o := fun b o e => hsb.extBut b o (Nat.ne_of_lt (Heap.lt_size e)) (Heap.get?_push_of_some _ e)
  have J : Inv (lmCx X A s H scope f c' m g) [] [some vm, some vF] H { s with heap := h₁, toks := s.toks + ([(m, um)] : List (Str × Value)).length } := lm_start I L hA hd hns kp hN hσ rm
  refine PySem.W.kla_codeExpr (wpAny_mono (hbody.run [] _ _ H Q J hq) (fun v s' hq => ?_) fun e s' hq => (show False from hq).elim)
  obtain ⟨w', H', J', rv, q⟩ := hq
  exact ⟨w', H', J'.os, J'.bare, J'.base, J'.hok, rv, q⟩
/-! ### the loop of min -/
variable {l S It : Addr} {ns : List Int} {all : List (Int × Int)} {of : Obj} {R : Result → Shared → Prop}
/-- what the key's call gives -/
def KeyC (X : Cx) (pins : List (Addr × Obj)) (σ : L2.St) (H : Hp) (f : Addr) (of : Obj) (all : List (Int × Int)) : Prop :=
  ∀ (n k : Int) (t : Tok) (s1 : Shared), (n, k) ∈ all → Inv X pins σ H s1 → s1.heap.get? f = some of →
    wpAny (model X.prog X.w) X.A.in1 (call (.ref f) [.int n t]) (fun x s2 => ∃ t2, x = .int k t2 ∧ Inv X pins σ H s2 ∧ ∀ b o, s1.heap.get? b = some o → H b = none → b ∉ frs X.stack → s2.heap.get? b = some o) (fun _ _ => False) s1
theorem min_end {M : Int} (hh : X.A.handled = none) (fS : FpOk X pins H S) (fI : FpOk X pins H It) (hSI : S ≠ It) (hl : H l = some (.lst (ns.map V.int))) (hR : ∀ t s', Inv X pins σ H s' → R (.ok (.ret (.int M t))) s')
    (kb : Int) (tn tb : Tok) (c : Nat) (I : Inv X pins σ H s) (hS : s.heap.get? S = some (seqObj "list" #[.int M tn, .int kb tb] c)) (hit : s.heap.IsListIter It l ns.length) :
    codeAny (model X.prog X.w) X.A (.builtin "min.loop" ⟨[.ref It, .ref f, .ref S], []⟩) R s := by
  have hlI : l ≠ It := fun z => by rw [z, fI.1] at hl; cases hl
  obtain ⟨its, rv, pl, _⟩ := I.list (.inl (.inl hl))
  have hsz : its.toArray.size = ns.length := by rw [List.size_toArray, ← rv.length, List.length_map]
  have W := Walks.list (prog := X.prog) (w := X.w) (A := X.A.in1) hh It l hlI its.toArray
  refine codeAny_builtin PySem.F.entry_min_loop ?_
  rw [Around.under_plainId PySem.F.plain_min_loop _]
  show wpAny _ X.A.in1 (seqItems? (.ref S) >>= _) _ _ _
  refine wpAny_bind (wpAny_seqItems hS rfl ?_)
  show wpAny _ X.A.in1 (tryCatch (pyNext (.ref It)) _ >>= _) _ _ _
  refine wpAny_bind (wpAny_tryCatch (W.done _ _ _ ⟨by rw [hsz]; exact hit, pl.isList⟩ fun h' tk' hk' => ?_))
  have hS2 := hk' S _ (by simpa using hSI) hS
  have I1 : Inv X pins σ H { s with heap := h', toks := tk' } := I.turnedL (ch := [It]) hk' fun b hb => by rw [List.mem_singleton.mp hb]; exact fI
  show wpAny _ X.A.in1 (updateSeq S (fun _ => #[]) >>= _) _ _ _
  refine wpAny_bind ?_
  refine wpAny_updateSeq hS2 rfl (wpAny_bind (wpAny_letGo (wpAny_pure ?_)))
  have sb := Heap.SameBut.update h' S (Obj.mapSeq fun _ => (#[] : Array Value))
  exact hR tn _ (I1.turnedL (ch := [S]) (fun b o hb e => (sb.2 b (by simpa using hb)).trans e) fun b hb => by rw [List.mem_singleton.mp hb]; exact fS)
theorem min_loop {M : Int} (hh : X.A.handled = none) (fS : FpOk X pins H S) (fI : FpOk X pins H It) (sS : S ∉ frs X.stack) (sI : It ∉ frs X.stack) (hSI : S ≠ It) (hfS : f ≠ S) (hfI : f ≠ It) (fF : H f = none) (sF : f ∉ frs X.stack) (hl : H l = some (.lst (ns.map V.int))) (turn : KeyC X pins σ H f of all)
    (hR : ∀ t s', Inv X pins σ H s' → R (.ok (.ret (.int M t))) s') :
    ∀ (rest : List (Int × Int)) (j : Nat) (s : Shared) (nb kb : Int) (tn tb : Tok) (c : Nat), ns.drop j = rest.map Prod.fst → j ≤ ns.length → (∀ p ∈ rest, p ∈ all) → pickM nb kb rest = M → Inv X pins σ H s →
      s.heap.get? S = some (seqObj "list" #[.int nb tn, .int kb tb] c) → s.heap.IsListIter It l j → s.heap.get? f = some of →
      codeAny (model X.prog X.w) X.A (.builtin "min.loop" ⟨[.ref It, .ref f, .ref S], []⟩) R s := by
  have hlI : l ≠ It := fun z => by rw [z, fI.1] at hl; cases hl
  have nameE : (toString "min" ++ toString ".loop" : String) = "min.loop" := by decide
  intro rest
  induction rest with
  | nil =>
    intro j s nb kb tn tb c hd hj _ hp I hS hit hf
    have : j = ns.length := by
      have e := congrArg List.length hd
      rw [List.length_drop] at e
      have e : ns.length - j = 0 := e
      omega
    subst this
    have hp : nb = M := hp
    subst hp
    exact min_end hh fS fI hSI hl hR kb tn tb c I hS hit
  | cons p rest ih =>
    intro j s nb kb tn tb c hd hj hall hp I hS hit hf
    obtain ⟨n, k⟩ := p
    have hlt : j < ns.length := by
      rcases Nat.lt_or_ge j ns.length with z | z
      · exact z
      · rw [List.drop_eq_nil_of_le z] at hd; cases hd
    have hcons := List.drop_eq_getElem_cons hlt
    rw [hd] at hcons
    have hn : ns[j] = n := (List.cons.inj hcons).1.symm
    have hdr : ns.drop (j + 1) = rest.map Prod.fst := (List.cons.inj hcons).2.symm
    obtain ⟨its, rv, pl, _⟩ := I.list (.inl (.inl hl))
    have hsz : its.toArray.size = ns.length := by rw [List.size_toArray, ← rv.length, List.length_map]
    obtain ⟨u, hu, ru⟩ := rv.get (i := j) (x := .int n) (by rw [List.getElem?_map, List.getElem?_eq_getElem hlt, hn]; rfl)
    obtain ⟨tu, rfl⟩ : ∃ t, u = .int n t := ru
    have W := Walks.list (prog := X.prog) (w := X.w) (A := X.A.in1) hh It l hlI its.toArray
    refine codeAny_builtin PySem.F.entry_min_loop ?_
    rw [Around.under_plainId PySem.F.plain_min_loop _]
    show wpAny _ X.A.in1 (seqItems? (.ref S) >>= _) _ _ _
    refine wpAny_bind (wpAny_seqItems hS rfl ?_)
    show wpAny _ X.A.in1 (tryCatch (pyNext (.ref It)) _ >>= _) _ _ _
    refine wpAny_bind (wpAny_tryCatch (W.item j _ _ _ (by rw [hsz]; exact hlt) ⟨hit, pl.isList⟩ fun v h1 tk1 hP hst hk1 => ?_))
    have hv : its[j]? = some v := by simpa using hP
    rw [hu] at hv
    obtain rfl := Option.some.inj hv
    have I1 : Inv X pins σ H { s with heap := h1, toks := tk1 } := I.turnedL (ch := [It]) hk1 fun b hb => by rw [List.mem_singleton.mp hb]; exact fI
    have hS1 := hk1 S _ (by simpa using hSI) hS
    have hf1 := hk1 f _ (by simpa using hfI) hf
    show wpAny _ X.A.in1 (tryCatch (holding [.int n tu] (call (.ref f) [.int n tu])) _ >>= _) _ _ _
    refine wpAny_bind (wpAny_tryCatch (wpAny_holding (wpAny_mono (turn n k tu _ (hall _ List.mem_cons_self) I1 hf1) (fun x s2 he => ?_) fun _ _ hF => hF.elim)))
    obtain ⟨t2, rfl, I2, kp⟩ := he
    have hS2 := kp S _ hS1 fS.1 sS
    have hf2 := kp f _ hf1 fF sF
    obtain ⟨oI, hoI, hoc, hod⟩ := hst.1
    have hI2 := kp It _ hoI fI.1 sI
    have hit2 : s2.heap.IsListIter It l (j + 1) := ⟨oI, hI2, hoc, hod⟩
    show wpAny _ X.A.in1 (tryCatch (holding [.int n tu, .int k t2] (richCompare .Lt (.int k t2) (.int kb tb) >>= _)) _ >>= _) _ _ _
    refine wpAny_bind (wpAny_tryCatch (wpAny_holding (wpAny_bind (CmpOf.ints_lt (prog := X.prog) (w := X.w) (A := X.A.in1) (P := fun i v => ∃ t, v = .int ([k, kb].getD i 0) t) (fun i => [k, kb].getD i 0) (fun i v h => h) 0 1 _ _ _ _ _ ⟨t2, rfl⟩ ⟨tb, rfl⟩ ?_))))
    refine wpAny_bind (wpAny_holding (wpAny_truthy_bool ?_))
    refine wpAny_bind (wpAny_letGo (wpAny_pure ?_))
    have hp' : (if k < kb then pickM n k rest else pickM nb kb rest) = M := hp
    by_cases hb : k < kb
    · rw [if_pos hb] at hp'
      have sb := Heap.SameBut.update s2.heap S (Obj.mapSeq fun _ => #[.int n tu, .int k t2])
      obtain ⟨c2, hc2⟩ : ∃ c2, (s2.heap.update S (Obj.mapSeq fun _ => #[.int n tu, .int k t2])).get? S = some (seqObj "list" #[.int n tu, .int k t2] c2) := ⟨_, get?_update_seq hS2 fun _ => #[.int n tu, .int k t2]⟩
      have hb' : decide (([k, kb].getD 0 0 : Int) < [k, kb].getD 1 0) = true := decide_eq_true hb
      simp only [hb', if_true]
      refine wpAny_bind ?_
      refine wpAny_updateSeq hS2 rfl (wpAny_bind (wpAny_letGo ?_))
      rw [nameE]
      refine wpAny_pure ⟨plainId_quiet PySem.F.plain_min_loop _, ih (j + 1) _ n k tu t2 c2 hdr hlt (fun q hq => hall q (List.mem_cons_of_mem _ hq)) hp' (I2.turnedL (ch := [S]) (fun b o hb e => (sb.2 b (by simpa using hb)).trans e) fun b hb => by rw [List.mem_singleton.mp hb]; exact fS) hc2 ⟨oI, (sb.2 It (Ne.symm hSI)).trans hI2, hoc, hod⟩ ((sb.2 f hfS).trans hf2)⟩
    · rw [if_neg hb] at hp'
      have hb' : decide (([k, kb].getD 0 0 : Int) < [k, kb].getD 1 0) = false := decide_eq_false hb
      simp only [hb', Bool.false_eq_true, if_false]
      refine wpAny_bind (wpAny_letGo ?_)
      rw [nameE]
      exact wpAny_pure ⟨plainId_quiet PySem.F.plain_min_loop _, ih (j + 1) _ nb kb tn tb c hdr hlt (fun q hq => hall q (List.mem_cons_of_mem _ hq)) hp' I2 hS2 hit2 hf2⟩
/-- min(l, key=f) -/
theorem min_call {n0 k0 : Int} {rest : List (Int × Int)} {Q : VK} {E : Value → Shared → Prop} (hh : X.A.handled = none) (I : Inv X pins σ H s) (fF : H f = none) (sF : f ∉ frs X.stack) (hl : H l = some (.lst ((n0 :: rest.map Prod.fst).map V.int))) (hf : s.heap.get? f = some of) (turn : KeyC X pins σ H f of ((n0, k0) :: rest))
    (hQ : Q (.int (pickM n0 k0 rest)) H) : wpAny (model X.prog X.w) X.A (call (.builtin "min") [.ref l] [(Str.ofString "key", .ref f)]) (EP X pins σ Q) E s := by
  have nameE : (toString "min" ++ toString ".loop" : String) = "min.loop" := by decide
  obtain ⟨its0, rv0, pl0, _⟩ := I.list (.inl (.inl hl))
  refine kmk_tree PySem.F.kind_min PySem.F.plain_min PySem.F.entry_min (kmk_min_key _ _) ?_
  show wpAny _ X.A.in1 (Builtin.Builtins.bindParams "min" ["key", "default"] 0 ⟨[], [(Str.ofString "key", .ref f)]⟩ >>= _) _ _ s
  refine wpAny_bind (wpAny_of_eq (show Builtin.Builtins.bindParams "min" ["key", "default"] 0 ⟨[], [(Str.ofString "key", .ref f)]⟩ = pure [some (.ref f), none] from rfl) ?_)
  refine wpAny_bind (wpAny_pure ?_)
  refine wpAny_bind (wpAny_pyIter_list pl0.isList ?_)
  refine wpAny_bind (wpAny_newList ?_ (Nat.zero_le _))
  rw [nameE]
  obtain ⟨iO, hiO⟩ : ∃ o : Obj, o = { cls := .type "list_iterator", data := .fields #[.ref l, .int 0 0] } := ⟨_, rfl⟩
  rw [← hiO]
  have szS : (s.heap.push iO).objs.size = s.heap.objs.size + 1 := size_push' ..
  have fI : FpOk X pins H s.heap.objs.size := I.fpOk (Nat.le_refl _) (I.hok.fresh (Nat.le_refl _))
  have fS : FpOk X pins H (s.heap.push iO).objs.size := I.fpOk (by rw [szS]; omega) (I.hok.fresh (by rw [szS]; omega))
  have sI : s.heap.objs.size ∉ frs X.stack := fun z => by
    rcases List.mem_cons.mp (I.stkSub _ z) with e | e
    · exact fI.2.1 e
    · exact I.nofs (Nat.le_refl _) e
  have sS : (s.heap.push iO).objs.size ∉ frs X.stack := fun z => by
    rcases List.mem_cons.mp (I.stkSub _ z) with e | e
    · exact fS.2.1 e
    · exact I.nofs (by rw [szS]; omega) e
  have hSI : (s.heap.push iO).objs.size ≠ s.heap.objs.size := by rw [szS]; omega
  have flt := Heap.lt_size hf
  have hfI : f ≠ s.heap.objs.size := Nat.ne_of_lt flt
  have hfS : f ≠ (s.heap.push iO).objs.size := by rw [szS]; exact Nat.ne_of_lt (Nat.lt_succ_of_lt flt)
  have hlI : l ≠ s.heap.objs.size := fun z => by rw [z, fI.1] at hl; cases hl
  have gI : ((s.heap.push iO).push (seqObj "list" #[] 0)).get? s.heap.objs.size = some iO := Heap.get?_push_of_some _ (Heap.get?_push_size _ (by rw [hiO]; rfl))
  have gS : ((s.heap.push iO).push (seqObj "list" #[] 0)).get? (s.heap.push iO).objs.size = some (seqObj "list" #[] 0) := Heap.get?_push_size _ rfl
  have kp0 : ∀ b o, s.heap.get? b = some o → ((s.heap.push iO).push (seqObj "list" #[] 0)).get? b = some o := fun b o e => Heap.get?_push_of_some _ (Heap.get?_push_of_some _ e)
  have I0 : ∀ tk, Inv X pins σ H { s with heap := (s.heap.push iO).push (seqObj "list" #[] 0), toks := tk } := fun tk => I.kept kp0
  have hR : ∀ t s', Inv X pins σ H s' → EP X pins σ Q (.int (pickM n0 k0 rest) t) s' := fun t s' J => ⟨.int (pickM n0 k0 rest), H, J, ⟨t, rfl⟩, hQ⟩
  refine wpAny_pure ⟨plainId_quiet PySem.F.plain_min_loop _, ?_⟩
  obtain ⟨its, rv, pl, _⟩ := (I0 0).list (.inl (.inl hl))
  obtain ⟨u, hu, ru⟩ := rv.get (i := 0) (x := .int n0) rfl
  obtain ⟨tu, rfl⟩ : ∃ t, u = .int n0 t := ru
  have pos : 0 < its.toArray.size := by
    have := (List.getElem?_eq_some_iff.mp hu).1
    rw [List.size_toArray]; exact this
  have W := Walks.list (prog := X.prog) (w := X.w) (A := X.A.in1) hh s.heap.objs.size l hlI its.toArray
  refine codeAny_builtin PySem.F.entry_min_loop ?_
  rw [Around.under_plainId PySem.F.plain_min_loop _]
  show wpAny _ X.A.in1 (seqItems? (.ref _) >>= _) _ _ _
  refine wpAny_bind (wpAny_seqItems gS rfl ?_)
  show wpAny _ X.A.in1 (tryCatch (pyNext (.ref s.heap.objs.size)) _ >>= _) _ _ _
  refine wpAny_bind (wpAny_tryCatch (W.item 0 _ _ _ pos ⟨⟨_, gI, by rw [hiO], by rw [hiO]; rfl⟩, pl.isList⟩ fun v h1 tk1 hP hst hk1 => ?_))
  have hv : its[0]? = some v := by simpa using hP
  rw [hu] at hv
  obtain rfl := Option.some.inj hv
  have I1 : Inv X pins σ H { s with heap := h1, toks := tk1 } := Inv.turnedL (s := { s with heap := (s.heap.push iO).push (seqObj "list" #[] 0), toks := 0 }) (h' := h1) (t' := tk1) (ch := [s.heap.objs.size]) (I0 0) hk1 fun b hb => by rw [List.mem_singleton.mp hb]; exact fI
  have hS1 := hk1 _ _ (by simpa using hSI) gS
  have hf1 := hk1 f _ (by simpa using hfI) (kp0 f _ hf)
  show wpAny _ X.A.in1 (tryCatch (holding [.int n0 tu] (call (.ref f) [.int n0 tu])) _ >>= _) _ _ _
  refine wpAny_bind (wpAny_tryCatch (wpAny_holding (wpAny_mono (turn n0 k0 tu _ List.mem_cons_self I1 hf1) (fun x s2 he => ?_) fun _ _ hF => hF.elim)))
  obtain ⟨t2, rfl, I2, kp⟩ := he
  have hS2 := kp _ _ hS1 fS.1 sS
  have hf2 := kp f _ hf1 fF sF
  obtain ⟨oI, hoI, hoc, hod⟩ := hst.1
  have hI2 := kp _ _ hoI fI.1 sI
  have sb := Heap.SameBut.update s2.heap (s.heap.push iO).objs.size (Obj.mapSeq fun _ => #[.int n0 tu, .int k0 t2])
  obtain ⟨c2, hc2⟩ : ∃ c2, (s2.heap.update (s.heap.push iO).objs.size (Obj.mapSeq fun _ => #[.int n0 tu, .int k0 t2])).get? (s.heap.push iO).objs.size = some (seqObj "list" #[.int n0 tu, .int k0 t2] c2) := ⟨_, get?_update_seq hS2 fun _ => #[.int n0 tu, .int k0 t2]⟩
  show wpAny _ X.A.in1 (updateSeq (s.heap.push iO).objs.size (fun _ => #[.int n0 tu, .int k0 t2]) >>= _) _ _ _
  refine wpAny_bind ?_
  refine wpAny_updateSeq hS2 rfl ?_
  rw [nameE]
  refine wpAny_pure ⟨plainId_quiet PySem.F.plain_min_loop _, min_loop (ns := n0 :: rest.map Prod.fst) (M := pickM n0 k0 rest) (all := (n0, k0) :: rest) hh fS fI sS sI hSI hfS hfI fF sF hl turn hR rest 1 _ n0 k0 tu t2 c2 rfl (by simp) (fun p hp => List.mem_cons_of_mem _ hp) rfl (I2.turnedL (ch := [(s.heap.push iO).objs.size]) (fun b o hb e => (sb.2 b (by simpa using hb)).trans e) fun b hb => by rw [List.mem_singleton.mp hb]; exact fS) hc2 ⟨oI, (sb.2 _ (Ne.symm hSI)).trans hI2, hoc, hod⟩ ((sb.2 f hfS).trans hf2)⟩
end
end Sm
set_option Elab.async false
set_option linter.all false
set_option maxRecDepth 100000
set_option maxHeartbeats 2000000
/-! min(l, key=lambda x: g[x]) in the small language -/
namespace Sm
open PySem PySem.Spec PyProof.Rows L2 Mi LamX
variable [Tbs]
theorem RS.extN {c : Ct} {m : List Addr} {S : Store} {H H' : Hp} (r : RS c m S H) (e : ExtN H H') (t : Tabs (Tbs.T c.K) H') : RS c m S H' ∧ Ext m H m H' := by
  have ts : TStay H H' := fun a u tu q => e a u q fun ps z => by
    subst z
    rcases tu with ⟨xs, h⟩ | ⟨o, xs, h⟩ | ⟨fs, h⟩ <;> cases h
  have ex : Ext m H m H' := ⟨⟨fun _ _ z => z, ts⟩, fun a o u q => e a _ q fun ps z => by cases z⟩
  refine ⟨⟨r.len, fun n a o q1 q2 => ?_, r.inj, t⟩, ex⟩
  have k := r.ob n a o q1 q2
  exact k.mono ex (fun lv u q => e a u q fun ps z => (k.ntb lv).1 ps (by rw [q, z])) fun ob u q => ex.fz a ob u q
theorem intsM_rel {K : PySem.W.Frag} {H : Hp} {m : List Addr} : ∀ {l : List D} {xs : List V} {is : List Int}, RelL K H m l xs → intsM l = some is → xs = is.map V.int
  | _, _, _, .nil, e => by cases e; rfl
  | .int i :: l, _ :: xs, is, .cons (.int _) t, e => by
    have e : (intsM l).map (i :: ·) = some is := e
    obtain ⟨q, h1, h2⟩ := Option.map_eq_some_iff.mp e
    rw [← h2, intsM_rel t h1]; rfl
  | _, _, _, .cons .non _, e => by cases e
  | _, _, _, .cons (.bl _) _, e => by cases e
  | _, _, _, .cons (.str _) _, e => by cases e
  | _, _, _, .cons (.tup _ _) _, e => by cases e
  | _, _, _, .cons (.wtp _ _) _, e => by cases e
  | _, _, _, .cons (.ref _) _, e => by cases e
theorem keys_at {ys : List D} : ∀ {ns ks : List Int}, keysM ys ns = some ks → ks.length = ns.length ∧ ∀ n k, (n, k) ∈ ns.zip ks → Mi.atI ys n = some (.int k)
  | [], ks, e => by
    have e : some ([] : List Int) = some ks := e
    obtain rfl := Option.some.inj e
    exact ⟨rfl, fun n k h => by cases h⟩
  | n :: r, ks, e => by
    unfold keysM at e
    split at e
    · rename_i k hk
      obtain ⟨q, h1, h2⟩ := Option.map_eq_some_iff.mp e
      obtain ⟨h3, h4⟩ := keys_at h1
      rw [← h2]
      refine ⟨by rw [List.length_cons, List.length_cons, h3], fun a b h => ?_⟩
      rcases List.mem_cons.mp h with z | z
      · obtain ⟨rfl, rfl⟩ := Prod.mk.inj z
        exact hk
      · exact h4 a b z
    · cases e
section
variable {X : Cx} {E : XK} {pos : Pos}
theorem se_minKey {el : Expr} {fa : EM} {j kr : Nat} {params : Arguments} {scope : Scope} {m g : Str} {c P : Addr} {p0 u1 u2 u3 lpos kpos : Pos} (ha : SE X E el fa) (hgl : Gl X "min") (hmg : X.mg "min" = none) (hv0 : bootBuiltins "min" = some (.builtin "min")) (L : LmS X.env.scope scope m g) (TB : TabB X.base X.mg c P) (hcode : X.env.code = .ref c)
    (hT : Tbs.T X.K = [(P, X.env.qual ++ "<lambda>")]) (hdef : defaultsOf params X.env = ([], []))
    (hbind : ∀ (body : Expr) (q : Str) (cl : List (Str × Addr)) (pm cv ctv u : Value), bindArgs (PySem.W.kla_fn "<lambda>" q params body scope cl pm cv ctv) ⟨[u], []⟩ = pure [(m, u)])
    (hN : X.N[j]? = some g) (hr : Room kr X.A) (hd1 : (m == ("__debug__" : Str)) = false := by decide) (hd2 : (g == ("__debug__" : Str)) = false := by decide) (hc1 : (m == ("__classdict__" : Str)) = false := by decide) (hc2 : (g == ("__classdict__" : Str)) = false := by decide)
    (hs1 : starEach [el] X.env = (false, eval el X.env) :: starEach [] X.env := by rfl) (hs2 : backTo pos (starEach [el] X.env) = (false, eval el X.env) :: backTo pos (starEach [] X.env) := by rfl) (hs3 : (backTo pos (starEach [el] X.env)).any (·.1) = false := by rfl) :
    SE X E (.Call (.Name "min" p0) [el] [⟨some "key", .Lambda params (.Subscript (.Name g u1) (.Name m u2) u3) scope lpos, kpos⟩] pos) (mMinKey fa j) := by
  refine ⟨fun pins s σ H Q I ⟨fr, S, m0, rf, rs, pp⟩ => ?_⟩
  refine wpAny_Call_Name_kw (ld_blt I hgl hmg hv0 ?_)
  refine PyProof.Rows.callWith_kw (thn ((pa_cons ha pa_nil hs1).run pos pins s σ H (fun vs H1 => ∃ v d S1 m1, vs = [v] ∧ RelD X.K H1 m1 d v ∧ RF X.K H1 m1 fr σ ∧ RS (cx X) m1 S1 H1 ∧ Post (cx X) E m1 H1 (minJ fr[j]? d S1) (kE (cx X) Q)) I
    (rd_bind rf rs pp fun d S1 m1 H1 e1 rf1 rs1 p1 v hv => ⟨v, d, S1, m1, rfl, hv, rf1, rs1, p1⟩)) fun us s1 ⟨vs, H1, I1, r1, q1⟩ => ?_) hs2 hs3 rfl rfl
  obtain ⟨v, d, S1, m1, rfl, hv, rf1, rs1, p1⟩ := q1
  show wpAny _ _ (evalAll [do let v ← eval (.Lambda params (.Subscript (.Name g u1) (.Name m u2) u3) scope lpos) X.env; standAt pos; pure v]) _ _ _
  refine wpAny_evalAll_cons (wpAny_bind (lam_make2 (T := Tbs.T X.K) I1 TB hcode (by rw [hT]; exact List.mem_singleton.mpr rfl) (fun q hq _ => by rw [hT] at hq; rw [List.mem_singleton.mp hq]) rs1.tb hdef (L.frees I.ok) fun f c' pm ctv H2 s2 I2 eN T2 hf hfn hfr hco => wpAny_bind (wpAny_standAt (wpAny_pure (wpAny_evalAll_nil ?_)))))
  obtain ⟨rs2, ex⟩ := rs1.extN eN T2
  have rf2 : RF X.K H2 m1 fr σ := RF.mono (c := cx X) ex rf1
  have hv2 := hv.mono ex
  have p2 := p1.ext ex
  unfold minJ at p2
  split at p2
  · rename_i y hy
    obtain ⟨vF, hσ, hvF⟩ := rf2.get j y hy
    unfold minK at p2
    split at p2
    · rename_i n q
      split at p2
      · rename_i l ys h1 h2
        obtain ⟨a, ha2⟩ := rs2.adr h1
        obtain ⟨b, hb2⟩ := rs2.adr h2
        cases hv2 with
        | ref k1 =>
          cases hvF with
          | ref k2 =>
            rw [ha2] at k1
            obtain rfl := Option.some.inj k1
            rw [hb2] at k2
            obtain rfl := Option.some.inj k2
            obtain ⟨xs, hx1, hx2⟩ := rs2.ob _ _ _ ha2 h1
            obtain ⟨zs, hz1, hz2⟩ := rs2.ob _ _ _ hb2 h2
            unfold minL at p2
            split at p2
            · rename_i i r hi
              split at p2
              · rename_i k ks hk
                obtain ⟨hlen, hat⟩ := keys_at hk
                have hlen : ks.length = r.length := by simpa using hlen
                have hxs := intsM_rel hx2 hi
                have hfst : (r.zip ks).map Prod.fst = r := List.map_fst_zip (by omega)
                rw [hxs] at hx1
                cases r1 with
                | cons ru rt =>
                  cases rt
                  cases ru
                  have hdep := hr.depth
                  refine min_call (n0 := i) (k0 := k) (rest := r.zip ks) (of := lmObj X params (.Subscript (.Name g u1) (.Name m u2) u3) scope pm c' ctv) hr.hd I2 hfn hfr (by rw [hfst]; exact hx1) hf (fun n0 k0 t s3 hm I3 hf3 => ?_) ?_
                  · have at_ := hat n0 k0 (by rw [List.zip_cons_cons]; exact hm)
                    obtain ⟨w, hw1, hw2⟩ := atI_rel hz2 at_
                    cases hw2
                    have J : PE (lmCx X X.A.in1 s3 H2 scope f c' m g) (.Subscript (.Name g u1) (.Name m u2) u3) (tOp (rIxL X.K) (tVar 1) (tVar 0)) :=
                      pe_ix ix_list (pe_var rfl (.inr (.inr (by show scope.names.lookup g = _; rw [L.nm, List.lookup_cons]; rw [beq_eq_false_iff_ne.mpr (Ne.symm L.ne)]; simp))) hd2 hc2) (pe_var rfl (.inl (by show scope.names.lookup m = _; rw [L.nm]; simp)) hd1 hc1) (fun _ _ => rfl)
                    refine wpAny_mono (lm_call (Q := fun v H' => v = .int k0 ∧ H' = H2) I3 L I3.ok.frames hr.hd (show X.A.in1.depth < recursionLimit from hr.depth) hf3 hco (fun q cl pm cv ctv u => hbind _ q cl pm cv ctv u) hN hσ (vm := .int n0) ⟨t, rfl⟩ J
                      ⟨_, rfl, _, rfl, _, _, _, _, rfl, rfl, .inl (.inl hz1), hw1, rfl, rfl⟩) (fun x s4 hce => ?_) fun _ _ z => z
                    obtain ⟨v4, H4, I4, rv4, ev, eH⟩ := I3.after hce
                    obtain ⟨_, _, _, _, un, _, _, _, eH'⟩ := hce
                    subst ev eH
                    obtain ⟨t2, rfl⟩ := rv4
                    rw [eH'] at un
                    exact ⟨t2, rfl, I4, fun b o e n1 n2 => un.keep b o e n1 n2 (by simp)⟩
                  · exact p2.here rs2 _ (.int _)
              · exact p2.elim
            · exact p2.elim
      · exact p2.elim
    · exact p2.elim
  · exact p2.elim
end
end Sm
set_option Elab.async false
set_option linter.all false
set_option maxRecDepth 100000
set_option maxHeartbeats 2000000
/-! a def that makes a lambda, and the end of such a law -/
namespace Sm
open PySem PySem.Spec PyProof.Rows L2 Mi LamX
variable [Tbs]
section
variable {P : Program} {w : World} {K : PySem.W.Frag} {mg : Str → Option Value} {base : Heap}
theorem fn_okL {x qual : Str} {st : Stmt} {f : Addr} {fd : FuncData} {N ps : List Str} {k : Nat} {b : SM} (F : Fun K x qual st f fd) (S : FnScope N ps (defScope st))
    (hb : ∀ (cdv : Value) (A : Around) (outer : List Env) (s : Shared) (H : Hp) (E : XK), cdv = fd.code → Room k (A.deeper (envOfC qual (defScope st) s.heap.objs.size f cdv)) → SSs (cxOf CX0 P w K mg base N qual (defScope st) f cdv A outer s H E).nox EF (defBody st) b) :
    FnOk P w K mg base CX0 (k + 1) f fd ps (spM ⟨K, mg, P, w⟩ (mDef ps.length N.length b)) := by
  obtain ⟨oc, od, kV, doc, pm, an, cdv, ct, osl, rfl, lk, hcd⟩ := F.ex
  refine fn_of lk hcd S (fun vs H Q E h => ?_) fun A outer s H vs Q E hr h => ?_
  · obtain ⟨ds, S', m, r, rs, p⟩ := h
    have p := post_quiet (E' := E) p
    unfold mDefX at p
    split at p
    · rename_i hl
      rw [← r.len]; exact hl
    · exact p.elim
  · obtain ⟨ds, S', m, r, rs, p⟩ := h
    have p := post_quiet (E' := EF) p
    unfold mDefX at p
    split at p
    · obtain ⟨t, h1, h2⟩ : ∃ t, PSs (cxOf CX0 P w K mg base N qual (defScope st) f cdv A outer s H E).nox (defBody st) t ∧ t { nx := fun _ H' => Q .non H', rt := Q } (L2.start N vs) H := by
        refine ⟨_, hb cdv A outer s H E rfl hr, startF N.length ds, S', m, start_rel (c := ⟨K, mg, P, w⟩) r, rs, (post_bind p).imp fun o S1 m1 H1 e1 rs1 p1 => ?_⟩
        cases o with
        | nx fr => exact fun σ rf => p1.here rs1 _ .non
        | rt d => exact fun v hv => p1.here rs1 v hv
        | bk fr => exact p1.elim
        | ct fr => exact p1.elim
      exact ⟨t, h1.nox, h2⟩
    · exact p.elim
/-- the script locked while the law runs -/
theorem hok_lock {H : Hp} {h : Heap} {a : Addr} {u : HO} (ok : HOk P w H h) (ha : H a = some u) (mu : Mut (some u)) : ∃ od, HOk P w (upd H a (.frz od u)) h := by
  have x := ok a u ha
  obtain ⟨od, e⟩ : ∃ od, h.get? a = some od := by
    cases u with
    | lst xs => obtain ⟨_, _, _, _, e⟩ := x; exact ⟨_, e⟩
    | dK kvs => obtain ⟨_, _, _, _, o, _, _, e, _⟩ := x; exact ⟨o, e⟩
    | dT kvs => obtain ⟨_, _, _, _, o, _, _, e, _⟩ := x; exact ⟨o, e⟩
    | set S n => obtain ⟨o, _, _, _, e, _⟩ := x; exact ⟨o, e⟩
    | ins C dx fs => obtain ⟨_, _, _, e, _⟩ := x; exact ⟨_, e⟩
    | ext φ => obtain ⟨_, ⟨_, e⟩, _⟩ := x; exact ⟨_, e⟩
    | _ => exact False.elim mu
  refine ⟨od, ok.write (x := a) (e := a) (by rw [ha]; exact mu) (.inl rfl) (fun _ _ _ q => q) ⟨od, e⟩ ⟨e, x.stay (fun _ _ _ q => q) (fun b q => ?_) fun b xs q => ?_⟩⟩
  · rw [upd_ne (fun z => by rw [z, ha] at q; cases q; exact mu)]; exact q
  · rw [upd_ne (fun z => by rw [z, ha] at q; cases q; exact mu)]; exact q
theorem un_lock {fs : List Addr} {H H' : Hp} {h h' : Heap} {a : Addr} {od : Obj} {xs : List V} (ha : H a = some (.lst xs)) (un : Un fs [] (upd H a (.frz od (.lst xs))) H' h h') : Un fs [] H H' h h' := by
  have n2 : ∀ b, H b = none → upd H a (.frz od (.lst xs)) b = none := fun b n => by
    rw [upd_ne (fun z => by rw [z, ha] at n; cases n)]; exact n
  exact ⟨fun b o e n => un.keep b o e (n2 b n), fun b o e n => un.slot b o e (n2 b n), fun b o e n => un.free b o e (n2 b n), un.there,
    fun b ys e => un.tups b ys (by rw [upd_ne (fun z => by rw [z, ha] at e; cases e)]; exact e),
    fun b o u e => un.frzs b o u (by rw [upd_ne (fun z => by rw [z, ha] at e; cases e)]; exact e),
    fun b ps e => un.tbls b ps (by rw [upd_ne (fun z => by rw [z, ha] at e; cases e)]; exact e)⟩
/-- the law's promise where the table at Pt is tracked, empty -/
def spTab (K : PySem.W.Frag) (Pt : Addr) : Sp := fun vs H Q _ => ∃ (a : Addr) (ns : List Int), vs = [.ref a] ∧ SqL K H a (ns.map V.int) ∧ ns.length ≤ 63 ∧ H Pt = some (.tbl #[]) ∧ ∀ H', Q (.bl true) H'
theorem fn_tab {fa : Addr} {fd : FuncData} {k : Nat} {x nm : Str} {Pt : Addr} (hT : Tbs.T K = [(Pt, nm)]) (F : FnOk P w K mg base CX0 k fa fd [x] (spLaw K)) : FnOk P w K mg base CX0 k fa fd [x] (spTab K Pt) := by
  refine ⟨(fun vs H Q E h => by obtain ⟨a, ns, rfl, _⟩ := h; rfl), fun A outer s H args us vs Q E hr e0 hb rv h => ?_⟩
  obtain ⟨a, ns, rfl, hS, hl, hP, hq⟩ := h
  have tabs : ∀ H' : Hp, H' Pt = some (.tbl #[]) → Tabs (Tbs.T K) H' := fun H' h p hp => by
    rw [hT] at hp
    rw [List.mem_singleton.mp hp]
    exact TabS.nil h
  by_cases hm : ∃ xs, H a = some (.lst xs)
  · obtain ⟨xs, ha⟩ := hm
    obtain ⟨od, hok⟩ := hok_lock e0.hok ha trivial
    have nP : Pt ≠ a := fun z => by rw [z, ha] at hP; cases hP
    have e2 : Env0 P w K mg base A outer s (upd H a (.frz od (.lst xs))) := ⟨e0.frames, e0.mod, fun b o e => ⟨(e0.bs b o e).1, by rw [upd_ne (fun z => by have := (e0.bs b o e).2; rw [z, ha] at this; cases this)]; exact (e0.bs b o e).2⟩, e0.bsz, e0.funs, fun b hb' => by rw [upd_ne (fun z => by have := e0.frf b hb'; rw [z, ha] at this; cases this)]; exact e0.frf b hb', hok, e0.bare⟩
    have sq : SqL K (upd H a (.frz od (.lst xs))) a (ns.map V.int) := by
      rcases hS with (h | ⟨ob, h⟩) | ⟨h1, h2⟩
      · rw [ha] at h
        cases h
        exact .inl (.inr ⟨od, upd_same⟩)
      · rw [ha] at h; cases h
      · exact .inr ⟨h1, h2⟩
    refine codeAny_mono (F.run A outer s _ args us [.ref a] Q E hr e2 hb rv ⟨a, ns, rfl, sq, (fun ys z => by rw [upd_same] at z; cases z), hl, tabs _ (by rw [upd_ne nP]; exact hP), hq⟩) fun r s' hcr => ?_
    cases r with
    | error e => exact (show False from hcr).elim
    | ok fl =>
      cases fl with
      | ret u =>
        obtain ⟨v, H', os, bare, un, hok', rv', q⟩ := (show CE outer P w _ s Q u s' from hcr)
        exact ⟨v, H', os, bare, un_lock ha un, hok', rv', q⟩
      | next => exact (show False from hcr).elim
      | brk => exact (show False from hcr).elim
      | cont => exact (show False from hcr).elim
  · exact F.run A outer s H args us [.ref a] Q E hr e0 hb rv ⟨a, ns, rfl, hS, fun ys z => hm ⟨ys, z⟩, hl, tabs _ hP, hq⟩
end
/-- the end of a law one of whose defs makes lambdas -/
theorem walk_lam {l : PySem.W.OpenLaw} {k : Nat} {q : Program} {loose : List Str} {XP : (Str → Option Value) → Heap → Prop} {YP : World → Heap → Prop} {d : DefRec} {K : Params → PySem.W.Frag} {x y nm : Str}
    (hn : l.most = some 63) (hdf : d.params.defaults = []) (hr : Room k callerA) (hrec : ((recsOf q).any fun e => e.name == y) = true) (hY : ∀ (w : World) (h : Heap), YP w h → (K w.params).In h)
    (F : ∀ (w : World) (mg : Str → Option Value) (fa : Addr) (h : Heap), YP w h → (K w.params).In h → h.Ns mainGlobals mg → mg d.name = some (.ref fa) →
      ∃ (c Pt : Addr) (fd : FuncData), PySem.W.tabIn (K w.params) y = some (c, Pt) ∧ (K w.params).lookup Pt = none ∧ Tbs.T (K w.params) = [(Pt, nm)] ∧ (∀ (s : Shared) (u : Value), BindsTo s fd ⟨[u], []⟩ [(x, u)]) ∧
        ∀ base : Heap, (K w.params).In base → base.Ns mainGlobals mg → TabB base mg c Pt → FnOk l.prog w (K w.params) mg base CX0 k fa fd [x] (spLaw (K w.params))) :
    PySem.W.WalkO q loose XP YP l.row.toRowW d [] (fun f vs => PySem.call f vs) := by
  refine Att.attach_callB hn hdf fun w s₀ s₁ mg mb fa o pm cd doc a vs ns G Y ho hd hcd hmg hobj hints hlen hbits hg => ?_
  have KX := hY w _ Y
  obtain ⟨c, Pt, fd, ht, nT, hT, hb, hF⟩ := F w mg fa _ Y KX G.T.g hmg
  obtain ⟨d', hd'⟩ : ∃ d', (recsOf q).find? (fun e => e.name == y) = some d' := by
    cases h : (recsOf q).find? (fun e => e.name == y) with
    | some d' => exact ⟨d', rfl⟩
    | none =>
      obtain ⟨e, he1, he2⟩ := List.any_eq_true.mp hrec
      exact absurd he2 (by simpa using List.find?_eq_none.mp h e he1)
  obtain ⟨C, hP⟩ := PySem.W.tab_of G.T KX hd' ht
  have one : ∀ {α : Prop} (p : Addr × Addr), p ∈ [(c, Pt)] → (p = (c, Pt) → α) → α := fun p hp f => f (List.mem_singleton.mp hp)
  exact law_callTs (cs := [(c, Pt)]) (CX := CX0) (sp := spTab (K w.params) Pt) KX G.T.g G.T.b G.T.builtins G.T.nolimit hg (fun p hp => by rw [List.mem_singleton.mp hp]; exact hP) (fun p hp => by rw [List.mem_singleton.mp hp]; exact nT) (fun p hp => by rw [List.mem_singleton.mp hp]; exact C) G.T.bmain hobj hints (Nat.le_trans hlen (by decide)) hr
    (fun base h1 h2 h3 => fn_tab hT (hF base h1 h2 (h3 _ (List.mem_singleton.mpr rfl)))) hb (fun H hH hS => ⟨a, ns, rfl, hS, hlen, hH _ (List.mem_singleton.mpr rfl), fun _ => rfl⟩) fun H e s' h => h
end Sm
namespace Sm
open PySem PySem.Spec
theorem tab_mk {K : PySem.W.Frag} {x : Str} {c Pt f : Addr} {oc tcc : Value} {od tdd : Option Addr} {fd : FuncData} {osl tsl : Array (Option Value)} {vs : Array Value} (a : PySem.W.nsIn K mainGlobals x = some (some (.ref f))) (l : K.lookup f = some ⟨oc, od, .func fd, osl⟩) (hc : fd.code = .ref c)
    (tl : K.lookup c = some ⟨tcc, tdd, .fields vs, tsl⟩) (tv : vs[11]? = some (.ref Pt)) : PySem.W.tabIn K x = some (c, Pt) := by
  unfold PySem.W.tabIn
  rw [a]
  dsimp only
  rw [l]
  dsimp only
  rw [hc]
  dsimp only
  rw [tl]
  dsimp only
  rw [tv]
end Sm
set_option Elab.async false
set_option linter.all false
/-! laws of the small language -/
namespace Mi
/-! ### stores -/
theorem get_app {α : Type} (S L : List α) (n : Nat) : (S ++ L)[n]? = S[n]?.or (L[n - S.length]?) := by
  rw [List.getElem?_append]
  split
  · rename_i h
    rw [List.getElem?_eq_getElem h]; rfl
  · rename_i h
    rw [List.getElem?_eq_none (l := S) (by omega)]; rfl
theorem get_len {α : Type} (S : List α) : S[S.length]? = none := List.getElem?_eq_none (Nat.le_refl _)
/-- the old part stands -/
def Pre (S S' : Store) : Prop := ∃ G, S' = S ++ G
theorem Pre.refl (S : Store) : Pre S S := ⟨[], by simp⟩
theorem Pre.trans {S S1 S2 : Store} (a : Pre S S1) (b : Pre S1 S2) : Pre S S2 := by
  obtain ⟨G, rfl⟩ := a
  obtain ⟨G', rfl⟩ := b
  exact ⟨G ++ G', by rw [List.append_assoc]⟩
theorem Pre.app (S G : Store) : Pre S (S ++ G) := ⟨G, rfl⟩
theorem Pre.get {S S' : Store} {n : Nat} {o : O} (p : Pre S S') (h : S[n]? = some o) : S'[n]? = some o := by
  obtain ⟨G, rfl⟩ := p
  rw [List.getElem?_append_left (List.getElem?_eq_some_iff.mp h).1]; exact h
theorem Pre.len {S S' : Store} (p : Pre S S') : S.length ≤ S'.length := by
  obtain ⟨G, rfl⟩ := p
  rw [List.length_append]; omega
/-- it ends well, the old part standing -/
def Gives {α : Type} (r : Res α) (S : Store) (P : α → Store → Prop) : Prop := ∃ a S', r = .ok a S' ∧ Pre S S' ∧ P a S'
theorem Gives.ok {α : Type} {a : α} {S : Store} {P : α → Store → Prop} (h : P a S) : Gives (.ok a S) S P := ⟨a, S, rfl, Pre.refl S, h⟩
theorem Gives.bind {α β : Type} {r : Res α} {S : Store} {P : α → Store → Prop} {f : α → Store → Res β} {Q : β → Store → Prop} (h : Gives r S P) (k : ∀ a S', Pre S S' → P a S' → Gives (f a S') S' Q) : Gives (r.bind f) S Q := by
  obtain ⟨a, S', rfl, p, q⟩ := h
  obtain ⟨b, S2, e, p2, q2⟩ := k a S' p q
  exact ⟨b, S2, e, p.trans p2, q2⟩
theorem Gives.mono {α : Type} {r : Res α} {S : Store} {P Q : α → Store → Prop} (h : Gives r S P) (k : ∀ a S', Pre S S' → P a S' → Q a S') : Gives r S Q := by
  obtain ⟨a, S', e, p, q⟩ := h
  exact ⟨a, S', e, p, k a S' p q⟩
/-! ### what stands -/
@[simp] theorem dec_nil (S : Store) : dec (stands [] S) = true := dec_true fun _ h => by cases h
/-! ### while -/
theorem whileN_mono {t : TM} {b : SM} : ∀ (n : Nat) (fr : Fr) (S : Store), whileN t b n fr S ≠ .bad → whileN t b (n + 1) fr S = whileN t b n fr S
  | 0, fr, S, h => absurd rfl h
  | n + 1, fr, S, h => by
    rw [whileN]
    conv => rhs; rw [whileN]
    unfold whileN at h
    cases ht : t fr S with
    | ok c S1 =>
      rw [ht] at h
      simp only [bind_ok] at h ⊢
      cases c with
      | false => rfl
      | true =>
        simp only [if_true] at h ⊢
        cases hb : b fr S1 with
        | ok o S2 =>
          rw [hb] at h
          simp only [bind_ok] at h ⊢
          cases o with
          | nx fr' => exact whileN_mono n fr' S2 h
          | ct fr' => exact whileN_mono n fr' S2 h
          | bk fr' => rfl
          | rt d => rfl
        | exc x S2 => rfl
        | bad => rfl
    | exc x S1 => rfl
    | bad => rfl
theorem whileN_le {t : TM} {b : SM} {n k : Nat} {fr : Fr} {S : Store} (h : whileN t b n fr S ≠ .bad) : whileN t b (n + k) fr S = whileN t b n fr S := by
  induction k with
  | zero => rfl
  | succ k ih => rw [← Nat.add_assoc, whileN_mono _ _ _ (by rw [ih]; exact h), ih]
theorem sWhile_of {t : TM} {b : SM} {n : Nat} {fr : Fr} {S : Store} (h : whileN t b n fr S ≠ .bad) : sWhile t b fr S = whileN t b n fr S := by
  have hex : ∃ n, whileN t b n fr S ≠ .bad := ⟨n, h⟩
  unfold sWhile
  rw [dif_pos hex]
  have h2 := Classical.choose_spec hex
  have e1 := whileN_le (k := n) h2
  have e2 := whileN_le (k := Classical.choose hex) h
  rw [← e1, Nat.add_comm, e2]
/-- one turn of a while -/
theorem sWhile_eq (t : TM) (b : SM) (fr : Fr) (S : Store) : sWhile t b fr S = (t fr S).bind fun c S1 => if c then (b fr S1).bind (goOn (sWhile t b)) else .ok (.nx fr) S1 := by
  have nbad : (∀ n, whileN t b (n + 1) fr S = .bad) → sWhile t b fr S = .bad := fun h => by
    unfold sWhile
    rw [dif_neg]
    rintro ⟨n, hn⟩
    cases n with
    | zero => exact hn rfl
    | succ n => exact hn (h n)
  cases ht : t fr S with
  | ok c S1 =>
    simp only [bind_ok]
    cases c with
    | false =>
      have one : whileN t b 1 fr S = .ok (.nx fr) S1 := by unfold whileN; rw [ht]; rfl
      rw [sWhile_of (n := 1) (by rw [one]; simp), one]; rfl
    | true =>
      simp only [if_true]
      cases hb : b fr S1 with
      | ok o S2 =>
        have one : ∀ n, whileN t b (n + 1) fr S = goOn (whileN t b n) o S2 := fun n => by
          rw [whileN, ht]
          simp only [bind_ok, if_true]
          rw [hb, bind_ok]
        have go : ∀ fr', (∀ n, whileN t b (n + 1) fr S = whileN t b n fr' S2) → sWhile t b fr S = sWhile t b fr' S2 := fun fr' one => by
          by_cases hex : ∃ n, whileN t b n fr' S2 ≠ .bad
          · obtain ⟨n, hn⟩ := hex
            rw [sWhile_of hn, sWhile_of (n := n + 1) (by rw [one]; exact hn), one]
          · have h1 : sWhile t b fr' S2 = .bad := by unfold sWhile; rw [dif_neg hex]
            rw [h1]
            exact nbad fun n => by rw [one]; exact Classical.byContradiction fun z => hex ⟨n, z⟩
        rw [bind_ok]
        cases o with
        | nx fr' => exact go fr' one
        | ct fr' => exact go fr' one
        | bk fr' => rw [sWhile_of (n := 1) (by rw [one]; simp [goOn]), one]; rfl
        | rt d => rw [sWhile_of (n := 1) (by rw [one]; simp [goOn]), one]; rfl
      | exc x S2 =>
        have one : whileN t b 1 fr S = .exc x S2 := by
          rw [whileN, ht]
          simp only [bind_ok, if_true]
          rw [hb]; rfl
        rw [sWhile_of (n := 1) (by rw [one]; simp), one]; rfl
      | bad =>
        rw [nbad fun n => by
          rw [whileN, ht]
          simp only [bind_ok, if_true]
          rw [hb]; rfl]
        rfl
  | exc x S1 =>
    have one : whileN t b 1 fr S = .exc x S1 := by rw [whileN, ht]; rfl
    rw [sWhile_of (n := 1) (by rw [one]; simp), one]; rfl
  | bad =>
    rw [nbad fun n => by rw [whileN, ht]; rfl]
    rfl
/-! ### for -/
/-- an invariant over the turn's number; no way out -/
theorem loop_inv {hs : List (Nat × List D)} {turn : D → SM} (I : Nat → Fr → Store → Prop) : ∀ (items : List D) (k : Nat) (fr : Fr) (S : Store), I k fr S →
    (∀ i fr S, I i fr S → stands hs S) →
    (∀ i d fr S, items[i]? = some d → I (k + i) fr S → ∃ fr' S', (turn d fr S = .ok (.nx fr') S' ∨ turn d fr S = .ok (.ct fr') S') ∧ I (k + i + 1) fr' S') →
    ∃ fr' S', loopM hs turn items fr S = .ok (.nx fr') S' ∧ I (k + items.length) fr' S'
  | [], k, fr, S, h, st, _ => ⟨fr, S, by rw [loopM, dec_true (st k fr S h)]; rfl, h⟩
  | d :: ds, k, fr, S, h, st, step => by
    obtain ⟨fr', S', e, h'⟩ := step 0 d fr S rfl h
    obtain ⟨fr2, S2, e2, h2⟩ := loop_inv I ds (k + 1) fr' S' h' st fun i d fr S hd hi => by
      have q := step (i + 1) d fr S hd (by rw [show k + (i + 1) = k + 1 + i by omega]; exact hi)
      rw [show k + (i + 1) = k + 1 + i by omega] at q
      exact q
    refine ⟨fr2, S2, ?_, by rw [List.length_cons, show k + (ds.length + 1) = k + 1 + ds.length by omega]; exact h2⟩
    rw [loopM, dec_true (st k fr S h)]
    rcases e with e | e <;> rw [e] <;> exact e2
/-- an invariant; a way out by return that is as is wanted -/
theorem loop_ret {hs : List (Nat × List D)} {turn : D → SM} (I : Nat → Fr → Store → Prop) (R : D → Store → Prop) : ∀ (items : List D) (k : Nat) (fr : Fr) (S : Store), I k fr S →
    (∀ i fr S, I i fr S → stands hs S) →
    (∀ i d fr S, items[i]? = some d → I (k + i) fr S → (∃ fr' S', (turn d fr S = .ok (.nx fr') S' ∨ turn d fr S = .ok (.ct fr') S') ∧ I (k + i + 1) fr' S') ∨ ∃ x S', turn d fr S = .ok (.rt x) S' ∧ R x S') →
    (∃ fr' S', loopM hs turn items fr S = .ok (.nx fr') S' ∧ I (k + items.length) fr' S') ∨ ∃ x S', loopM hs turn items fr S = .ok (.rt x) S' ∧ R x S'
  | [], k, fr, S, h, st, _ => .inl ⟨fr, S, by rw [loopM, dec_true (st k fr S h)]; rfl, h⟩
  | d :: ds, k, fr, S, h, st, step => by
    have un : loopM hs turn (d :: ds) fr S = (turn d fr S).bind (goOn (loopM hs turn ds)) := by rw [loopM, dec_true (st k fr S h)]; rfl
    rcases step 0 d fr S rfl h with ⟨fr', S', e, h'⟩ | ⟨x, S', e, h'⟩
    · have un2 : loopM hs turn (d :: ds) fr S = loopM hs turn ds fr' S' := by rw [un]; rcases e with e | e <;> rw [e] <;> rfl
      rw [un2]
      have := loop_ret I R ds (k + 1) fr' S' h' st fun i d fr S hd hi => by
        have q := step (i + 1) d fr S hd (by rw [show k + (i + 1) = k + 1 + i by omega]; exact hi)
        rw [show k + (i + 1) = k + 1 + i by omega] at q
        exact q
      rw [List.length_cons, show k + (ds.length + 1) = k + 1 + ds.length by omega]
      exact this
    · exact .inr ⟨x, S', by rw [un, e]; rfl, h'⟩
/-! ### comprehensions -/
end Mi
set_option Elab.async false
set_option linter.all false
/-! the small language step by step: each step's continuation by a name, so that simp stops where a test is open -/
namespace Mi
variable {α β : Type}
/-! ### expressions -/
def varK (S : Store) : Option (Option D) → Res D
  | some (some d) => .ok d S
  | _ => .bad
@[simp] theorem varK_s (S : Store) (d : D) : varK S (some (some d)) = .ok d S := (rfl)
@[simp] theorem mVar_s (i : Nat) (fr : Fr) (S : Store) : mVar i fr S = varK S fr[i]? := (rfl)
@[simp] theorem mC_s (d : D) (fr : Fr) (S : Store) : mC d fr S = .ok d S := (rfl)
def opK2 (g : Op2) (x : D) (r : Res D) : Res D := r.bind fun y S2 => g x y S2
def opK1 (g : Op2) (b : EM) (fr : Fr) (r : Res D) : Res D := r.bind fun x S1 => opK2 g x (b fr S1)
@[simp] theorem opK2_s (g : Op2) (x y : D) (S : Store) : opK2 g x (.ok y S) = g x y S := (rfl)
@[simp] theorem opK1_s (g : Op2) (b : EM) (fr : Fr) (x : D) (S : Store) : opK1 g b fr (.ok x S) = opK2 g x (b fr S) := (rfl)
@[simp] theorem mOp_s (g : Op2) (a b : EM) (fr : Fr) (S : Store) : mOp g a b fr S = opK1 g b fr (a fr S) := (rfl)
def unK (g : D → Store → Res D) (r : Res D) : Res D := r.bind fun x S1 => g x S1
@[simp] theorem unK_s (g : D → Store → Res D) (x : D) (S : Store) : unK g (.ok x S) = g x S := (rfl)
@[simp] theorem mUn_s (g : D → Store → Res D) (a : EM) (fr : Fr) (S : Store) : mUn g a fr S = unK g (a fr S) := (rfl)
def notK (r : Res D) : Res D := r.bind fun x S1 => (toB x S1).bind fun b S2 => .ok (.bl (!b)) S2
@[simp] theorem notK_s (b : Bool) (S : Store) : notK (.ok (.bl b) S) = .ok (.bl (!b)) S := (rfl)
@[simp] theorem mNot_s (a : EM) (fr : Fr) (S : Store) : mNot a fr S = notK (a fr S) := (rfl)
def andK (b : EM) (fr : Fr) (r : Res D) : Res D := r.bind fun x S1 => (toB x S1).bind fun c S2 => if c then b fr S2 else .ok (.bl false) S2
@[simp] theorem andK_t (b : EM) (fr : Fr) (S : Store) : andK b fr (.ok (.bl true) S) = b fr S := (rfl)
@[simp] theorem andK_f (b : EM) (fr : Fr) (S : Store) : andK b fr (.ok (.bl false) S) = .ok (.bl false) S := (rfl)
@[simp] theorem mAnd_s (a b : EM) (fr : Fr) (S : Store) : mAnd a b fr S = andK b fr (a fr S) := (rfl)
def orK (b : EM) (fr : Fr) (r : Res D) : Res D := r.bind fun x S1 => (toB x S1).bind fun c S2 => if c then .ok (.bl true) S2 else b fr S2
@[simp] theorem orK_t (b : EM) (fr : Fr) (S : Store) : orK b fr (.ok (.bl true) S) = .ok (.bl true) S := (rfl)
@[simp] theorem orK_f (b : EM) (fr : Fr) (S : Store) : orK b fr (.ok (.bl false) S) = b fr S := (rfl)
@[simp] theorem mOr_s (a b : EM) (fr : Fr) (S : Store) : mOr a b fr S = orK b fr (a fr S) := (rfl)
def truB (S : Store) : Option Bool → Res Bool
  | some b => .ok b S
  | none => .bad
@[simp] theorem truB_s (S : Store) (b : Bool) : truB S (some b) = .ok b S := (rfl)
def truK (r : Res D) : Res Bool := r.bind fun x S1 => truB S1 (truth x S1)
@[simp] theorem truK_s (x : D) (S : Store) : truK (.ok x S) = truB S (truth x S) := (rfl)
@[simp] theorem tTru_s (a : EM) (fr : Fr) (S : Store) : tTru a fr S = truK (a fr S) := by
  unfold tTru truK
  congr 1
def blK (r : Res D) : Res Bool := r.bind fun x S1 => toB x S1
@[simp] theorem blK_s (b : Bool) (S : Store) : blK (.ok (.bl b) S) = .ok b S := (rfl)
@[simp] theorem tBl_s (a : EM) (fr : Fr) (S : Store) : tBl a fr S = blK (a fr S) := (rfl)
def tandK (b : TM) (fr : Fr) (r : Res Bool) : Res Bool := r.bind fun c S1 => if c then b fr S1 else .ok false S1
@[simp] theorem tandK_t (b : TM) (fr : Fr) (S : Store) : tandK b fr (.ok true S) = b fr S := (rfl)
@[simp] theorem tandK_f (b : TM) (fr : Fr) (S : Store) : tandK b fr (.ok false S) = .ok false S := (rfl)
@[simp] theorem tAnd_s (a b : TM) (fr : Fr) (S : Store) : tAnd a b fr S = tandK b fr (a fr S) := (rfl)
def torK (b : TM) (fr : Fr) (r : Res Bool) : Res Bool := r.bind fun c S1 => if c then .ok true S1 else b fr S1
@[simp] theorem torK_t (b : TM) (fr : Fr) (S : Store) : torK b fr (.ok true S) = .ok true S := (rfl)
@[simp] theorem torK_f (b : TM) (fr : Fr) (S : Store) : torK b fr (.ok false S) = b fr S := (rfl)
@[simp] theorem tOr_s (a b : TM) (fr : Fr) (S : Store) : tOr a b fr S = torK b fr (a fr S) := (rfl)
def tnotK (r : Res Bool) : Res Bool := r.bind fun c S1 => .ok (!c) S1
@[simp] theorem tnotK_s (b : Bool) (S : Store) : tnotK (.ok b S) = .ok (!b) S := (rfl)
@[simp] theorem tNot_s (a : TM) (fr : Fr) (S : Store) : tNot a fr S = tnotK (a fr S) := (rfl)
@[simp] theorem tYes_s (fr : Fr) (S : Store) : tYes fr S = .ok true S := (rfl)
def ifeK (a b : EM) (fr : Fr) (r : Res Bool) : Res D := r.bind fun c S1 => if c then a fr S1 else b fr S1
@[simp] theorem ifeK_t (a b : EM) (fr : Fr) (S : Store) : ifeK a b fr (.ok true S) = a fr S := (rfl)
@[simp] theorem ifeK_f (a b : EM) (fr : Fr) (S : Store) : ifeK a b fr (.ok false S) = b fr S := (rfl)
@[simp] theorem mIfE_s (t : TM) (a b : EM) (fr : Fr) (S : Store) : mIfE t a b fr S = ifeK a b fr (t fr S) := (rfl)
def chK3 (h : Op2) (y : D) (c : EM) (fr : Fr) (r : Res D) : Res D := r.bind fun z S3 => (toB z S3).bind fun k S4 => if k then opK2 h y (c fr S4) else .ok (.bl false) S4
def chK2 (g h : Op2) (x : D) (c : EM) (fr : Fr) (r : Res D) : Res D := r.bind fun y S2 => chK3 h y c fr (g x y S2)
def chK1 (g h : Op2) (b c : EM) (fr : Fr) (r : Res D) : Res D := r.bind fun x S1 => chK2 g h x c fr (b fr S1)
@[simp] theorem chK3_t (h : Op2) (y : D) (c : EM) (fr : Fr) (S : Store) : chK3 h y c fr (.ok (.bl true) S) = opK2 h y (c fr S) := (rfl)
@[simp] theorem chK3_f (h : Op2) (y : D) (c : EM) (fr : Fr) (S : Store) : chK3 h y c fr (.ok (.bl false) S) = .ok (.bl false) S := (rfl)
@[simp] theorem chK2_s (g h : Op2) (x y : D) (c : EM) (fr : Fr) (S : Store) : chK2 g h x c fr (.ok y S) = chK3 h y c fr (g x y S) := (rfl)
@[simp] theorem chK1_s (g h : Op2) (x : D) (b c : EM) (fr : Fr) (S : Store) : chK1 g h b c fr (.ok x S) = chK2 g h x c fr (b fr S) := (rfl)
@[simp] theorem mChain_s (g h : Op2) (a b c : EM) (fr : Fr) (S : Store) : mChain g h a b c fr S = chK1 g h b c fr (a fr S) := (rfl)
def acK2 (x : D) (r : Res (List D)) : Res (List D) := r.bind fun xs S2 => .ok (x :: xs) S2
def acK1 (q : AM) (fr : Fr) (r : Res D) : Res (List D) := r.bind fun x S1 => acK2 x (q fr S1)
@[simp] theorem acK2_s (x : D) (xs : List D) (S : Store) : acK2 x (.ok xs S) = .ok (x :: xs) S := (rfl)
@[simp] theorem acK1_s (q : AM) (fr : Fr) (x : D) (S : Store) : acK1 q fr (.ok x S) = acK2 x (q fr S) := (rfl)
@[simp] theorem aNil_s (fr : Fr) (S : Store) : aNil fr S = .ok [] S := (rfl)
@[simp] theorem aCons_s (a : EM) (q : AM) (fr : Fr) (S : Store) : aCons a q fr S = acK1 q fr (a fr S) := (rfl)
def tupK (r : Res (List D)) : Res D := r.bind fun xs S1 => if xs.length ≤ LINE then .ok (.tup xs) S1 else .bad
@[simp] theorem tupK_s (xs : List D) (S : Store) : tupK (.ok xs S) = if xs.length ≤ LINE then .ok (.tup xs) S else .bad := (rfl)
@[simp] theorem mTup_s (a : AM) (fr : Fr) (S : Store) : mTup a fr S = tupK (a fr S) := (rfl)
def lstK (r : Res (List D)) : Res D := r.bind fun xs S1 => if xs.length ≤ LINE then new (.lst xs) S1 else .bad
@[simp] theorem lstK_s (xs : List D) (S : Store) : lstK (.ok xs S) = if xs.length ≤ LINE then .ok (.ref S.length) (S ++ [.lst xs]) else .bad := (rfl)
@[simp] theorem mLst_s (a : AM) (fr : Fr) (S : Store) : mLst a fr S = lstK (a fr S) := (rfl)
def callK (f : Fn) (r : Res (List D)) : Res D := r.bind f
@[simp] theorem callK_s (f : Fn) (ds : List D) (S : Store) : callK f (.ok ds S) = f ds S := (rfl)
@[simp] theorem mCall_s (f : Fn) (a : AM) (fr : Fr) (S : Store) : mCall f a fr S = callK f (a fr S) := (rfl)
def mtB (f : D → Fn) (x : D) (a : AM) (fr : Fr) (S : Store) : Bool → Res D
  | true => callK (f x) (a fr S)
  | false => .bad
@[simp] theorem mtB_s (f : D → Fn) (x : D) (a : AM) (fr : Fr) (S : Store) : mtB f x a fr S true = callK (f x) (a fr S) := (rfl)
def mtK (T : D → Store → Bool) (f : D → Fn) (a : AM) (fr : Fr) (r : Res D) : Res D := r.bind fun x S1 => mtB f x a fr S1 (T x S1)
@[simp] theorem mtK_s (T : D → Store → Bool) (f : D → Fn) (a : AM) (fr : Fr) (x : D) (S : Store) : mtK T f a fr (.ok x S) = mtB f x a fr S (T x S) := (rfl)
@[simp] theorem mMt_s (T : D → Store → Bool) (f : D → Fn) (o : EM) (a : AM) (fr : Fr) (S : Store) : mMt T f o a fr S = mtK T f a fr (o fr S) := by
  unfold mMt mtK
  congr 1
  funext x S1
  cases T x S1 <;> rfl
@[simp] theorem mNewK_s (fr : Fr) (S : Store) : mNewK fr S = .ok (.ref S.length) (S ++ [.dK []]) := (rfl)
@[simp] theorem mNewT_s (fr : Fr) (S : Store) : mNewT fr S = .ok (.ref S.length) (S ++ [.dT []]) := (rfl)
def psK (r : Res D) : Res (Option Int) := r.bind fun x S1 => match x with
  | .int i => .ok (some i) S1
  | _ => .bad
@[simp] theorem psK_s (i : Int) (S : Store) : psK (.ok (.int i) S) = .ok (some i) S := (rfl)
@[simp] theorem pNo_s (fr : Fr) (S : Store) : pNo fr S = .ok none S := (rfl)
@[simp] theorem pSome_s (a : EM) (fr : Fr) (S : Store) : pSome a fr S = psK (a fr S) := (rfl)
def slK3 (x : D) (l : Option Int) (r : Res (Option Int)) : Res D := r.bind fun h S3 => oSl x l h S3
def slK2 (x : D) (hi : PM) (fr : Fr) (r : Res (Option Int)) : Res D := r.bind fun l S2 => slK3 x l (hi fr S2)
def slK1 (lo hi : PM) (fr : Fr) (r : Res D) : Res D := r.bind fun x S1 => slK2 x hi fr (lo fr S1)
@[simp] theorem slK3_s (x : D) (l h : Option Int) (S : Store) : slK3 x l (.ok h S) = oSl x l h S := (rfl)
@[simp] theorem slK2_s (x : D) (hi : PM) (fr : Fr) (l : Option Int) (S : Store) : slK2 x hi fr (.ok l S) = slK3 x l (hi fr S) := (rfl)
@[simp] theorem slK1_s (lo hi : PM) (fr : Fr) (x : D) (S : Store) : slK1 lo hi fr (.ok x S) = slK2 x hi fr (lo fr S) := (rfl)
@[simp] theorem mSl_s (a : EM) (lo hi : PM) (fr : Fr) (S : Store) : mSl a lo hi fr S = slK1 lo hi fr (a fr S) := (rfl)
/-! ### targets -/
@[simp] theorem gName_s (i : Nat) (d : D) (fr : Fr) (S : Store) : gName i d fr S = .ok (fr.set i (some d)) S := (rfl)
@[simp] theorem gNil_s (fr : Fr) (S : Store) : gNil [] fr S = .ok fr S := (rfl)
def gcK (gs : GMs) (q : List D) (r : Res Fr) : Res Fr := r.bind fun fr' S' => gs q fr' S'
@[simp] theorem gcK_s (gs : GMs) (q : List D) (fr : Fr) (S : Store) : gcK gs q (.ok fr S) = gs q fr S := (rfl)
@[simp] theorem gCons_s (g : GM) (gs : GMs) (d : D) (q : List D) (fr : Fr) (S : Store) : gCons g gs (d :: q) fr S = gcK gs q (g d fr S) := (rfl)
def gtK (n : Nat) (g : GMs) (fr : Fr) (S : Store) : Option (List D) → Res Fr
  | some l => if l.length = n then g l fr S else .bad
  | none => .bad
@[simp] theorem gtK_s (n : Nat) (g : GMs) (fr : Fr) (S : Store) (l : List D) : gtK n g fr S (some l) = if l.length = n then g l fr S else .bad := (rfl)
@[simp] theorem gTup_s (n : Nat) (g : GMs) (d : D) (fr : Fr) (S : Store) : gTup n g d fr S = gtK n g fr S (seqOf S d) := by
  unfold gTup gtK
  cases seqOf S d <;> rfl
def fuK (fr : Fr) (r : Res Unit) : Res Fr := r.bind fun _ S3 => .ok fr S3
def gsK2 (x v : D) (fr : Fr) (r : Res D) : Res Fr := r.bind fun y S2 => fuK fr (setIx x y v S2)
def gsK1 (i : EM) (v : D) (fr : Fr) (r : Res D) : Res Fr := r.bind fun x S1 => gsK2 x v fr (i fr S1)
@[simp] theorem fuK_s (fr : Fr) (u : Unit) (S : Store) : fuK fr (.ok u S) = .ok fr S := (rfl)
@[simp] theorem gsK2_s (x v y : D) (fr : Fr) (S : Store) : gsK2 x v fr (.ok y S) = fuK fr (setIx x y v S) := (rfl)
@[simp] theorem gsK1_s (i : EM) (v x : D) (fr : Fr) (S : Store) : gsK1 i v fr (.ok x S) = gsK2 x v fr (i fr S) := (rfl)
@[simp] theorem gSub_s (o i : EM) (v : D) (fr : Fr) (S : Store) : gSub o i v fr S = gsK1 i v fr (o fr S) := (rfl)
/-! ### statements -/
@[simp] theorem sNx_s (fr : Fr) (S : Store) : sNx fr S = .ok (.nx fr) S := (rfl)
def seqK (b : SM) (r : Res Out) : Res Out := r.bind fun o S1 => match o with
  | .nx fr' => b fr' S1
  | o => .ok o S1
@[simp] theorem seqK_n (b : SM) (fr : Fr) (S : Store) : seqK b (.ok (.nx fr) S) = b fr S := (rfl)
@[simp] theorem seqK_r (b : SM) (d : D) (S : Store) : seqK b (.ok (.rt d) S) = .ok (.rt d) S := (rfl)
@[simp] theorem seqK_b (b : SM) (fr : Fr) (S : Store) : seqK b (.ok (.bk fr) S) = .ok (.bk fr) S := (rfl)
@[simp] theorem seqK_c (b : SM) (fr : Fr) (S : Store) : seqK b (.ok (.ct fr) S) = .ok (.ct fr) S := (rfl)
@[simp] theorem sSeq_s (a b : SM) (fr : Fr) (S : Store) : sSeq a b fr S = seqK b (a fr S) := (rfl)
def nxK (r : Res Fr) : Res Out := r.bind fun fr' S2 => .ok (.nx fr') S2
def asK (g : GM) (fr : Fr) (r : Res D) : Res Out := r.bind fun x S1 => nxK (g x fr S1)
@[simp] theorem nxK_s (fr : Fr) (S : Store) : nxK (.ok fr S) = .ok (.nx fr) S := (rfl)
@[simp] theorem asK_s (g : GM) (fr : Fr) (x : D) (S : Store) : asK g fr (.ok x S) = nxK (g x fr S) := (rfl)
@[simp] theorem sAsg_s (e : EM) (g : GM) (fr : Fr) (S : Store) : sAsg e g fr S = asK g fr (e fr S) := (rfl)
def auK2 (i : Nat) (fr : Fr) (r : Res D) : Res Out := r.bind fun z S2 => .ok (.nx (fr.set i (some z))) S2
def auK1 (i : Nat) (g : Op2) (x : D) (fr : Fr) (r : Res D) : Res Out := r.bind fun y S1 => auK2 i fr (g x y S1)
def auK0 (i : Nat) (g : Op2) (e : EM) (fr : Fr) (S : Store) : Option (Option D) → Res Out
  | some (some x) => auK1 i g x fr (e fr S)
  | _ => .bad
@[simp] theorem auK2_s (i : Nat) (fr : Fr) (z : D) (S : Store) : auK2 i fr (.ok z S) = .ok (.nx (fr.set i (some z))) S := (rfl)
@[simp] theorem auK1_s (i : Nat) (g : Op2) (x y : D) (fr : Fr) (S : Store) : auK1 i g x fr (.ok y S) = auK2 i fr (g x y S) := (rfl)
@[simp] theorem auK0_s (i : Nat) (g : Op2) (e : EM) (fr : Fr) (S : Store) (x : D) : auK0 i g e fr S (some (some x)) = auK1 i g x fr (e fr S) := (rfl)
@[simp] theorem sAug_s (i : Nat) (g : Op2) (e : EM) (fr : Fr) (S : Store) : sAug i g e fr S = auK0 i g e fr S fr[i]? := by
  unfold sAug auK0
  cases fr[i]? with
  | none => rfl
  | some o => cases o <;> rfl
@[simp] theorem oAddI_s (a b : Int) (S : Store) : oAddI (.int a) (.int b) S = .ok (.int (a + b)) S := (rfl)
def exK (fr : Fr) (r : Res D) : Res Out := r.bind fun _ S1 => .ok (.nx fr) S1
@[simp] theorem exK_s (fr : Fr) (x : D) (S : Store) : exK fr (.ok x S) = .ok (.nx fr) S := (rfl)
@[simp] theorem sExp_s (e : EM) (fr : Fr) (S : Store) : sExp e fr S = exK fr (e fr S) := (rfl)
def reK (r : Res D) : Res Out := r.bind fun x S1 => .ok (.rt x) S1
@[simp] theorem reK_s (x : D) (S : Store) : reK (.ok x S) = .ok (.rt x) S := (rfl)
@[simp] theorem sRet_s (e : EM) (fr : Fr) (S : Store) : sRet e fr S = reK (e fr S) := (rfl)
@[simp] theorem sRetN_s (fr : Fr) (S : Store) : sRetN fr S = .ok (.rt .non) S := (rfl)
@[simp] theorem sBrk_s (fr : Fr) (S : Store) : sBrk fr S = .ok (.bk fr) S := (rfl)
@[simp] theorem sCnt_s (fr : Fr) (S : Store) : sCnt fr S = .ok (.ct fr) S := (rfl)
def ifK (a b : SM) (fr : Fr) (r : Res Bool) : Res Out := r.bind fun c S1 => if c then a fr S1 else b fr S1
@[simp] theorem ifK_t (a b : SM) (fr : Fr) (S : Store) : ifK a b fr (.ok true S) = a fr S := (rfl)
@[simp] theorem ifK_f (a b : SM) (fr : Fr) (S : Store) : ifK a b fr (.ok false S) = b fr S := (rfl)
@[simp] theorem sIf_s (t : TM) (a b : SM) (fr : Fr) (S : Store) : sIf t a b fr S = ifK a b fr (t fr S) := (rfl)
/-- a turn of a for -/
def tuK (b : SM) (r : Res Fr) : Res Out := r.bind fun fr' S' => b fr' S'
@[simp] theorem tuK_s (b : SM) (fr : Fr) (S : Store) : tuK b (.ok fr S) = b fr S := (rfl)
def turnM (g : GM) (b : SM) (d : D) (fr : Fr) (S : Store) : Res Out := tuK b (g d fr S)
theorem turnM_s (g : GM) (b : SM) (d : D) (fr : Fr) (S : Store) : turnM g b d fr S = tuK b (g d fr S) := (rfl)
noncomputable def forK (g : GM) (b : SM) (fr : Fr) (r : Res Its) : Res Out := r.bind fun I S1 => loopM I.hs (turnM g b) I.items fr S1
@[simp] theorem forK_s (g : GM) (b : SM) (fr : Fr) (l : List D) (hs : List (Nat × List D)) (S : Store) : forK g b fr (.ok ⟨l, hs⟩ S) = loopM hs (turnM g b) l fr S := (rfl)
@[simp] theorem sFor_s (i : IM) (g : GM) (b : SM) (fr : Fr) (S : Store) : sFor i g b fr S = forK g b fr (i fr S) := (rfl)
/-- the rest of a for -/
noncomputable def loK (hs : List (Nat × List D)) (turn : D → SM) (ds : List D) (r : Res Out) : Res Out := r.bind (goOn (loopM hs turn ds))
@[simp] theorem loK_n (hs : List (Nat × List D)) (turn : D → SM) (ds : List D) (fr : Fr) (S : Store) : loK hs turn ds (.ok (.nx fr) S) = loopM hs turn ds fr S := (rfl)
@[simp] theorem loK_c (hs : List (Nat × List D)) (turn : D → SM) (ds : List D) (fr : Fr) (S : Store) : loK hs turn ds (.ok (.ct fr) S) = loopM hs turn ds fr S := (rfl)
@[simp] theorem loK_b (hs : List (Nat × List D)) (turn : D → SM) (ds : List D) (fr : Fr) (S : Store) : loK hs turn ds (.ok (.bk fr) S) = .ok (.nx fr) S := (rfl)
@[simp] theorem loK_r (hs : List (Nat × List D)) (turn : D → SM) (ds : List D) (d : D) (S : Store) : loK hs turn ds (.ok (.rt d) S) = .ok (.rt d) S := (rfl)
theorem stands_nil (S : Store) : stands [] S := fun _ h => by cases h
theorem stands_one {S : Store} {n : Nat} {l : List D} (h : lstOf S n = some l) : stands [(n, l)] S := fun p hp => by
  have e : p = (n, l) := by simpa using hp
  subst e; exact h
/-- a while -/
noncomputable def whK (t : TM) (b : SM) (r : Res Out) : Res Out := r.bind (goOn (sWhile t b))
noncomputable def whT (t : TM) (b : SM) (fr : Fr) (r : Res Bool) : Res Out := r.bind fun c S1 => if c then whK t b (b fr S1) else .ok (.nx fr) S1
theorem while_s (t : TM) (b : SM) (fr : Fr) (S : Store) : sWhile t b fr S = whT t b fr (t fr S) := sWhile_eq t b fr S
@[simp] theorem whT_t (t : TM) (b : SM) (fr : Fr) (S : Store) : whT t b fr (.ok true S) = whK t b (b fr S) := (rfl)
@[simp] theorem whT_f (t : TM) (b : SM) (fr : Fr) (S : Store) : whT t b fr (.ok false S) = .ok (.nx fr) S := (rfl)
@[simp] theorem whK_n (t : TM) (b : SM) (fr : Fr) (S : Store) : whK t b (.ok (.nx fr) S) = sWhile t b fr S := (rfl)
@[simp] theorem whK_c (t : TM) (b : SM) (fr : Fr) (S : Store) : whK t b (.ok (.ct fr) S) = sWhile t b fr S := (rfl)
@[simp] theorem whK_b (t : TM) (b : SM) (fr : Fr) (S : Store) : whK t b (.ok (.bk fr) S) = .ok (.nx fr) S := (rfl)
@[simp] theorem whK_r (t : TM) (b : SM) (d : D) (S : Store) : whK t b (.ok (.rt d) S) = .ok (.rt d) S := (rfl)
/-- a def -/
@[simp] theorem quiet_s (a : α) (S : Store) : quiet (.ok a S) = .ok a S := (rfl)
def deK (r : Res Out) : Res D := r.bind fun o S1 => match o with
  | .rt x => .ok x S1
  | .nx _ => .ok .non S1
  | _ => .bad
@[simp] theorem deK_r (x : D) (S : Store) : deK (.ok (.rt x) S) = .ok x S := (rfl)
@[simp] theorem deK_n (fr : Fr) (S : Store) : deK (.ok (.nx fr) S) = .ok .non S := (rfl)
@[simp] theorem mDef_1 (n : Nat) (b : SM) (x0 : D) (S : Store) : mDef 1 n b [x0] S = quiet (deK (b ([some x0] ++ List.replicate (n - 1) none) S)) := (rfl)
@[simp] theorem mDef_2 (n : Nat) (b : SM) (x0 x1 : D) (S : Store) : mDef 2 n b [x0, x1] S = quiet (deK (b ([some x0, some x1] ++ List.replicate (n - 2) none) S)) := (rfl)
@[simp] theorem mDef_3 (n : Nat) (b : SM) (x0 x1 x2 : D) (S : Store) : mDef 3 n b [x0, x1, x2] S = quiet (deK (b ([some x0, some x1, some x2] ++ List.replicate (n - 3) none) S)) := (rfl)
@[simp] theorem mDef_4 (n : Nat) (b : SM) (x0 x1 x2 x3 : D) (S : Store) : mDef 4 n b [x0, x1, x2, x3] S = quiet (deK (b ([some x0, some x1, some x2, some x3] ++ List.replicate (n - 4) none) S)) := (rfl)
@[simp] theorem mDef_5 (n : Nat) (b : SM) (x0 x1 x2 x3 x4 : D) (S : Store) : mDef 5 n b [x0, x1, x2, x3, x4] S = quiet (deK (b ([some x0, some x1, some x2, some x3, some x4] ++ List.replicate (n - 5) none) S)) := (rfl)
@[simp] theorem mDef_6 (n : Nat) (b : SM) (x0 x1 x2 x3 x4 x5 : D) (S : Store) : mDef 6 n b [x0, x1, x2, x3, x4, x5] S = quiet (deK (b ([some x0, some x1, some x2, some x3, some x4, some x5] ++ List.replicate (n - 6) none) S)) := (rfl)
@[simp] theorem startF_s (n : Nat) (ds : List D) : startF n ds = ds.map some ++ List.replicate (n - ds.length) none := (rfl)
/-! ### what is walked -/
def isK (r : Res D) : Res Its := r.bind fun x S1 => match x with
  | .tup l => .ok ⟨l, []⟩ S1
  | .wtp l => .ok ⟨l, []⟩ S1
  | .ref n => match lstOf S1 n with
    | some l => .ok ⟨l, [(n, l)]⟩ S1
    | none => .bad
  | _ => .bad
def isR (n : Nat) (S : Store) : Option (List D) → Res Its
  | some l => .ok ⟨l, [(n, l)]⟩ S
  | none => .bad
@[simp] theorem isR_s (n : Nat) (S : Store) (l : List D) : isR n S (some l) = .ok ⟨l, [(n, l)]⟩ S := (rfl)
@[simp] theorem isK_t (l : List D) (S : Store) : isK (.ok (.tup l) S) = .ok ⟨l, []⟩ S := (rfl)
@[simp] theorem isK_w (l : List D) (S : Store) : isK (.ok (.wtp l) S) = .ok ⟨l, []⟩ S := (rfl)
@[simp] theorem isK_r (n : Nat) (S : Store) : isK (.ok (.ref n) S) = isR n S (lstOf S n) := by
  show (match lstOf S n with | some l => (.ok ⟨l, [(n, l)]⟩ S : Res Its) | none => .bad) = _
  cases lstOf S n <;> rfl
@[simp] theorem iSeq_s (e : EM) (fr : Fr) (S : Store) : iSeq e fr S = isK (e fr S) := (rfl)
def istK (r : Res D) : Res Its := r.bind fun x S1 => match x with
  | .str z => .ok ⟨z.map fun c => .str [c], []⟩ S1
  | _ => .bad
@[simp] theorem istK_s (z : Tx) (S : Store) : istK (.ok (.str z) S) = .ok ⟨z.map fun c => .str [c], []⟩ S := (rfl)
@[simp] theorem iStr_s (e : EM) (fr : Fr) (S : Store) : iStr e fr S = istK (e fr S) := (rfl)
def ir1K (r : Res (List D)) : Res Its := r.bind fun ds S1 => match ds with
  | [.int j] => if far j then .ok ⟨rng 0 j.toNat, []⟩ S1 else .bad
  | _ => .bad
@[simp] theorem ir1K_s (j : Int) (S : Store) : ir1K (.ok [.int j] S) = if far j then .ok ⟨rng 0 j.toNat, []⟩ S else .bad := (rfl)
@[simp] theorem iRng1_s (a : AM) (fr : Fr) (S : Store) : iRng1 a fr S = ir1K (a fr S) := (rfl)
def ir2K (r : Res (List D)) : Res Its := r.bind fun ds S1 => match ds with
  | [.int i, .int j] => if far i ∧ far j then .ok ⟨rng i (j - i).toNat, []⟩ S1 else .bad
  | _ => .bad
@[simp] theorem ir2K_s (i j : Int) (S : Store) : ir2K (.ok [.int i, .int j] S) = if far i ∧ far j then .ok ⟨rng i (j - i).toNat, []⟩ S else .bad := (rfl)
@[simp] theorem iRng2_s (a : AM) (fr : Fr) (S : Store) : iRng2 a fr S = ir2K (a fr S) := (rfl)
def irdK (r : Res (List D)) : Res Its := r.bind fun ds S1 => match ds with
  | [.int i, .int j, .int c] => if far i ∧ far j ∧ c = -1 then .ok ⟨(List.range (i - j).toNat).map fun k => .int (i - (k : Nat)), []⟩ S1 else .bad
  | _ => .bad
@[simp] theorem irdK_s (i j c : Int) (S : Store) : irdK (.ok [.int i, .int j, .int c] S) = if far i ∧ far j ∧ c = -1 then .ok ⟨(List.range (i - j).toNat).map fun k => .int (i - (k : Nat)), []⟩ S else .bad := (rfl)
@[simp] theorem iRngD_s (a : AM) (fr : Fr) (S : Store) : iRngD a fr S = irdK (a fr S) := (rfl)
def irrK (r : Res D) : Res Its := r.bind fun x S1 => match x with
  | .int j => if far j then .ok ⟨(List.range j.toNat).map fun k => .int ((j.toNat : Int) - 1 - (k : Nat)), []⟩ S1 else .bad
  | _ => .bad
@[simp] theorem irrK_s (j : Int) (S : Store) : irrK (.ok (.int j) S) = if far j then .ok ⟨(List.range j.toNat).map fun k => .int ((j.toNat : Int) - 1 - (k : Nat)), []⟩ S else .bad := (rfl)
@[simp] theorem iRevR_s (a : EM) (fr : Fr) (S : Store) : iRevR a fr S = irrK (a fr S) := (rfl)
def ienR (n : Nat) (S : Store) : Option (List D) → Res Its
  | some l => .ok ⟨prs 0 l, [(n, l)]⟩ S
  | none => .bad
def ienK (r : Res (List D)) : Res Its := r.bind fun ds S1 => match ds with
  | [.ref n] => ienR n S1 (lstOf S1 n)
  | _ => .bad
@[simp] theorem ienR_s (n : Nat) (S : Store) (l : List D) : ienR n S (some l) = .ok ⟨prs 0 l, [(n, l)]⟩ S := (rfl)
@[simp] theorem ienK_s (n : Nat) (S : Store) : ienK (.ok [.ref n] S) = ienR n S (lstOf S n) := (rfl)
@[simp] theorem iEnum_s (a : AM) (fr : Fr) (S : Store) : iEnum a fr S = ienK (a fr S) := by
  unfold iEnum ienK
  congr 1
def irvR (n : Nat) (S : Store) : Option (List D) → Res Its
  | some l => .ok ⟨l.reverse, [(n, l)]⟩ S
  | none => .bad
def irvK (r : Res (List D)) : Res Its := r.bind fun ds S1 => match ds with
  | [.ref n] => irvR n S1 (lstOf S1 n)
  | _ => .bad
@[simp] theorem irvR_s (n : Nat) (S : Store) (l : List D) : irvR n S (some l) = .ok ⟨l.reverse, [(n, l)]⟩ S := (rfl)
@[simp] theorem irvK_s (n : Nat) (S : Store) : irvK (.ok [.ref n] S) = irvR n S (lstOf S n) := (rfl)
@[simp] theorem iRev_s (a : AM) (fr : Fr) (S : Store) : iRev a fr S = irvK (a fr S) := by
  unfold iRev irvK
  congr 1
/-! ### comprehensions -/
noncomputable def lcK (vs : List Nat) (g : GM) (t : TM) (e : EM) (fr : Fr) (r : Res Its) : Res D := r.bind fun I S1 => lcLoop I.hs S1.length g (fun fr S => quiet (t fr S)) (fun fr S => quiet (e fr S)) (unset vs fr) I.items (S1 ++ [.lst []])
@[simp] theorem mLc_s (vs : List Nat) (i : IM) (g : GM) (t : TM) (e : EM) (fr : Fr) (S : Store) : mLc vs i g t e fr S = lcK vs g t e fr (i fr S) := (rfl)
/-! ### operators by their operands -/
section
variable (S : Store)
@[simp] theorem oAdd_i (i j : Int) : oAdd (.int i) (.int j) S = .ok (.int (i + j)) S := (rfl)
@[simp] theorem oAdd_s (a b : Tx) : oAdd (.str a) (.str b) S = if a.length + b.length ≤ LINE then .ok (.str (a ++ b)) S else .bad := (rfl)
@[simp] theorem oAdd_t (a b : List D) : oAdd (.tup a) (.tup b) S = if a ≠ [] ∧ a.length + b.length ≤ LINE then .ok (.tup (a ++ b)) S else .bad := (rfl)
def catK : Option O → Option O → Res D
  | some (.lst a), some (.lst b) => if a.length + b.length ≤ LINE then new (.lst (a ++ b)) S else .bad
  | _, _ => .bad
@[simp] theorem catK_s (a b : List D) : catK S (some (.lst a)) (some (.lst b)) = if a.length + b.length ≤ LINE then .ok (.ref S.length) (S ++ [.lst (a ++ b)]) else .bad := (rfl)
@[simp] theorem oAdd_r (m n : Nat) : oAdd (.ref m) (.ref n) S = catK S S[m]? S[n]? := by
  unfold oAdd catK
  rfl
@[simp] theorem oSub_i (i j : Int) : oSub (.int i) (.int j) S = .ok (.int (i - j)) S := (rfl)
@[simp] theorem oMul_i (i j : Int) : oMul (.int i) (.int j) S = if mulOk i j then .ok (.int (i * j)) S else .bad := (rfl)
def repK (k : Int) : Option O → Res D
  | some (.lst a) => if -(2 ^ 63) ≤ k ∧ k < 2 ^ 63 ∧ a.length * k.toNat ≤ LINE then new (.lst (List.replicate k.toNat a).flatten) S else .bad
  | _ => .bad
@[simp] theorem repK_s (k : Int) (a : List D) : repK S k (some (.lst a)) = if -(2 ^ 63) ≤ k ∧ k < 2 ^ 63 ∧ a.length * k.toNat ≤ LINE then .ok (.ref S.length) (S ++ [.lst (List.replicate k.toNat a).flatten]) else .bad := (rfl)
@[simp] theorem oMul_r (m : Nat) (k : Int) : oMul (.ref m) (.int k) S = repK S k S[m]? := by
  unfold oMul repK
  rfl
@[simp] theorem oDiv_i (i j : Int) : oDiv (.int i) (.int j) S = if divOk j then .ok (.int (i / j)) S else .bad := (rfl)
@[simp] theorem oMod_i (i j : Int) : oMod (.int i) (.int j) S = if 0 < j then .ok (.int (i % j)) S else .bad := (rfl)
@[simp] theorem oPow_i (i j : Int) : oPow (.int i) (.int j) S = if powOk i j then .ok (.int (i ^ j.toNat)) S else .bad := (rfl)
@[simp] theorem oShl_i (i j : Int) : oShl (.int i) (.int j) S = if powOk i j then .ok (.int (i * 2 ^ j.toNat)) S else .bad := (rfl)
@[simp] theorem oShr_i (i j : Int) : oShr (.int i) (.int j) S = if 0 ≤ j then .ok (.int (i / 2 ^ j.toNat)) S else .bad := (rfl)
@[simp] theorem oAnd_i (i j : Int) : oAnd (.int i) (.int j) S = if 0 ≤ i ∧ 0 ≤ j then .ok (.int (i.toNat &&& j.toNat : Nat)) S else .bad := (rfl)
@[simp] theorem oOr_i (i j : Int) : oOr (.int i) (.int j) S = if 0 ≤ i ∧ 0 ≤ j then .ok (.int (i.toNat ||| j.toNat : Nat)) S else .bad := (rfl)
@[simp] theorem oXor_i (i j : Int) : oXor (.int i) (.int j) S = if 0 ≤ i ∧ 0 ≤ j then .ok (.int (i.toNat ^^^ j.toNat : Nat)) S else .bad := (rfl)
@[simp] theorem oLt_i (i j : Int) : oLt (.int i) (.int j) S = .ok (.bl (decide (i < j))) S := (rfl)
@[simp] theorem oLe_i (i j : Int) : oLe (.int i) (.int j) S = .ok (.bl (decide (i ≤ j))) S := (rfl)
@[simp] theorem oGt_i (i j : Int) : oGt (.int i) (.int j) S = .ok (.bl (decide (j < i))) S := (rfl)
@[simp] theorem oGe_i (i j : Int) : oGe (.int i) (.int j) S = .ok (.bl (decide (j ≤ i))) S := (rfl)
@[simp] theorem uNeg_i (i : Int) : uNeg (.int i) S = .ok (.int (-i)) S := (rfl)
@[simp] theorem oIs_n (x : D) : oIs x .non S = .ok (.bl (isN x)) S := (rfl)
@[simp] theorem oIsNot_n (x : D) : oIsNot x .non S = .ok (.bl (!isN x)) S := (rfl)
@[simp] theorem isN_n : isN .non = true := (rfl)
@[simp] theorem isN_b (b : Bool) : isN (.bl b) = false := (rfl)
@[simp] theorem isN_i (b : Int) : isN (.int b) = false := (rfl)
@[simp] theorem isN_s (b : Tx) : isN (.str b) = false := (rfl)
@[simp] theorem isN_t (b : List D) : isN (.tup b) = false := (rfl)
@[simp] theorem isN_r (b : Nat) : isN (.ref b) = false := (rfl)
@[simp] theorem oEq_i (i j : Int) : oEq (.int i) (.int j) S = .ok (.bl (decide (i = j))) S := (rfl)
@[simp] theorem oEq_s (i j : Tx) : oEq (.str i) (.str j) S = .ok (.bl (decide (i = j))) S := (rfl)
@[simp] theorem oEq_b (i j : Bool) : oEq (.bl i) (.bl j) S = .ok (.bl (decide (i = j))) S := (rfl)
@[simp] theorem oEq_nn : oEq .non .non S = .ok (.bl true) S := (rfl)
@[simp] theorem oEq_sn (i : Tx) : oEq (.str i) .non S = .ok (.bl false) S := (rfl)
@[simp] theorem oEq_ns (i : Tx) : oEq .non (.str i) S = .ok (.bl false) S := (rfl)
@[simp] theorem oEq_is (i : Int) (j : Tx) : oEq (.int i) (.str j) S = .ok (.bl false) S := (rfl)
@[simp] theorem oEq_si (i : Int) (j : Tx) : oEq (.str j) (.int i) S = .ok (.bl false) S := (rfl)
@[simp] theorem oNe_i (i j : Int) : oNe (.int i) (.int j) S = .ok (.bl (!decide (i = j))) S := (rfl)
@[simp] theorem oNe_s (i j : Tx) : oNe (.str i) (.str j) S = .ok (.bl (!decide (i = j))) S := (rfl)
@[simp] theorem oNe_b (i j : Bool) : oNe (.bl i) (.bl j) S = .ok (.bl (!decide (i = j))) S := (rfl)
@[simp] theorem oNe_nn : oNe .non .non S = .ok (.bl false) S := (rfl)
@[simp] theorem oNe_sn (i : Tx) : oNe (.str i) .non S = .ok (.bl true) S := (rfl)
@[simp] theorem oNe_ns (i : Tx) : oNe .non (.str i) S = .ok (.bl true) S := (rfl)
def eqK (f : Bool → Bool) : Option Bool → Res D
  | some b => .ok (.bl (f b)) S
  | none => .bad
@[simp] theorem eqK_s (f : Bool → Bool) (b : Bool) : eqK S f (some b) = .ok (.bl (f b)) S := (rfl)
/-- not simp: where data of some depth are compared -/
theorem oEq_g (x y : D) : oEq x y S = eqK S (fun b => b) (pyEq x y S) := by
  unfold oEq eqK
  cases pyEq x y S <;> rfl
theorem oNe_g (x y : D) : oNe x y S = eqK S (fun b => !b) (pyEq x y S) := by
  unfold oNe eqK
  cases pyEq x y S <;> rfl
@[simp] theorem oIn_g (x y : D) : oIn x y S = eqK S (fun b => b) (isIn x y S) := by
  unfold oIn eqK
  cases isIn x y S <;> rfl
@[simp] theorem oNotIn_g (x y : D) : oNotIn x y S = eqK S (fun b => !b) (isIn x y S) := by
  unfold oNotIn eqK
  cases isIn x y S <;> rfl
@[simp] theorem isIn_t (x : D) (l : List D) : isIn x (.tup l) S = inSeq x l S := (rfl)
@[simp] theorem isIn_w (x : D) (l : List D) : isIn x (.wtp l) S = inSeq x l S := (rfl)
@[simp] theorem isIn_s (c : Nat) (z : Tx) : isIn (.str [c]) (.str z) S = some (decide (c ∈ z)) := (rfl)
def inR (x : D) : Option O → Option Bool
  | some (.lst l) => inSeq x l S
  | some (.fls l) => inSeq x l S
  | some (.dK kvs) => (kyOf x).map fun k => (dGet kvs k).isSome
  | some (.dT kvs) => (ktOf x).map fun k => (dGet kvs k).isSome
  | _ => none
@[simp] theorem inR_l (x : D) (l : List D) : inR S x (some (.lst l)) = inSeq x l S := (rfl)
@[simp] theorem inR_f (x : D) (l : List D) : inR S x (some (.fls l)) = inSeq x l S := (rfl)
@[simp] theorem inR_k (x : D) (l : List (Ky × D)) : inR S x (some (.dK l)) = (kyOf x).map fun k => (dGet l k).isSome := (rfl)
@[simp] theorem inR_t (x : D) (l : List (List Ky × D)) : inR S x (some (.dT l)) = (ktOf x).map fun k => (dGet l k).isSome := (rfl)
@[simp] theorem isIn_r (x : D) (n : Nat) : isIn x (.ref n) S = inR S x S[n]? := by
  show (match S[n]? with
    | some (.lst l) => inSeq x l S
    | some (.fls l) => inSeq x l S
    | some (.dK kvs) => (kyOf x).map fun k => (dGet kvs k).isSome
    | some (.dT kvs) => (ktOf x).map fun k => (dGet kvs k).isSome
    | _ => none) = _
  cases S[n]? with
  | none => rfl
  | some o => cases o <;> rfl
@[simp] theorem flat_n : flatD .non = true := (rfl)
@[simp] theorem flat_b (b : Bool) : flatD (.bl b) = true := (rfl)
@[simp] theorem flat_i (b : Int) : flatD (.int b) = true := (rfl)
@[simp] theorem flat_s (b : Tx) : flatD (.str b) = true := (rfl)
@[simp] theorem eqF_nn : eqF .non .non = true := (rfl)
@[simp] theorem eqF_ii (a b : Int) : eqF (.int a) (.int b) = (a == b) := (rfl)
@[simp] theorem eqF_ss (a b : Tx) : eqF (.str a) (.str b) = (a == b) := (rfl)
@[simp] theorem eqF_bb (a b : Bool) : eqF (.bl a) (.bl b) = (a == b) := (rfl)
@[simp] theorem eqF_is (a : Int) (b : Tx) : eqF (.int a) (.str b) = false := (rfl)
@[simp] theorem eqF_si (a : Int) (b : Tx) : eqF (.str b) (.int a) = false := (rfl)
@[simp] theorem eqF_ns (b : Tx) : eqF .non (.str b) = false := (rfl)
@[simp] theorem eqF_sn (b : Tx) : eqF (.str b) .non = false := (rfl)
@[simp] theorem eqF_ni (b : Int) : eqF .non (.int b) = false := (rfl)
@[simp] theorem eqF_in (b : Int) : eqF (.int b) .non = false := (rfl)
theorem inSeq_f {x : D} {l : List D} (h1 : flatD x = true) (h2 : l.all flatD = true) : inSeq x l S = some (l.any fun y => eqF y x) := by
  unfold inSeq
  rw [if_pos ⟨h1, h2⟩]
@[simp] theorem inSeq_nil {x : D} (h1 : flatD x = true) : inSeq x [] S = some false := inSeq_f S h1 rfl
@[simp] theorem inSeq_cons {x y : D} {l : List D} (h1 : flatD x = true) (h2 : flatD y = true) (h3 : l.all flatD = true) : inSeq x (y :: l) S = some (eqF y x || l.any fun y => eqF y x) := by
  rw [inSeq_f S h1 (by rw [List.all_cons, h2, h3]; rfl), List.any_cons]
def ixA (S : Store) : Option D → Res D
  | some v => .ok v S
  | none => .bad
@[simp] theorem ixA_s (v : D) : ixA S (some v) = .ok v S := (rfl)
def ixC (S : Store) : Option Nat → Res D
  | some c => .ok (.str [c]) S
  | none => .bad
@[simp] theorem ixC_s (v : Nat) : ixC S (some v) = .ok (.str [v]) S := (rfl)
@[simp] theorem oIx_t (l : List D) (i : Int) : oIx (.tup l) (.int i) S = ixA S (atI l i) := by
  show (match atI l i with | some v => Res.ok v S | none => .bad) = _
  cases atI l i <;> rfl
@[simp] theorem oIx_w (l : List D) (i : Int) : oIx (.wtp l) (.int i) S = ixA S (atI l i) := by
  show (match atI l i with | some v => Res.ok v S | none => .bad) = _
  cases atI l i <;> rfl
@[simp] theorem oIx_s (l : Tx) (i : Int) : oIx (.str l) (.int i) S = if l.length ≤ LINE then ixC S (atI l i) else .bad := by
  show (if l.length ≤ LINE then (match atI l i with | some c => (.ok (.str [c]) S : Res D) | none => .bad) else .bad) = _
  split
  · cases atI l i <;> rfl
  · rfl
def ixR (n : Nat) (k : D) : Option O → Res D
  | some (.lst l) => (match k with
    | .int i => ixA S (atI l i)
    | _ => .bad)
  | some (.fls l) => (match k with
    | .int i => ixA S (atI l i)
    | _ => .bad)
  | some (.dK kvs) => ixA S ((kyOf k).bind (dGet kvs))
  | some (.dT kvs) => ixA S ((ktOf k).bind (dGet kvs))
  | some (.zK kvs) => ixA S ((kyOf k).bind (dGet kvs))
  | some (.zT kvs) => ixA S ((ktOf k).bind (dGet kvs))
  | _ => .bad
@[simp] theorem ixR_zk (n : Nat) (k : D) (l : List (Ky × D)) : ixR S n k (some (.zK l)) = ixA S ((kyOf k).bind (dGet l)) := (rfl)
@[simp] theorem ixR_zt (n : Nat) (k : D) (l : List (List Ky × D)) : ixR S n k (some (.zT l)) = ixA S ((ktOf k).bind (dGet l)) := (rfl)
@[simp] theorem ixR_l (n : Nat) (i : Int) (l : List D) : ixR S n (.int i) (some (.lst l)) = ixA S (atI l i) := (rfl)
@[simp] theorem ixR_f (n : Nat) (i : Int) (l : List D) : ixR S n (.int i) (some (.fls l)) = ixA S (atI l i) := (rfl)
@[simp] theorem ixR_k (n : Nat) (k : D) (l : List (Ky × D)) : ixR S n k (some (.dK l)) = ixA S ((kyOf k).bind (dGet l)) := (rfl)
@[simp] theorem ixR_t (n : Nat) (k : D) (l : List (List Ky × D)) : ixR S n k (some (.dT l)) = ixA S ((ktOf k).bind (dGet l)) := (rfl)
@[simp] theorem oIx_r (n : Nat) (k : D) : oIx (.ref n) k S = ixR S n k S[n]? := by
  have e : oIx (.ref n) k S = (match S[n]? with
    | some (.lst l) => (match k with
      | .int i => (match atI l i with
        | some v => .ok v S
        | none => .bad)
      | _ => .bad)
    | some (.fls l) => (match k with
      | .int i => (match atI l i with
        | some v => .ok v S
        | none => .bad)
      | _ => .bad)
    | _ => match dLook S n k with
      | some (some v) => .ok v S
      | _ => .bad) := by
    unfold oIx
    cases k <;> rfl
  rw [e]
  unfold dLook
  cases h : S[n]? with
  | none => rfl
  | some o =>
    cases o with
    | lst l =>
      cases k with
      | int i => show (match atI l i with | some v => Res.ok v S | none => .bad) = ixA S (atI l i); cases atI l i <;> rfl
      | _ => rfl
    | fls l =>
      cases k with
      | int i => show (match atI l i with | some v => Res.ok v S | none => .bad) = ixA S (atI l i); cases atI l i <;> rfl
      | _ => rfl
    | dK l =>
      show (match (kyOf k).map (dGet l) with | some (some v) => Res.ok v S | _ => .bad) = ixA S ((kyOf k).bind (dGet l))
      cases kyOf k with
      | none => rfl
      | some q =>
        show (match some (dGet l q) with | some (some v) => Res.ok v S | _ => .bad) = ixA S (dGet l q)
        cases dGet l q <;> rfl
    | dT l =>
      show (match (ktOf k).map (dGet l) with | some (some v) => Res.ok v S | _ => .bad) = ixA S ((ktOf k).bind (dGet l))
      cases ktOf k with
      | none => rfl
      | some q =>
        show (match some (dGet l q) with | some (some v) => Res.ok v S | _ => .bad) = ixA S (dGet l q)
        cases dGet l q <;> rfl
    | zK l =>
      show (match (kyOf k).map (dGet l) with | some (some v) => Res.ok v S | _ => .bad) = ixA S ((kyOf k).bind (dGet l))
      cases kyOf k with
      | none => rfl
      | some q =>
        show (match some (dGet l q) with | some (some v) => Res.ok v S | _ => .bad) = ixA S (dGet l q)
        cases dGet l q <;> rfl
    | zT l =>
      show (match (ktOf k).map (dGet l) with | some (some v) => Res.ok v S | _ => .bad) = ixA S ((ktOf k).bind (dGet l))
      cases ktOf k with
      | none => rfl
      | some q =>
        show (match some (dGet l q) with | some (some v) => Res.ok v S | _ => .bad) = ixA S (dGet l q)
        cases dGet l q <;> rfl
    | ins C f => rfl
    | exn C f => rfl
    | dN k => rfl
    | gone => rfl
@[simp] theorem lstOf_s (n : Nat) : lstOf S n = (S[n]?).bind fun o => match o with
    | .lst l => some l
    | .fls l => some l
    | _ => none := by
  unfold lstOf
  cases S[n]? with
  | none => rfl
  | some o => cases o <;> rfl
@[simp] theorem seqOf_t (l : List D) : seqOf S (.tup l) = some l := (rfl)
@[simp] theorem seqOf_w (l : List D) : seqOf S (.wtp l) = some l := (rfl)
@[simp] theorem seqOf_r (n : Nat) : seqOf S (.ref n) = lstOf S n := (rfl)
@[simp] theorem truth_n : truth .non S = some false := (rfl)
@[simp] theorem truth_b (b : Bool) : truth (.bl b) S = some b := (rfl)
@[simp] theorem truth_i (i : Int) : truth (.int i) S = some (i != 0) := (rfl)
@[simp] theorem truth_t (l : List D) : truth (.tup l) S = some (!l.isEmpty) := (rfl)
/-! ### slices -/
@[simp] theorem oSl_s (z : Tx) (lo hi : Option Int) : oSl (.str z) lo hi S = if z.length ≤ LINE then .ok (.str (cut z lo hi)) S else .bad := (rfl)
@[simp] theorem oSl_t (l : List D) (lo hi : Option Int) : oSl (.tup l) lo hi S = if (cut l lo hi).length < l.length then .ok (.tup (cut l lo hi)) S else .bad := (rfl)
def slR (lo hi : Option Int) : Option (List D) → Res D
  | some l => new (.lst (cut l lo hi)) S
  | none => .bad
@[simp] theorem slR_s (lo hi : Option Int) (l : List D) : slR S lo hi (some l) = .ok (.ref S.length) (S ++ [.lst (cut l lo hi)]) := (rfl)
@[simp] theorem oSl_r (n : Nat) (lo hi : Option Int) : oSl (.ref n) lo hi S = slR S lo hi (lstOf S n) := by
  unfold oSl slR
  dsimp only
  all_goals cases lstOf S n <;> rfl
/-! ### stores -/
def stL (n : Nat) (v : D) (l : List D) : Option Nat → Res Unit
  | some j => .ok () (S.set n (.lst (l.set j v)))
  | none => .bad
@[simp] theorem stL_s (n : Nat) (v : D) (l : List D) (j : Nat) : stL S n v l (some j) = .ok () (S.set n (.lst (l.set j v))) := (rfl)
def stK (n : Nat) (v : D) (kvs : List (Ky × D)) : Option Ky → Res Unit
  | some k => if kvs.length < LINE then .ok () (S.set n (.dK (dPut kvs k v))) else .bad
  | none => .bad
@[simp] theorem stK_s (n : Nat) (v : D) (kvs : List (Ky × D)) (k : Ky) : stK S n v kvs (some k) = if kvs.length < LINE then .ok () (S.set n (.dK (dPut kvs k v))) else .bad := (rfl)
def stT (n : Nat) (v : D) (kvs : List (List Ky × D)) : Option (List Ky) → Res Unit
  | some k => if kvs.length < LINE then .ok () (S.set n (.dT (dPut kvs k v))) else .bad
  | none => .bad
@[simp] theorem stT_s (n : Nat) (v : D) (kvs : List (List Ky × D)) (k : List Ky) : stT S n v kvs (some k) = if kvs.length < LINE then .ok () (S.set n (.dT (dPut kvs k v))) else .bad := (rfl)
def stR (n : Nat) (i v : D) : Option O → Res Unit
  | some (.lst l) => (match i with
    | .int k => stL S n v l (ixN l.length k)
    | _ => .bad)
  | some (.dK kvs) => stK S n v kvs (kyOf i)
  | some (.dT kvs) => stT S n v kvs (ktOf i)
  | _ => .bad
@[simp] theorem stR_l (n : Nat) (k : Int) (v : D) (l : List D) : stR S n (.int k) v (some (.lst l)) = stL S n v l (ixN l.length k) := (rfl)
@[simp] theorem stR_k (n : Nat) (i v : D) (l : List (Ky × D)) : stR S n i v (some (.dK l)) = stK S n v l (kyOf i) := (rfl)
@[simp] theorem stR_t (n : Nat) (i v : D) (l : List (List Ky × D)) : stR S n i v (some (.dT l)) = stT S n v l (ktOf i) := (rfl)
@[simp] theorem setIx_r (n : Nat) (i v : D) : setIx (.ref n) i v S = stR S n i v S[n]? := by
  unfold setIx stR
  dsimp only
  cases S[n]? with
  | none => rfl
  | some o =>
    cases o with
    | lst l => cases i <;> first | rfl | (rename_i k; dsimp only; cases ixN l.length k <;> rfl)
    | dK l => dsimp only; cases kyOf i <;> rfl
    | dT l => dsimp only; cases ktOf i <;> rfl
    | _ => rfl
@[simp] theorem kyOf_i (i : Int) : kyOf (.int i) = some (.inl i) := (rfl)
@[simp] theorem kyOf_s (i : Tx) : kyOf (.str i) = some (.inr i) := (rfl)
/-! ### built-ins -/
@[simp] theorem bLen_s (s : Tx) : bLen [.str s] S = if s.length ≤ LINE then .ok (.int (s.length : Nat)) S else .bad := (rfl)
@[simp] theorem bLen_t (l : List D) : bLen [.tup l] S = .ok (.int (l.length : Nat)) S := (rfl)
@[simp] theorem bLen_w (l : List D) : bLen [.wtp l] S = .ok (.int (l.length : Nat)) S := (rfl)
def lenK : Option O → Res D
  | some (.lst l) => .ok (.int (l.length : Nat)) S
  | some (.fls l) => .ok (.int (l.length : Nat)) S
  | some (.dK k) => .ok (.int (k.length : Nat)) S
  | some (.dT k) => .ok (.int (k.length : Nat)) S
  | _ => .bad
@[simp] theorem lenK_l (l : List D) : lenK S (some (.lst l)) = .ok (.int (l.length : Nat)) S := (rfl)
@[simp] theorem lenK_f (l : List D) : lenK S (some (.fls l)) = .ok (.int (l.length : Nat)) S := (rfl)
@[simp] theorem lenK_k (l : List (Ky × D)) : lenK S (some (.dK l)) = .ok (.int (l.length : Nat)) S := (rfl)
@[simp] theorem lenK_t (l : List (List Ky × D)) : lenK S (some (.dT l)) = .ok (.int (l.length : Nat)) S := (rfl)
@[simp] theorem bLen_r (n : Nat) : bLen [.ref n] S = lenK S S[n]? := by
  unfold bLen lenK
  dsimp only
  all_goals cases S[n]? with
  | none => rfl
  | some o => cases o <;> rfl
@[simp] theorem bAbs_s (i : Int) : bAbs [.int i] S = .ok (.int (if i < 0 then -i else i)) S := (rfl)
@[simp] theorem bInt_i (i : Int) : bInt [.int i] S = .ok (.int i) S := (rfl)
@[simp] theorem bInt_b (i : Bool) : bInt [.bl i] S = .ok (.int (if i then 1 else 0)) S := (rfl)
@[simp] theorem bMax_s (i j : Int) : bMax [.int i, .int j] S = .ok (.int (if j > i then j else i)) S := (rfl)
@[simp] theorem bMin_s (i j : Int) : bMin [.int i, .int j] S = .ok (.int (if j < i then j else i)) S := (rfl)
def liK : Option (List D) → Res D
  | some l => new (.lst l) S
  | none => .bad
@[simp] theorem liK_s (l : List D) : liK S (some l) = .ok (.ref S.length) (S ++ [.lst l]) := (rfl)
@[simp] theorem bTuple_t (l : List D) : bTuple [.tup l] S = .ok (.tup l) S := (rfl)
theorem bSum_r {n : Nat} {l : List D} {bs : List Int} (h : lstOf S n = some l) (hb : intsOf l = some bs) : bSum [.ref n] S = .ok (.int bs.sum) S := by
  unfold bSum
  dsimp only
  rw [h, Option.bind_some, hb]
theorem ints_map (bs : List Int) : intsOf (bs.map .int) = some bs := by
  induction bs with
  | nil => rfl
  | cons b r ih => show (intsOf (r.map .int)).map _ = _; rw [ih]; rfl
def isiK : Option Bool → Res D
  | some b => .ok (.bl b) S
  | none => .bad
@[simp] theorem isiK_s (b : Bool) : isiK S (some b) = .ok (.bl b) S := (rfl)
@[simp] theorem bIsI_s (T : Ty) (x : D) : bIsI T x S = isiK S (isI T x S) := by
  unfold bIsI isiK
  cases isI T x S <;> rfl
def tyR : Option O → Option Ty
  | some (.lst _) => some .list
  | some (.fls _) => some .list
  | some (.dK _) => some .dict
  | some (.dT _) => some .dict
  | _ => none
@[simp] theorem tyR_l (l : List D) : tyR (some (.lst l)) = some .list := (rfl)
@[simp] theorem tyR_f (l : List D) : tyR (some (.fls l)) = some .list := (rfl)
@[simp] theorem tyR_k (l : List (Ky × D)) : tyR (some (.dK l)) = some .dict := (rfl)
@[simp] theorem tyR_t (l : List (List Ky × D)) : tyR (some (.dT l)) = some .dict := (rfl)
def isU (T : Ty) (U : Option Ty) : Option Bool := U.map fun U => decide (U = T) || (decide (U = .bool) && decide (T = .int))
@[simp] theorem isU_s (T U : Ty) : isU T (some U) = some (decide (U = T) || (decide (U = .bool) && decide (T = .int))) := (rfl)
@[simp] theorem isI_n (T : Ty) : isI T .non S = some false := (rfl)
@[simp] theorem isI_b (T : Ty) (b : Bool) : isI T (.bl b) S = isU T (some .bool) := (rfl)
@[simp] theorem isI_i (T : Ty) (b : Int) : isI T (.int b) S = isU T (some .int) := (rfl)
@[simp] theorem isI_s (T : Ty) (b : Tx) : isI T (.str b) S = isU T (some .str) := (rfl)
@[simp] theorem isI_t (T : Ty) (b : List D) : isI T (.tup b) S = isU T (some .tuple) := (rfl)
theorem tyOf_r (n : Nat) : tyOf S (.ref n) = tyR S[n]? := by
  show (match S[n]? with
    | some (.lst _) => some Ty.list
    | some (.fls _) => some Ty.list
    | some (.dK _) => some Ty.dict
    | some (.dT _) => some Ty.dict
    | _ => none) = _
  cases S[n]? with
  | none => rfl
  | some o => cases o <;> rfl
@[simp] theorem isI_r (T : Ty) (n : Nat) : isI T (.ref n) S = isU T (tyR S[n]?) := by
  rw [← tyOf_r]; rfl
/-! ### methods -/
@[simp] theorem isLst_r (n : Nat) : isLst (.ref n) S = (lstOf S n).isSome := (rfl)
@[simp] theorem isStr_s (s : Tx) : isStr (.str s) S = true := (rfl)
def dcR : Option O → Bool
  | some (.dK _) => true
  | some (.dT _) => true
  | _ => false
@[simp] theorem dcR_k (l : List (Ky × D)) : dcR (some (.dK l)) = true := (rfl)
@[simp] theorem dcR_t (l : List (List Ky × D)) : dcR (some (.dT l)) = true := (rfl)
@[simp] theorem isDct_r (n : Nat) : isDct (.ref n) S = dcR S[n]? := by
  unfold isDct dcR
  dsimp only
  all_goals cases S[n]? with
  | none => rfl
  | some o => cases o <;> rfl
def muK (n : Nat) (f : Nat → List D → Res D) : Option O → Res D
  | some (.lst l) => f n l
  | _ => .bad
@[simp] theorem muK_s (n : Nat) (f : Nat → List D → Res D) (l : List D) : muK n f (some (.lst l)) = f n l := (rfl)
theorem mutL_r (n : Nat) (f : Nat → List D → Res D) : mutL (.ref n) S f = muK n f S[n]? := by
  unfold mutL muK
  dsimp only
  all_goals cases S[n]? with
  | none => rfl
  | some o => cases o <;> rfl
def apF (x : D) : Nat → List D → Res D := fun n l => if l.length < LINE then .ok .non (S.set n (.lst (l ++ [x]))) else .bad
@[simp] theorem apF_s (x : D) (n : Nat) (l : List D) : apF S x n l = if l.length < LINE then .ok .non (S.set n (.lst (l ++ [x]))) else .bad := (rfl)
@[simp] theorem lAppend_s (n : Nat) (x : D) : lAppend (.ref n) [x] S = muK n (apF S x) S[n]? := by
  show mutL (.ref n) S (apF S x) = _
  exact mutL_r S n _
def poA (n : Nat) (l : List D) : Option D → Res D
  | some y => .ok y (S.set n (.lst l.dropLast))
  | none => .bad
@[simp] theorem poA_s (n : Nat) (l : List D) (y : D) : poA S n l (some y) = .ok y (S.set n (.lst l.dropLast)) := (rfl)
def poF : Nat → List D → Res D := fun n l => poA S n l l[l.length - 1]?
@[simp] theorem poF_s (n : Nat) (l : List D) : poF S n l = poA S n l l[l.length - 1]? := (rfl)
@[simp] theorem lPop_s (n : Nat) : lPop (.ref n) [] S = muK n (poF S) S[n]? := by
  show mutL (.ref n) S (fun k l => match l[l.length - 1]? with | some y => .ok y (S.set k (.lst l.dropLast)) | none => .bad) = _
  rw [mutL_r]
  congr 1
/-- pop(0) -/
def p0F : Nat → List D → Res D := fun n l => match l with
  | y :: r => .ok y (S.set n (.lst r))
  | [] => .bad
@[simp] theorem p0F_s (n : Nat) (y : D) (r : List D) : p0F S n (y :: r) = .ok y (S.set n (.lst r)) := (rfl)
@[simp] theorem lPop_0 (n : Nat) : lPop (.ref n) [.int 0] S = muK n (p0F S) S[n]? := by
  show mutL (.ref n) S (fun n l => if -(2 ^ 63) ≤ (0 : Int) ∧ (0 : Int) < 2 ^ 63 then (match (ixN l.length 0) with
    | some k => (match l[k]? with
      | some y => .ok y (S.set n (.lst (l.eraseIdx k)))
      | none => .bad)
    | none => .bad) else .bad) = _
  rw [mutL_r]
  congr 1
  funext k l
  cases l with
  | nil => rfl
  | cons y r =>
    have h : ixN (y :: r).length 0 = some 0 := by
      unfold ixN
      rw [if_pos (Int.le_refl 0), if_pos (by rw [List.length_cons]; omega)]
      rfl
    show (if _ then _ else _) = _
    rw [if_pos (by decide), h]
    rfl
def rvF : Nat → List D → Res D := fun n l => .ok .non (S.set n (.lst l.reverse))
@[simp] theorem rvF_s (n : Nat) (l : List D) : rvF S n l = .ok .non (S.set n (.lst l.reverse)) := (rfl)
@[simp] theorem lReverse_s (n : Nat) : lReverse (.ref n) [] S = muK n (rvF S) S[n]? := by
  show mutL (.ref n) S (rvF S) = _
  exact mutL_r S n _
def clF : Nat → List D → Res D := fun n _ => .ok .non (S.set n (.lst []))
@[simp] theorem clF_s (n : Nat) (l : List D) : clF S n l = .ok .non (S.set n (.lst [])) := (rfl)
@[simp] theorem lClear_s (n : Nat) : lClear (.ref n) [] S = muK n (clF S) S[n]? := by
  show mutL (.ref n) S (clF S) = _
  exact mutL_r S n _
def inF (i : Int) (x : D) : Nat → List D → Res D := fun n l => if l.length < LINE ∧ 0 ≤ i ∧ i < 2 ^ 63 then .ok .non (S.set n (.lst (l.take i.toNat ++ [x] ++ l.drop i.toNat))) else .bad
@[simp] theorem inF_s (i : Int) (x : D) (n : Nat) (l : List D) : inF S i x n l = if l.length < LINE ∧ 0 ≤ i ∧ i < 2 ^ 63 then .ok .non (S.set n (.lst (l.take i.toNat ++ [x] ++ l.drop i.toNat))) else .bad := (rfl)
@[simp] theorem lInsert_s (n : Nat) (i : Int) (x : D) : lInsert (.ref n) [.int i, x] S = muK n (inF S i x) S[n]? := by
  show mutL (.ref n) S (inF S i x) = _
  exact mutL_r S n _
def joK (a : Tx) : Option (List Tx) → Res D
  | some ys => if (ys.map List.length).sum + ys.length * a.length ≤ LINE then .ok (.str (joinT a ys)) S else .bad
  | none => .bad
@[simp] theorem joK_s (a : Tx) (ys : List Tx) : joK S a (some ys) = if (ys.map List.length).sum + ys.length * a.length ≤ LINE then .ok (.str (joinT a ys)) S else .bad := (rfl)
@[simp] theorem sJoin_s (a : Tx) (d : D) : sJoin (.str a) [d] S = joK S a ((seqOf S d).bind txsOf) := by
  show (match (seqOf S d).bind txsOf with | some ys => _ | none => _) = _
  cases (seqOf S d).bind txsOf <;> rfl
end
/-- one step of a store's look -/
theorem set_get {S : Store} {n : Nat} {o u : O} (h : S[n]? = some o) : (S.set n u)[n]? = some u := by
  rw [List.getElem?_set_self (List.getElem?_eq_some_iff.mp h).1]
end Mi
set_option Elab.async false
set_option linter.all false
set_option maxRecDepth 100000
/-! the defs of the text as steps of the small language (printed by gen.py) -/
namespace Lk34
open Mi
abbrev t_reckon : Tx := [114, 101, 99, 107, 111, 110]
abbrev t_copy : Tx := [99, 111, 112, 121]
abbrev t_go : Tx := [103, 111]
abbrev t_part : Tx := [112, 97, 114, 116]
abbrev t_end : Tx := [101, 110, 100]
abbrev t_x5_abcdefghijkl : Tx := [97, 98, 99, 100, 101, 102, 103, 104, 105, 106, 107, 108, 109, 110, 111, 112, 113, 114, 115, 116, 117, 118, 119, 120, 121, 122]
abbrev t_x6_ : Tx := []
abbrev t_x7_0123456789 : Tx := [48, 49, 50, 51, 52, 53, 54, 55, 56, 57]
abbrev t_say : Tx := [115, 97, 121]
abbrev t_x9_1 : Tx := [49]
abbrev t_x10_ : Tx := [43, 45, 42, 38, 124, 94, 60, 61]
/-- 0 row -/
noncomputable def b_reckoning_of : SM := sSeq (sIf (tBl (mOp oEq (mOp oIx (mVar 0) (mC (.int 0))) (mC (.str t_reckon)))) (sRet (mTup (aCons (mOp oIx (mVar 0) (mC (.int 2))) (aCons (mOp oIx (mVar 0) (mC (.int 3))) (aCons (mOp oIx (mVar 0) (mC (.int 4))) aNil))))) (sNx)) (sRet (mC .non))
noncomputable def m_reckoning_of : Fn := mDef 1 1 b_reckoning_of
/-- 0 row -/
noncomputable def b_sets : SM := sSeq (sIf (tOr (tBl (mOp oEq (mOp oIx (mVar 0) (mC (.int 0))) (mC (.str t_reckon)))) (tBl (mOp oEq (mOp oIx (mVar 0) (mC (.int 0))) (mC (.str t_copy))))) (sRet (mOp oIx (mVar 0) (mC (.int 1)))) (sNx)) (sRet (mC .non))
noncomputable def m_sets : Fn := mDef 1 1 b_sets
/-- 0 row 1 reckoning 2 name -/
noncomputable def b_changes : SM := sSeq (sAsg (mCall m_sets (aCons (mVar 0) aNil)) (gName 2)) (sRet (mAnd (mOp oIsNot (mVar 2) (mC .non)) (mOp oIn (mVar 2) (mSl (mVar 1) (pSome (mC (.int 1))) (pNo)))))
noncomputable def m_changes : Fn := mDef 2 3 b_changes
/-- 0 program 1 n 2 row -/
noncomputable def b_followers : SM := sSeq (sAsg (mOp oIx (mVar 0) (mVar 1)) (gName 2)) (sSeq (sIf (tBl (mOp oEq (mOp oIx (mVar 2) (mC (.int 0))) (mC (.str t_go)))) (sRet (mLst (aCons (mOp oIx (mVar 2) (mC (.int 1))) aNil))) (sNx)) (sSeq (sIf (tBl (mOp oEq (mOp oIx (mVar 2) (mC (.int 0))) (mC (.str t_part)))) (sRet (mLst (aCons (mOp oAdd (mVar 1) (mC (.int 1))) (aCons (mOp oIx (mVar 2) (mC (.int 2))) aNil)))) (sNx)) (sSeq (sIf (tBl (mOp oEq (mOp oIx (mVar 2) (mC (.int 0))) (mC (.str t_end)))) (sRet (mLst (aNil))) (sNx)) (sRet (mLst (aCons (mOp oAdd (mVar 1) (mC (.int 1))) aNil))))))
noncomputable def m_followers : Fn := mDef 2 3 b_followers
/-- 0 program 1 found 2 n 3 m -/
noncomputable def l_places_1 : SM := sExp (mMt isLst lAppend (mVar 1) (aCons (mTup (aCons (mVar 2) (aCons (mVar 3) aNil))) aNil))
noncomputable def l_places_2 : SM := sFor (iSeq (mCall m_followers (aCons (mVar 0) (aCons (mVar 2) aNil)))) (gName 3) (l_places_1)
noncomputable def b_places : SM := sSeq (sAsg (mLst (aCons (mTup (aCons (mUn uNeg (mC (.int 1))) (aCons (mC (.int 0)) aNil))) aNil)) (gName 1)) (sSeq (sFor (iRng1 (aCons (mCall bLen (aCons (mVar 0) aNil)) aNil)) (gName 2) (l_places_2)) (sRet (mVar 1)))
noncomputable def m_places : Fn := mDef 1 4 b_places
/-- 0 program 1 found 2 row 3 reckoning -/
noncomputable def l_reckonings_1 : SM := sSeq (sAsg (mCall m_reckoning_of (aCons (mVar 2) aNil)) (gName 3)) (sIf (tBl (mOp oIsNot (mVar 3) (mC .non))) (sAsg (mC (.bl true)) (gSub (mVar 1) (mVar 3))) (sNx))
noncomputable def b_reckonings : SM := sSeq (sAsg (mNewT) (gName 1)) (sSeq (sFor (iSeq (mVar 0)) (gName 2) (l_reckonings_1)) (sRet (mCall bList (aCons (mVar 1) aNil))))
noncomputable def m_reckonings : Fn := mDef 1 4 b_reckonings
/-- 0 program -/
noncomputable def b_all_bits : SM := sRet (mOp oSub (mOp oShl (mC (.int 1)) (mCall bLen (aCons (mCall m_reckonings (aCons (mVar 0) aNil)) aNil))) (mC (.int 1)))
noncomputable def m_all_bits : Fn := mDef 1 1 b_all_bits
/-- 0 program 1 numbers 2 k 3 one 4 found 5 row -/
noncomputable def l_own_bits_1 : SM := sAsg (mVar 2) (gSub (mVar 1) (mVar 3))
noncomputable def l_own_bits_2 : SM := sSeq (sAsg (mCall m_reckoning_of (aCons (mVar 5) aNil)) (gName 3)) (sIf (tBl (mOp oIs (mVar 3) (mC .non))) (sExp (mMt isLst lAppend (mVar 4) (aCons (mC (.int 0)) aNil))) (sExp (mMt isLst lAppend (mVar 4) (aCons (mOp oShl (mC (.int 1)) (mOp oIx (mVar 1) (mVar 3))) aNil))))
noncomputable def b_own_bits : SM := sSeq (sAsg (mNewT) (gName 1)) (sSeq (sFor (iEnum (aCons (mCall m_reckonings (aCons (mVar 0) aNil)) aNil)) (gTup 2 (gCons (gName 2) (gCons (gName 3) gNil))) (l_own_bits_1)) (sSeq (sAsg (mLst (aNil)) (gName 4)) (sSeq (sFor (iSeq (mVar 0)) (gName 5) (l_own_bits_2)) (sRet (mVar 4)))))
noncomputable def m_own_bits : Fn := mDef 1 6 b_own_bits
/-- 0 program 1 known 2 found 3 row 4 bits 5 k 6 one -/
noncomputable def l_lost_bits_1 : SM := sIf (tTru (mCall m_changes (aCons (mVar 3) (aCons (mVar 6) aNil)))) (sAsg (mOp oOr (mVar 4) (mOp oShl (mC (.int 1)) (mVar 5))) (gName 4)) (sNx)
noncomputable def l_lost_bits_2 : SM := sSeq (sAsg (mC (.int 0)) (gName 4)) (sSeq (sFor (iEnum (aCons (mVar 1) aNil)) (gTup 2 (gCons (gName 5) (gCons (gName 6) gNil))) (l_lost_bits_1)) (sExp (mMt isLst lAppend (mVar 2) (aCons (mVar 4) aNil))))
noncomputable def b_lost_bits : SM := sSeq (sAsg (mCall m_reckonings (aCons (mVar 0) aNil)) (gName 1)) (sSeq (sAsg (mLst (aNil)) (gName 2)) (sSeq (sFor (iSeq (mVar 0)) (gName 3) (l_lost_bits_2)) (sRet (mVar 2))))
noncomputable def m_lost_bits : Fn := mDef 1 7 b_lost_bits
/-- 0 program 1 whole 2 own 3 lost 4 found 5 row 6 more 7 n 8 behind 9 m 10 bits -/
noncomputable def e_asked_by_1 : EM := mVar 1
noncomputable def l_asked_by_2 : SM := sAsg (mOp oAnd (mVar 8) (mOp oIx (mVar 4) (mVar 9))) (gName 8)
noncomputable def l_asked_by_3 : SM := sSeq (sAsg (mVar 1) (gName 8)) (sSeq (sIf (tBl (mOp oEq (mOp oIx (mOp oIx (mVar 0) (mVar 7)) (mC (.int 0))) (mC (.str t_end)))) (sAsg (mC (.int 0)) (gName 8)) (sNx)) (sSeq (sFor (iSeq (mCall m_followers (aCons (mVar 0) (aCons (mVar 7) aNil)))) (gName 9) (l_asked_by_2)) (sSeq (sAsg (mOp oOr (mOp oIx (mVar 2) (mVar 7)) (mOp oAnd (mVar 8) (mOp oXor (mVar 1) (mOp oIx (mVar 3) (mVar 7))))) (gName 10)) (sIf (tBl (mOp oNe (mVar 10) (mOp oIx (mVar 4) (mVar 7)))) (sSeq (sAsg (mVar 10) (gSub (mVar 4) (mVar 7))) (sAsg (mC (.bl true)) (gName 6))) (sNx)))))
noncomputable def l_asked_by_4 : SM := sSeq (sAsg (mC (.bl false)) (gName 6)) (sFor (iRngD (aCons (mOp oSub (mCall bLen (aCons (mVar 0) aNil)) (mC (.int 1))) (aCons (mUn uNeg (mC (.int 1))) (aCons (mUn uNeg (mC (.int 1))) aNil)))) (gName 7) (l_asked_by_3))
noncomputable def c_asked_by_5 : TM := tTru (mVar 6)
noncomputable def b_asked_by : SM := sSeq (sAsg (mCall m_all_bits (aCons (mVar 0) aNil)) (gName 1)) (sSeq (sAsg (mCall m_own_bits (aCons (mVar 0) aNil)) (gName 2)) (sSeq (sAsg (mCall m_lost_bits (aCons (mVar 0) aNil)) (gName 3)) (sSeq (sAsg (mLc [5] (iSeq (mVar 0)) (gName 5) (tYes) (e_asked_by_1)) (gName 4)) (sSeq (sAsg (mC (.bl true)) (gName 6)) (sSeq (sWhile (c_asked_by_5) (l_asked_by_4)) (sRet (mVar 4)))))))
noncomputable def m_asked_by : Fn := mDef 1 11 b_asked_by
/-- 0 program 1 asked 2 found 3 place -/
noncomputable def l_wanted_1 : SM := sAsg (mOp oIx (mVar 1) (mOp oIx (mVar 3) (mC (.int 1)))) (gSub (mVar 2) (mVar 3))
noncomputable def b_wanted : SM := sSeq (sAsg (mCall m_asked_by (aCons (mVar 0) aNil)) (gName 1)) (sSeq (sAsg (mNewT) (gName 2)) (sSeq (sFor (iSeq (mCall m_places (aCons (mVar 0) aNil))) (gName 3) (l_wanted_1)) (sRet (mVar 2))))
noncomputable def m_wanted : Fn := mDef 1 4 b_wanted
/-- 0 program 1 found 2 row 3 n 4 m -/
noncomputable def e_ahead_of_1 : EM := mLst (aNil)
noncomputable def l_ahead_of_2 : SM := sIf (tBl (mOp oNe (mVar 3) (mUn uNeg (mC (.int 1))))) (sExp (mMt isLst lAppend (mOp oIx (mVar 1) (mVar 4)) (aCons (mVar 3) aNil))) (sNx)
noncomputable def b_ahead_of : SM := sSeq (sAsg (mLc [2] (iSeq (mVar 0)) (gName 2) (tYes) (e_ahead_of_1)) (gName 1)) (sSeq (sFor (iSeq (mCall m_places (aCons (mVar 0) aNil))) (gTup 2 (gCons (gName 3) (gCons (gName 4) gNil))) (l_ahead_of_2)) (sRet (mVar 1)))
noncomputable def m_ahead_of : Fn := mDef 1 5 b_ahead_of
/-- 0 program 1 whole 2 own 3 lost 4 came 5 found 6 row 7 more 8 m 9 ahead 10 n 11 bits -/
noncomputable def e_left_by_1 : EM := mVar 1
noncomputable def l_left_by_2 : SM := sAsg (mOp oAnd (mVar 9) (mOp oIx (mVar 5) (mVar 10))) (gName 9)
noncomputable def l_left_by_3 : SM := sSeq (sAsg (mVar 1) (gName 9)) (sSeq (sIf (tBl (mOp oEq (mVar 8) (mC (.int 0)))) (sAsg (mC (.int 0)) (gName 9)) (sNx)) (sSeq (sFor (iSeq (mOp oIx (mVar 4) (mVar 8))) (gName 10) (l_left_by_2)) (sSeq (sAsg (mOp oAnd (mOp oOr (mOp oIx (mVar 2) (mVar 8)) (mVar 9)) (mOp oXor (mVar 1) (mOp oIx (mVar 3) (mVar 8)))) (gName 11)) (sIf (tBl (mOp oNe (mVar 11) (mOp oIx (mVar 5) (mVar 8)))) (sSeq (sAsg (mVar 11) (gSub (mVar 5) (mVar 8))) (sAsg (mC (.bl true)) (gName 7))) (sNx)))))
noncomputable def l_left_by_4 : SM := sSeq (sAsg (mC (.bl false)) (gName 7)) (sFor (iRng1 (aCons (mCall bLen (aCons (mVar 0) aNil)) aNil)) (gName 8) (l_left_by_3))
noncomputable def c_left_by_5 : TM := tTru (mVar 7)
noncomputable def b_left_by : SM := sSeq (sAsg (mCall m_all_bits (aCons (mVar 0) aNil)) (gName 1)) (sSeq (sAsg (mCall m_own_bits (aCons (mVar 0) aNil)) (gName 2)) (sSeq (sAsg (mCall m_lost_bits (aCons (mVar 0) aNil)) (gName 3)) (sSeq (sAsg (mCall m_ahead_of (aCons (mVar 0) aNil)) (gName 4)) (sSeq (sAsg (mLc [6] (iSeq (mVar 0)) (gName 6) (tYes) (e_left_by_1)) (gName 5)) (sSeq (sAsg (mC (.bl true)) (gName 7)) (sSeq (sWhile (c_left_by_5) (l_left_by_4)) (sRet (mVar 5))))))))
noncomputable def m_left_by : Fn := mDef 1 12 b_left_by
/-- 0 program 1 behind 2 found 3 place -/
noncomputable def l_standing_1 : SM := sIf (tBl (mOp oEq (mOp oIx (mVar 3) (mC (.int 0))) (mUn uNeg (mC (.int 1))))) (sAsg (mC (.int 0)) (gSub (mVar 2) (mVar 3))) (sAsg (mOp oIx (mVar 1) (mOp oIx (mVar 3) (mC (.int 0)))) (gSub (mVar 2) (mVar 3)))
noncomputable def b_standing : SM := sSeq (sAsg (mCall m_left_by (aCons (mVar 0) aNil)) (gName 1)) (sSeq (sAsg (mNewT) (gName 2)) (sSeq (sFor (iSeq (mCall m_places (aCons (mVar 0) aNil))) (gName 3) (l_standing_1)) (sRet (mVar 2))))
noncomputable def m_standing : Fn := mDef 1 4 b_standing
/-- 0 script 1 k -/
noncomputable def b_law_cell : SM := sSeq (sIf (tBl (mOp oLt (mVar 1) (mCall bLen (aCons (mVar 0) aNil)))) (sRet (mOp oIx (mVar 0) (mVar 1))) (sNx)) (sRet (mOp oAdd (mOp oMul (mVar 1) (mC (.int 7919))) (mC (.int 11))))
noncomputable def m_law_cell : Fn := mDef 2 2 b_law_cell
/-- 0 cell_here 1 k -/
noncomputable def b_law_mixed : SM := sRet (mOp oMod (mOp oMul (mOp oAdd (mOp oAdd (mVar 0) (mOp oMul (mC (.int 7)) (mVar 1))) (mC (.int 11))) (mC (.int 2862933555777941757))) (mC (.int 999999999999999989)))
noncomputable def m_law_mixed : Fn := mDef 2 2 b_law_mixed
/-- 0 script -/
noncomputable def b_law_is_free : SM := sRet (mOp oEq (mOp oMod (mCall m_law_cell (aCons (mVar 0) (aCons (mC (.int 0)) aNil))) (mC (.int 2))) (mC (.int 1)))
noncomputable def m_law_is_free : Fn := mDef 1 1 b_law_is_free
/-- 0 cell_here 1 signs 2 size 3 at 4 names_here 5 k 6 name 7 j 8 step -/
noncomputable def l_law_names_1 : SM := sSeq (sAsg (mOp oAdd (mOp oDiv (mOp oDiv (mVar 0) (mC (.int 192))) (mOp oAdd (mVar 7) (mC (.int 1)))) (mOp oMul (mC (.int 5)) (mVar 7))) (gName 8)) (sIf (tOr (tBl (mOp oEq (mVar 7) (mVar 3))) (tBl (mOp oEq (mVar 7) (mC (.int 0))))) (sAsg (mOp oAdd (mVar 6) (mOp oIx (mVar 1) (mOp oMod (mOp oAdd (mVar 8) (mOp oMul (mVar 5) (mCall bInt (aCons (mOp oEq (mVar 7) (mVar 3)) aNil)))) (mC (.int 26))))) (gName 6)) (sAsg (mOp oAdd (mVar 6) (mOp oIx (mOp oAdd (mVar 1) (mC (.str t_x7_0123456789))) (mOp oMod (mVar 8) (mC (.int 36))))) (gName 6)))
noncomputable def l_law_names_2 : SM := sSeq (sAsg (mC (.str t_x6_)) (gName 6)) (sSeq (sFor (iRng1 (aCons (mVar 2) aNil)) (gName 7) (l_law_names_1)) (sSeq (sIf (tBl (mOp oIn (mVar 6) (mTup (aCons (mC (.str t_say)) (aCons (mC (.str t_go)) (aCons (mC (.str t_part)) (aCons (mC (.str t_end)) aNil))))))) (sAsg (mOp oAdd (mVar 6) (mC (.str t_x9_1))) (gName 6)) (sNx)) (sExp (mMt isLst lAppend (mVar 4) (aCons (mVar 6) aNil)))))
noncomputable def b_law_names : SM := sSeq (sAsg (mC (.str t_x5_abcdefghijkl)) (gName 1)) (sSeq (sAsg (mCall m_law_mixed (aCons (mVar 0) (aCons (mC (.int 3)) aNil))) (gName 0)) (sSeq (sAsg (mOp oAdd (mC (.int 1)) (mOp oMod (mVar 0) (mC (.int 8)))) (gName 2)) (sSeq (sAsg (mOp oMod (mOp oDiv (mVar 0) (mC (.int 8))) (mVar 2)) (gName 3)) (sSeq (sAsg (mLst (aNil)) (gName 4)) (sSeq (sFor (iRng1 (aCons (mOp oAdd (mC (.int 3)) (mOp oMod (mOp oDiv (mVar 0) (mC (.int 64))) (mC (.int 3)))) aNil)) (gName 5) (l_law_names_2)) (sRet (mVar 4)))))))
noncomputable def m_law_names : Fn := mDef 1 9 b_law_names
/-- 0 cell_here 1 names_here -/
noncomputable def b_law_operand : SM := sSeq (sIf (tBl (mOp oEq (mOp oMod (mVar 0) (mC (.int 6))) (mC (.int 0)))) (sRet (mOp oIx (mLst (aCons (mC (.int 0)) (aCons (mC (.int 1)) (aCons (mOp oSub (mOp oPow (mC (.int 2)) (mC (.int 64))) (mC (.int 1))) (aCons (mOp oMod (mOp oMul (mOp oDiv (mVar 0) (mC (.int 24))) (mC (.int 48271))) (mOp oPow (mC (.int 2)) (mC (.int 64)))) aNil))))) (mOp oMod (mOp oDiv (mVar 0) (mC (.int 6))) (mC (.int 4))))) (sNx)) (sRet (mOp oIx (mVar 1) (mOp oMod (mOp oDiv (mVar 0) (mC (.int 6))) (mCall bLen (aCons (mVar 1) aNil)))))
noncomputable def m_law_operand : Fn := mDef 2 2 b_law_operand
/-- 0 script 1 names_here 2 cell_here 3 many 4 rest 5 found 6 k 7 one 8 other 9 sign -/
noncomputable def l_law_deeds_1 : SM := sSeq (sAsg (mCall m_law_mixed (aCons (mVar 4) (aCons (mVar 6) aNil))) (gName 7)) (sSeq (sAsg (mCall m_law_mixed (aCons (mVar 4) (aCons (mOp oAdd (mVar 6) (mC (.int 20))) aNil))) (gName 8)) (sSeq (sAsg (mOp oMod (mCall m_law_mixed (aCons (mVar 4) (aCons (mOp oAdd (mVar 6) (mC (.int 40))) aNil))) (mC (.int 8))) (gName 9)) (sSeq (sIf (tTru (mCall m_law_is_free (aCons (mVar 0) aNil))) (sSeq (sAsg (mOp oMod (mVar 4) (mOp oPow (mC (.int 10)) (mC (.int 21)))) (gName 7)) (sSeq (sAsg (mOp oMod (mOp oDiv (mVar 4) (mOp oPow (mC (.int 10)) (mC (.int 21)))) (mOp oPow (mC (.int 10)) (mC (.int 21)))) (gName 8)) (sSeq (sAsg (mOp oMod (mOp oDiv (mVar 4) (mOp oPow (mC (.int 10)) (mC (.int 42)))) (mC (.int 8))) (gName 9)) (sAsg (mOp oDiv (mVar 4) (mOp oMul (mC (.int 8)) (mOp oPow (mC (.int 10)) (mC (.int 42))))) (gName 4))))) (sNx)) (sExp (mMt isLst lAppend (mVar 5) (aCons (mTup (aCons (mOp oIx (mC (.str t_x10_)) (mVar 9)) (aCons (mCall m_law_operand (aCons (mVar 7) (aCons (mVar 1) aNil))) (aCons (mCall m_law_operand (aCons (mVar 8) (aCons (mVar 1) aNil))) aNil)))) aNil))))))
noncomputable def b_law_deeds : SM := sSeq (sAsg (mCall m_law_cell (aCons (mVar 0) (aCons (mC (.int 1)) aNil))) (gName 2)) (sSeq (sAsg (mOp oAdd (mC (.int 1)) (mOp oMod (mVar 2) (mC (.int 4)))) (gName 3)) (sSeq (sIf (tBl (mOp oEq (mOp oMod (mOp oDiv (mVar 2) (mC (.int 4))) (mC (.int 6))) (mC (.int 1)))) (sAsg (mC (.int 12)) (gName 3)) (sNx)) (sSeq (sAsg (mOp oDiv (mVar 2) (mC (.int 24))) (gName 4)) (sSeq (sAsg (mLst (aNil)) (gName 5)) (sSeq (sFor (iRng1 (aCons (mVar 3) aNil)) (gName 6) (l_law_deeds_1)) (sSeq (sIf (tAnd (tBl (mOp oEq (mCall bLen (aCons (mVar 5) aNil)) (mC (.int 2)))) (tBl (mOp oEq (mOp oMod (mOp oDiv (mVar 2) (mC (.int 4))) (mC (.int 3))) (mC (.int 0))))) (sAsg (mTup (aCons (mOp oIx (mOp oIx (mVar 5) (mC (.int 0))) (mC (.int 0))) (aCons (mOp oIx (mOp oIx (mVar 5) (mC (.int 0))) (mC (.int 2))) (aCons (mOp oIx (mOp oIx (mVar 5) (mC (.int 0))) (mC (.int 1))) aNil)))) (gSub (mVar 5) (mC (.int 1)))) (sNx)) (sRet (mVar 5))))))))
noncomputable def m_law_deeds : Fn := mDef 2 10 b_law_deeds
/-- 0 cell_here 1 other 2 names_here 3 deeds_here 4 name 5 operand_here 6 s 7 a 8 b -/
noncomputable def b_law_row : SM := sSeq (sAsg (mOp oIx (mVar 2) (mOp oMod (mOp oMod (mVar 1) (mC (.int 60))) (mCall bLen (aCons (mVar 2) aNil)))) (gName 4)) (sSeq (sAsg (mCall m_law_operand (aCons (mOp oDiv (mVar 1) (mC (.int 43200))) (aCons (mVar 2) aNil))) (gName 5)) (sSeq (sIf (tBl (mOp oLt (mOp oMod (mVar 0) (mC (.int 11))) (mC (.int 5)))) (sSeq (sAsg (mOp oIx (mVar 3) (mOp oMod (mOp oMod (mOp oDiv (mVar 1) (mC (.int 60))) (mC (.int 12))) (mCall bLen (aCons (mVar 3) aNil)))) (gTup 3 (gCons (gName 6) (gCons (gName 7) (gCons (gName 8) gNil))))) (sRet (mTup (aCons (mC (.str t_reckon)) (aCons (mVar 4) (aCons (mVar 6) (aCons (mVar 7) (aCons (mVar 8) aNil)))))))) (sNx)) (sSeq (sIf (tBl (mOp oEq (mOp oMod (mVar 0) (mC (.int 11))) (mC (.int 5)))) (sRet (mTup (aCons (mC (.str t_copy)) (aCons (mVar 4) (aCons (mVar 5) aNil))))) (sNx)) (sSeq (sIf (tBl (mOp oEq (mOp oMod (mVar 0) (mC (.int 11))) (mC (.int 6)))) (sRet (mTup (aCons (mC (.str t_say)) (aCons (mVar 5) aNil)))) (sNx)) (sSeq (sIf (tBl (mOp oLt (mOp oMod (mVar 0) (mC (.int 11))) (mC (.int 9)))) (sRet (mTup (aCons (mC (.str t_part)) (aCons (mVar 5) (aCons (mOp oMod (mOp oDiv (mVar 1) (mC (.int 720))) (mC (.int 60))) aNil))))) (sNx)) (sRet (mTup (aCons (mC (.str t_part)) (aCons (mVar 5) (aCons (mUn uNeg (mC (.int 1))) aNil))))))))))
noncomputable def m_law_row : Fn := mDef 4 9 b_law_row
/-- 0 rows 1 number_here 2 ends 3 n -/
noncomputable def c_law_last_1 : TM := tBl (mOp oEq (mOp oIx (mOp oIx (mVar 0) (mVar 3)) (mC (.int 0))) (mC (.str t_end)))
noncomputable def e_law_last_2 : EM := mVar 3
noncomputable def b_law_last : SM := sSeq (sAsg (mLc [3] (iRng1 (aCons (mCall bLen (aCons (mVar 0) aNil)) aNil)) (gName 3) (c_law_last_1) (e_law_last_2)) (gName 2)) (sSeq (sIf (tOr (tBl (mOp oEq (mVar 2) (mLst (aNil)))) (tBl (mOp oGt (mOp oMod (mVar 1) (mC (.int 3))) (mC (.int 0))))) (sRet (mTup (aCons (mC (.str t_end)) aNil))) (sNx)) (sRet (mTup (aCons (mC (.str t_go)) (aCons (mOp oMod (mOp oDiv (mVar 1) (mC (.int 3))) (mOp oIx (mVar 2) (mC (.int 0)))) aNil)))))
noncomputable def m_law_last : Fn := mDef 2 4 b_law_last
/-- 0 script 1 k -/
noncomputable def b_law_number : SM := sSeq (sIf (tTru (mCall m_law_is_free (aCons (mVar 0) aNil))) (sRet (mCall m_law_cell (aCons (mVar 0) (aCons (mVar 1) aNil)))) (sNx)) (sRet (mCall m_law_mixed (aCons (mCall bSum (aCons (mSl (mVar 0) (pNo) (pSome (mC (.int 4)))) aNil)) (aCons (mVar 1) aNil))))
noncomputable def m_law_number : Fn := mDef 2 2 b_law_number
/-- 0 script 1 cells 2 names_here 3 deeds_here 4 rows 5 k 6 cell_here 7 other -/
noncomputable def l_law_rough_1 : SM := sSeq (sAsg (mCall m_law_mixed (aCons (mVar 6) (aCons (mVar 5) aNil))) (gName 7)) (sSeq (sExp (mMt isLst lAppend (mVar 4) (aCons (mCall m_law_row (aCons (mVar 6) (aCons (mVar 7) (aCons (mVar 2) (aCons (mVar 3) aNil))))) aNil))) (sSeq (sIf (tBl (mOp oEq (mOp oMod (mVar 6) (mC (.int 11))) (mC (.int 9)))) (sExp (mMt isLst lAppend (mVar 4) (aCons (mTup (aCons (mC (.str t_end)) aNil)) aNil))) (sNx)) (sIf (tBl (mOp oEq (mOp oMod (mVar 6) (mC (.int 11))) (mC (.int 10)))) (sExp (mMt isLst lAppend (mVar 4) (aCons (mTup (aCons (mC (.str t_go)) (aCons (mOp oMod (mOp oDiv (mVar 7) (mC (.int 720))) (mC (.int 60))) aNil))) aNil))) (sNx))))
noncomputable def b_law_rough : SM := sSeq (sAsg (mCall m_law_names (aCons (mCall m_law_cell (aCons (mVar 0) (aCons (mC (.int 0)) aNil))) aNil)) (gName 2)) (sSeq (sAsg (mCall m_law_deeds (aCons (mVar 0) (aCons (mVar 2) aNil))) (gName 3)) (sSeq (sAsg (mLst (aNil)) (gName 4)) (sSeq (sFor (iEnum (aCons (mVar 1) aNil)) (gTup 2 (gCons (gName 5) (gCons (gName 6) gNil))) (l_law_rough_1)) (sRet (mOp oAdd (mVar 4) (mLst (aCons (mCall m_law_last (aCons (mVar 4) (aCons (mCall m_law_number (aCons (mVar 0) (aCons (mC (.int 58)) aNil))) aNil))) aNil)))))))
noncomputable def m_law_rough : Fn := mDef 2 8 b_law_rough
/-- 0 rough_here 1 to -/
noncomputable def l_law_goal_1 : SM := sAsg (mOp oSub (mVar 1) (mC (.int 1))) (gName 1)
noncomputable def c_law_goal_2 : TM := tBl (mOp oEq (mOp oIx (mOp oIx (mVar 0) (mVar 1)) (mC (.int 0))) (mC (.str t_go)))
noncomputable def b_law_goal : SM := sSeq (sAsg (mOp oMod (mVar 1) (mCall bLen (aCons (mVar 0) aNil))) (gName 1)) (sSeq (sWhile (c_law_goal_2) (l_law_goal_1)) (sRet (mVar 1)))
noncomputable def m_law_goal : Fn := mDef 2 2 b_law_goal
/-- 0 rows 1 cell_here 2 flat 3 n 4 last_here -/
noncomputable def c_law_with_while_1 : TM := tBl (mOp oIn (mOp oIx (mOp oIx (mVar 0) (mVar 3)) (mC (.int 0))) (mTup (aCons (mC (.str t_reckon)) (aCons (mC (.str t_copy)) (aCons (mC (.str t_say)) aNil)))))
noncomputable def e_law_with_while_2 : EM := mVar 3
noncomputable def b_law_with_while : SM := sSeq (sAsg (mLc [3] (iRng2 (aCons (mC (.int 2)) (aCons (mCall bLen (aCons (mVar 0) aNil)) aNil))) (gName 3) (c_law_with_while_1) (e_law_with_while_2)) (gName 2)) (sSeq (sIf (tOr (tBl (mOp oEq (mVar 2) (mLst (aNil)))) (tBl (mOp oNotIn (mOp oIx (mOp oIx (mVar 0) (mC (.int 0))) (mC (.int 0))) (mTup (aCons (mC (.str t_reckon)) (aCons (mC (.str t_copy)) (aCons (mC (.str t_say)) aNil))))))) (sRet (mVar 0)) (sNx)) (sSeq (sAsg (mOp oIx (mVar 2) (mOp oMod (mOp oDiv (mVar 1) (mC (.int 4))) (mCall bLen (aCons (mVar 2) aNil)))) (gName 4)) (sSeq (sAsg (mTup (aCons (mC (.str t_part)) (aCons (mOp oIx (mOp oIx (mVar 0) (mVar 4)) (mC (.int 1))) (aCons (mC (.int 1)) aNil)))) (gSub (mVar 0) (mVar 4))) (sSeq (sAsg (mTup (aCons (mC (.str t_go)) (aCons (mVar 4) aNil))) (gSub (mVar 0) (mC (.int 0)))) (sRet (mVar 0))))))
noncomputable def m_law_with_while : Fn := mDef 2 5 b_law_with_while
/-- 0 rows 1 cell_here 2 flat 3 n 4 first 5 later 6 last_here 7 to -/
noncomputable def c_law_with_else_1 : TM := tBl (mOp oIn (mOp oIx (mOp oIx (mVar 0) (mVar 3)) (mC (.int 0))) (mTup (aCons (mC (.str t_reckon)) (aCons (mC (.str t_copy)) (aCons (mC (.str t_say)) aNil)))))
noncomputable def e_law_with_else_2 : EM := mVar 3
noncomputable def c_law_with_else_3 : TM := tBl (mOp oGt (mVar 3) (mVar 4))
noncomputable def e_law_with_else_4 : EM := mVar 3
noncomputable def b_law_with_else : SM := sSeq (sAsg (mLc [3] (iRng1 (aCons (mCall bLen (aCons (mVar 0) aNil)) aNil)) (gName 3) (c_law_with_else_1) (e_law_with_else_2)) (gName 2)) (sSeq (sIf (tBl (mOp oEq (mOp oMod (mVar 1) (mC (.int 4))) (mC (.int 3)))) (sRet (mCall m_law_with_while (aCons (mVar 0) (aCons (mVar 1) aNil)))) (sNx)) (sSeq (sIf (tOr (tBl (mOp oLt (mCall bLen (aCons (mVar 2) aNil)) (mC (.int 2)))) (tBl (mOp oEq (mOp oMod (mVar 1) (mC (.int 2))) (mC (.int 0))))) (sRet (mVar 0)) (sNx)) (sSeq (sAsg (mOp oIx (mVar 2) (mOp oMod (mOp oDiv (mVar 1) (mC (.int 4))) (mOp oSub (mCall bLen (aCons (mVar 2) aNil)) (mC (.int 1))))) (gName 4)) (sSeq (sAsg (mLc [3] (iSeq (mVar 2)) (gName 3) (c_law_with_else_3) (e_law_with_else_4)) (gName 5)) (sSeq (sAsg (mOp oIx (mVar 5) (mOp oMod (mOp oDiv (mVar 1) (mC (.int 256))) (mCall bLen (aCons (mVar 5) aNil)))) (gName 6)) (sSeq (sAsg (mOp oMod (mOp oDiv (mVar 1) (mC (.int 16384))) (mCall bLen (aCons (mVar 0) aNil))) (gName 7)) (sSeq (sIf (tBl (mOp oEq (mOp oIx (mOp oIx (mVar 0) (mUn uNeg (mC (.int 1)))) (mC (.int 0))) (mC (.str t_go)))) (sAsg (mOp oMod (mVar 7) (mOp oAdd (mVar 4) (mC (.int 1)))) (gName 7)) (sNx)) (sSeq (sIf (tBl (mChain oLt oLe (mVar 4) (mVar 7) (mVar 6))) (sAsg (mOp oAdd (mVar 6) (mC (.int 1))) (gName 7)) (sNx)) (sSeq (sIf (tBl (mOp oEq (mOp oIx (mOp oIx (mVar 0) (mVar 7)) (mC (.int 0))) (mC (.str t_go)))) (sAsg (mC (.int 0)) (gName 7)) (sNx)) (sSeq (sAsg (mTup (aCons (mC (.str t_part)) (aCons (mOp oIx (mOp oIx (mVar 0) (mVar 4)) (mC (.int 1))) (aCons (mOp oAdd (mVar 6) (mC (.int 1))) aNil)))) (gSub (mVar 0) (mVar 4))) (sSeq (sAsg (mTup (aCons (mC (.str t_go)) (aCons (mVar 7) aNil))) (gSub (mVar 0) (mVar 6))) (sRet (mVar 0)))))))))))))
noncomputable def m_law_with_else : Fn := mDef 2 8 b_law_with_else
/-- 0 script 1 many 2 names_here 3 deeds_here 4 rows 5 k 6 cell_here -/
noncomputable def l_law_stairs_1 : SM := sSeq (sAsg (mCall m_law_cell (aCons (mVar 0) (aCons (mOp oAdd (mC (.int 2)) (mVar 5)) aNil))) (gName 6)) (sSeq (sExp (mMt isLst lAppend (mVar 4) (aCons (mCall m_law_row (aCons (mOp oAdd (mOp oMul (mOp oDiv (mVar 6) (mC (.int 11))) (mC (.int 11))) (mOp oMod (mVar 6) (mC (.int 7)))) (aCons (mCall m_law_mixed (aCons (mVar 6) (aCons (mVar 5) aNil))) (aCons (mVar 2) (aCons (mVar 3) aNil))))) aNil))) (sExp (mMt isLst lAppend (mVar 4) (aCons (mTup (aCons (mC (.str t_go)) (aCons (mOp oSub (mOp oMul (mC (.int 2)) (mVar 5)) (mC (.int 1))) aNil))) aNil))))
noncomputable def b_law_stairs : SM := sSeq (sAsg (mCall m_law_names (aCons (mCall m_law_cell (aCons (mVar 0) (aCons (mC (.int 0)) aNil))) aNil)) (gName 2)) (sSeq (sAsg (mCall m_law_deeds (aCons (mVar 0) (aCons (mVar 2) aNil))) (gName 3)) (sSeq (sAsg (mLst (aCons (mTup (aCons (mC (.str t_go)) (aCons (mOp oSub (mOp oMul (mC (.int 2)) (mVar 1)) (mC (.int 1))) aNil))) aNil)) (gName 4)) (sSeq (sFor (iRng1 (aCons (mVar 1) aNil)) (gName 5) (l_law_stairs_1)) (sSeq (sAsg (mTup (aCons (mC (.str t_go)) (aCons (mOp oAdd (mOp oMul (mC (.int 2)) (mVar 1)) (mC (.int 1))) aNil))) (gSub (mVar 4) (mC (.int 2)))) (sRet (mOp oAdd (mVar 4) (mLst (aCons (mTup (aCons (mC (.str t_end)) aNil)) aNil))))))))
noncomputable def m_law_stairs : Fn := mDef 2 7 b_law_stairs
/-- 0 cell_here 1 n 2 many 3 names_here 4 deeds_here 5 kind 6 rest 7 s 8 a 9 b -/
noncomputable def b_law_any_row : SM := sSeq (sAsg (mOp oMod (mVar 0) (mC (.int 14))) (gName 5)) (sSeq (sAsg (mOp oDiv (mVar 0) (mC (.int 14))) (gName 6)) (sSeq (sIf (tBl (mOp oLt (mVar 5) (mC (.int 6)))) (sSeq (sAsg (mOp oIx (mVar 4) (mOp oMod (mOp oDiv (mVar 6) (mCall bLen (aCons (mVar 3) aNil))) (mCall bLen (aCons (mVar 4) aNil)))) (gTup 3 (gCons (gName 7) (gCons (gName 8) (gCons (gName 9) gNil))))) (sRet (mTup (aCons (mC (.str t_reckon)) (aCons (mOp oIx (mVar 3) (mOp oMod (mVar 6) (mCall bLen (aCons (mVar 3) aNil)))) (aCons (mVar 7) (aCons (mVar 8) (aCons (mVar 9) aNil)))))))) (sNx)) (sSeq (sIf (tBl (mOp oLt (mVar 5) (mC (.int 8)))) (sRet (mTup (aCons (mC (.str t_copy)) (aCons (mOp oIx (mVar 3) (mOp oMod (mVar 6) (mCall bLen (aCons (mVar 3) aNil)))) (aCons (mCall m_law_operand (aCons (mOp oDiv (mVar 6) (mCall bLen (aCons (mVar 3) aNil))) (aCons (mVar 3) aNil))) aNil))))) (sNx)) (sSeq (sIf (tBl (mOp oLt (mVar 5) (mC (.int 10)))) (sRet (mTup (aCons (mC (.str t_say)) (aCons (mCall m_law_operand (aCons (mVar 6) (aCons (mVar 3) aNil))) aNil)))) (sNx)) (sSeq (sIf (tAnd (tBl (mOp oLt (mVar 5) (mC (.int 12)))) (tBl (mOp oGt (mVar 2) (mC (.int 1))))) (sRet (mTup (aCons (mC (.str t_part)) (aCons (mCall m_law_operand (aCons (mOp oDiv (mVar 6) (mOp oSub (mVar 2) (mC (.int 1)))) (aCons (mVar 3) aNil))) (aCons (mOp oMod (mOp oAdd (mOp oAdd (mVar 1) (mC (.int 2))) (mOp oMod (mVar 6) (mOp oSub (mVar 2) (mC (.int 1))))) (mVar 2)) aNil))))) (sNx)) (sSeq (sIf (tBl (mOp oEq (mVar 5) (mC (.int 12)))) (sRet (mTup (aCons (mC (.str t_go)) (aCons (mOp oMod (mVar 6) (mVar 2)) aNil)))) (sNx)) (sRet (mTup (aCons (mC (.str t_end)) aNil)))))))))
noncomputable def m_law_any_row : Fn := mDef 5 10 b_law_any_row
/-- 0 program_here 1 n 2 row_here -/
noncomputable def b_law_followers : SM := sSeq (sAsg (mOp oIx (mVar 0) (mVar 1)) (gName 2)) (sSeq (sIf (tBl (mOp oEq (mOp oIx (mVar 2) (mC (.int 0))) (mC (.str t_end)))) (sRet (mLst (aNil))) (sNx)) (sSeq (sIf (tBl (mOp oEq (mOp oIx (mVar 2) (mC (.int 0))) (mC (.str t_go)))) (sRet (mLst (aCons (mOp oIx (mVar 2) (mC (.int 1))) aNil))) (sNx)) (sSeq (sIf (tBl (mOp oEq (mOp oIx (mVar 2) (mC (.int 0))) (mC (.str t_part)))) (sRet (mLst (aCons (mOp oAdd (mVar 1) (mC (.int 1))) (aCons (mOp oIx (mVar 2) (mC (.int 2))) aNil)))) (sNx)) (sRet (mLst (aCons (mOp oAdd (mVar 1) (mC (.int 1))) aNil))))))
noncomputable def m_law_followers : Fn := mDef 2 3 b_law_followers
/-- 0 rows 1 ahead 2 seen 3 n 4 more 5 m 6 one 7 other -/
noncomputable def l_law_comes_to_1 : SM := sIf (tBl (mOp oEq (mOp oIx (mOp oIx (mVar 0) (mVar 3)) (mC (.int 0))) (mC (.str t_end)))) (sAsg (mC (.bl true)) (gSub (mVar 2) (mVar 3))) (sNx)
noncomputable def l_law_comes_to_2 : SM := sSeq (sAsg (mOp oIx (mLst (aCons (mTup (aCons (mVar 5) (aCons (mVar 3) aNil))) (aCons (mTup (aCons (mVar 3) (aCons (mVar 5) aNil))) aNil))) (mCall bInt (aCons (mVar 1) aNil))) (gTup 2 (gCons (gName 6) (gCons (gName 7) gNil)))) (sIf (tAnd (tBl (mOp oIn (mVar 6) (mVar 2))) (tBl (mOp oNotIn (mVar 7) (mVar 2)))) (sSeq (sAsg (mC (.bl true)) (gSub (mVar 2) (mVar 7))) (sAsg (mC (.bl true)) (gName 4))) (sNx))
noncomputable def l_law_comes_to_3 : SM := sFor (iSeq (mCall m_law_followers (aCons (mVar 0) (aCons (mVar 3) aNil)))) (gName 5) (l_law_comes_to_2)
noncomputable def l_law_comes_to_4 : SM := sSeq (sAsg (mC (.bl false)) (gName 4)) (sFor (iRng1 (aCons (mCall bLen (aCons (mVar 0) aNil)) aNil)) (gName 3) (l_law_comes_to_3))
noncomputable def c_law_comes_to_5 : TM := tTru (mVar 4)
noncomputable def b_law_comes_to : SM := sSeq (sAsg (mDis [(mC (.int 0), mC (.bl true))]) (gName 2)) (sSeq (sIf (tNot (tTru (mVar 1))) (sSeq (sAsg (mNewK) (gName 2)) (sFor (iRng1 (aCons (mCall bLen (aCons (mVar 0) aNil)) aNil)) (gName 3) (l_law_comes_to_1))) (sNx)) (sSeq (sAsg (mC (.bl true)) (gName 4)) (sSeq (sWhile (c_law_comes_to_5) (l_law_comes_to_4)) (sRet (mVar 2)))))
noncomputable def m_law_comes_to : Fn := mDef 2 8 b_law_comes_to
/-- 0 rows 1 last_here 2 turn 3 seen 4 near 5 lost 6 n 7 dead -/
noncomputable def c_law_mended_1 : TM := tBl (mOp oNotIn (mVar 6) (mVar 3))
noncomputable def e_law_mended_2 : EM := mVar 6
noncomputable def c_law_mended_3 : TM := tBl (mOp oNotIn (mVar 6) (mVar 4))
noncomputable def e_law_mended_4 : EM := mVar 6
noncomputable def l_law_mended_5 : SM := sSeq (sAsg (mCall m_law_comes_to (aCons (mVar 0) (aCons (mC (.bl true)) aNil))) (gName 3)) (sSeq (sAsg (mCall m_law_comes_to (aCons (mVar 0) (aCons (mC (.bl false)) aNil))) (gName 4)) (sSeq (sAsg (mLc [6] (iRng1 (aCons (mCall bLen (aCons (mVar 0) aNil)) aNil)) (gName 6) (c_law_mended_1) (e_law_mended_2)) (gName 5)) (sSeq (sAsg (mLc [6] (iRng1 (aCons (mCall bLen (aCons (mVar 0) aNil)) aNil)) (gName 6) (c_law_mended_3) (e_law_mended_4)) (gName 7)) (sIf (tBl (mOp oNe (mVar 5) (mLst (aNil)))) (sAsg (mTup (aCons (mC (.str t_say)) (aCons (mVar 2) aNil))) (gSub (mVar 0) (mOp oSub (mOp oIx (mVar 5) (mC (.int 0))) (mC (.int 1))))) (sIf (tAnd (tBl (mOp oNe (mVar 7) (mLst (aNil)))) (tBl (mOp oEq (mOp oIx (mVar 7) (mUn uNeg (mC (.int 1)))) (mVar 1)))) (sAsg (mTup (aCons (mC (.str t_end)) aNil)) (gSub (mVar 0) (mVar 1))) (sIf (tBl (mOp oNe (mVar 7) (mLst (aNil)))) (sAsg (mTup (aCons (mC (.str t_say)) (aCons (mVar 2) aNil))) (gSub (mVar 0) (mOp oIx (mVar 7) (mUn uNeg (mC (.int 1)))))) (sRet (mVar 0))))))))
noncomputable def b_law_mended : SM := sSeq (sAsg (mOp oSub (mCall bLen (aCons (mVar 0) aNil)) (mC (.int 1))) (gName 1)) (sSeq (sIf (tBl (mOp oNe (mOp oIx (mOp oIx (mVar 0) (mVar 1)) (mC (.int 0))) (mC (.str t_go)))) (sAsg (mTup (aCons (mC (.str t_end)) aNil)) (gSub (mVar 0) (mVar 1))) (sNx)) (sSeq (sFor (iRng1 (aCons (mOp oMul (mC (.int 2)) (mCall bLen (aCons (mVar 0) aNil))) aNil)) (gName 2) (l_law_mended_5)) (sRet (mVar 0))))
noncomputable def m_law_mended : Fn := mDef 1 8 b_law_mended
/-- 0 script 1 cells 2 names_here 3 deeds_here 4 many 5 rows 6 n -/
noncomputable def e_law_any_program_1 : EM := mCall m_law_any_row (aCons (mOp oIx (mVar 1) (mVar 6)) (aCons (mVar 6) (aCons (mVar 4) (aCons (mVar 2) (aCons (mVar 3) aNil)))))
noncomputable def b_law_any_program : SM := sSeq (sAsg (mCall m_law_names (aCons (mCall m_law_cell (aCons (mVar 0) (aCons (mC (.int 0)) aNil))) aNil)) (gName 2)) (sSeq (sAsg (mCall m_law_deeds (aCons (mVar 0) (aCons (mVar 2) aNil))) (gName 3)) (sSeq (sAsg (mCall bMax (aCons (mC (.int 1)) (aCons (mCall bLen (aCons (mVar 1) aNil)) aNil))) (gName 4)) (sSeq (sAsg (mLst (aCons (mTup (aCons (mC (.str t_end)) aNil)) aNil)) (gName 5)) (sSeq (sIf (tBl (mOp oGt (mCall bLen (aCons (mVar 1) aNil)) (mC (.int 0)))) (sAsg (mLc [6] (iRng1 (aCons (mVar 4) aNil)) (gName 6) (tYes) (e_law_any_program_1)) (gName 5)) (sNx)) (sRet (mCall m_law_mended (aCons (mVar 5) aNil)))))))
noncomputable def m_law_any_program : Fn := mDef 2 7 b_law_any_program
/-- 0 script 1 cells 2 turn 3 rough_here 4 rows 5 n 6 row_here -/
noncomputable def l_law_program_1 : SM := sSeq (sIf (tAnd (tBl (mOp oEq (mOp oIx (mVar 6) (mC (.int 0))) (mC (.str t_part)))) (tBl (mOp oEq (mOp oIx (mVar 6) (mC (.int 2))) (mUn uNeg (mC (.int 1)))))) (sAsg (mTup (aCons (mC (.str t_part)) (aCons (mOp oIx (mVar 6) (mC (.int 1))) (aCons (mOp oAdd (mVar 5) (mC (.int 2))) aNil)))) (gName 6)) (sIf (tAnd (tBl (mOp oEq (mOp oIx (mVar 6) (mC (.int 0))) (mC (.str t_part)))) (tBl (mOp oEq (mOp oMod (mOp oIx (mVar 6) (mC (.int 2))) (mCall bLen (aCons (mVar 3) aNil))) (mOp oAdd (mVar 5) (mC (.int 1)))))) (sAsg (mTup (aCons (mC (.str t_part)) (aCons (mOp oIx (mVar 6) (mC (.int 1))) (aCons (mVar 5) aNil)))) (gName 6)) (sIf (tBl (mOp oEq (mOp oIx (mVar 6) (mC (.int 0))) (mC (.str t_part)))) (sAsg (mTup (aCons (mC (.str t_part)) (aCons (mOp oIx (mVar 6) (mC (.int 1))) (aCons (mOp oMod (mOp oIx (mVar 6) (mC (.int 2))) (mCall bLen (aCons (mVar 3) aNil))) aNil)))) (gName 6)) (sIf (tBl (mOp oEq (mOp oIx (mVar 6) (mC (.int 0))) (mC (.str t_go)))) (sAsg (mTup (aCons (mC (.str t_go)) (aCons (mCall m_law_goal (aCons (mVar 3) (aCons (mOp oIx (mVar 6) (mC (.int 1))) aNil))) aNil))) (gName 6)) (sNx))))) (sExp (mMt isLst lAppend (mVar 4) (aCons (mVar 6) aNil)))
noncomputable def b_law_program : SM := sSeq (sIf (tTru (mCall m_law_is_free (aCons (mVar 0) aNil))) (sRet (mCall m_law_any_program (aCons (mVar 0) (aCons (mVar 1) aNil)))) (sNx)) (sSeq (sAsg (mCall m_law_number (aCons (mVar 0) (aCons (mC (.int 57)) aNil))) (gName 2)) (sSeq (sIf (tBl (mOp oEq (mOp oMod (mVar 2) (mC (.int 8))) (mC (.int 1)))) (sRet (mCall m_law_stairs (aCons (mVar 0) (aCons (mOp oAdd (mC (.int 1)) (mOp oMod (mOp oDiv (mVar 2) (mC (.int 8))) (mC (.int 28)))) aNil)))) (sNx)) (sSeq (sAsg (mCall m_law_rough (aCons (mVar 0) (aCons (mVar 1) aNil))) (gName 3)) (sSeq (sAsg (mLst (aNil)) (gName 4)) (sSeq (sFor (iEnum (aCons (mVar 3) aNil)) (gTup 2 (gCons (gName 5) (gCons (gName 6) gNil))) (l_law_program_1)) (sRet (mCall m_law_with_else (aCons (mVar 4) (aCons (mCall m_law_number (aCons (mVar 0) (aCons (mC (.int 59)) aNil))) aNil)))))))))
noncomputable def m_law_program : Fn := mDef 2 7 b_law_program
/-- 0 row_here 1 deed -/
noncomputable def b_law_has : SM := sRet (mAnd (mOp oEq (mOp oIx (mVar 0) (mC (.int 0))) (mC (.str t_reckon))) (mOp oEq (mSl (mVar 0) (pSome (mC (.int 2))) (pNo)) (mVar 1)))
noncomputable def m_law_has : Fn := mDef 2 2 b_law_has
/-- 0 row_here 1 deed -/
noncomputable def b_law_changes : SM := sRet (mAnd (mOp oIn (mOp oIx (mVar 0) (mC (.int 0))) (mTup (aCons (mC (.str t_reckon)) (aCons (mC (.str t_copy)) aNil)))) (mOp oIn (mOp oIx (mVar 0) (mC (.int 1))) (mSl (mVar 1) (pSome (mC (.int 1))) (pNo))))
noncomputable def m_law_changes : Fn := mDef 2 2 b_law_changes
/-- 0 program_here 1 found 2 row_here -/
noncomputable def l_law_known_1 : SM := sIf (tAnd (tBl (mOp oEq (mOp oIx (mVar 2) (mC (.int 0))) (mC (.str t_reckon)))) (tBl (mOp oNotIn (mSl (mVar 2) (pSome (mC (.int 2))) (pNo)) (mVar 1)))) (sExp (mMt isLst lAppend (mVar 1) (aCons (mSl (mVar 2) (pSome (mC (.int 2))) (pNo)) aNil))) (sNx)
noncomputable def b_law_known : SM := sSeq (sAsg (mLst (aNil)) (gName 1)) (sSeq (sFor (iSeq (mVar 0)) (gName 2) (l_law_known_1)) (sRet (mVar 1)))
noncomputable def m_law_known : Fn := mDef 1 3 b_law_known
/-- 0 script -/
noncomputable def b_law_made : SM := sRet (mCall m_law_program (aCons (mVar 0) (aCons (mSl (mVar 0) (pSome (mC (.int 2))) (pSome (mC (.int 22)))) aNil)))
noncomputable def m_law_made : Fn := mDef 1 1 b_law_made
/-- 0 program_here 1 far_here 2 row_here 3 turn 4 n 5 m -/
noncomputable def e_law_far_1 : EM := mOp oMul (mCall bLen (aCons (mVar 0) aNil)) (mCall bInt (aCons (mOp oNe (mOp oIx (mVar 2) (mC (.int 0))) (mC (.str t_end))) aNil))
noncomputable def l_law_far_2 : SM := sAsg (mCall bMin (aCons (mOp oIx (mVar 1) (mVar 4)) (aCons (mOp oAdd (mOp oIx (mVar 1) (mVar 5)) (mC (.int 1))) aNil))) (gSub (mVar 1) (mVar 4))
noncomputable def l_law_far_3 : SM := sFor (iSeq (mCall m_law_followers (aCons (mVar 0) (aCons (mVar 4) aNil)))) (gName 5) (l_law_far_2)
noncomputable def l_law_far_4 : SM := sFor (iRng1 (aCons (mCall bLen (aCons (mVar 0) aNil)) aNil)) (gName 4) (l_law_far_3)
noncomputable def b_law_far : SM := sSeq (sAsg (mLc [2] (iSeq (mVar 0)) (gName 2) (tYes) (e_law_far_1)) (gName 1)) (sSeq (sFor (iSeq (mVar 0)) (gName 3) (l_law_far_4)) (sRet (mVar 1)))
noncomputable def m_law_far : Fn := mDef 1 6 b_law_far
/-- 0 program_here 1 script 2 far_here 3 rest 4 way_here 5 ahead 6 pick -/
noncomputable def l_law_way_1 : SM := sSeq (sAsg (mCall m_law_followers (aCons (mVar 0) (aCons (mOp oIx (mVar 4) (mUn uNeg (mC (.int 1)))) aNil))) (gName 5)) (sSeq (sAsg (mOp oMod (mOp oDiv (mCall m_law_mixed (aCons (mCall m_law_cell (aCons (mVar 1) (aCons (mOp oAdd (mC (.int 1)) (mCall bLen (aCons (mVar 4) aNil))) aNil))) (aCons (mCall bLen (aCons (mVar 4) aNil)) aNil))) (mC (.int 7))) (mCall bLen (aCons (mVar 5) aNil))) (gName 6)) (sSeq (sIf (tTru (mCall m_law_is_free (aCons (mVar 1) aNil))) (sSeq (sAsg (mOp oMod (mVar 3) (mCall bLen (aCons (mVar 5) aNil))) (gName 6)) (sAsg (mOp oDiv (mVar 3) (mCall bLen (aCons (mVar 5) aNil))) (gName 3))) (sNx)) (sIf (tBl (mOp oLe (mCall bLen (aCons (mVar 4) aNil)) (mC (.int 60)))) (sExp (mMt isLst lAppend (mVar 4) (aCons (mOp oIx (mVar 5) (mVar 6)) aNil))) (sExp (mMt isLst lAppend (mVar 4) (aCons (mMinKey (mVar 5) 2) aNil))))))
noncomputable def c_law_way_2 : TM := tBl (mOp oNe (mOp oIx (mOp oIx (mVar 0) (mOp oIx (mVar 4) (mUn uNeg (mC (.int 1))))) (mC (.int 0))) (mC (.str t_end)))
noncomputable def b_law_way : SM := sSeq (sAsg (mCall m_law_far (aCons (mVar 0) aNil)) (gName 2)) (sSeq (sAsg (mCall m_law_cell (aCons (mVar 1) (aCons (mC (.int 61)) aNil))) (gName 3)) (sSeq (sAsg (mLst (aCons (mC (.int 0)) aNil)) (gName 4)) (sSeq (sWhile (c_law_way_2) (l_law_way_1)) (sRet (mVar 4)))))
noncomputable def m_law_way : Fn := mDef 2 7 b_law_way
/-- 0 program_here 1 deed 2 k 3 wants 4 way_here 5 comes 6 at 7 row_here 8 spot -/
noncomputable def l_law_ahead_right_1 : SM := sSeq (sAsg (mOp oIx (mVar 0) (mOp oIx (mVar 4) (mVar 6))) (gName 7)) (sSeq (sIf (tTru (mCall m_law_has (aCons (mVar 7) (aCons (mVar 1) aNil)))) (sAsg (mC (.bl true)) (gName 5)) (sIf (tTru (mCall m_law_changes (aCons (mVar 7) (aCons (mVar 1) aNil)))) (sAsg (mC (.bl false)) (gName 5)) (sNx))) (sSeq (sAsg (mTup (aCons (mUn uNeg (mC (.int 1))) (aCons (mC (.int 0)) aNil))) (gName 8)) (sSeq (sIf (tBl (mOp oGt (mVar 6) (mC (.int 0)))) (sAsg (mTup (aCons (mOp oIx (mVar 4) (mOp oSub (mVar 6) (mC (.int 1)))) (aCons (mOp oIx (mVar 4) (mVar 6)) aNil))) (gName 8)) (sNx)) (sIf (tAnd (tBl (mOp oEq (mOp oAnd (mOp oShr (mOp oIx (mVar 3) (mVar 8)) (mVar 2)) (mC (.int 1))) (mC (.int 1)))) (tNot (tTru (mVar 5)))) (sRet (mC (.bl false))) (sNx)))))
noncomputable def b_law_ahead_right : SM := sSeq (sAsg (mC (.bl false)) (gName 5)) (sSeq (sFor (iRngD (aCons (mOp oSub (mCall bLen (aCons (mVar 4) aNil)) (mC (.int 1))) (aCons (mUn uNeg (mC (.int 1))) (aCons (mUn uNeg (mC (.int 1))) aNil)))) (gName 6) (l_law_ahead_right_1)) (sRet (mC (.bl true))))
noncomputable def m_law_ahead_right : Fn := mDef 5 9 b_law_ahead_right
/-- 0 program_here 1 deed 2 k 3 stood 4 way_here 5 came 6 at 7 row_here -/
noncomputable def l_law_behind_right_1 : SM := sSeq (sAsg (mOp oIx (mVar 0) (mOp oIx (mVar 4) (mOp oSub (mVar 6) (mC (.int 1))))) (gName 7)) (sSeq (sIf (tTru (mCall m_law_changes (aCons (mVar 7) (aCons (mVar 1) aNil)))) (sAsg (mC (.bl false)) (gName 5)) (sIf (tTru (mCall m_law_has (aCons (mVar 7) (aCons (mVar 1) aNil)))) (sAsg (mC (.bl true)) (gName 5)) (sNx))) (sIf (tAnd (tBl (mOp oEq (mOp oAnd (mOp oShr (mOp oIx (mVar 3) (mTup (aCons (mOp oIx (mVar 4) (mOp oSub (mVar 6) (mC (.int 1)))) (aCons (mOp oIx (mVar 4) (mVar 6)) aNil)))) (mVar 2)) (mC (.int 1))) (mC (.int 1)))) (tNot (tTru (mVar 5)))) (sRet (mC (.bl false))) (sNx)))
noncomputable def b_law_behind_right : SM := sSeq (sAsg (mC (.bl false)) (gName 5)) (sSeq (sIf (tBl (mOp oEq (mOp oAnd (mOp oShr (mOp oIx (mVar 3) (mTup (aCons (mUn uNeg (mC (.int 1))) (aCons (mC (.int 0)) aNil)))) (mVar 2)) (mC (.int 1))) (mC (.int 1)))) (sRet (mC (.bl false))) (sNx)) (sSeq (sFor (iRng2 (aCons (mC (.int 1)) (aCons (mCall bLen (aCons (mVar 4) aNil)) aNil))) (gName 6) (l_law_behind_right_1)) (sRet (mC (.bl true)))))
noncomputable def m_law_behind_right : Fn := mDef 5 8 b_law_behind_right
/-- 0 script 1 program_here 2 way_here 3 wants 4 stood 5 k 6 deed -/
noncomputable def l_law_1 : SM := sSeq (sIf (tNot (tTru (mCall m_law_ahead_right (aCons (mVar 1) (aCons (mVar 6) (aCons (mVar 5) (aCons (mVar 3) (aCons (mVar 2) aNil)))))))) (sRet (mC (.bl false))) (sNx)) (sIf (tNot (tTru (mCall m_law_behind_right (aCons (mVar 1) (aCons (mVar 6) (aCons (mVar 5) (aCons (mVar 4) (aCons (mVar 2) aNil)))))))) (sRet (mC (.bl false))) (sNx))
noncomputable def b_law : SM := sSeq (sAsg (mCall m_law_made (aCons (mVar 0) aNil)) (gName 1)) (sSeq (sAsg (mCall m_law_way (aCons (mVar 1) (aCons (mVar 0) aNil))) (gName 2)) (sSeq (sAsg (mCall m_wanted (aCons (mVar 1) aNil)) (gName 3)) (sSeq (sAsg (mCall m_standing (aCons (mVar 1) aNil)) (gName 4)) (sSeq (sFor (iEnum (aCons (mCall m_law_known (aCons (mVar 1) aNil)) aNil)) (gTup 2 (gCons (gName 5) (gCons (gName 6) gNil))) (l_law_1)) (sRet (mC (.bl true)))))))
noncomputable def m_law : Fn := mDef 1 7 b_law
end Lk34
set_option Elab.async false
set_option linter.all false
/-! rows, operands, reckonings as values of the small language; data by their keys -/
namespace Mi
/-! ### at a written place -/
theorem at_of {α : Type} {l : List α} {k : Nat} {d : α} (h : l[k]? = some d) : atI l (k : Int) = some d := by
  have hk := (List.getElem?_eq_some_iff.mp h).1
  unfold atI ixN
  rw [if_pos (Int.natCast_nonneg k), if_pos (by omega), Option.bind_some, Int.toNat_natCast, h]
@[simp] theorem at0 {α : Type} (a : α) (l : List α) : atI (a :: l) 0 = some a := at_of (k := 0) rfl
@[simp] theorem at1 {α : Type} (a b : α) (l : List α) : atI (a :: b :: l) 1 = some b := at_of (k := 1) rfl
@[simp] theorem at2 {α : Type} (a b c : α) (l : List α) : atI (a :: b :: c :: l) 2 = some c := at_of (k := 2) rfl
@[simp] theorem at3 {α : Type} (a b c d : α) (l : List α) : atI (a :: b :: c :: d :: l) 3 = some d := at_of (k := 3) rfl
@[simp] theorem at4 {α : Type} (a b c d e : α) (l : List α) : atI (a :: b :: c :: d :: e :: l) 4 = some e := at_of (k := 4) rfl
@[simp] theorem at5 {α : Type} (a b c d e f : α) (l : List α) : atI (a :: b :: c :: d :: e :: f :: l) 5 = some f := at_of (k := 5) rfl
theorem at_last {α : Type} (l : List α) (a : α) : atI (l ++ [a]) (-1) = some a := by
  have e : ixN (l ++ [a]).length (-1) = some l.length := by
    unfold ixN
    rw [if_neg (by decide), if_pos (by rw [List.length_append]; simp; omega)]
    congr 1
    rw [List.length_append, List.length_singleton]
    omega
  unfold atI
  rw [e]; simp
theorem div_ok {j : Int} (h : 0 < j) (h2 : j < 2 ^ 64) : divOk j := ⟨h, by
  have : j.natAbs < 2 ^ 64 := by omega
  have : j.natAbs.log2 < 64 := (Nat.log2_lt (by omega)).mpr this
  omega⟩
theorem mul_r {i j : Int} (h : small j) : mulOk i j := .inr (.inl h)
theorem mul_l {i j : Int} (h : small i) : mulOk i j := .inl h
theorem rng_at {lo : Int} {n i : Nat} {d : D} (h : (rng lo n)[i]? = some d) : i < n ∧ d = .int (lo + i) := by
  unfold rng at h
  rw [List.getElem?_map] at h
  by_cases hi : i < n
  · rw [List.getElem?_range hi] at h
    exact ⟨hi, (Option.some.inj h).symm⟩
  · rw [List.getElem?_eq_none (by simpa using hi)] at h
    cases h
@[simp] theorem rng_len (lo : Int) (n : Nat) : (rng lo n).length = n := by simp [rng]
/-- a look behind the old part -/
theorem get_at {α : Type} (S : List α) (x : α) (G : List α) : (S ++ x :: G)[S.length]? = some x := by
  rw [List.getElem?_append_right (Nat.le_refl _), Nat.sub_self]; rfl
theorem set_at {α : Type} (S : List α) (x y : α) (G : List α) : (S ++ x :: G).set S.length y = S ++ y :: G := by
  rw [List.set_append_right _ _ (Nat.le_refl _), Nat.sub_self, List.set_cons_zero]
theorem beq_dec {α : Type} [DecidableEq α] (a b : α) : (a == b) = decide (a = b) := by
  by_cases h : a = b
  · subst h; simp
  · simp [h]
theorem str_dec (a b : Tx) : ((⟨a.toArray⟩ : PySem.Str) == ⟨b.toArray⟩) = decide (a = b) := by
  rw [beq_dec]
  congr 1
  simp
theorem dec_false {p : Prop} (h : ¬ p) : dec p = false := @decide_eq_false p (Classical.propDecidable p) h
@[simp] theorem dec_iff {p : Prop} : (dec p = true) = p := propext ⟨of_dec, dec_true⟩
/-! ### keys -/
abbrev kp : Ky → PySem.PyData
  | .inl i => .int i
  | .inr s => .str ⟨s.toArray⟩
@[simp] theorem kyD_l (i : Int) : kyD (.inl i) = .int i := (rfl)
@[simp] theorem kyD_r (s : Tx) : kyD (.inr s) = .str s := (rfl)
def kOk : Ky → Bool
  | .inl _ => true
  | .inr s => s.all (· < 0x110000)
def kt (l : List Ky) : D := .tup (l.map kyD)
@[simp] theorem kyOf_kyD (k : Ky) : kyOf (kyD k) = some k := by cases k <;> rfl
@[simp] theorem kysOf_map (l : List Ky) : kysOf (l.map kyD) = some l := by
  induction l with
  | nil => rfl
  | cons k r ih => show (kyOf (kyD k)).bind _ = _; rw [kyOf_kyD, Option.bind_some, ih]; rfl
@[simp] theorem ktOf_t (l : List D) : ktOf (.tup l) = kysOf l := (rfl)
@[simp] theorem ktOf_kt (l : List Ky) : ktOf (kt l) = some l := kysOf_map l
@[simp] theorem flat_k (k : Ky) : flatD (kyD k) = true := by cases k <;> rfl
theorem eqF_k (a b : Ky) : eqF (kyD a) (kyD b) = decide (a = b) := by
  have h2 : ∀ s t : Tx, (s == t) = decide (s = t) := fun s t => by
    by_cases h : s = t
    · subst h; simp
    · simp [h]
  cases a <;> cases b <;> simp [kyD, eqF, beq_dec, h2]
theorem toP_k (rd : Nat → Option PySem.PyData) (k : Ky) : toP rd (kyD k) = some (kp k) := by cases k <;> rfl
theorem toPs_k (rd : Nat → Option PySem.PyData) (l : List Ky) : toPs rd (l.map kyD) = some (l.map kp) := by
  induction l with
  | nil => rfl
  | cons k r ih => rw [List.map_cons, toPs, toP_k, Option.bind_some, ih]; rfl
theorem toP_kt (rd : Nat → Option PySem.PyData) (l : List Ky) : toP rd (kt l) = some (.tuple (l.map kp)) := by
  unfold kt
  rw [toP, toPs_k]; rfl
theorem toPs_kt (rd : Nat → Option PySem.PyData) (L : List (List Ky)) : toPs rd (L.map kt) = some (L.map fun l => .tuple (l.map kp)) := by
  induction L with
  | nil => rfl
  | cons k r ih => rw [List.map_cons, toPs, toP_kt, Option.bind_some, ih]; rfl
theorem eqv_k (a b : Ky) : PySem.PyData.eqv (kp a) (kp b) = decide (a = b) := by
  cases a <;> cases b <;> simp [kp, PySem.PyData.eqv, beq_dec, str_dec]
theorem eqv_ks (a b : List Ky) : PySem.PyData.eqvAll (a.map kp) (b.map kp) = decide (a = b) := by
  induction a generalizing b with
  | nil => cases b <;> simp [PySem.PyData.eqvAll]
  | cons x r ih =>
    cases b with
    | nil => simp [PySem.PyData.eqvAll]
    | cons y q => simp [PySem.PyData.eqvAll, eqv_k, ih]
theorem eqv_kt (a b : List Ky) : PySem.PyData.eqv (.tuple (a.map kp)) (.tuple (b.map kp)) = decide (a = b) := by
  unfold PySem.PyData.eqv; exact eqv_ks a b
theorem lay_k {k : Ky} (h : kOk k = true) : PySem.PyData.canLay0 (kp k) = true := by
  cases k with
  | inl i => simp [PySem.PyData.canLay0]
  | inr s =>
    simp only [PySem.PyData.canLay0, PySem.PyData.strOk]
    simpa [kOk] using h
theorem lay_ks {l : List Ky} (h : l.all kOk = true) : PySem.PyData.canLayAll0 (l.map kp) = true := by
  induction l with
  | nil => simp [PySem.PyData.canLayAll0]
  | cons k r ih =>
    rw [List.all_cons, Bool.and_eq_true] at h
    simp only [List.map_cons, PySem.PyData.canLayAll0, lay_k h.1, ih h.2, Bool.and_self]
theorem dep_ks (l : List Ky) : PySem.PyData.depthAll (l.map kp) = 0 := by
  induction l with
  | nil => simp [PySem.PyData.depthAll]
  | cons k r ih =>
    cases k <;> simp [PySem.PyData.depthAll, PySem.PyData.depth, ih]
theorem shp_kt {l : List Ky} (h : l.all kOk = true) : shp (.tuple (l.map kp)) = true := by
  unfold shp PySem.SeqAt.shaped
  simp [PySem.PyData.canLay0, PySem.PyData.depth, lay_ks h, dep_ks]
theorem lay_kts {L : List (List Ky)} (h : L.all (fun l => l.all kOk) = true) : PySem.PyData.canLayAll0 (L.map fun l => .tuple (l.map kp)) = true := by
  induction L with
  | nil => simp [PySem.PyData.canLayAll0]
  | cons k r ih =>
    rw [List.all_cons, Bool.and_eq_true] at h
    simp only [List.map_cons, PySem.PyData.canLayAll0, PySem.PyData.canLay0, lay_ks h.1, ih h.2, Bool.and_self]
theorem dep_kts (L : List (List Ky)) : PySem.PyData.depthAll (L.map fun l => .tuple (l.map kp)) ≤ 1 := by
  induction L with
  | nil => simp [PySem.PyData.depthAll]
  | cons k r ih =>
    simp only [List.map_cons, PySem.PyData.depthAll, PySem.PyData.depth, dep_ks]
    omega
theorem shp_kts {L : List (List Ky)} (h : L.all (fun l => l.all kOk) = true) : shp (.list (L.map fun l => .tuple (l.map kp))) = true := by
  unfold shp PySem.SeqAt.shaped
  have := dep_kts L
  simp only [PySem.PyData.canLay0, PySem.PyData.depth, lay_kts h, Bool.true_and, decide_eq_true_eq]
  exact decide_eq_true (Nat.le_trans (Nat.add_le_add_right this 1) (show 1 + 1 ≤ 64 by decide))
theorem eq_kt {a b : List Ky} (S : Store) (ha : a.all kOk = true) (hb : b.all kOk = true) : pyEq (kt a) (kt b) S = some (decide (a = b)) := by
  unfold pyEq
  have e : scq (kt a) (kt b) = none := rfl
  rw [e]
  simp only [pd, toP_kt, shp_kt ha, shp_kt hb, and_self, if_true, eqv_kt]
theorem in_kts {x : List Ky} {L : List (List Ky)} (S : Store) (hx : x.all kOk = true) (hL : L.all (fun l => l.all kOk) = true) : inSeq (kt x) (L.map kt) S = some (dec (x ∈ L)) := by
  unfold inSeq
  rw [if_neg (by unfold kt flatD; simp)]
  simp only [pd, toP_kt, toPs_kt, shp_kt hx, shp_kts hL, and_self, if_true, List.any_map]
  congr 1
  induction L with
  | nil => exact (dec_false (by simp)).symm
  | cons y r ih =>
    rw [List.all_cons, Bool.and_eq_true] at hL
    simp only [List.any_cons, Function.comp, eqv_kt] at ih ⊢
    rw [ih hL.2]
    by_cases h : y = x
    · subst h; simp [dec_true]
    · have : ¬ x = y := fun q => h q.symm
      simp [h, this]
theorem in_ks (x : Ky) (l : List Ky) (S : Store) : inSeq (kyD x) (l.map kyD) S = some (dec (x ∈ l)) := by
  rw [inSeq_f S (flat_k x) (by simp), List.any_map]
  congr 1
  induction l with
  | nil => exact (dec_false (by simp)).symm
  | cons y r ih =>
    simp only [List.any_cons, Function.comp, eqF_k] at ih ⊢
    rw [ih]
    by_cases h : y = x
    · subst h; simp [dec_true]
    · have : ¬ x = y := fun q => h q.symm
      simp [h, this]
/-! ### stores by what is found in them -/
theorem Pre.lt {S S' : Store} {n : Nat} {o : O} (h : S[n]? = some o) : n < S.length := (List.getElem?_eq_some_iff.mp h).1
theorem Pre.set {S S' : Store} {p : Nat} {x : O} (h : Pre S S') (hp : S.length ≤ p) : Pre S (S'.set p x) := by
  obtain ⟨G, rfl⟩ := h
  rw [List.set_append_right _ _ hp]
  exact ⟨_, rfl⟩
theorem set_ne {S : Store} {p q : Nat} {x : O} (h : p ≠ q) : (S.set p x)[q]? = S[q]? := List.getElem?_set_ne h
theorem app_get {S : Store} {n : Nat} {o : O} {G : Store} (h : S[n]? = some o) : (S ++ G)[n]? = some o := (Pre.app S G).get h
theorem app_new (S : Store) (o : O) (G : Store) : (S ++ o :: G)[S.length]? = some o := get_at S o G
theorem ixN_of {n : Nat} {i : Int} (h : 0 ≤ i) (h2 : i < n) : ixN n i = some i.toNat := by
  unfold ixN
  rw [if_pos h, if_pos h2]
theorem at_nat {α : Type} {l : List α} {i : Int} {d : α} (h0 : 0 ≤ i) (h : l[i.toNat]? = some d) : atI l i = some d := by
  have := at_of h
  rw [Int.toNat_of_nonneg h0] at this
  exact this
/-! ### texts of single signs -/
abbrev sgn (c : Nat) : D := .str [c]
/-- a row -/
inductive Row where
  | rk (n s : Tx) (a b : Ky) | cp (n : Tx) (a : Ky) | sy (a : Ky) | go (t : Int) | pt (a : Ky) (t : Int) | en
abbrev w_rk : Tx := [114, 101, 99, 107, 111, 110]
abbrev w_cp : Tx := [99, 111, 112, 121]
abbrev w_sy : Tx := [115, 97, 121]
abbrev w_go : Tx := [103, 111]
abbrev w_pt : Tx := [112, 97, 114, 116]
abbrev w_en : Tx := [101, 110, 100]
def Row.ks : Row → List Ky
  | .rk n s a b => [.inr w_rk, .inr n, .inr s, a, b]
  | .cp n a => [.inr w_cp, .inr n, a]
  | .sy a => [.inr w_sy, a]
  | .go t => [.inr w_go, .inl t]
  | .pt a t => [.inr w_pt, a, .inl t]
  | .en => [.inr w_en]
def Row.d (r : Row) : D := kt r.ks
abbrev SG : Tx := [97, 98, 99, 100, 101, 102, 103, 104, 105, 106, 107, 108, 109, 110, 111, 112, 113, 114, 115, 116, 117, 118, 119, 120, 121, 122, 48, 49, 50, 51, 52, 53, 54, 55, 56, 57]
abbrev S8 : Tx := [43, 45, 42, 38, 124, 94, 60, 61]
/-- a name -/
structure Nm (t : Tx) : Prop where
  lo : 1 ≤ t.length
  hi : t.length ≤ 8
  fst : ∃ c, t[0]? = some c ∧ 97 ≤ c ∧ c ≤ 122
  all : ∀ c ∈ t, c ∈ SG
  no : t ≠ w_sy ∧ t ≠ w_go ∧ t ≠ w_pt ∧ t ≠ w_en
theorem Nm.ok {t : Tx} (h : Nm t) : kOk (.inr t) = true := by
  show t.all _ = true
  rw [List.all_eq_true]
  intro c hc
  have : ∀ c ∈ SG, decide (c < 0x110000) = true := by decide
  exact this c (h.all c hc)
/-- what a name's signs are -/
structure Cs (cs : Tx) : Prop where
  lo : 1 ≤ cs.length
  hi : cs.length ≤ 8
  fst : ∃ c, cs[0]? = some c ∧ 97 ≤ c ∧ c ≤ 122
  all : ∀ c ∈ cs, c ∈ SG
theorem Cs.set {cs : Tx} (h : Cs cs) (i c : Nat) (hc : 97 ≤ c ∧ c ≤ 122) (hs : c ∈ SG) : Cs (cs.set i c) := by
  refine ⟨by simpa using h.lo, by simpa using h.hi, ?_, ?_⟩
  · obtain ⟨d, e, q⟩ := h.fst
    rw [List.getElem?_set]
    by_cases h0 : i = 0
    · subst h0
      rw [if_pos rfl, if_pos (Nat.lt_of_lt_of_le Nat.zero_lt_one h.lo)]
      exact ⟨c, rfl, hc⟩
    · rw [if_neg h0]; exact ⟨d, e, q⟩
  · intro d hd
    rcases List.mem_or_eq_of_mem_set hd with z | z
    · exact h.all d z
    · exact z ▸ hs
/-- the name of such signs -/
def nmOf (cs : Tx) : Tx := if cs = w_sy ∨ cs = w_go ∨ cs = w_pt ∨ cs = w_en then cs ++ [48] else cs
theorem Cs.nm {cs : Tx} (h : Cs cs) : Nm (nmOf cs) := by
  unfold nmOf
  split
  · rename_i q
    rcases q with rfl | rfl | rfl | rfl <;> exact ⟨by decide, by decide, ⟨_, rfl, by decide⟩, by decide, by decide⟩
  · rename_i q
    refine ⟨h.lo, h.hi, h.fst, h.all, ?_⟩
    refine ⟨fun e => q (.inl e), fun e => q (.inr (.inl e)), fun e => q (.inr (.inr (.inl e))), fun e => q (.inr (.inr (.inr e)))⟩
theorem sg_lt {i : Int} (h0 : 0 ≤ i) (h : i < 36) : ∃ c, atI SG i = some c ∧ c ∈ SG ∧ (i < 26 → 97 ≤ c ∧ c ≤ 122) := by
  have hl : i.toNat < SG.length := by show i.toNat < 36; omega
  refine ⟨SG[i.toNat], at_nat h0 (List.getElem?_eq_getElem hl), List.getElem_mem _, fun h2 => ?_⟩
  have all : ∀ k : Nat, k < 26 → ∀ c, SG[k]? = some c → 97 ≤ c ∧ c ≤ 122 := by decide
  exact all i.toNat (by omega) _ (List.getElem?_eq_getElem hl)
/-! ### comprehensions whose elements are told by a property -/
theorem lc_rel_go {hs : List (Nat × List D)} {g : GM} {t : TM} {e : EM} {fr : Fr} {S1 : Store} (P : D → D → Prop) :
    ∀ (items : List D) (acc : List D) (S : Store), Pre S1 S → S[S1.length]? = some (.lst acc) → (∀ p, p ∈ hs → lstOf S1 p.1 = some p.2) → acc.length + items.length ≤ LINE →
    (∀ d, d ∈ items → ∀ S, Pre S1 S → S1.length < S.length → ∃ fr' S', g d fr S = .ok fr' S ∧ t fr' S = .ok true S ∧ ∃ x, e fr' S = .ok x S' ∧ Pre S S' ∧ P d x) →
    ∃ xs S', lcLoop hs S1.length g t e fr items S = .ok (.ref S1.length) S' ∧ Pre S1 S' ∧ S'[S1.length]? = some (.lst (acc ++ xs)) ∧ xs.length = items.length ∧ ∀ (i : Nat) (d x : D), items[i]? = some d → xs[i]? = some x → P d x := by
  have stand : ∀ S, Pre S1 S → (∀ p, p ∈ hs → lstOf S1 p.1 = some p.2) → stands hs S := fun S pr h p hp => by
    have q := h p hp
    unfold lstOf at q ⊢
    cases hh : S1[p.1]? with
    | none => rw [hh] at q; cases q
    | some o => rw [pr.get hh]; rw [hh] at q; exact q
  intro items
  induction items with
  | nil => exact fun acc S pr ha h _ _ => ⟨[], S, by rw [lcLoop, dec_true (stand S pr h)]; rfl, pr, by rw [List.append_nil]; exact ha, rfl, fun i d x hd _ => by cases hd⟩
  | cons d ds ih =>
    intro acc S pr ha h hl step
    rw [List.length_cons] at hl
    obtain ⟨fr', S', e1, e2, x, e3, pr2, px⟩ := step d List.mem_cons_self S pr (Pre.lt (S' := S) ha)
    have ha' : S'[S1.length]? = some (.lst acc) := pr2.get ha
    obtain ⟨xs, S2, q, pr3, hx, hxl, hp⟩ := ih (acc ++ [x]) (S'.set S1.length (.lst (acc ++ [x]))) ((pr.trans pr2).set (Nat.le_refl _)) (set_get ha') h (by rw [List.length_append, List.length_singleton]; omega) fun d' hd' => step d' (List.mem_cons_of_mem _ hd')
    refine ⟨x :: xs, S2, ?_, pr3, by rw [hx, List.append_assoc]; rfl, by rw [List.length_cons, List.length_cons, hxl], ?_⟩
    · rw [lcLoop, dec_true (stand S pr h)]
      simp only [if_true, e1, bind_ok, e2, e3, ha']
      rw [if_pos (by omega), q]
    · intro i d' x' hd hx
      cases i with
      | zero => obtain rfl := Option.some.inj hd; obtain rfl := Option.some.inj hx; exact px
      | succ i => exact hp i d' x' hd hx
theorem lc_rel {vs : List Nat} {g : GM} {e : EM} {fr : Fr} {l : List D} {hs : List (Nat × List D)} {S : Store} (P : D → D → Prop) (h1 : ∀ p, p ∈ hs → lstOf S p.1 = some p.2) (h2 : l.length ≤ LINE)
    (h3 : ∀ d, d ∈ l → ∀ S', Pre S S' → ∃ fr' S2, g d (unset vs fr) S' = .ok fr' S' ∧ ∃ x, e fr' S' = .ok x S2 ∧ Pre S' S2 ∧ P d x) :
    ∃ xs S', lcK vs g tYes e fr (.ok ⟨l, hs⟩ S) = .ok (.ref S.length) S' ∧ Pre S S' ∧ S'[S.length]? = some (.lst xs) ∧ xs.length = l.length ∧ ∀ (i : Nat) (d x : D), l[i]? = some d → xs[i]? = some x → P d x := by
  obtain ⟨xs, S', q, pr, hx, hxl, hp⟩ := lc_rel_go (g := g) (t := fun fr S => quiet (tYes fr S)) (e := fun fr S => quiet (e fr S)) (fr := unset vs fr) P l [] (S ++ [.lst []]) (Pre.app _ _) (app_new _ _ _) h1 (by simpa using h2) fun d hd S' pr _ => by
    obtain ⟨fr', S2, e1, x, e2, pr2, px⟩ := h3 d hd S' pr
    exact ⟨fr', S2, e1, rfl, x, by rw [e2]; rfl, pr2, px⟩
  exact ⟨xs, S', q, pr, hx, hxl, hp⟩
theorem lc_fil_go {α : Type} {hs : List (Nat × List D)} {g : GM} {t : TM} {e : EM} {fr : Fr} {S1 : Store} (F H : α → D) (keep : α → Bool) :
    ∀ (items : List α) (acc : List D) (S : Store), Pre S1 S → S[S1.length]? = some (.lst acc) → (∀ p, p ∈ hs → lstOf S1 p.1 = some p.2) → acc.length + items.length ≤ LINE →
    (∀ a, a ∈ items → ∀ S, Pre S1 S → ∃ fr' S2, g (F a) fr S = .ok fr' S ∧ t fr' S = .ok (keep a) S2 ∧ Pre S S2 ∧ (keep a = true → ∃ S3, e fr' S2 = .ok (H a) S3 ∧ Pre S2 S3)) →
    ∃ S', lcLoop hs S1.length g t e fr (items.map F) S = .ok (.ref S1.length) S' ∧ Pre S1 S' ∧ S'[S1.length]? = some (.lst (acc ++ (items.filter keep).map H)) := by
  have stand : ∀ S, Pre S1 S → (∀ p, p ∈ hs → lstOf S1 p.1 = some p.2) → stands hs S := fun S pr h p hp => by
    have q := h p hp
    unfold lstOf at q ⊢
    cases hh : S1[p.1]? with
    | none => rw [hh] at q; cases q
    | some o => rw [pr.get hh]; rw [hh] at q; exact q
  intro items
  induction items with
  | nil => exact fun acc S pr ha h _ _ => ⟨S, by rw [List.map_nil, lcLoop, dec_true (stand S pr h)]; rfl, pr, by simpa using ha⟩
  | cons a as ih =>
    intro acc S pr ha h hl step
    rw [List.length_cons] at hl
    obtain ⟨fr', S2, e1, e2, pr2, e3⟩ := step a List.mem_cons_self S pr
    have ha' : S2[S1.length]? = some (.lst acc) := pr2.get ha
    cases hk : keep a with
    | false =>
      obtain ⟨S', q, pr3, hx⟩ := ih acc S2 (pr.trans pr2) ha' h (by omega) fun d' hd' => step d' (List.mem_cons_of_mem _ hd')
      refine ⟨S', ?_, pr3, by rw [hx, List.filter_cons_of_neg (by rw [hk]; exact Bool.false_ne_true)]⟩
      rw [List.map_cons, lcLoop, dec_true (stand S pr h)]
      rw [hk] at e2
      simp only [if_true, e1, bind_ok, e2, Bool.false_eq_true, if_false]
      exact q
    | true =>
      obtain ⟨S3, e4, pr4⟩ := e3 hk
      have ha2 : S3[S1.length]? = some (.lst acc) := pr4.get ha'
      obtain ⟨S', q, pr3, hx⟩ := ih (acc ++ [H a]) (S3.set S1.length (.lst (acc ++ [H a]))) (((pr.trans pr2).trans pr4).set (Nat.le_refl _)) (set_get ha2) h (by rw [List.length_append, List.length_singleton]; omega) fun d' hd' => step d' (List.mem_cons_of_mem _ hd')
      refine ⟨S', ?_, pr3, by rw [hx, List.filter_cons_of_pos hk, List.append_assoc]; rfl⟩
      rw [List.map_cons, lcLoop, dec_true (stand S pr h)]
      rw [hk] at e2
      simp only [if_true, e1, bind_ok, e2, e4, ha2]
      rw [if_pos (by omega)]
      exact q
/-- a comprehension over values of a kind -/
theorem lc_fil {α : Type} {vs : List Nat} {g : GM} {t : TM} {e : EM} {fr : Fr} {l : List D} {hs : List (Nat × List D)} {S : Store} (as : List α) (F H : α → D) (keep : α → Bool) (hl : l = as.map F) (h1 : ∀ p, p ∈ hs → lstOf S p.1 = some p.2) (h2 : as.length ≤ LINE)
    (h3 : ∀ a, a ∈ as → ∀ S', Pre S S' → ∃ fr' S2, g (F a) (unset vs fr) S' = .ok fr' S' ∧ t fr' S' = .ok (keep a) S2 ∧ Pre S' S2 ∧ (keep a = true → ∃ S3, e fr' S2 = .ok (H a) S3 ∧ Pre S2 S3)) :
    ∃ S', lcK vs g t e fr (.ok ⟨l, hs⟩ S) = .ok (.ref S.length) S' ∧ Pre S S' ∧ S'[S.length]? = some (.lst ((as.filter keep).map H)) := by
  subst hl
  obtain ⟨S', q, pr, hx⟩ := lc_fil_go (g := g) (t := fun fr S => quiet (t fr S)) (e := fun fr S => quiet (e fr S)) (fr := unset vs fr) (hs := hs) F H keep as [] (S ++ [.lst []]) (Pre.app _ _) (app_new _ _ _) h1 (by simpa using h2) fun a ha S' pr => by
    obtain ⟨fr', S2, e1, e2, pr2, k⟩ := h3 a ha S' pr
    refine ⟨fr', S2, e1, by rw [e2]; rfl, pr2, fun hk => ?_⟩
    obtain ⟨S3, e3, pr3⟩ := k hk
    exact ⟨S3, by rw [e3]; rfl, pr3⟩
  exact ⟨S', q, pr, hx⟩
theorem stand_one {S : Store} {n : Nat} {l : List D} (h : lstOf S n = some l) : ∀ p, p ∈ [(n, l)] → lstOf S p.1 = some p.2 := stands_one h
theorem lst_of {S : Store} {n : Nat} {l : List D} (h : S[n]? = some (.lst l)) : lstOf S n = some l := by rw [lstOf_s, h]; rfl
/-- such a list, as values of a kind -/
theorem of_rel {α : Type} {f : α → D} {l xs : List D} {Q : α → Prop} (hl : xs.length = l.length) (h : ∀ (i : Nat) (d x : D), l[i]? = some d → xs[i]? = some x → ∃ a, x = f a ∧ Q a) : ∃ as : List α, xs = as.map f ∧ as.length = l.length ∧ ∀ a ∈ as, Q a := by
  induction xs generalizing l with
  | nil => exact ⟨[], rfl, by simpa using hl, by simp⟩
  | cons x r ih =>
    cases l with
    | nil => simp at hl
    | cons d q =>
      obtain ⟨as, rfl, hl2, ha⟩ := ih (l := q) (by simpa using hl) fun i d x h1 h2 => h (i + 1) d x h1 h2
      obtain ⟨a, rfl, qa⟩ := h 0 d x rfl rfl
      refine ⟨a :: as, rfl, by simp [hl2], ?_⟩
      intro b hb
      rcases List.mem_cons.mp hb with z | z
      · exact z ▸ qa
      · exact ha b z
/-! ### reckonings -/
@[simp] theorem oEq_sk (n : Tx) (k : Ky) (S : Store) : oEq (.str n) (kyD k) S = .ok (.bl (decide (k = .inr n))) S := by
  cases k with
  | inl i => simp [kyD]
  | inr s => simp [kyD, eq_comm]
@[simp] theorem eqF_ks (n : Tx) (k : Ky) : eqF (kyD k) (.str n) = decide (k = .inr n) := eqF_k k (.inr n)
theorem oEq_kt {a b : List Ky} (S : Store) (ha : a.all kOk = true) (hb : b.all kOk = true) : oEq (kt a) (kt b) S = .ok (.bl (decide (a = b))) S := by
  rw [oEq_g, eq_kt S ha hb]; rfl
theorem dPut_map {κ α : Type} [DecidableEq κ] (l : List κ) (k : κ) (v : α) : dPut (l.map fun k => (k, v)) k v = (if dec (k ∈ l) = true then l else l ++ [k]).map fun k => (k, v) := by
  unfold dPut
  by_cases h : k ∈ l
  · rw [if_pos (by simpa using h), if_pos (dec_true h), List.map_map]
    apply List.map_congr_left
    intro x _
    simp only [Function.comp]
    split <;> rfl
  · rw [if_neg (by simpa using h), if_neg (by rw [dec_false h]; exact Bool.false_ne_true)]; simp
def Row.rkg : Row → Option (List Ky)
  | .rk _ s a b => some [.inr s, a, b]
  | _ => none
noncomputable def addK (acc : List (List Ky)) (r : Row) : List (List Ky) := match r.rkg with
  | some k => if dec (k ∈ acc) = true then acc else acc ++ [k]
  | none => acc
/-- an operand: one of the names, or a worth -/
def Opd (l : List Tx) (k : Ky) : Prop := (∃ t, t ∈ l ∧ k = .inr t) ∨ ∃ w : Int, k = .inl w ∧ 0 ≤ w ∧ w < 18446744073709551616
theorem Opd.ok {l : List Tx} {k : Ky} (h : Opd l k) (hl : ∀ t ∈ l, Nm t) : kOk k = true := by
  rcases h with ⟨t, ht, rfl⟩ | ⟨w, rfl, _⟩
  · exact (hl t ht).ok
  · rfl
/-- a reckoning -/
structure Rkg (l : List Tx) (s a b : Ky) : Prop where
  s1 : ∃ c, c ∈ S8 ∧ s = .inr [c]
  a1 : Opd l a
  b1 : Opd l b
end Mi
set_option Elab.async false
set_option linter.all false
/-! programs as they are built by the laws: what may stand in them, how each row is come to, how each leads to an end -/
namespace Mi
def Row.seq : Row → Bool
  | .go _ => false
  | .en => false
  | _ => true
def RowN (l : List Tx) : Row → Prop
  | .rk n s a b => n ∈ l ∧ Rkg l (.inr s) a b
  | .cp n a => n ∈ l ∧ Opd l a
  | .sy a => Opd l a
  | .go _ => True
  | .pt a _ => Opd l a
  | .en => True
/-- what comes behind row n -/
def fol (n : Nat) : Row → List Int
  | .go t => [t]
  | .pt _ t => [(n : Int) + 1, t]
  | .en => []
  | _ => [(n : Int) + 1]
/-- rows as they are being built: `outer` lie outside of stretches, `bg` begins an open one -/
structure Bld (l : List Tx) (rows : List Row) (outer : List Nat) (bg : Option Nat) : Prop where
  nm : ∀ r ∈ rows, RowN l r
  pts : ∀ (n : Nat) (a : Ky) (t : Int), rows[n]? = some (.pt a t) → 0 ≤ t
  out : ∀ o ∈ outer, o < rows.length
  bgn : ∀ b, bg = some b → b ∈ outer ∧ ∃ a, rows[b]? = some (.pt a 0)
  rch : ∀ i, 0 < i → i ≤ rows.length → (∃ r, rows[i - 1]? = some r ∧ r.seq = true) ∨ ∃ b a, b + 1 < i ∧ rows[b]? = some (.pt a (i : Nat))
  nxt : ∀ o ∈ outer, bg = some o ∨ ∃ r, rows[o]? = some r ∧ r.seq = true ∧ ((o + 1 ∈ outer ∨ (o + 1 = rows.length ∧ bg = none)) ∨ ∃ a t, r = .pt a (t : Nat) ∧ o + 1 < t ∧ (t ∈ outer ∨ (t = rows.length ∧ bg = none)))
  gos : ∀ (n : Nat) (t : Int), rows[n]? = some (.go t) → t < 0 ∨ ∃ o ∈ outer, t = (o : Int)
theorem Bld.start (l : List Tx) : Bld l [] [] none := by
  refine ⟨by simp, by simp, by simp, by simp, ?_, by simp, by simp⟩
  intro i h1 h2
  rw [List.length_nil] at h2
  omega
theorem get_snoc {α : Type} {l : List α} {a b : α} {n : Nat} (h : (l ++ [a])[n]? = some b) : l[n]? = some b ∨ (n = l.length ∧ b = a) := by
  rw [List.getElem?_append] at h
  split at h
  · exact .inl h
  · rename_i hn
    have := (List.getElem?_eq_some_iff.mp h).1
    rw [List.length_singleton] at this
    have hn : n = l.length := by omega
    subst hn
    rw [Nat.sub_self] at h
    exact .inr ⟨rfl, (Option.some.inj h).symm⟩
theorem snoc_lt {α : Type} {l : List α} {a b : α} {n : Nat} (h : l[n]? = some b) : (l ++ [a])[n]? = some b := by
  rw [List.getElem?_append_left (List.getElem?_eq_some_iff.mp h).1]; exact h
theorem snoc_eq {α : Type} (l : List α) (a : α) : (l ++ [a])[l.length]? = some a := by simp
/-- a row more: outside, or within an open stretch -/
theorem Bld.add {l : List Tx} {rows : List Row} {outer outer' : List Nat} {bg : Option Nat} (h : Bld l rows outer bg) {r : Row} (hr : RowN l r) (hs : r.seq = true) (hp : ∀ a t, r = .pt a t → 0 ≤ t)
    (ho : (bg = none ∧ outer' = outer ++ [rows.length]) ∨ (bg ≠ none ∧ outer' = outer)) : Bld l (rows ++ [r]) outer' bg := by
  have sub : ∀ o ∈ outer, o ∈ outer' := fun o hm => by
    rcases ho with ⟨_, rfl⟩ | ⟨_, rfl⟩
    · exact List.mem_append_left _ hm
    · exact hm
  refine ⟨?_, ?_, ?_, ?_, ?_, ?_, ?_⟩
  · intro r' hr'
    rcases List.mem_append.mp hr' with z | z
    · exact h.nm r' z
    · rw [List.mem_singleton.mp z]; exact hr
  · intro n a t e
    rcases get_snoc e with z | ⟨_, z⟩
    · exact h.pts n a t z
    · exact hp a t z.symm
  · intro o hm
    rw [List.length_append, List.length_singleton]
    rcases ho with ⟨_, rfl⟩ | ⟨_, rfl⟩
    · rcases List.mem_append.mp hm with z | z
      · have := h.out o z; omega
      · rw [List.mem_singleton.mp z]; omega
    · have := h.out o hm; omega
  · intro b e
    obtain ⟨m, a, q⟩ := h.bgn b e
    exact ⟨sub b m, a, snoc_lt q⟩
  · intro i h0 h1
    rw [List.length_append, List.length_singleton] at h1
    by_cases hi : i = rows.length + 1
    · exact .inl ⟨r, by subst hi; exact snoc_eq _ _, hs⟩
    · rcases h.rch i h0 (by omega) with ⟨r', e, q⟩ | ⟨b, a, q, e⟩
      · exact .inl ⟨r', snoc_lt e, q⟩
      · exact .inr ⟨b, a, q, snoc_lt e⟩
  · intro o hm
    have old : o ∈ outer → bg = some o ∨ ∃ r', (rows ++ [r])[o]? = some r' ∧ r'.seq = true ∧ ((o + 1 ∈ outer' ∨ (o + 1 = (rows ++ [r]).length ∧ bg = none)) ∨ ∃ a t, r' = .pt a (t : Nat) ∧ o + 1 < t ∧ (t ∈ outer' ∨ (t = (rows ++ [r]).length ∧ bg = none))) := fun z => by
      rcases h.nxt o z with e | ⟨r', e, q, c⟩
      · exact .inl e
      · refine .inr ⟨r', snoc_lt e, q, ?_⟩
        have up : ∀ t : Nat, t ∈ outer ∨ (t = rows.length ∧ bg = none) → t ∈ outer' := fun t c => by
          rcases c with c | ⟨c, e2⟩
          · exact sub t c
          · rcases ho with ⟨_, rfl⟩ | ⟨e3, _⟩
            · subst c; simp
            · exact absurd e2 e3
        rcases c with c | ⟨a, t, e2, lt, c⟩
        · exact .inl (.inl (up _ c))
        · exact .inr ⟨a, t, e2, lt, .inl (up _ c)⟩
    rcases ho with ⟨e, rfl⟩ | ⟨e, rfl⟩
    · rcases List.mem_append.mp hm with z | z
      · exact old z
      · rw [List.mem_singleton.mp z]
        exact .inr ⟨r, snoc_eq _ _, hs, .inl (.inr ⟨by simp, e⟩)⟩
    · exact old hm
  · intro n t e
    rcases get_snoc e with z | ⟨_, z⟩
    · rcases h.gos n t z with q | ⟨o, m, q⟩
      · exact .inl q
      · exact .inr ⟨o, sub o m, q⟩
    · rw [← z] at hs; cases hs
/-! ### programs -/
inductive Reach (rows : List Row) : Nat → Prop
  | zero : Reach rows 0
  | step {i j : Nat} {r : Row} : Reach rows j → rows[j]? = some r → (i : Int) ∈ fol j r → Reach rows i
inductive Ends (rows : List Row) : Nat → Prop
  | en {n : Nat} : rows[n]? = some .en → Ends rows n
  | step {i j : Nat} {r : Row} : rows[j]? = some r → (i : Int) ∈ fol j r → Ends rows i → Ends rows j
structure Prg (l : List Tx) (rows : List Row) : Prop where
  nm : ∀ r ∈ rows, RowN l r
  last : ∃ q, rows = q ++ [.en]
  go : ∀ (n : Nat) (t : Int), rows[n]? = some (.go t) → 0 ≤ t ∧ t < rows.length
  pt : ∀ (n : Nat) (a : Ky) (t : Int), rows[n]? = some (.pt a t) → 0 ≤ t ∧ t < rows.length ∧ t ≠ n + 1
  rch : ∀ i, i < rows.length → Reach rows i
  ends : ∀ i, i < rows.length → Ends rows i
/-- the rows turned to where they lead -/
def turn (many n : Nat) : Row → Row
  | .go t => if t < 0 then .go ((n : Int) + 1 + (-1 - t) % ((many : Int) - n - 1)) else .go t
  | .pt a t => .pt a (if t % many = (n : Int) + 1 then n else t % many)
  | r => r
theorem Prg.pos {l : List Tx} {rows : List Row} (h : Prg l rows) : 0 < rows.length := by
  obtain ⟨q, rfl⟩ := h.last
  simp
/-! ### data of rows -/
theorem d_rk (n s : Tx) (a b : Ky) : (Row.rk n s a b).d = .tup [.str w_rk, .str n, .str s, kyD a, kyD b] := rfl
theorem d_cp (n : Tx) (a : Ky) : (Row.cp n a).d = .tup [.str w_cp, .str n, kyD a] := rfl
theorem d_sy (a : Ky) : (Row.sy a).d = .tup [.str w_sy, kyD a] := rfl
theorem d_go (t : Int) : (Row.go t).d = .tup [.str w_go, .int t] := rfl
theorem d_pt (a : Ky) (t : Int) : (Row.pt a t).d = .tup [.str w_pt, kyD a, .int t] := rfl
theorem d_en : Row.en.d = .tup [.str w_en] := rfl
theorem prs_get : ∀ (l : List D) (k i : Nat), (prs k l)[i]? = (l[i]?).map fun d => .tup [.int ((k + i : Nat) : Int), d]
  | [], k, i => rfl
  | d :: l, k, 0 => rfl
  | d :: l, k, i + 1 => by
    show (prs (k + 1) l)[i]? = _
    rw [prs_get l (k + 1) i, show k + 1 + i = k + (i + 1) by omega]
    rfl
theorem prs_len : ∀ (l : List D) (k : Nat), (prs k l).length = l.length
  | [], k => rfl
  | d :: l, k => by rw [prs, List.length_cons, List.length_cons, prs_len]
@[simp] theorem cut_m2 {α : Type} (a b : α) : cut [a, b] none (some (-1)) = [a] := rfl
@[simp] theorem cut_m3 {α : Type} (a b c : α) : cut [a, b, c] none (some (-1)) = [a, b] := rfl
@[simp] theorem at_m2 {α : Type} (a b : α) : atI [a, b] (-1) = some b := rfl
@[simp] theorem at_m3 {α : Type} (a b c : α) : atI [a, b, c] (-1) = some c := rfl
/-- lists of single data against one another -/
theorem shp_ks {l : List Ky} (h : l.all kOk = true) : shp (.list (l.map kp)) = true := by
  unfold shp PySem.SeqAt.shaped
  simp [PySem.PyData.canLay0, PySem.PyData.depth, lay_ks h, dep_ks]
theorem eq_lks {m n : Nat} {A B : List Ky} {S : Store} (ha : lstOf S m = some (A.map kyD)) (hb : lstOf S n = some (B.map kyD)) (hA : A.all kOk = true) (hB : B.all kOk = true) : pyEq (.ref m) (.ref n) S = some (decide (A = B)) := by
  have look : ∀ {n A}, lstOf S n = some (List.map kyD A) → lookP 8 S n = some (.list (A.map kp)) := fun {n A} h => by
    unfold lookP
    unfold lstOf at h
    cases hn : S[n]? with
    | none => rw [hn] at h; cases h
    | some o =>
      rw [hn] at h
      cases o with
      | lst l => dsimp only at h ⊢; obtain rfl := Option.some.inj h; rw [toPs_k]; rfl
      | fls l => dsimp only at h ⊢; obtain rfl := Option.some.inj h; rw [toPs_k]; rfl
      | _ => cases h
  unfold pyEq
  have e : scq (.ref m) (.ref n) = none := rfl
  rw [e]
  simp only [pd, toP, look ha, look hb, shp_ks hA, shp_ks hB, and_self, if_true]
  unfold PySem.PyData.eqv
  rw [eqv_ks]
theorem eq_ints {m n : Nat} {A B : List Int} {S : Store} (ha : lstOf S m = some (A.map D.int)) (hb : lstOf S n = some (B.map D.int)) : pyEq (.ref m) (.ref n) S = some (decide (A = B)) := by
  have e : ∀ A : List Int, A.map D.int = (A.map Sum.inl).map kyD := fun A => by rw [List.map_map]; rfl
  have o : ∀ A : List Int, (A.map (Sum.inl : Int → Ky)).all kOk = true := fun A => by rw [List.all_map]; simp [kOk]
  rw [e] at ha hb
  rw [eq_lks ha hb (o A) (o B)]
  congr 1
  rw [decide_eq_decide]
  exact List.map_inj_right fun x y h => by injection h
/-! ### truths in lists -/
/-! ### ways -/
/-- number j of a list: a row's, and one that the number ahead leads to -/
def At (rows : List Row) (w : List Int) (j : Nat) : Prop := ∃ n, w[j]? = some n ∧ 0 ≤ n ∧ n < rows.length ∧ (0 < j → ∃ (a : Int) (r : Row), w[j - 1]? = some a ∧ rows[a.toNat]? = some r ∧ n ∈ fol a.toNat r)
def IsWay (rows : List Row) (w : List Int) : Prop := w ≠ [] ∧ ∀ j, j < w.length → At rows w j
theorem Prg.fol_in {l : List Tx} {rows : List Row} (h : Prg l rows) {n : Nat} {r : Row} {m : Int} (e : rows[n]? = some r) (f : m ∈ fol n r) : 0 ≤ m ∧ m < rows.length := by
  have hn := (List.getElem?_eq_some_iff.mp e).1
  have nx : r ≠ .en → n + 1 < rows.length := fun ne => by
    obtain ⟨q, rfl⟩ := h.last
    rcases get_snoc e with z | ⟨_, z⟩
    · have := (List.getElem?_eq_some_iff.mp z).1
      rw [List.length_append, List.length_singleton]; omega
    · exact absurd z ne
  cases r with
  | go t => have := h.go n t e; simp only [fol, List.mem_singleton] at f; omega
  | pt a t =>
    have := h.pt n a t e
    have := nx (by simp)
    simp only [fol, List.mem_cons, List.not_mem_nil, or_false] at f
    rcases f with f | f <;> omega
  | en => cases f
  | rk _ _ _ _ => have := nx (by simp); simp only [fol, List.mem_singleton] at f; omega
  | cp _ _ => have := nx (by simp); simp only [fol, List.mem_singleton] at f; omega
  | sy _ => have := nx (by simp); simp only [fol, List.mem_singleton] at f; omega
theorem IsWay.snoc {l : List Tx} {rows : List Row} {w : List Int} (h : IsWay rows w) (p : Prg l rows) {a m : Int} {r : Row} (ha : w[w.length - 1]? = some a) (hr : rows[a.toNat]? = some r) (f : m ∈ fol a.toNat r) : IsWay rows (w ++ [m]) := by
  have hp : 0 < w.length := List.length_pos_iff.mpr h.1
  refine ⟨by simp, fun j hj => ?_⟩
  rw [List.length_append, List.length_singleton] at hj
  have old : ∀ i, i < w.length → (w ++ [m])[i]? = w[i]? := fun i hi => List.getElem?_append_left hi
  by_cases h1 : j < w.length
  · obtain ⟨n, e, a0, a1, q⟩ := h.2 j h1
    refine ⟨n, by rw [old j h1, e], a0, a1, fun h0 => ?_⟩
    obtain ⟨a, r, z, q⟩ := q h0
    exact ⟨a, r, by rw [old _ (by omega), z], q⟩
  · obtain rfl : j = w.length := by omega
    have := p.fol_in hr f
    exact ⟨m, snoc_eq _ _, this.1, this.2, fun _ => ⟨a, r, by rw [old _ (by omega), ha], hr, f⟩⟩
theorem IsWay.one {rows : List Row} {n : Int} (h : 0 ≤ n ∧ n < rows.length) : IsWay rows [n] := by
  refine ⟨by simp, fun j hj => ?_⟩
  have : j = 0 := by simpa using hj
  subst this
  exact ⟨n, rfl, h.1, h.2, fun z => absurd z (by decide)⟩
theorem at_m1 {α : Type} {l : List α} (h : l ≠ []) : atI l (-1) = l[l.length - 1]? := by
  have hp : 0 < l.length := List.length_pos_iff.mpr h
  unfold atI ixN
  rw [if_neg (by decide), if_pos (by omega), Option.bind_some]
  congr 1
  omega
end Mi
set_option Elab.async false
set_option linter.all false
/-! rows come to from one, each by the first that led to it -/
namespace Mi
/-! ### dict displays by simp -/
@[simp] theorem mDis_one (a b : EM) (fr : Fr) (S : Store) : mDis [(a, b)] fr S = (a fr (S ++ [.dK []])).bind fun x S1 => (b fr S1).bind fun y S2 => disK S.length S2 (kvsM [(x, y)]) S2[S.length]? := by
  show ((a fr (S ++ [.dK []])).bind fun x S1 => (b fr S1).bind fun y S2 => (mPairs [] fr S2).bind fun ps S3 => .ok ((x, y) :: ps) S3).bind _ = _
  rw [Res.bind_assoc]
  congr 1; funext x S1
  rw [Res.bind_assoc]
  congr 1
theorem dis_one (n : Nat) (S : Store) (k : Ky) (v : D) (h : S[n]? = some (.dK [])) : disK n S (kvsM [(kyD k, v)]) S[n]? = .ok (.ref n) (S.set n (.dK [(k, v)])) := by
  rw [h]
  unfold kvsM
  rw [kyOf_kyD]
  rfl
/-! ### what a dict of numbers holds -/
abbrev CM := List (Int × Option Int)
theorem dGet_some {cm : CM} {x : Int} : (dGet cm x).isSome = true ↔ x ∈ cm.map Prod.fst := by
  unfold dGet
  rw [Option.isSome_map, List.find?_isSome]
  simp
theorem dGet_app {cm : CM} {x m : Int} {v : Option Int} (h : x ∈ cm.map Prod.fst) : dGet (cm ++ [(m, v)]) x = dGet cm x := by
  have := dGet_some.mpr h
  unfold dGet at this ⊢
  rw [List.find?_append]
  rw [Option.isSome_map] at this
  obtain ⟨p, hp⟩ := Option.isSome_iff_exists.mp this
  rw [hp]; rfl
/-! ### trees -/
inductive Tree (rows : List Row) (st : Int) : CM → Prop
  | base : 0 ≤ st → st < rows.length → Tree rows st [(st, none)]
  | snoc {cm : CM} {h m : Int} {r : Row} : Tree rows st cm → h ∈ cm.map Prod.fst → m ∉ cm.map Prod.fst → rows[h.toNat]? = some r → m ∈ fol h.toNat r → Tree rows st (cm ++ [(m, some h)])
def Up (cm : CM) : List Int → Prop
  | [] => False
  | [x] => dGet cm x = some none
  | x :: y :: r => dGet cm x = some (some y) ∧ Up cm (y :: r)
theorem Up.keys {cm : CM} : ∀ {w : List Int}, Up cm w → ∀ x ∈ w, x ∈ cm.map Prod.fst
  | [], h, _, _ => h.elim
  | [x], h, y, hy => by
    rw [List.mem_singleton.mp hy]
    exact dGet_some.mp (by rw [show dGet cm x = some none from h]; rfl)
  | x :: y :: r, h, z, hz => by
    rcases List.mem_cons.mp hz with e | e
    · rw [e]; exact dGet_some.mp (by rw [h.1]; rfl)
    · exact Up.keys h.2 z e
theorem Up.mono {cm : CM} {m : Int} {v : Option Int} : ∀ {w : List Int}, Up cm w → Up (cm ++ [(m, v)]) w
  | [], h => h
  | [x], h => by
    show dGet _ x = _
    rw [dGet_app (Up.keys (w := [x]) h x (by simp))]; exact h
  | x :: y :: r, h => ⟨by rw [dGet_app (Up.keys h x (by simp))]; exact h.1, Up.mono h.2⟩
theorem Tree.inr {l : List Tx} {rows : List Row} {st : Int} {cm : CM} (t : Tree rows st cm) (pg : Prg l rows) : ∀ x ∈ cm.map Prod.fst, (0 : Int) ≤ x ∧ x < (rows.length : Int) := by
  induction t with
  | base h0 h1 => intro x hx; rw [List.mem_singleton.mp hx]; exact ⟨h0, h1⟩
  | snoc _ _ _ hr hf ih =>
    intro x hx
    rw [List.map_append] at hx
    rcases List.mem_append.mp hx with z | z
    · exact ih x z
    · rw [List.mem_singleton.mp z]; exact pg.fol_in hr hf
theorem Tree.nodup {rows : List Row} {st : Int} {cm : CM} (t : Tree rows st cm) : (cm.map Prod.fst).Nodup := by
  induction t with
  | base => simp
  | @snoc cm h m r _ _ hm _ _ ih =>
    rw [List.map_append, List.nodup_append]
    refine ⟨ih, by simp, ?_⟩
    intro a ha b hb
    rw [List.mem_singleton.mp hb]
    intro z
    have z : a = m := z
    exact hm (z ▸ ha)
theorem nodup_range : ∀ (n : Nat) (l : List Int), l.Nodup → (∀ x ∈ l, 0 ≤ x ∧ x < n) → l.length ≤ n := by
  intro n
  induction n with
  | zero =>
    intro l _ h
    cases l with
    | nil => simp
    | cons x r => have := h x (by simp); omega
  | succ n ih =>
    intro l nd h
    by_cases hn : (n : Int) ∈ l
    · have h2 := ih (l.erase n) (nd.erase _) (fun x hx => by
        have h3 := h x (List.mem_of_mem_erase hx)
        have h4 : x ≠ n := fun z => by
          subst z
          exact (List.Nodup.not_mem_erase nd) hx
        omega)
      have := List.length_erase_of_mem hn
      have : 0 < l.length := List.length_pos_of_mem hn
      omega
    · have h2 := ih l nd (fun x hx => by
        have h3 := h x hx
        have h4 : x ≠ n := fun z => hn (z ▸ hx)
        omega)
      omega
theorem Tree.len {l : List Tx} {rows : List Row} {st : Int} {cm : CM} (t : Tree rows st cm) (pg : Prg l rows) : cm.length ≤ rows.length := by
  have := nodup_range rows.length _ t.nodup (t.inr pg)
  rwa [List.length_map] at this
end Mi
set_option Elab.async false
set_option linter.all false
/-! what a check of a program finds -/
namespace Mi
abbrev LTS : Tx := [97, 98, 99, 100, 101, 102, 103, 104, 105, 106, 107, 108, 109, 110, 111, 112, 113, 114, 115, 116, 117, 118, 119, 120, 121, 122]
theorem snoc_or {α : Type} (l : List α) : l = [] ∨ ∃ q a, l = q ++ [a] := by
  induction l with
  | nil => exact .inl rfl
  | cons x r ih =>
    right
    rcases ih with h | ⟨q, a, h⟩
    · exact ⟨[], x, by rw [h]; rfl⟩
    · exact ⟨x :: q, a, by rw [h]; rfl⟩
/-! ### dicts that keep what was found -/
def bmD (ks : List Int) : O := .dK (ks.map fun x => ((Sum.inl x : Ky), D.bl true))
theorem bm_get (ks : List Int) (x : Int) : (dGet (ks.map fun x => ((Sum.inl x : Ky), D.bl true)) (.inl x)).isSome = dec (x ∈ ks) := by
  by_cases h : x ∈ ks
  · rw [dec_true h]
    unfold dGet
    rw [Option.isSome_map, List.find?_isSome]
    exact ⟨(.inl x, .bl true), List.mem_map.mpr ⟨x, h, rfl⟩, by simp⟩
  · rw [dec_false h]
    unfold dGet
    have : (ks.map fun x => ((Sum.inl x : Ky), D.bl true)).find? (fun kv => decide (kv.1 = .inl x)) = none := by
      rw [List.find?_eq_none]
      intro p hp
      obtain ⟨y, hy, rfl⟩ := List.mem_map.mp hp
      simp only [decide_eq_true_eq]
      intro z
      exact h (Sum.inl.inj z ▸ hy)
    rw [this]; rfl
theorem bm_put {ks : List Int} {x : Int} (h : x ∉ ks) : dPut (ks.map fun x => ((Sum.inl x : Ky), D.bl true)) (.inl x) (.bl true) = (ks ++ [x]).map fun x => ((Sum.inl x : Ky), D.bl true) := by
  unfold dPut
  rw [if_neg]
  · simp
  · simp only [List.any_map, List.any_eq_true, Function.comp, decide_eq_true_eq, not_exists, not_and]
    intro p hp z
    exact h (Sum.inl.inj z ▸ hp)
structure Ks (rows : List Row) (ks : List Int) : Prop where
  nd : ks.Nodup
  rg : ∀ x ∈ ks, (0 : Int) ≤ x ∧ x < (rows.length : Int)
theorem Ks.len {rows : List Row} {ks : List Int} (h : Ks rows ks) : ks.length ≤ rows.length := nodup_range _ _ h.nd h.rg
theorem Ks.snoc {rows : List Row} {ks : List Int} (h : Ks rows ks) {x : Int} (hx : x ∉ ks) (hr : 0 ≤ x ∧ x < (rows.length : Int)) : Ks rows (ks ++ [x]) := by
  refine ⟨?_, ?_⟩
  · rw [List.nodup_append]
    refine ⟨h.nd, by simp, ?_⟩
    intro a ha b hb
    rw [List.mem_singleton.mp hb]
    intro z
    exact hx (z ▸ ha)
  · intro y hy
    rcases List.mem_append.mp hy with z | z
    · exact h.rg y z
    · rw [List.mem_singleton.mp z]; exact hr
structure Dfs (rows : List Row) (ks wt : List Int) : Prop extends Ks rows ks where
  zero : (0 : Int) ∈ ks
  sub : ∀ x ∈ wt, x ∈ ks
  cl : ∀ h ∈ ks, h ∈ wt ∨ ∀ r m, rows[h.toNat]? = some r → m ∈ fol h.toNat r → m ∈ ks
theorem Dfs.all {rows : List Row} {ks : List Int} (h : Dfs rows ks []) {n : Nat} (r : Reach rows n) : (n : Int) ∈ ks := by
  induction r with
  | zero => exact h.zero
  | @step i j r _ hr hf ih =>
    rcases h.cl _ ih with z | z
    · cases z
    · exact z r _ (by simpa using hr) (by simpa using hf)
/-- nothing more leads to an end -/
def Closed (rows : List Row) (ks : List Int) : Prop := ∀ (n : Nat) (r : Row), rows[n]? = some r → (n : Int) ∈ ks ∨ (r ≠ .en ∧ ∀ m ∈ fol n r, m ∉ ks)
theorem Closed.all {rows : List Row} {ks : List Int} (h : Closed rows ks) {n : Nat} (e : Ends rows n) : (n : Int) ∈ ks := by
  induction e with
  | @en n hr =>
    rcases h n _ hr with z | z
    · exact z
    · exact absurd rfl z.1
  | @step i j r hr hf _ ih =>
    rcases h j r hr with z | z
    · exact z
    · exact absurd ih (z.2 _ hf)
end Mi
set_option Elab.async false
set_option linter.all false
set_option maxHeartbeats 1000000
/-! sets as bits; reckonings of rows; places; dicts by places -/
namespace Mi
/-! ### bits -/
def bitsOf (p : Nat → Bool) : Nat → Nat
  | 0 => 0
  | m + 1 => bitsOf p m + if p m then 2 ^ m else 0
theorem bits_lt (p : Nat → Bool) : ∀ m, bitsOf p m < 2 ^ m
  | 0 => by simp [bitsOf]
  | m + 1 => by
    have := bits_lt p m
    unfold bitsOf
    rw [Nat.pow_succ]
    split <;> omega
theorem bits_test (p : Nat → Bool) : ∀ m k, (bitsOf p m).testBit k = (decide (k < m) && p k)
  | 0, k => by simp [bitsOf]
  | m + 1, k => by
    have lt := bits_lt p m
    have ih := bits_test p m k
    unfold bitsOf
    cases hp : p m with
    | true =>
      have e : bitsOf p m + 2 ^ m = 2 ^ m * 1 + bitsOf p m := by omega
      simp only [if_true]
      rw [e]
      by_cases hk : k < m
      · rw [Nat.testBit_two_pow_mul_add 1 lt k, if_pos hk, ih]
        simp [hk, show k < m + 1 by omega]
      · rw [Nat.testBit_two_pow_mul_add 1 lt k, if_neg hk]
        by_cases h2 : k = m
        · subst h2
          simp [hp]
        · have : k - m ≠ 0 := by omega
          have h3 : ¬ k < m + 1 := by omega
          simp [h3]
          have e1 := Nat.testBit_two_pow_of_ne (n := 0) (m := k - m) (by omega)
          simpa using e1
    | false =>
      simp only [Bool.false_eq_true, if_false, Nat.add_zero]
      rw [ih]
      by_cases h2 : k = m
      · subst h2; simp [hp]
      · by_cases hk : k < m
        · simp [hk, show k < m + 1 by omega]
        · simp [hk, show ¬ k < m + 1 by omega]
theorem bits_congr {p q : Nat → Bool} : ∀ {m}, (∀ k, k < m → p k = q k) → bitsOf p m = bitsOf q m
  | 0, _ => rfl
  | m + 1, h => by
    unfold bitsOf
    rw [bits_congr fun k hk => h k (by omega), h m (by omega)]
theorem bits_inj {p q : Nat → Bool} {m : Nat} (h : bitsOf p m = bitsOf q m) : ∀ k, k < m → p k = q k := fun k hk => by
  have e := congrArg (fun x => x.testBit k) h
  simpa [bits_test, hk] using e
theorem bits_eq {p : Nat → Bool} {m n : Nat} (h : ∀ k, n.testBit k = (decide (k < m) && p k)) : n = bitsOf p m := by
  apply Nat.eq_of_testBit_eq
  intro k
  rw [h, bits_test]
theorem bits_and (p q : Nat → Bool) (m : Nat) : bitsOf p m &&& bitsOf q m = bitsOf (fun k => p k && q k) m := bits_eq fun k => by
  rw [Nat.testBit_and, bits_test, bits_test]
  cases decide (k < m) <;> simp
theorem bits_or (p q : Nat → Bool) (m : Nat) : bitsOf p m ||| bitsOf q m = bitsOf (fun k => p k || q k) m := bits_eq fun k => by
  rw [Nat.testBit_or, bits_test, bits_test]
  cases decide (k < m) <;> simp
theorem bits_xor (p q : Nat → Bool) (m : Nat) : bitsOf p m ^^^ bitsOf q m = bitsOf (fun k => p k ^^ q k) m := bits_eq fun k => by
  rw [Nat.testBit_xor, bits_test, bits_test]
  cases decide (k < m) <;> simp
theorem bits_all : ∀ m, bitsOf (fun _ => true) m = 2 ^ m - 1
  | 0 => rfl
  | m + 1 => by
    unfold bitsOf
    rw [bits_all m]
    have := Nat.one_le_two_pow (n := m)
    simp only [if_true]
    rw [Nat.pow_succ]
    omega
theorem bits_none : ∀ m, bitsOf (fun _ => false) m = 0
  | 0 => rfl
  | m + 1 => by unfold bitsOf; rw [bits_none m]; rfl
theorem bits_one {m i : Nat} (h : i < m) : 2 ^ i = bitsOf (fun k => decide (k = i)) m := bits_eq fun k => by
  rw [Nat.testBit_two_pow]
  by_cases e : i = k
  · subst e; simp [h]
  · have : ¬ k = i := fun z => e z.symm
    simp [e, this]
theorem bits_le {p q : Nat → Bool} : ∀ {m}, (∀ k, k < m → p k = true → q k = true) → bitsOf p m ≤ bitsOf q m
  | 0, _ => Nat.le_refl _
  | m + 1, h => by
    have ih := bits_le (m := m) fun k hk => h k (by omega)
    unfold bitsOf
    by_cases hp : p m = true
    · rw [if_pos hp, if_pos (h m (by omega) hp)]; omega
    · rw [if_neg hp]; omega
theorem bits_shr (p : Nat → Bool) (m k : Nat) : bitsOf p m / 2 ^ k % 2 = if (decide (k < m) && p k) = true then 1 else 0 := by
  have e := bits_test p m k
  rw [← e, Nat.testBit_eq_decide_div_mod_eq]
  have := Nat.mod_two_eq_zero_or_one (bitsOf p m / 2 ^ k)
  rcases this with h | h <;> simp [h]
/-- 1 << k -/
theorem shl_1 (k : Nat) (hk : k ≤ 1000000) (S : Store) : oShl (.int 1) (.int k) S = .ok (.int ((2 ^ k : Nat) : Int)) S := by
  have h : powOk 1 (k : Int) := by unfold powOk; refine ⟨by omega, by omega, by decide⟩
  rw [oShl_i, if_pos h]
  simp
/-- (x >> k) & 1 -/
theorem shr_bit (p : Nat → Bool) (m k : Nat) (S : Store) : oShr (.int ((bitsOf p m : Nat) : Int)) (.int k) S = .ok (.int ((bitsOf p m / 2 ^ k : Nat) : Int)) S := by
  rw [oShr_i, if_pos (by omega)]
  simp
theorem and_one (n : Nat) (S : Store) : oAnd (.int (n : Int)) (.int 1) S = .ok (.int ((n % 2 : Nat) : Int)) S := by
  rw [oAnd_i, if_pos ⟨by omega, by omega⟩]
  congr 3
  rw [Int.toNat_natCast, show (1 : Int).toNat = 1 from rfl, Nat.and_one_is_mod]
/-! ### reckonings -/
noncomputable def recs (rows : List Row) : List (List Ky) := rows.foldl addK []
theorem addK_nd {acc : List (List Ky)} {r : Row} (h : acc.Nodup) : (addK acc r).Nodup := by
  unfold addK
  split
  · rename_i k _
    by_cases hk : k ∈ acc
    · rw [if_pos (dec_true hk)]; exact h
    · rw [if_neg (by rw [dec_false hk]; exact Bool.false_ne_true), List.nodup_append]
      refine ⟨h, by simp, ?_⟩
      intro a ha b hb
      rw [List.mem_singleton.mp hb]
      intro z
      exact hk (z ▸ ha)
  · exact h
theorem recs_nd (rows : List Row) : (recs rows).Nodup := by
  unfold recs
  have : ∀ (l : List Row) (acc : List (List Ky)), acc.Nodup → (l.foldl addK acc).Nodup := by
    intro l
    induction l with
    | nil => exact fun _ h => h
    | cons r q ih => exact fun acc h => ih _ (addK_nd h)
  exact this rows [] List.nodup_nil
theorem addK_mem {acc : List (List Ky)} {r : Row} {k : List Ky} : k ∈ addK acc r ↔ k ∈ acc ∨ r.rkg = some k := by
  unfold addK
  cases h : r.rkg with
  | none => simp
  | some x =>
    dsimp only
    by_cases hk : x ∈ acc
    · rw [if_pos (dec_true hk)]
      constructor
      · exact fun z => .inl z
      · rintro (z | z)
        · exact z
        · obtain rfl := Option.some.inj z; exact hk
    · rw [if_neg (by rw [dec_false hk]; exact Bool.false_ne_true), List.mem_append, List.mem_singleton]
      constructor
      · rintro (z | z)
        · exact .inl z
        · exact .inr (by rw [z])
      · rintro (z | z)
        · exact .inl z
        · exact .inr (Option.some.inj z).symm
theorem recs_mem {rows : List Row} {k : List Ky} : k ∈ recs rows ↔ ∃ r ∈ rows, r.rkg = some k := by
  unfold recs
  have : ∀ (l : List Row) (acc : List (List Ky)), k ∈ l.foldl addK acc ↔ k ∈ acc ∨ ∃ r ∈ l, r.rkg = some k := by
    intro l
    induction l with
    | nil => intro acc; simp
    | cons r q ih =>
      intro acc
      rw [List.foldl_cons, ih, addK_mem]
      simp only [List.mem_cons, exists_eq_or_imp]
      constructor
      · rintro ((z | z) | z)
        · exact .inl z
        · exact .inr (.inl z)
        · exact .inr (.inr z)
      · rintro (z | z | z)
        · exact .inl (.inl z)
        · exact .inl (.inr z)
        · exact .inr z
  rw [this]; simp
theorem recs_snoc (q : List Row) (r : Row) : recs (q ++ [r]) = addK (recs q) r := by
  unfold recs
  rw [List.foldl_append]; rfl
theorem addK_len (acc : List (List Ky)) (r : Row) : (addK acc r).length ≤ acc.length + 1 := by
  unfold addK
  split
  · split
    · omega
    · simp
  · omega
theorem recs_len (rows : List Row) : (recs rows).length ≤ rows.length := by
  unfold recs
  have : ∀ (l : List Row) (acc : List (List Ky)), (l.foldl addK acc).length ≤ acc.length + l.length := by
    intro l
    induction l with
    | nil => intro acc; simp
    | cons r q ih =>
      intro acc
      have h1 := ih (addK acc r)
      have h2 := addK_len acc r
      rw [List.foldl_cons, List.length_cons]
      omega
  have := this rows []
  simpa using this
/-- the name that a row sets -/
def Row.set : Row → Option Tx
  | .rk n _ _ _ => some n
  | .cp n _ => some n
  | _ => none
/-- whether a row changes a reckoning -/
noncomputable def chg (r : Row) (k : List Ky) : Bool := match r.set with
  | some n => dec ((.inr n : Ky) ∈ k.drop 1)
  | none => false
noncomputable def hasK (r : Row) (k : List Ky) : Bool := dec (r.rkg = some k)
/-- numbers of reckonings -/
def numK : Nat → List (List Ky) → List (List Ky × D)
  | _, [] => []
  | i, k :: r => (k, .int (i : Nat)) :: numK (i + 1) r
theorem numK_len : ∀ (i : Nat) (L : List (List Ky)), (numK i L).length = L.length
  | _, [] => rfl
  | i, k :: r => by rw [numK, List.length_cons, List.length_cons, numK_len]
theorem numK_keys : ∀ (i : Nat) (L : List (List Ky)), (numK i L).map (·.1) = L
  | _, [] => rfl
  | i, k :: r => by rw [numK, List.map_cons, numK_keys]
theorem numK_snoc : ∀ (i : Nat) (L : List (List Ky)) (k : List Ky), numK i (L ++ [k]) = numK i L ++ [(k, .int ((i + L.length : Nat) : Int))]
  | i, [], k => rfl
  | i, x :: r, k => by
    rw [List.cons_append, numK, numK_snoc (i + 1) r k, numK, List.cons_append, List.length_cons]
    congr 5
    omega
theorem numK_put {i : Nat} {L : List (List Ky)} {k : List Ky} (h : k ∉ L) (v : D) : dPut (numK i L) k v = numK i L ++ [(k, v)] := by
  unfold dPut
  rw [if_neg]
  simp only [List.any_eq_true, decide_eq_true_eq, not_exists, not_and]
  intro p hp z
  have : p.1 ∈ (numK i L).map (·.1) := List.mem_map.mpr ⟨p, hp, rfl⟩
  rw [numK_keys] at this
  exact h (z ▸ this)
theorem numK_get : ∀ (i : Nat) {L : List (List Ky)} {k : List Ky} {j : Nat}, L.Nodup → L[j]? = some k → dGet (numK i L) k = some (.int ((i + j : Nat) : Int))
  | i, [], k, j, _, e => by cases e
  | i, x :: r, k, 0, _, e => by
    obtain rfl := Option.some.inj e
    simp [numK, dGet]
  | i, x :: r, k, j + 1, nd, e => by
    have hx : ¬ x = k := fun z => by
      subst z
      exact (List.nodup_cons.mp nd).1 (List.mem_of_getElem? (i := j) (by simpa using e))
    have ih := numK_get (i + 1) (List.nodup_cons.mp nd).2 (j := j) (by simpa using e)
    unfold dGet at ih ⊢
    rw [numK, List.find?_cons]
    simp only [hx, decide_false]
    rw [ih]
    congr 3
    omega
/-! ### places -/
def pk (p : Int × Int) : List Ky := [.inl p.1, .inl p.2]
theorem pk_inj {p q : Int × Int} (h : pk p = pk q) : p = q := by
  obtain ⟨a, b⟩ := p
  obtain ⟨c, d⟩ := q
  simp [pk] at h
  rw [h.1, h.2]
def plcFrom : Nat → List Row → List (Int × Int)
  | _, [] => []
  | n, r :: q => (fol n r).map (fun m => ((n : Int), m)) ++ plcFrom (n + 1) q
def plc (rows : List Row) : List (Int × Int) := (-1, 0) :: plcFrom 0 rows
theorem plcFrom_snoc : ∀ (n : Nat) (q : List Row) (r : Row), plcFrom n (q ++ [r]) = plcFrom n q ++ (fol (n + q.length) r).map (fun m => (((n + q.length : Nat) : Int), m))
  | n, [], r => by simp [plcFrom]
  | n, x :: q, r => by
    rw [List.cons_append, plcFrom, plcFrom_snoc (n + 1) q r, plcFrom, List.append_assoc, List.length_cons]
    rw [show n + 1 + q.length = n + (q.length + 1) by omega]
theorem fol_len (n : Nat) (r : Row) : (fol n r).length ≤ 2 := by cases r <;> simp [fol]
theorem plcFrom_len : ∀ (n : Nat) (q : List Row), (plcFrom n q).length ≤ 2 * q.length
  | n, [] => by simp [plcFrom]
  | n, x :: q => by
    have := plcFrom_len (n + 1) q
    have := fol_len n x
    rw [plcFrom, List.length_append, List.length_map, List.length_cons]
    omega
theorem plc_len (rows : List Row) : (plc rows).length ≤ 2 * rows.length + 1 := by
  have := plcFrom_len 0 rows
  rw [plc, List.length_cons]; omega
theorem plcFrom_mem : ∀ (n : Nat) (q : List Row) (a b : Int), (a, b) ∈ plcFrom n q ↔ ∃ (i : Nat) (r : Row), q[i]? = some r ∧ a = ((n + i : Nat) : Int) ∧ b ∈ fol (n + i) r
  | n, [], a, b => by simp [plcFrom]
  | n, x :: q, a, b => by
    rw [plcFrom, List.mem_append, List.mem_map, plcFrom_mem (n + 1) q a b]
    constructor
    · rintro (⟨m, hm, e⟩ | ⟨i, r, e, h1, h2⟩)
      · injection e with e1 e2
        subst e2
        exact ⟨0, x, rfl, e1.symm, hm⟩
      · exact ⟨i + 1, r, by simpa using e, by rw [h1, show n + 1 + i = n + (i + 1) by omega], by rw [show n + (i + 1) = n + 1 + i by omega]; exact h2⟩
    · rintro ⟨i, r, e, h1, h2⟩
      cases i with
      | zero =>
        obtain rfl := Option.some.inj e
        exact .inl ⟨b, h2, by rw [h1]; rfl⟩
      | succ i => exact .inr ⟨i, r, by simpa using e, by rw [h1, show n + 1 + i = n + (i + 1) by omega], by rw [show n + 1 + i = n + (i + 1) by omega]; exact h2⟩
theorem plc_mem {rows : List Row} {a b : Int} : (a, b) ∈ plc rows ↔ (a = -1 ∧ b = 0) ∨ ∃ (i : Nat) (r : Row), rows[i]? = some r ∧ a = (i : Int) ∧ b ∈ fol i r := by
  rw [plc, List.mem_cons, plcFrom_mem]
  simp
/-! ### dicts by places -/
def dOf (f : Int × Int → D) (L : List (Int × Int)) : List (List Ky × D) := L.foldl (fun acc p => dPut acc (pk p) (f p)) []
theorem dOf_snoc (f : Int × Int → D) (L : List (Int × Int)) (p : Int × Int) : dOf f (L ++ [p]) = dPut (dOf f L) (pk p) (f p) := by
  unfold dOf
  rw [List.foldl_append]; rfl
theorem dPut_get {κ α : Type} [DecidableEq κ] (l : List (κ × α)) (k k' : κ) (v : α) : dGet (dPut l k v) k' = if k = k' then some v else dGet l k' := by
  unfold dPut dGet
  by_cases h : (l.any fun kv => decide (kv.1 = k)) = true
  · rw [if_pos h]
    induction l with
    | nil => simp at h
    | cons x r ih =>
      by_cases hx : x.1 = k
      · by_cases hk : k = k'
        · subst hk; simp [hx]
        · have h1 : ¬ x.1 = k' := fun z => hk (hx.symm.trans z)
          simp only [List.map_cons, if_pos hx, List.find?_cons, h1, decide_false, if_neg hk]
          have q : ∀ (l : List (κ × α)), ((l.map fun kv => if kv.1 = k then (kv.1, v) else kv).find? fun kv => decide (kv.1 = k')).map (·.2) = (l.find? fun kv => decide (kv.1 = k')).map (·.2) := by
            intro l
            induction l with
            | nil => rfl
            | cons y q ih2 =>
              by_cases hy : y.1 = k
              · have h2 : ¬ y.1 = k' := fun z => hk (hy.symm.trans z)
                simp only [List.map_cons, if_pos hy, List.find?_cons, h2, decide_false]
                exact ih2
              · simp only [List.map_cons, if_neg hy, List.find?_cons]
                cases decide (y.1 = k')
                · exact ih2
                · rfl
          exact q r
      · have h' : (r.any fun kv => decide (kv.1 = k)) = true := by simpa [hx] using h
        have := ih h'
        simp only [List.map_cons, if_neg hx, List.find?_cons]
        by_cases h1 : x.1 = k'
        · have hk : ¬ k = k' := fun z => hx (h1.trans z.symm)
          simp [h1, hk]
        · simp only [h1, decide_false]
          exact this
  · rw [if_neg h, List.find?_append]
    by_cases hk : k = k'
    · subst hk
      have : l.find? (fun kv => decide (kv.1 = k)) = none := by
        rw [List.find?_eq_none]
        intro p hp z
        exact h (List.any_eq_true.mpr ⟨p, hp, z⟩)
      simp [this]
    · simp only [if_neg hk]
      have : ([(k, v)] : List (κ × α)).find? (fun kv => decide (kv.1 = k')) = none := by simp [hk]
      rw [this, Option.or_none]
theorem dPut_len {κ α : Type} [DecidableEq κ] (l : List (κ × α)) (k : κ) (v : α) : (dPut l k v).length ≤ l.length + 1 := by
  unfold dPut
  split <;> simp
theorem snoc_ind {α : Type} {P : List α → Prop} (h0 : P []) (h1 : ∀ l a, P l → P (l ++ [a])) (l : List α) : P l := by
  have : ∀ n, ∀ l : List α, l.length = n → P l := by
    intro n
    induction n with
    | zero => intro l hl; rw [List.length_eq_zero_iff.mp hl]; exact h0
    | succ n ih =>
      intro l hl
      rcases snoc_or l with rfl | ⟨q, a, rfl⟩
      · simp at hl
      · rw [List.length_append, List.length_singleton] at hl
        exact h1 q a (ih q (by omega))
  exact this l.length l rfl
theorem dOf_get (f : Int × Int → D) (L : List (Int × Int)) (p : Int × Int) : dGet (dOf f L) (pk p) = if p ∈ L then some (f p) else none := by
  refine snoc_ind (P := fun L => dGet (dOf f L) (pk p) = if p ∈ L then some (f p) else none) rfl ?_ L
  intro L q ih
  rw [dOf_snoc, dPut_get, ih]
  by_cases h : q = p
  · subst h; simp
  · have h1 : ¬ pk q = pk p := fun z => h (pk_inj z)
    have h2 : ¬ p = q := fun z => h z.symm
    rw [if_neg h1]
    simp [h2]
theorem dOf_len (f : Int × Int → D) (L : List (Int × Int)) : (dOf f L).length ≤ L.length := by
  refine snoc_ind (P := fun L => (dOf f L).length ≤ L.length) (Nat.le_refl _) ?_ L
  intro L q ih
  have := dPut_len (dOf f L) (pk q) (f q)
  rw [dOf_snoc, List.length_append, List.length_singleton]
  omega
end Mi
set_option Elab.async false
set_option linter.all false
/-! k10's own operators by simp -/
namespace Mi
@[simp] theorem oEqX_s (a : Tx) (y : D) (S : Store) : oEqX (.str a) y S = oEq (.str a) y S := (rfl)
@[simp] theorem oEqX_i (a : Int) (y : D) (S : Store) : oEqX (.int a) y S = oEq (.int a) y S := (rfl)
@[simp] theorem oEqX_n (y : D) (S : Store) : oEqX .non y S = oEq .non y S := (rfl)
@[simp] theorem oEqX_b (a : Bool) (y : D) (S : Store) : oEqX (.bl a) y S = oEq (.bl a) y S := (rfl)
@[simp] theorem oEqX_t (a : List D) (y : D) (S : Store) : oEqX (.tup a) y S = oEq (.tup a) y S := (rfl)
def slA3 (x : D) (l : Option Int) (r : Res (Option Int)) : Res D := r.bind fun h S3 => oSlA x l h S3
@[simp] theorem slA3_s (x : D) (l h : Option Int) (S : Store) : slA3 x l (.ok h S) = oSlA x l h S := (rfl)
def slA2 (x : D) (hi : PM) (fr : Fr) (r : Res (Option Int)) : Res D := r.bind fun l S2 => slA3 x l (hi fr S2)
@[simp] theorem slA2_s (x : D) (hi : PM) (fr : Fr) (l : Option Int) (S : Store) : slA2 x hi fr (.ok l S) = slA3 x l (hi fr S) := (rfl)
def slA1 (lo hi : PM) (fr : Fr) (r : Res D) : Res D := r.bind fun x S1 => slA2 x hi fr (lo fr S1)
@[simp] theorem slA1_s (lo hi : PM) (fr : Fr) (x : D) (S : Store) : slA1 lo hi fr (.ok x S) = slA2 x hi fr (lo fr S) := (rfl)
@[simp] theorem mSlA_s (a : EM) (lo hi : PM) (fr : Fr) (S : Store) : mSlA a lo hi fr S = slA1 lo hi fr (a fr S) := (rfl)
@[simp] theorem oSlA_t (l : List D) (lo hi : Option Int) (S : Store) : oSlA (.tup l) lo hi S = .ok (.tup (cut l lo hi)) S := (rfl)
@[simp] theorem oAddA_t (a b : List D) (S : Store) : oAddA (.tup a) (.tup b) S = if a.length + b.length ≤ LINE then .ok (.tup (a ++ b)) S else .bad := (rfl)
@[simp] theorem oAddA_i (a : Int) (y : D) (S : Store) : oAddA (.int a) y S = oAdd (.int a) y S := (rfl)
@[simp] theorem sUpper_s (w : Tx) (S : Store) : sUpper (.str w) [] S = if w ∈ sixW then .ok (.str (w.map fun c => c - 32)) S else .bad := (rfl)
end Mi
set_option Elab.async false
set_option linter.all false
/-! Mini5's and Mini6's operators by simp -/
namespace Mi
def rvA2 (x : D) (r : Res (Option Int)) : Res D := r.bind fun o S2 => if o = some (-1) then oRev x S2 else .bad
@[simp] theorem rvA2_s (x : D) (S : Store) : rvA2 x (.ok (some (-1)) S) = oRev x S := (rfl)
def rvA1 (st : PM) (fr : Fr) (r : Res D) : Res D := r.bind fun x S1 => rvA2 x (st fr S1)
@[simp] theorem rvA1_s (st : PM) (fr : Fr) (x : D) (S : Store) : rvA1 st fr (.ok x S) = rvA2 x (st fr S) := (rfl)
@[simp] theorem mRev_s (a : EM) (st : PM) (fr : Fr) (S : Store) : mRev a st fr S = rvA1 st fr (a fr S) := (rfl)
def rvO (S : Store) : Option (List D) → Res D
  | some l => new (.lst l.reverse) S
  | none => .bad
@[simp] theorem rvO_s (S : Store) (l : List D) : rvO S (some l) = .ok (.ref S.length) (S ++ [.lst l.reverse]) := (rfl)
@[simp] theorem oRev_r (n : Nat) (S : Store) : oRev (.ref n) S = rvO S (lstOf S n) := by
  unfold oRev rvO
  first
  | (cases lstOf S n <;> rfl)
  | (dsimp only; cases lstOf S n <;> rfl)
  | dsimp only
/-! ### a locked walk -/
end Mi
set_option Elab.async false
set_option linter.all false
set_option maxHeartbeats 1000000
/-! where a reckoning is not wanted, not standing; greatest sets -/
namespace Mi
/-- a way leads on to a change or an end without it -/
inductive Mis (rows : List Row) (k : List Ky) : Nat → Prop
  | out {n : Nat} {r : Row} : rows[n]? = some r → r.rkg ≠ some k → (chg r k = true ∨ r = .en) → Mis rows k n
  | step {n j : Nat} {r : Row} : rows[n]? = some r → r.rkg ≠ some k → (j : Int) ∈ fol n r → Mis rows k j → Mis rows k n
/-- a way leads back to a change or the begin without it -/
inductive Mst (rows : List Row) (k : List Ky) : Nat → Prop
  | out {n : Nat} {r : Row} : rows[n]? = some r → chg r k = true → Mst rows k n
  | zero {r : Row} : rows[0]? = some r → r.rkg ≠ some k → Mst rows k 0
  | step {n j : Nat} {r q : Row} : rows[n]? = some r → r.rkg ≠ some k → rows[j]? = some q → (n : Int) ∈ fol j q → Mst rows k j → Mst rows k n
abbrev BF := Nat → Bool
def fsAt (fs : List BF) (m : Int) : BF := fs.getD m.toNat fun _ => false
def bD (m : Nat) (p : BF) : D := .int ((bitsOf p m : Nat) : Int)
def sumB (m : Nat) (fs : List BF) : Nat := (fs.map fun p => bitsOf p m).sum
theorem sum_set {L : List Nat} {i : Nat} {x y : Nat} (h : L[i]? = some x) (hy : y < x) : (L.set i y).sum < L.sum := by
  induction L generalizing i with
  | nil => cases h
  | cons a r ih =>
    cases i with
    | zero => obtain rfl := Option.some.inj h; simp; omega
    | succ i => have := ih (i := i) (by simpa using h); simp; omega
theorem sumB_set {m : Nat} {fs : List BF} {i : Nat} {p q : BF} (h : fs[i]? = some p) (hq : bitsOf q m < bitsOf p m) : sumB m (fs.set i q) < sumB m fs := by
  unfold sumB
  rw [List.map_set]
  exact sum_set (by rw [List.getElem?_map, h]; rfl) hq
theorem fsAt_set {fs : List BF} {i : Nat} {q : BF} (hi : i < fs.length) (m : Int) : fsAt (fs.set i q) m = if m.toNat = i then q else fsAt fs m := by
  unfold fsAt
  simp only [List.getD_eq_getElem?_getD, List.getElem?_set]
  by_cases h : i = m.toNat
  · subst h; simp [hi]
  · have : ¬ m.toNat = i := fun z => h z.symm
    simp [h, this]
theorem fsAt_of {fs : List BF} {i : Nat} {p : BF} (h : fs[i]? = some p) : fsAt fs (i : Int) = p := by
  unfold fsAt
  rw [List.getD_eq_getElem?_getD, Int.toNat_natCast, h]; rfl
/-- all of some rows' bits -/
def allF (fs : List BF) (L : List Int) : BF := fun k => L.all fun m => fsAt fs m k
theorem bit_lt {m : Nat} {p q : BF} (h : ∀ k, k < m → p k = true → q k = true) (ne : bitsOf p m ≠ bitsOf q m) : bitsOf p m < bitsOf q m := by
  have := bits_le h
  omega
/-- what a rule makes of the sets, row by row -/
structure Rule (rows : List Row) where
  g : List BF → Nat → BF
  mono : ∀ (fs fs' : List BF) (n : Nat) (k : Nat), (∀ m, fsAt fs m k = true → fsAt fs' m k = true) → g fs n k = true → g fs' n k = true
/-- sets on their way down to the greatest that fit -/
structure Down {rows : List Row} (R : Rule rows) (m : Nat) (W : Nat → Nat → Prop) (fs : List BF) : Prop where
  len : fs.length = rows.length
  up : ∀ n k, n < rows.length → k < m → W n k → fsAt fs (n : Int) k = true
  post : ∀ n k, n < rows.length → k < m → R.g fs n k = true → fsAt fs (n : Int) k = true
theorem Down.put {rows : List Row} {R : Rule rows} {m : Nat} {W : Nat → Nat → Prop} {fs : List BF} (d : Down R m W fs) {n : Nat} (hn : n < rows.length) (hw : ∀ k, k < m → W n k → R.g fs n k = true) : Down R m W (fs.set n (R.g fs n)) := by
  have hl : n < fs.length := by rw [d.len]; exact hn
  have sub : ∀ j k, k < m → j < rows.length → fsAt (fs.set n (R.g fs n)) (j : Int) k = true → fsAt fs (j : Int) k = true := fun j k hk hj h => by
    rw [fsAt_set hl] at h
    split at h
    · rename_i e
      rw [Int.toNat_natCast] at e
      subst e
      exact d.post j k hj hk h
    · exact h
  have sub2 : ∀ (x : Int) k, k < m → fsAt (fs.set n (R.g fs n)) x k = true → fsAt fs x k = true := fun x k hk h => by
    rw [fsAt_set hl] at h
    split at h
    · rename_i e
      have q := d.post n k hn hk h
      unfold fsAt at q ⊢
      rw [Int.toNat_natCast] at q
      rw [e]; exact q
    · exact h
  refine ⟨by rw [List.length_set]; exact d.len, fun j k hj hk w => ?_, fun j k hj hk h => ?_⟩
  · rw [fsAt_set hl]
    split
    · rename_i e
      rw [Int.toNat_natCast] at e
      subst e
      exact hw k hk w
    · exact d.up j k hj hk w
  · have h2 := R.mono _ fs j k (fun x => sub2 x k hk) h
    rw [fsAt_set hl]
    split
    · rename_i e
      rw [Int.toNat_natCast] at e
      subst e
      exact h2
    · exact d.post j k hj hk h2
/-- the bits wanted at a row -/
noncomputable def wantP (rows : List Row) (n : Nat) : BF := fun k => match (recs rows)[k]? with
  | some x => !dec (Mis rows x n)
  | none => false
noncomputable def wantD (rows : List Row) (n : Nat) : D := bD (recs rows).length (wantP rows n)
noncomputable def ownF (rows : List Row) (r : Row) : BF := fun k => dec (r.rkg ≠ none ∧ r.rkg = (recs rows)[k]?)
noncomputable def lostF (rows : List Row) (r : Row) : BF := fun k => match (recs rows)[k]? with
  | some x => chg r x
  | none => false
noncomputable def gAsk (rows : List Row) (fs : List BF) (n : Nat) : BF := fun k => match rows[n]? with
  | some r => ownF rows r k || ((dec (r ≠ .en) && allF fs (fol n r) k) && (true ^^ lostF rows r k))
  | none => false
theorem allF_mono {fs fs' : List BF} {k : Nat} (h : ∀ m, fsAt fs m k = true → fsAt fs' m k = true) {L : List Int} (a : allF fs L k = true) : allF fs' L k = true := by
  unfold allF at a ⊢
  rw [List.all_eq_true] at a ⊢
  exact fun m hm => h m (a m hm)
noncomputable def ruleA (rows : List Row) : Rule rows where
  g := gAsk rows
  mono := fun fs fs' n k h a => by
    unfold gAsk at a ⊢
    split at a
    · rename_i r e
      simp only [Bool.or_eq_true, Bool.and_eq_true] at a ⊢
      rcases a with a | ⟨⟨a1, a2⟩, a3⟩
      · exact .inl a
      · exact .inr ⟨⟨a1, allF_mono h a2⟩, a3⟩
    · cases a
/-- what is wanted fits -/
theorem ask_up {rows : List Row} {fs : List BF} (d : Down (ruleA rows) (recs rows).length (fun n k => wantP rows n k = true) fs) (hin : ∀ (n : Nat) (r : Row) (m : Int), rows[n]? = some r → m ∈ fol n r → 0 ≤ m ∧ m < rows.length) {n : Nat} (hn : n < rows.length) : ∀ k, k < (recs rows).length → wantP rows n k = true → (ruleA rows).g fs n k = true := by
  intro k hk w
  obtain ⟨x, hx⟩ : ∃ x, (recs rows)[k]? = some x := ⟨_, List.getElem?_eq_getElem hk⟩
  obtain ⟨r, hr⟩ : ∃ r, rows[n]? = some r := ⟨_, List.getElem?_eq_getElem hn⟩
  have wx : ∀ j, wantP rows j k = !dec (Mis rows x j) := fun j => by unfold wantP; rw [hx]
  rw [wx] at w
  have nm : ¬ Mis rows x n := fun z => by rw [dec_true z] at w; cases w
  show gAsk rows fs n k = true
  unfold gAsk
  rw [hr]
  simp only [Bool.or_eq_true, Bool.and_eq_true]
  by_cases ho : r.rkg = some x
  · exact .inl (by unfold ownF; exact dec_true ⟨by rw [ho]; simp, by rw [ho, hx]⟩)
  · right
    refine ⟨⟨dec_true fun z => nm (.out hr ho (.inr z)), ?_⟩, ?_⟩
    · unfold allF
      rw [List.all_eq_true]
      intro m hm
      have hi := hin n r m hr hm
      obtain ⟨j, rfl⟩ : ∃ j : Nat, m = (j : Int) := ⟨m.toNat, by omega⟩
      refine d.up j k (by omega) hk ?_
      rw [wx, dec_false fun z => nm (.step hr ho hm z)]
      rfl
    · unfold lostF
      rw [hx]
      dsimp only
      cases hc : chg r x with
      | false => rfl
      | true => exact absurd (.out hr ho (.inl hc)) nm
/-- what stays is wanted -/
theorem ask_fix {rows : List Row} {fs : List BF} (hf : ∀ n k, n < rows.length → k < (recs rows).length → gAsk rows fs n k = fsAt fs (n : Int) k) {k : Nat} {x : List Ky} (hx : (recs rows)[k]? = some x) {n : Nat} (m : Mis rows x n) : fsAt fs (n : Int) k = false := by
  have hk := (List.getElem?_eq_some_iff.mp hx).1
  have own : ∀ r : Row, r.rkg ≠ some x → ownF rows r k = false := fun r h => by
    unfold ownF
    exact dec_false fun z => h (by rw [z.2, hx])
  induction m with
  | @out n r hr ho h =>
    have hn := (List.getElem?_eq_some_iff.mp hr).1
    rw [← hf n k hn hk]
    unfold gAsk
    rw [hr]
    dsimp only
    rw [own r ho, Bool.false_or]
    rcases h with h | h
    · have : lostF rows r k = true := by unfold lostF; rw [hx]; exact h
      rw [this]; simp
    · rw [dec_false fun z => z h]; simp
  | @step n j r hr ho hj _ ih =>
    have hn := (List.getElem?_eq_some_iff.mp hr).1
    rw [← hf n k hn hk]
    unfold gAsk
    rw [hr]
    dsimp only
    rw [own r ho, Bool.false_or]
    have : allF fs (fol n r) k = false := by
      unfold allF
      rw [List.all_eq_false]
      exact ⟨(j : Int), hj, by rw [ih]; simp⟩
    rw [this]; simp
/-! ### bits as data -/
theorem bD_and (m : Nat) (p q : BF) (S : Store) : oAnd (bD m p) (bD m q) S = .ok (bD m fun k => p k && q k) S := by
  unfold bD
  rw [oAnd_i, if_pos ⟨by omega, by omega⟩]
  simp only [Int.toNat_natCast]
  rw [bits_and]
theorem bD_or (m : Nat) (p q : BF) (S : Store) : oOr (bD m p) (bD m q) S = .ok (bD m fun k => p k || q k) S := by
  unfold bD
  rw [oOr_i, if_pos ⟨by omega, by omega⟩]
  simp only [Int.toNat_natCast]
  rw [bits_or]
theorem bD_xor (m : Nat) (p q : BF) (S : Store) : oXor (bD m p) (bD m q) S = .ok (bD m fun k => p k ^^ q k) S := by
  unfold bD
  rw [oXor_i, if_pos ⟨by omega, by omega⟩]
  simp only [Int.toNat_natCast]
  rw [bits_xor]
theorem bD_ne (m : Nat) (p q : BF) (S : Store) : oNe (bD m p) (bD m q) S = .ok (.bl (!decide (bitsOf p m = bitsOf q m))) S := by
  unfold bD
  rw [oNe_i]
  congr 3
  rw [decide_eq_decide]
  omega
theorem bD_zero (m : Nat) : (D.int 0) = bD m fun _ => false := by
  unfold bD
  rw [bits_none]; rfl
theorem bD_congr {m : Nat} {p q : BF} (h : ∀ k, k < m → p k = q k) : bD m p = bD m q := by
  unfold bD
  rw [bits_congr h]
theorem bD_funext {m : Nat} {p q : BF} (h : ∀ k, p k = q k) : bD m p = bD m q := bD_congr fun k _ => h k
theorem allF_nil (fs : List BF) (k : Nat) : allF fs [] k = true := rfl
theorem allF_snoc (fs : List BF) (L : List Int) (m : Int) (k : Nat) : allF fs (L ++ [m]) k = (allF fs L k && fsAt fs m k) := by
  unfold allF
  rw [List.all_append]
  simp
end Mi
set_option Elab.async false
set_option linter.all false
set_option maxHeartbeats 1000000
/-! rows by the rows from which they are come to; where a reckoning is standing -/
namespace Mi
/-- [[] for x in xs] -/
theorem lc_fresh_go {hs : List (Nat × List D)} {g : GM} {t : TM} {e : EM} {fr : Fr} {S1 : Store} (hg : ∀ d S, ∃ fr', g d fr S = .ok fr' S ∧ t fr' S = .ok true S ∧ e fr' S = .ok (.ref S.length) (S ++ [.lst []])) (h : ∀ p, p ∈ hs → lstOf S1 p.1 = some p.2) :
    ∀ (items : List D) (j : Nat), j + items.length ≤ LINE →
    lcLoop hs S1.length g t e fr items (S1 ++ .lst ((List.range j).map fun i => .ref (S1.length + 1 + i)) :: List.replicate j (.lst [])) = .ok (.ref S1.length) (S1 ++ .lst ((List.range (j + items.length)).map fun i => .ref (S1.length + 1 + i)) :: List.replicate (j + items.length) (.lst [])) := by
  have stand : ∀ G, stands hs (S1 ++ G) := fun G p hp => by
    have q := h p hp
    unfold lstOf at q ⊢
    cases hh : S1[p.1]? with
    | none => rw [hh] at q; cases q
    | some o => rw [app_get hh]; rw [hh] at q; exact q
  intro items
  induction items with
  | nil => intro j _; rw [lcLoop, dec_true (stand _)]; rfl
  | cons d ds ih =>
    intro j hj
    rw [List.length_cons] at hj
    obtain ⟨fr', e1, e2, e3⟩ := hg d (S1 ++ .lst ((List.range j).map fun i => .ref (S1.length + 1 + i)) :: List.replicate j (.lst []))
    rw [lcLoop, dec_true (stand _)]
    simp only [if_true, e1, bind_ok, e2, e3]
    have gl : (S1 ++ .lst ((List.range j).map fun i => D.ref (S1.length + 1 + i)) :: List.replicate j (O.lst []) ++ [.lst []])[S1.length]? = some (.lst ((List.range j).map fun i => D.ref (S1.length + 1 + i))) := by
      rw [List.append_assoc, List.cons_append]; exact app_new _ _ _
    rw [gl]
    dsimp only
    have hl : ((List.range j).map fun i => D.ref (S1.length + 1 + i)).length < LINE := by rw [List.length_map, List.length_range]; omega
    rw [if_pos hl]
    have len : (S1 ++ .lst ((List.range j).map fun i => D.ref (S1.length + 1 + i)) :: List.replicate j (O.lst [])).length = S1.length + 1 + j := by
      rw [List.length_append, List.length_cons, List.length_replicate]; omega
    have st : (S1 ++ O.lst ((List.range j).map fun i => D.ref (S1.length + 1 + i)) :: List.replicate j (O.lst []) ++ [O.lst []]).set S1.length (O.lst ((List.range j).map (fun i => D.ref (S1.length + 1 + i)) ++ [D.ref (S1 ++ O.lst ((List.range j).map fun i => D.ref (S1.length + 1 + i)) :: List.replicate j (O.lst [])).length])) = S1 ++ O.lst ((List.range (j + 1)).map fun i => D.ref (S1.length + 1 + i)) :: List.replicate (j + 1) (O.lst []) := by
      rw [len, List.append_assoc, List.cons_append, set_at, List.range_succ, List.map_append, List.replicate_succ']
      rfl
    rw [st, ih (j + 1) (by omega), List.length_cons, show j + 1 + ds.length = j + (ds.length + 1) by omega]
theorem lc_fresh {vs : List Nat} {g : GM} {e : EM} {fr : Fr} {l : List D} {hs : List (Nat × List D)} {S : Store} (hg : ∀ d S, ∃ fr', g d (unset vs fr) S = .ok fr' S ∧ e fr' S = .ok (.ref S.length) (S ++ [.lst []])) (h : ∀ p, p ∈ hs → lstOf S p.1 = some p.2) (hl : l.length ≤ LINE) :
    lcK vs g tYes e fr (.ok ⟨l, hs⟩ S) = .ok (.ref S.length) (S ++ .lst ((List.range l.length).map fun i => .ref (S.length + 1 + i)) :: List.replicate l.length (.lst [])) := by
  have q := lc_fresh_go (g := g) (t := fun fr S => quiet (tYes fr S)) (e := fun fr S => quiet (e fr S)) (fr := unset vs fr) (hs := hs) (S1 := S) (fun d S' => by
    obtain ⟨fr', e1, e2⟩ := hg d S'
    exact ⟨fr', e1, rfl, by rw [e2]; rfl⟩) h l 0 (by omega)
  rw [Nat.zero_add] at q
  exact q
/-- lists within a list -/
structure Cm (S : Store) (A : Nat) (n : Nat) (L : Nat → List Int) : Prop where
  a : S[A]? = some (.lst ((List.range n).map fun i => .ref (A + 1 + i)))
  at_ : ∀ i, i < n → S[A + 1 + i]? = some (.lst ((L i).map .int))
theorem Cm.mono {S S' : Store} {A n : Nat} {L : Nat → List Int} (c : Cm S A n L) (p : Pre S S') : Cm S' A n L := ⟨p.get c.a, fun i hi => p.get (c.at_ i hi)⟩
theorem Cm.ix {S : Store} {A n : Nat} {L : Nat → List Int} (c : Cm S A n L) {i : Nat} (hi : i < n) : atI ((List.range n).map fun i => D.ref (A + 1 + i)) (i : Int) = some (.ref (A + 1 + i)) := at_of (by rw [List.getElem?_map, List.getElem?_range hi]; rfl)
theorem Cm.start {S : Store} {n : Nat} : Cm (S ++ .lst ((List.range n).map fun i => .ref (S.length + 1 + i)) :: List.replicate n (.lst [])) S.length n fun _ => [] := by
  refine ⟨app_new _ _ _, fun i hi => ?_⟩
  rw [List.getElem?_append_right (by omega), show S.length + 1 + i - S.length = i + 1 by omega, List.getElem?_cons_succ, List.getElem?_replicate, if_pos hi]
  rfl
theorem Cm.put {S : Store} {A n : Nat} {L : Nat → List Int} (c : Cm S A n L) {i : Nat} (hi : i < n) (x : Int) : Cm (S.set (A + 1 + i) (.lst ((L i ++ [x]).map .int))) A n fun j => if j = i then L j ++ [x] else L j := by
  refine ⟨by rw [set_ne (by omega)]; exact c.a, fun j hj => ?_⟩
  by_cases h : j = i
  · subst h
    rw [if_pos rfl]
    exact set_get (c.at_ j hj)
  · rw [if_neg h, set_ne (by omega)]
    exact c.at_ j hj
/-- the rows from which row m is come to, by places -/
def cameL (L : List (Int × Int)) (m : Nat) : List Int := (L.filter fun p => decide (p.1 ≠ -1 ∧ p.2 = (m : Int))).map (·.1)
theorem cameL_snoc (L : List (Int × Int)) (p : Int × Int) (m : Nat) : cameL (L ++ [p]) m = if p.1 ≠ -1 ∧ p.2 = (m : Int) then cameL L m ++ [p.1] else cameL L m := by
  unfold cameL
  rw [List.filter_append]
  split
  · rename_i h; simp [h]
  · rename_i h
    have : ([p].filter fun p => decide (p.1 ≠ -1 ∧ p.2 = (m : Int))) = [] := by
      rw [List.filter_cons_of_neg (by simpa using h)]; rfl
    rw [this, List.append_nil]
def cameR (rows : List Row) (m : Nat) : List Int := cameL (plc rows) m
theorem cameR_mem {rows : List Row} {m : Nat} {n : Int} : n ∈ cameR rows m ↔ ∃ (i : Nat) (r : Row), rows[i]? = some r ∧ n = (i : Int) ∧ (m : Int) ∈ fol i r := by
  unfold cameR cameL
  simp only [List.mem_map, List.mem_filter, decide_eq_true_eq]
  constructor
  · rintro ⟨⟨a, b⟩, ⟨h1, h2, h3⟩, rfl⟩
    have h2 : a ≠ -1 := h2
    have h3 : b = (m : Int) := h3
    subst h3
    rcases plc_mem.mp h1 with ⟨z, _⟩ | ⟨i, r, e, h4, h5⟩
    · exact absurd z h2
    · exact ⟨i, r, e, h4, h5⟩
  · rintro ⟨i, r, e, rfl, h⟩
    exact ⟨((i : Int), (m : Int)), ⟨plc_mem.mpr (.inr ⟨i, r, e, rfl, h⟩), by show ((i : Int)) ≠ -1; omega, rfl⟩, rfl⟩
theorem cameL_len (L : List (Int × Int)) (m : Nat) : (cameL L m).length ≤ L.length := by
  unfold cameL
  rw [List.length_map]
  exact List.length_filter_le _ _
/-- the bits standing behind a row -/
noncomputable def standP (rows : List Row) (n : Nat) : BF := fun k => match (recs rows)[k]? with
  | some x => !dec (Mst rows x n)
  | none => false
noncomputable def gStd (rows : List Row) (fs : List BF) (n : Nat) : BF := fun k => match rows[n]? with
  | some r => (ownF rows r k || (decide (n ≠ 0) && allF fs (cameR rows n) k)) && (true ^^ lostF rows r k)
  | none => false
noncomputable def ruleS (rows : List Row) : Rule rows where
  g := gStd rows
  mono := fun fs fs' n k h a => by
    unfold gStd at a ⊢
    split at a
    · rename_i r e
      simp only [Bool.or_eq_true, Bool.and_eq_true] at a ⊢
      obtain ⟨a, a3⟩ := a
      refine ⟨?_, a3⟩
      rcases a with a | ⟨a1, a2⟩
      · exact .inl a
      · exact .inr ⟨a1, allF_mono h a2⟩
    · cases a
theorem std_up {rows : List Row} {fs : List BF} (d : Down (ruleS rows) (recs rows).length (fun n k => standP rows n k = true) fs) {n : Nat} (hn : n < rows.length) : ∀ k, k < (recs rows).length → standP rows n k = true → (ruleS rows).g fs n k = true := by
  intro k hk w
  obtain ⟨x, hx⟩ : ∃ x, (recs rows)[k]? = some x := ⟨_, List.getElem?_eq_getElem hk⟩
  obtain ⟨r, hr⟩ : ∃ r, rows[n]? = some r := ⟨_, List.getElem?_eq_getElem hn⟩
  have wx : ∀ j, standP rows j k = !dec (Mst rows x j) := fun j => by unfold standP; rw [hx]
  rw [wx] at w
  have nm : ¬ Mst rows x n := fun z => by rw [dec_true z] at w; cases w
  show gStd rows fs n k = true
  unfold gStd
  rw [hr]
  simp only [Bool.or_eq_true, Bool.and_eq_true]
  refine ⟨?_, ?_⟩
  · by_cases ho : r.rkg = some x
    · exact .inl (by unfold ownF; exact dec_true ⟨by rw [ho]; simp, by rw [ho, hx]⟩)
    · right
      refine ⟨decide_eq_true fun z => nm (by subst z; exact .zero hr ho), ?_⟩
      unfold allF
      rw [List.all_eq_true]
      intro m hm
      obtain ⟨j, q, hq, rfl, hf⟩ := cameR_mem.mp hm
      refine d.up j k (List.getElem?_eq_some_iff.mp hq).1 hk ?_
      rw [wx, dec_false fun z => nm (.step hr ho hq hf z)]
      rfl
  · unfold lostF
    rw [hx]
    dsimp only
    cases hc : chg r x with
    | false => rfl
    | true => exact absurd (.out hr hc) nm
theorem std_fix {rows : List Row} {fs : List BF} (hf : ∀ n k, n < rows.length → k < (recs rows).length → gStd rows fs n k = fsAt fs (n : Int) k) {k : Nat} {x : List Ky} (hx : (recs rows)[k]? = some x) {n : Nat} (m : Mst rows x n) : fsAt fs (n : Int) k = false := by
  have hk := (List.getElem?_eq_some_iff.mp hx).1
  have own : ∀ r : Row, r.rkg ≠ some x → ownF rows r k = false := fun r h => by
    unfold ownF
    exact dec_false fun z => h (by rw [z.2, hx])
  induction m with
  | @out n r hr h =>
    have hn := (List.getElem?_eq_some_iff.mp hr).1
    rw [← hf n k hn hk]
    unfold gStd
    rw [hr]
    dsimp only
    have : lostF rows r k = true := by unfold lostF; rw [hx]; exact h
    rw [this]; simp
  | @zero r hr ho =>
    have hn := (List.getElem?_eq_some_iff.mp hr).1
    rw [← hf 0 k hn hk]
    unfold gStd
    rw [hr]
    dsimp only
    rw [own r ho]; simp
  | @step n j r q hr ho hq hj _ ih =>
    have hn := (List.getElem?_eq_some_iff.mp hr).1
    rw [← hf n k hn hk]
    unfold gStd
    rw [hr]
    dsimp only
    rw [own r ho, Bool.false_or]
    have : allF fs (cameR rows n) k = false := by
      unfold allF
      rw [List.all_eq_false]
      exact ⟨(j : Int), cameR_mem.mpr ⟨j, q, hq, rfl, hj⟩, by rw [ih]; simp⟩
    rw [this]; simp
end Mi
set_option Elab.async false
set_option linter.all false
set_option maxHeartbeats 1000000
/-! first places -/
namespace Mi
/-- x >> k, as it stands -/
def shD (m : Nat) (p : BF) (k : Nat) : D := .int ((bitsOf p m / 2 ^ k : Nat) : Int)
theorem bD_shr (m : Nat) (p : BF) (k : Nat) (S : Store) : oShr (bD m p) (.int (k : Int)) S = .ok (shD m p k) S := shr_bit p m k S
theorem shD_and (m : Nat) (p : BF) (k : Nat) (hk : k < m) (S : Store) : oAnd (shD m p k) (.int 1) S = .ok (.int (if p k = true then 1 else 0)) S := by
  unfold shD
  rw [and_one, bits_shr]
  simp only [hk, decide_true, Bool.true_and]
  cases p k <;> rfl
noncomputable def stdB (rows : List Row) (p : Int × Int) : BF := if p.1 = -1 then fun _ => false else standP rows p.1.toNat
end Mi
set_option Elab.async false
set_option linter.all false
set_option maxHeartbeats 1000000
/-! rows put off: the greatest sets that fit -/
namespace Mi
/-- lists of any things within a list -/
structure CmD (S : Store) (A : Nat) (n : Nat) (L : Nat → List D) : Prop where
  a : S[A]? = some (.lst ((List.range n).map fun i => .ref (A + 1 + i)))
  at_ : ∀ i, i < n → S[A + 1 + i]? = some (.lst (L i))
theorem CmD.mono {S S' : Store} {A n : Nat} {L : Nat → List D} (c : CmD S A n L) (p : Pre S S') : CmD S' A n L := ⟨p.get c.a, fun i hi => p.get (c.at_ i hi)⟩
theorem CmD.ix {S : Store} {A n : Nat} {L : Nat → List D} (c : CmD S A n L) {i : Nat} (hi : i < n) : atI ((List.range n).map fun i => D.ref (A + 1 + i)) (i : Int) = some (.ref (A + 1 + i)) := at_of (by rw [List.getElem?_map, List.getElem?_range hi]; rfl)
theorem CmD.start {S : Store} {n : Nat} : CmD (S ++ .lst ((List.range n).map fun i => .ref (S.length + 1 + i)) :: List.replicate n (.lst [])) S.length n fun _ => [] := by
  refine ⟨app_new _ _ _, fun i hi => ?_⟩
  rw [List.getElem?_append_right (by omega), show S.length + 1 + i - S.length = i + 1 by omega, List.getElem?_cons_succ, List.getElem?_replicate, if_pos hi]
theorem CmD.put {S : Store} {A n : Nat} {L : Nat → List D} (c : CmD S A n L) {i : Nat} (hi : i < n) (x : D) : CmD (S.set (A + 1 + i) (.lst (L i ++ [x]))) A n fun j => if j = i then L j ++ [x] else L j := by
  refine ⟨by rw [set_ne (by omega)]; exact c.a, fun j hj => ?_⟩
  by_cases h : j = i
  · subst h
    rw [if_pos rfl]
    exact set_get (c.at_ j hj)
  · rw [if_neg h, set_ne (by omega)]
    exact c.at_ j hj
section
variable {bg st : Int × Int → Bool} {ow : Nat → Bool} {L : List (Int × Int)}
/-- whether it comes put off to a place -/
def comesF (bg : Int × Int → Bool) (ow : Nat → Bool) (F : BF) (p : Int × Int) : Bool := bg p || (decide (p.1 ≠ -1) && (F p.1.toNat && !ow p.1.toNat))
def goodF (bg st : Int × Int → Bool) (ow : Nat → Bool) (L : List (Int × Int)) (F : BF) : Prop := ∀ p ∈ L, F p.2.toNat = true → st p = false ∧ comesF bg ow F p = true
noncomputable def offF (bg st : Int × Int → Bool) (ow : Nat → Bool) (L : List (Int × Int)) : BF := fun m => dec (∃ G, goodF bg st ow L G ∧ G m = true)
theorem offF_max {G : BF} (g : goodF bg st ow L G) {m : Nat} (h : G m = true) : offF bg st ow L m = true := dec_true ⟨G, g, h⟩
/-- rows on their way down -/
structure OffI (bg st : Int × Int → Bool) (ow : Nat → Bool) (L : List (Int × Int)) (n : Nat) (F0 F : BF) (b : Bool) (Dn : Int × Int → Prop) : Prop where
  up : ∀ m, offF bg st ow L m = true → F m = true
  le : bitsOf F n ≤ bitsOf F0 n
  lt : b = true → bitsOf F n < bitsOf F0 n
  eq : b = false → F = F0 ∧ ∀ p, Dn p → F p.2.toNat = true → st p = false ∧ comesF bg ow F p = true
theorem OffI.start {n : Nat} {F : BF} (up : ∀ m, offF bg st ow L m = true → F m = true) {Dn : Int × Int → Prop} (h : ∀ p, ¬ Dn p) : OffI bg st ow L n F F false Dn := ⟨up, Nat.le_refl _, (fun h => by cases h), fun _ => ⟨rfl, fun p hp => absurd hp (h p)⟩⟩
theorem OffI.keep {n : Nat} {F0 F : BF} {b : Bool} {Dn Dn' : Int × Int → Prop} (h : OffI bg st ow L n F0 F b Dn) {p : Int × Int} (c : (F p.2.toNat && (st p || !comesF bg ow F p)) = false) (hd : ∀ q, Dn' q → Dn q ∨ q = p) : OffI bg st ow L n F0 F b Dn' :=
  ⟨h.up, h.le, h.lt, fun hb => ⟨(h.eq hb).1, fun q hq hf => by
    rcases hd q hq with z | z
    · exact (h.eq hb).2 q z hf
    · subst z
      rw [hf, Bool.true_and, Bool.or_eq_false_iff] at c
      exact ⟨c.1, by simpa using c.2⟩⟩⟩
theorem OffI.done {n : Nat} {F0 F : BF} {Dn : Int × Int → Prop} (h : OffI bg st ow L n F0 F false Dn) (hd : ∀ p ∈ L, Dn p) : F = offF bg st ow L := by
  have g : goodF bg st ow L F := fun p hp hf => (h.eq rfl).2 p (hd p hp) hf
  funext m
  cases h1 : F m with
  | true => rw [offF_max g h1]
  | false =>
    cases h2 : offF bg st ow L m with
    | false => rfl
    | true => rw [h.up m h2] at h1; cases h1
end
/-! ### a tuple of two lists, compared -/
end Mi
set_option Elab.async false
set_option linter.all false
set_option maxHeartbeats 1000000
/-! where a row is come to that asks -/
namespace Mi
inductive RdI (rd dd : Nat → Bool) (nx : Nat → List Int) : Nat → Prop
  | read {n : Nat} (h : rd n = true) : RdI rd dd nx n
  | step {n m : Nat} (h : dd n = false) (hm : (m : Int) ∈ nx n) (r : RdI rd dd nx m) : RdI rd dd nx n
noncomputable def rdF (rd dd : Nat → Bool) (nx : Nat → List Int) : BF := fun m => dec (RdI rd dd nx m)
def setT (F : BF) (j : Nat) : BF := fun m => if m = j then true else F m
section
variable {rd dd : Nat → Bool} {nx : Nat → List Int}
/-- rows on their way up -/
structure AskI (rd dd : Nat → Bool) (nx : Nat → List Int) (n : Nat) (F0 F : BF) (b : Bool) (Dn : Nat → Int → Prop) : Prop where
  sd : ∀ m, F m = true → RdI rd dd nx m
  base : ∀ m, rd m = true → F m = true
  le : bitsOf (fun i => !F i) n ≤ bitsOf (fun i => !F0 i) n
  lt : b = true → bitsOf (fun i => !F i) n < bitsOf (fun i => !F0 i) n
  eq : b = false → F = F0 ∧ ∀ (i m : Nat), Dn i (m : Int) → dd i = false → (m : Int) ∈ nx i → F m = true → F i = true
theorem AskI.start {n : Nat} {F : BF} (sd : ∀ m, F m = true → RdI rd dd nx m) (base : ∀ m, rd m = true → F m = true) {Dn : Nat → Int → Prop} (h : ∀ i j, ¬ Dn i j) : AskI rd dd nx n F F false Dn := ⟨sd, base, Nat.le_refl _, (fun h => by cases h), fun _ => ⟨rfl, fun i m hd => absurd hd (h i m)⟩⟩
theorem AskI.put {n : Nat} {F0 F : BF} {b : Bool} {Dn Dn' : Nat → Int → Prop} (h : AskI rd dd nx n F0 F b Dn) {i m : Nat} (hi : i < n) (h1 : dd i = false) (h2 : (m : Int) ∈ nx i) (h3 : F m = true) (h4 : F i = false) : AskI rd dd nx n F0 (setT F i) true Dn' := by
  have lt : bitsOf (fun j => !setT F i j) n < bitsOf (fun j => !F j) n := bit_lt (fun k _ e => by
    unfold setT at e
    split at e
    · cases e
    · exact e) fun e => by
    have := bits_inj e i hi
    unfold setT at this
    rw [if_pos rfl, h4] at this
    cases this
  refine ⟨fun k hk => ?_, fun k hk => ?_, Nat.le_trans (Nat.le_of_lt lt) h.le, fun _ => Nat.lt_of_lt_of_le lt h.le, (fun h => by cases h)⟩
  · unfold setT at hk
    split at hk
    · rename_i e
      subst e
      exact .step h1 h2 (h.sd m h3)
    · exact h.sd k hk
  · unfold setT
    split
    · rfl
    · exact h.base k hk
theorem AskI.done {n : Nat} {F0 F : BF} {Dn : Nat → Int → Prop} (h : AskI rd dd nx n F0 F false Dn) (hd : ∀ (i m : Nat), i < n → (m : Int) ∈ nx i → Dn i m) (hx : ∀ (i m : Nat), (m : Int) ∈ nx i → m < n) : ∀ m, m < n → F m = rdF rd dd nx m := by
  have up : ∀ m, RdI rd dd nx m → m < n → F m = true := by
    intro m r
    induction r with
    | read z => intro _; exact h.base _ z
    | @step i j z hm r ih =>
      intro hi
      exact (h.eq rfl).2 i j (hd i j hi hm) z hm (ih (hx i j hm))
  intro m hm
  unfold rdF
  by_cases r : RdI rd dd nx m
  · rw [dec_true r, up m r hm]
  · rw [dec_false r]
    cases hf : F m with
    | false => rfl
    | true => exact absurd (h.sd m hf) r
end
/-- what a search on keeps -/
structure Sea (rows : List Row) (rd dd : Nat → Bool) (nx : Nat → List Int) (m0 : Nat) (ks left : List Int) : Prop where
  kss : Ks rows ks
  rg : ∀ y ∈ left, (0 : Int) ≤ y ∧ y < (rows.length : Int)
  sound : ∀ n : Nat, (n : Int) ∈ left → RdI rd dd nx n → RdI rd dd nx m0
  quiet : ∀ n : Nat, (n : Int) ∈ ks → rd n = false ∧ ∀ j : Nat, (j : Int) ∈ nx n → (j : Int) ∈ ks ∨ (j : Int) ∈ left ∨ (rd j = false ∧ dd j = true)
  start : (m0 : Int) ∈ ks ∨ (m0 : Int) ∈ left ∨ (rd m0 = false ∧ dd m0 = true)
theorem rdI_dead {rd dd : Nat → Bool} {nx : Nat → List Int} {n : Nat} (h1 : rd n = false) (h2 : dd n = true) : ¬ RdI rd dd nx n := by
  intro r
  cases r with
  | read h => rw [h1] at h; cases h
  | step h _ _ => rw [h2] at h; cases h
theorem Sea.done {rows : List Row} {rd dd : Nat → Bool} {nx : Nat → List Int} {m0 : Nat} {ks : List Int} (s : Sea rows rd dd nx m0 ks []) : ¬ RdI rd dd nx m0 := by
  have no : ∀ n, RdI rd dd nx n → (n : Int) ∉ ks := by
    intro n r
    induction r with
    | @read n h =>
      intro z
      rw [(s.quiet n z).1] at h; cases h
    | @step n m h hm r ih =>
      intro z
      rcases (s.quiet n z).2 m hm with y | y | ⟨y, w⟩
      · exact ih y
      · cases y
      · exact rdI_dead y w r
  intro r
  rcases s.start with h | h | ⟨y, w⟩
  · exact no _ r h
  · cases h
  · exact rdI_dead y w r
theorem Sea.go {rows : List Row} {rd dd : Nat → Bool} {nx : Nat → List Int} {m0 : Nat} {ks q : List Int} {n : Nat} (s : Sea rows rd dd nx m0 ks (q ++ [(n : Int)])) (hn : (n : Int) ∉ ks) (h1 : rd n = false) (h2 : dd n = false) (hx : ∀ y ∈ nx n, (0 : Int) ≤ y ∧ y < (rows.length : Int)) : Sea rows rd dd nx m0 (ks ++ [(n : Int)]) (q ++ nx n) := by
  have hrg := s.rg n (by simp)
  have f : ∀ j : Nat, (j : Int) ∈ q ++ [(n : Int)] → (j : Int) ∈ ks ++ [(n : Int)] ∨ (j : Int) ∈ q ++ nx n ∨ (rd j = false ∧ dd j = true) := fun j hj => by
    rcases List.mem_append.mp hj with z | z
    · exact .inr (.inl (by simp [z]))
    · exact .inl (by rw [List.mem_append]; exact .inr z)
  refine ⟨s.kss.snoc hn hrg, fun y hy => ?_, fun j hj r => ?_, fun j hj => ?_, ?_⟩
  · rcases List.mem_append.mp hy with z | z
    · exact s.rg y (by simp [z])
    · exact hx y z
  · rcases List.mem_append.mp hj with z | z
    · exact s.sound j (by simp [z]) r
    · exact s.sound n (by simp) (.step h2 z r)
  · rcases List.mem_append.mp hj with z | z
    · refine ⟨(s.quiet j z).1, fun i hi => ?_⟩
      rcases (s.quiet j z).2 i hi with y | y | y
      · exact .inl (by simp [y])
      · exact f i y
      · exact .inr (.inr y)
    · have : j = n := by have := List.mem_singleton.mp z; omega
      subst this
      exact ⟨h1, fun i hi => .inr (.inl (by simp [hi]))⟩
  · rcases s.start with z | z | z
    · exact .inl (by simp [z])
    · exact f m0 z
    · exact .inr (.inr z)
/-! ### what rows do, told by pairs -/
end Mi
set_option Elab.async false
set_option linter.all false
set_option maxHeartbeats 1000000
/-! how far rows are from an end -/
namespace Mi
def upG (G : Nat → Nat) (n v : Nat) : Nat → Nat := fun i => if i = n then v else G i
/-! ### rounds -/
def sumTo (f : Nat → Nat) : Nat → Nat
  | 0 => 0
  | n + 1 => sumTo f n + f n
theorem sumTo_le {f g : Nat → Nat} : ∀ {N : Nat}, (∀ i, i < N → f i ≤ g i) → sumTo f N ≤ sumTo g N
  | 0, _ => Nat.le_refl _
  | N + 1, h => Nat.add_le_add (sumTo_le fun i hi => h i (by omega)) (h N (by omega))
theorem sumTo_lt {f g : Nat → Nat} {n : Nat} : ∀ {N : Nat}, (∀ i, i < N → f i ≤ g i) → n < N → f n < g n → sumTo f N < sumTo g N
  | N + 1, h, hn, hl => by
    by_cases e : n = N
    · subst e
      exact Nat.add_lt_add_of_le_of_lt (sumTo_le fun i hi => h i (by omega)) hl
    · exact Nat.add_lt_add_of_lt_of_le (sumTo_lt (fun i hi => h i (by omega)) (by omega) hl) (h N (by omega))
def mu (N : Nat) (ks : List Int) (G : Nat → Nat) : Nat := sumTo (fun n => if (n : Int) ∈ ks then G n else N) N
structure FarI (rows : List Row) (ks : List Int) (G : Nat → Nat) : Prop where
  kss : Ks rows ks
  bd : ∀ n : Nat, (n : Int) ∈ ks → G n < ks.length
  snd : ∀ (n : Nat) (r : Row), (n : Int) ∈ ks → rows[n]? = some r → r = .en ∨ ∃ m : Nat, (m : Int) ∈ fol n r ∧ (m : Int) ∈ ks ∧ G m + 1 ≤ G n
  ends : ∀ n : Nat, rows[n]? = some .en → (n : Int) ∈ ks
def putK (ks : List Int) (n : Int) : List Int := if n ∈ ks then ks else ks ++ [n]
theorem putK_mem {ks : List Int} {n x : Int} : x ∈ putK ks n ↔ x ∈ ks ∨ x = n := by
  unfold putK
  split
  · rename_i h
    exact ⟨.inl, fun z => z.elim id fun e => e ▸ h⟩
  · simp
theorem FarI.put {rows : List Row} {ks : List Int} {G : Nat → Nat} (h : FarI rows ks G) {n m : Nat} {r : Row} (hr : rows[n]? = some r) (hm : (m : Int) ∈ fol n r) (hmk : (m : Int) ∈ ks) (hc : (n : Int) ∉ ks ∨ G m + 1 < G n) : FarI rows (putK ks n) (upG G n (G m + 1)) ∧ mu rows.length (putK ks n) (upG G n (G m + 1)) < mu rows.length ks G := by
  have hn := (List.getElem?_eq_some_iff.mp hr).1
  have bm := h.bd m hmk
  have nm : m ≠ n := by
    intro e
    subst e
    rcases hc with c | c
    · exact c hmk
    · omega
  have len : ks.length ≤ (putK ks n).length := by unfold putK; split <;> simp
  have lenn : (n : Int) ∉ ks → ks.length < (putK ks n).length := fun z => by unfold putK; rw [if_neg z]; simp
  have kl := h.kss.len
  have K' : Ks rows (putK ks n) := by
    unfold putK
    split
    · exact h.kss
    · rename_i z
      exact h.kss.snoc z (by omega)
  have klt : (n : Int) ∉ ks → ks.length < rows.length := fun z => Nat.lt_of_lt_of_le (lenn z) K'.len
  refine ⟨⟨K', fun i hi => ?_, fun i q hi hq => ?_, fun i hi => putK_mem.mpr (.inl (h.ends i hi))⟩, ?_⟩
  · unfold upG
    by_cases e : i = n
    · rw [if_pos e]
      rcases hc with c | c
      · have := lenn c; omega
      · by_cases z : (n : Int) ∈ ks
        · have := h.bd n z; omega
        · have := lenn z; omega
    · rw [if_neg e]
      rcases putK_mem.mp hi with z | z
      · have := h.bd i z; omega
      · exact absurd (by omega) e
  · by_cases e : i = n
    · subst e
      rw [hr] at hq
      obtain rfl := Option.some.inj hq
      exact .inr ⟨m, hm, putK_mem.mpr (.inl hmk), by unfold upG; rw [if_neg nm, if_pos rfl]; omega⟩
    · rcases putK_mem.mp hi with z | z
      · rcases h.snd i q z hq with w | ⟨m', w1, w2, w3⟩
        · exact .inl w
        · refine .inr ⟨m', w1, putK_mem.mpr (.inl w2), ?_⟩
          unfold upG
          rw [if_neg e]
          by_cases e2 : m' = n
          · subst e2
            rw [if_pos rfl]
            rcases hc with c | c
            · exact absurd w2 c
            · omega
          · rw [if_neg e2]; exact w3
      · exact absurd (by omega) e
  · unfold mu
    refine sumTo_lt (n := n) (fun i hi => ?_) hn ?_
    · by_cases e : i = n
      · subst e
        rw [if_pos (putK_mem.mpr (.inr rfl))]
        unfold upG
        rw [if_pos rfl]
        by_cases z : (i : Int) ∈ ks
        · rw [if_pos z]
          rcases hc with c | c
          · exact absurd z c
          · omega
        · rw [if_neg z]; have := klt z; omega
      · have : upG G n (G m + 1) i = G i := by unfold upG; rw [if_neg e]
        by_cases z : (i : Int) ∈ ks
        · rw [if_pos z, if_pos (putK_mem.mpr (.inl z)), this]; exact Nat.le_refl _
        · rw [if_neg z, if_neg (fun w => (putK_mem.mp w).elim z fun w => e (by omega))]; exact Nat.le_refl _
    · rw [if_pos (putK_mem.mpr (.inr rfl))]
      unfold upG
      rw [if_pos rfl]
      by_cases z : (n : Int) ∈ ks
      · rw [if_pos z]
        rcases hc with c | c
        · exact absurd z c
        · exact c
      · rw [if_neg z]; have := klt z; omega
structure FarP (rows : List Row) (ks0 : List Int) (G0 : Nat → Nat) (ks : List Int) (G : Nat → Nat) (b : Bool) (Dn : Nat → Int → Prop) : Prop where
  inv : FarI rows ks G
  le : mu rows.length ks G ≤ mu rows.length ks0 G0
  lt : b = true → mu rows.length ks G < mu rows.length ks0 G0
  eq : b = false → ∀ i m : Nat, Dn i (m : Int) → (m : Int) ∈ ks → (i : Int) ∈ ks ∧ G i ≤ G m + 1
theorem FarP.keep {rows : List Row} {ks0 ks : List Int} {G0 G : Nat → Nat} {b : Bool} {Dn Dn' : Nat → Int → Prop} (h : FarP rows ks0 G0 ks G b Dn) (hd : ∀ i m : Nat, Dn' i m → Dn i m ∨ ((m : Int) ∈ ks → (i : Int) ∈ ks ∧ G i ≤ G m + 1)) : FarP rows ks0 G0 ks G b Dn' := ⟨h.inv, h.le, h.lt, fun hb i m hm hk => (hd i m hm).elim (fun z => h.eq hb i m z hk) fun z => z hk⟩
theorem FarP.put {rows : List Row} {ks0 ks : List Int} {G0 G : Nat → Nat} {b : Bool} {Dn Dn' : Nat → Int → Prop} (h : FarP rows ks0 G0 ks G b Dn) {n m : Nat} {r : Row} (hr : rows[n]? = some r) (hm : (m : Int) ∈ fol n r) (hmk : (m : Int) ∈ ks) (hc : (n : Int) ∉ ks ∨ G m + 1 < G n) : FarP rows ks0 G0 (putK ks n) (upG G n (G m + 1)) true Dn' := by
  obtain ⟨a, b⟩ := h.inv.put hr hm hmk hc
  have le := h.le
  exact ⟨a, by omega, fun _ => by omega, fun z => by cases z⟩
end Mi
set_option Elab.async false
set_option linter.all false
set_option maxHeartbeats 1000000
/-! ways and trees over rows that need no end as the last one -/
namespace Mi
structure PW (rows : List Row) : Prop where
  pos : 0 < rows.length
  fi : ∀ {n : Nat} {r : Row} {m : Int}, rows[n]? = some r → m ∈ fol n r → 0 ≤ m ∧ m < rows.length
  rch : ∀ i, i < rows.length → Reach rows i
  ends : ∀ i, i < rows.length → Ends rows i
/-! ### dicts of numbers, any values -/
end Mi
set_option Elab.async false
set_option linter.all false
set_option maxHeartbeats 1000000
/-! least sums by rounds; rings; ways counted by differences -/
namespace Mi
/-! ### back by what each was come to from -/
def it (a : Int → Option Int) : Nat → Int → Option Int
  | 0, v => some v
  | k + 1, v => (it a k v).bind a
section
variable {N : Nat} {E : List (Int × Int × Int)} {W : Int → Int → Int} {first : Int}
/-- round t, i steps of it done -/
structure LSm (N : Nat) (E : List (Int × Int × Int)) (W : Int → Int → Int) (first : Int) (t i : Nat) (s a : Int → Option Int) (L : Int → Nat) : Prop where
  rng : ∀ n v, s n = some v → 0 ≤ n ∧ n < N
  zero : ∃ v, s 0 = some v ∧ v ≤ first
  root : a 0 = none → s 0 = some first
  dom : ∀ m, m ≠ 0 → s m ≠ none → a m ≠ none
  pre : ∀ m n, a m = some n → ∃ x y, (n, m, W n m) ∈ E ∧ s n = some x ∧ s m = some y ∧ x + W n m ≤ y
  lvl : ∀ m, 1 ≤ L m → ∃ n, a m = some n ∧ L m ≤ L n + 1
  le : ∀ m, L m ≤ t
  ok : ∀ (j : Nat) (n m w : Int), E[j]? = some (n, m, w) → (j < i ∧ L n < t) ∨ L n + 1 < t → ∀ x, s n = some x → ∃ y, s m = some y ∧ y ≤ x + w
  neg : ∀ (v : Int) (p : Nat), 0 < p → it a p v = some v → ∃ k q r x y, k < p ∧ it a k v = some q ∧ it a (k + 1) v = some r ∧ s r = some x ∧ s q = some y ∧ x + W r q < y
def putF {β : Type} (f : Int → Option β) (m : Int) (v : β) : Int → Option β := fun n => if n = m then some v else f n
def putL (L : Int → Nat) (m : Int) (t : Nat) : Int → Nat := fun n => if n = m then t else L n
theorem LSm.start (hN : 0 < N) : LSm N E W first 1 0 (putF (fun _ => none) 0 first) (fun _ => none) (fun _ => 0) := by
  have no : ∀ (k : Nat) (v : Int), it (fun _ : Int => (none : Option Int)) (k + 1) v = none := fun k v => by
    show (it _ k v).bind _ = none
    cases it (fun _ : Int => (none : Option Int)) k v <;> rfl
  refine ⟨fun n v h => ?_, ⟨first, if_pos rfl, Int.le_refl _⟩, fun _ => if_pos rfl, fun m hm h => ?_, (fun m n h => by cases h), (fun m h => absurd h (by omega)), (fun m => by omega), fun j n m w _ h => ?_, fun v p hp h => ?_⟩
  · unfold putF at h
    split at h
    · omega
    · cases h
  · unfold putF at h
    rw [if_neg hm] at h
    exact absurd rfl h
  · rcases h with h | h <;> omega
  · cases p with
    | zero => omega
    | succ p => rw [no] at h; cases h
/-- a step that makes a sum less -/
theorem LSm.put {t i : Nat} {s a : Int → Option Int} {L : Int → Nat} (h : LSm N E W first t i s a L) (ht : 1 ≤ t) {n m x : Int} (e : E[i]? = some (n, m, W n m)) (hm : 0 ≤ m ∧ m < N) (hx : s n = some x) (c : ∀ y, s m = some y → x + W n m < y) (hEW : ∀ n m w, (n, m, w) ∈ E → w = W n m) :
    LSm N E W first t (i + 1) (putF s m (x + W n m)) (putF a m n) (putL L m t) := by
  have sm : putF s m (x + W n m) m = some (x + W n m) := if_pos rfl
  have so : ∀ p, p ≠ m → putF s m (x + W n m) p = s p := fun p hp => if_neg hp
  have am : putF a m n m = some n := if_pos rfl
  have ao : ∀ p, p ≠ m → putF a m n p = a p := fun p hp => if_neg hp
  -- sums only fall
  have fall : ∀ p z, s p = some z → ∃ z', putF s m (x + W n m) p = some z' ∧ z' ≤ z := fun p z hz => by
    by_cases hp : p = m
    · subst hp
      have := c z hz
      exact ⟨_, sm, by omega⟩
    · exact ⟨z, by rw [so p hp]; exact hz, Int.le_refl _⟩
  have hln : t ≤ L n + 1 := by
    refine Classical.byContradiction fun z => ?_
    obtain ⟨y, hy, hle⟩ := h.ok i n m _ e (.inr (by omega)) x hx
    have := c y hy
    omega
  refine ⟨fun p v hv => ?_, ?_, fun h0 => ?_, fun p hp hs => ?_, fun p q hq => ?_, fun p hp => ?_, fun p => ?_, fun j n' m' w' ej hj z hz => ?_, fun v p hp hc => ?_⟩
  · by_cases e' : p = m
    · rw [e']; exact hm
    · rw [so p e'] at hv; exact h.rng p v hv
  · obtain ⟨v, h1, h2⟩ := h.zero
    obtain ⟨z, h3, h4⟩ := fall 0 v h1
    exact ⟨z, h3, by omega⟩
  · by_cases e' : (0 : Int) = m
    · rw [e', am] at h0; cases h0
    · rw [ao 0 e'] at h0
      rw [so 0 e']; exact h.root h0
  · by_cases e' : p = m
    · rw [e', am]; simp
    · rw [ao p e']
      rw [so p e'] at hs
      exact h.dom p hp hs
  · by_cases e' : p = m
    · subst e'
      rw [am] at hq
      obtain rfl := Option.some.inj hq
      obtain ⟨z, h3, h4⟩ := fall n x hx
      exact ⟨z, x + W n p, List.mem_of_getElem? e, h3, sm, by omega⟩
    · rw [ao p e'] at hq
      obtain ⟨x1, y1, h1, h2, h3, h4⟩ := h.pre p q hq
      obtain ⟨z, h5, h6⟩ := fall q x1 h2
      exact ⟨z, y1, h1, h5, by rw [so p e']; exact h3, by omega⟩
  · by_cases e' : p = m
    · subst e'
      refine ⟨n, am, ?_⟩
      unfold putL
      rw [if_pos rfl]
      by_cases e2 : n = p
      · rw [if_pos e2]; omega
      · rw [if_neg e2]; omega
    · unfold putL at hp ⊢
      rw [if_neg e'] at hp ⊢
      obtain ⟨q, h1, h2⟩ := h.lvl p hp
      refine ⟨q, by rw [ao p e']; exact h1, ?_⟩
      by_cases e2 : q = m
      · rw [if_pos e2]
        have := h.le p
        omega
      · rw [if_neg e2]; omega
  · unfold putL
    split
    · omega
    · exact h.le p
  · by_cases e' : n' = m
    · exfalso
      unfold putL at hj
      rw [if_pos e'] at hj
      rcases hj with ⟨_, b⟩ | b <;> omega
    · unfold putL at hj
      rw [if_neg e'] at hj
      rw [so n' e'] at hz
      by_cases ji : j = i
      · subst ji
        rw [e] at ej
        injection ej with ej
        injection ej with e1 e2
        injection e2 with e2 e3
        subst e1 e2 e3
        rw [hx] at hz
        obtain rfl := Option.some.inj hz
        exact ⟨_, sm, Int.le_refl _⟩
      · obtain ⟨y, h1, h2⟩ := h.ok j n' m' w' ej (by
          rcases hj with ⟨a, b⟩ | b
          · exact .inl ⟨by omega, b⟩
          · exact .inr b) z hz
        obtain ⟨y', h3, h4⟩ := fall m' y h1
        exact ⟨y', h3, by omega⟩
  · by_cases hex : ∃ k, k < p ∧ it (putF a m n) k v = some m
    · obtain ⟨k, hk, hkm⟩ := hex
      -- the one ahead of m on the ring
      obtain ⟨k', q, hk', hq, hq2⟩ : ∃ k' q, k' < p ∧ it (putF a m n) k' v = some q ∧ it (putF a m n) (k' + 1) v = some m := by
        cases k with
        | zero =>
          have hv : v = m := Option.some.inj hkm
          have hpp : p - 1 + 1 = p := by omega
          rw [← hpp] at hc
          cases hq : it (putF a m n) (p - 1) v with
          | none =>
            have : it (putF a m n) (p - 1 + 1) v = none := by show (it _ (p - 1) v).bind _ = none; rw [hq]; rfl
            rw [this] at hc; cases hc
          | some q => exact ⟨p - 1, q, by omega, hq, by rw [hc, hv]⟩
        | succ k =>
          cases hq : it (putF a m n) k v with
          | none =>
            have : it (putF a m n) (k + 1) v = none := by show (it _ k v).bind _ = none; rw [hq]; rfl
            rw [this] at hkm; cases hkm
          | some q => exact ⟨k, q, by omega, hq, hkm⟩
      have aq : putF a m n q = some m := by
        have : it (putF a m n) (k' + 1) v = putF a m n q := by show (it _ k' v).bind _ = _; rw [hq]; rfl
        rw [← this]; exact hq2
      by_cases e' : q = m
      · subst e'
        rw [am] at aq
        obtain rfl := Option.some.inj aq
        have := c x hx
        exact ⟨k', n, n, x + W n n, x + W n n, hk', hq, hq2, sm, sm, by omega⟩
      · rw [ao q e'] at aq
        obtain ⟨x1, y1, h1, h2, h3, h4⟩ := h.pre q m aq
        have := c x1 h2
        exact ⟨k', q, m, x + W n m, y1, hk', hq, hq2, sm, by rw [so q e']; exact h3, by omega⟩
    · have same : ∀ k, k ≤ p → it a k v = it (putF a m n) k v := by
        intro k
        induction k with
        | zero => intro _; rfl
        | succ k ih =>
          intro hk
          show (it a k v).bind a = (it (putF a m n) k v).bind (putF a m n)
          rw [ih (by omega)]
          cases hq : it (putF a m n) k v with
          | none => rfl
          | some q =>
            rw [Option.bind_some, Option.bind_some, ao q fun z => hex ⟨k, by omega, by rw [hq, z]⟩]
      obtain ⟨k, q, r, x1, y1, h1, h2, h3, h4, h5, h6⟩ := h.neg v p hp (by rw [same p (Nat.le_refl _)]; exact hc)
      have qm : q ≠ m := fun z => hex ⟨k, h1, by rw [← same k (by omega), h2, z]⟩
      have rm : r ≠ m := fun z => by
        by_cases hkp : k + 1 = p
        · refine hex ⟨0, hp, ?_⟩
          rw [same (k + 1) (by omega), hkp, hc] at h3
          show some v = some m
          rw [h3, z]
        · exact hex ⟨k + 1, by omega, by rw [← same (k + 1) (by omega), h3, z]⟩
      exact ⟨k, q, r, x1, y1, h1, by rw [← same k (by omega)]; exact h2, by rw [← same (k + 1) (by omega)]; exact h3, by rw [so r rm]; exact h4, by rw [so q qm]; exact h5, h6⟩
/-- the next round -/
theorem LSm.next {t : Nat} {s a : Int → Option Int} {L : Int → Nat} (h : LSm N E W first t E.length s a L) : LSm N E W first (t + 1) 0 s a L :=
  ⟨h.rng, h.zero, h.root, h.dom, h.pre, h.lvl, fun m => by have := h.le m; omega, fun j n m w e hj => h.ok j n m w e (.inl ⟨(List.getElem?_eq_some_iff.mp e).1, by omega⟩), h.neg⟩
/-- a round without a change: all steps are kept -/
theorem LSm.all {t : Nat} {s a : Int → Option Int} {L : Int → Nat} (h : LSm N E W first t E.length s a L) (hL : ∀ m, L m < t) : ∀ n m w, (n, m, w) ∈ E → ∀ x, s n = some x → ∃ y, s m = some y ∧ y ≤ x + w := fun n m w hw => by
  obtain ⟨j, hj⟩ := List.getElem?_of_mem hw
  exact h.ok j n m w hj (.inl ⟨(List.getElem?_eq_some_iff.mp hj).1, hL n⟩)
end
/-! ### ways by their differences -/
def b1 (b : Bool) : Int := if b then 1 else 0
def ws (W : Int → Int → Int) : List Int → Int
  | [] => 0
  | [_] => 0
  | n :: m :: l => W n m + ws W (m :: l)
/-- round a ring -/
def rnd (c : Nat) (R : List Int) : List Int := (List.replicate c R).flatten
end Mi
set_option Elab.async false
set_option linter.all false
set_option maxHeartbeats 1000000
/-! more for sums by rounds -/
namespace Mi
/-! ### dicts of numbers that are changed -/
theorem dPut_keys {β : Type} (L : List (Int × β)) (x : Int) (v : β) : (x ∈ L.map Prod.fst ∧ (dPut L x v).map Prod.fst = L.map Prod.fst) ∨ (x ∉ L.map Prod.fst ∧ (dPut L x v).map Prod.fst = L.map Prod.fst ++ [x]) := by
  by_cases h : x ∈ L.map Prod.fst
  · refine .inl ⟨h, ?_⟩
    unfold dPut
    have h2 : (L.any fun kv => decide (kv.1 = x)) = true := by
      rw [List.any_eq_true]
      obtain ⟨p, hp, e⟩ := List.mem_map.mp h
      exact ⟨p, hp, by simp [e]⟩
    rw [if_pos h2, List.map_map]
    apply List.map_congr_left
    intro p _
    simp only [Function.comp]
    split <;> rfl
  · refine .inr ⟨h, ?_⟩
    unfold dPut
    rw [if_neg]
    · simp
    · simp only [List.any_eq_true, decide_eq_true_eq, not_exists, not_and]
      intro p hp z
      exact h (List.mem_map.mpr ⟨p, hp, z⟩)
theorem Ks.put {β : Type} {rows : List Row} {L : List (Int × β)} {x : Int} {v : β} (h : Ks rows (L.map Prod.fst)) (hr : 0 ≤ x ∧ x < (rows.length : Int)) : Ks rows ((dPut L x v).map Prod.fst) := by
  rcases dPut_keys L x v with ⟨_, e⟩ | ⟨a, e⟩
  · rw [e]; exact h
  · rw [e]; exact h.snoc a hr
/-! ### a walk that may break off -/
/-! ### ways as chains -/
def ChW (rows : List Row) : List Int → Prop
  | [] => False
  | [n] => 0 ≤ n ∧ n < rows.length
  | n :: m :: l => (0 ≤ n ∧ n < rows.length) ∧ (∃ r, rows[n.toNat]? = some r ∧ m ∈ fol n.toNat r) ∧ ChW rows (m :: l)
theorem ChW.hd {rows : List Row} {n : Int} : ∀ {l : List Int}, ChW rows (n :: l) → 0 ≤ n ∧ n < rows.length
  | [], h => h
  | _ :: _, h => h.1
theorem ChW.at_ {rows : List Row} : ∀ {w : List Int}, ChW rows w → ∀ j, j < w.length → At rows w j
  | [n], h, j, hj => by
    have : j = 0 := by simp at hj; omega
    subst this
    exact ⟨n, rfl, h.1, h.2, fun z => absurd z (by decide)⟩
  | n :: m :: l, h, j, hj => by
    cases j with
    | zero => exact ⟨n, rfl, h.1.1, h.1.2, fun z => absurd z (by decide)⟩
    | succ j =>
      obtain ⟨z, e, z0, z1, q⟩ := ChW.at_ h.2.2 j (by simp at hj ⊢; omega)
      refine ⟨z, by simpa using e, z0, z1, fun _ => ?_⟩
      cases j with
      | zero =>
        obtain ⟨r, h1, h2⟩ := h.2.1
        have : m = z := by simpa using e
        subst this
        exact ⟨n, r, rfl, h1, h2⟩
      | succ j =>
        obtain ⟨a, r, h1, h2, h3⟩ := q (by omega)
        exact ⟨a, r, by simpa using h1, h2, h3⟩
theorem ChW.app {rows : List Row} {x : Int} {l2 : List Int} : ∀ {l1 : List Int}, ChW rows (l1 ++ [x]) → ChW rows (x :: l2) → ChW rows (l1 ++ x :: l2)
  | [], _, h => h
  | [n], h, h2 => ⟨h.1, h.2.1, h2⟩
  | n :: m :: l, h, h2 => ⟨h.1, h.2.1, ChW.app (l1 := m :: l) h.2.2 h2⟩
end Mi
set_option Elab.async false
set_option linter.all false
set_option maxHeartbeats 1000000
/-! ways and trees over rows that need not come to an end -/
namespace Mi
/-! ### sorted, len(set(..)) -/
def lsK (r : Res D) : Res D := r.bind fun x S1 => match x with
  | .ref n => (match (lstOf S1 n).bind intsOf with
    | some ns => if ns.Nodup ∧ ns.length ≤ 4000 then .ok (.int (ns.length : Nat)) S1 else .bad
    | none => .bad)
  | _ => .bad
@[simp] theorem mLenSet_s (a : EM) (fr : Fr) (S : Store) : mLenSet a fr S = lsK (a fr S) := (rfl)
end Mi
set_option Elab.async false
set_option linter.all false
set_option maxHeartbeats 1000000
namespace Lk34
open Mi
/-! ### the script's cells -/
theorem cell_ok {ns : List Int} {S : Store} (h : S[0]? = some (.fls (ns.map .int))) (k : Nat) : ∃ v, m_law_cell [.ref 0, .int k] S = .ok (.int v) S := by
  by_cases hl : k < ns.length
  · refine ⟨ns[k], ?_⟩
    have e : atI (ns.map D.int) (k : Int) = some (.int ns[k]) := at_of (by simp [hl])
    simp [m_law_cell, b_law_cell, h, hl, e]
  · refine ⟨k * 7919 + 11, ?_⟩
    have e : mulOk (k : Int) 7919 := .inr (.inl (by decide))
    simp [m_law_cell, b_law_cell, h, hl, e]
theorem mixed_ok (c k : Int) (S : Store) : ∃ v, m_law_mixed [.int c, .int k] S = .ok (.int v) S ∧ 0 ≤ v := by
  have e1 : mulOk 7 k := mul_l (by decide)
  have e2 : ∀ x : Int, mulOk x 2862933555777941757 := fun x => mul_r (by decide)
  refine ⟨(c + 7 * k + 11) * 2862933555777941757 % 999999999999999989, ?_, Int.emod_nonneg _ (by decide)⟩
  simp [m_law_mixed, b_law_mixed, e1, e2]
theorem free_ok {ns : List Int} {S : Store} (h : S[0]? = some (.fls (ns.map .int))) : ∃ b, m_law_is_free [.ref 0] S = .ok (.bl b) S := by
  obtain ⟨v, e⟩ := cell_ok h 0
  have e' : m_law_cell [.ref 0, .int 0] S = .ok (.int v) S := e
  exact ⟨_, by simp [m_law_is_free, b_law_is_free, e']; rfl⟩
theorem number_ok {ns : List Int} {S : Store} (h : S[0]? = some (.fls (ns.map .int))) (k : Nat) : ∃ v S', m_law_number [.ref 0, .int k] S = .ok (.int v) S' ∧ Pre S S' := by
  obtain ⟨b, e⟩ := free_ok h
  obtain ⟨v, e1⟩ := cell_ok h k
  cases b with
  | true => exact ⟨v, S, by simp [m_law_number, b_law_number, e, e1], Pre.refl _⟩
  | false =>
    obtain ⟨w, e2, _⟩ := mixed_ok (cut ns none (some 4)).sum k (S ++ [.lst ((cut ns none (some 4)).map .int)])
    have cut_map : ∀ (a b : Option Int), cut (ns.map D.int) a b = (cut ns a b).map D.int := fun a b => by
      unfold cut
      rw [List.length_map, ← List.map_drop, ← List.map_take]
    have s : bSum [.ref S.length] (S ++ [.lst ((cut ns none (some 4)).map .int)]) = .ok (.int (cut ns none (some 4)).sum) (S ++ [.lst ((cut ns none (some 4)).map .int)]) := bSum_r _ (lst_of (app_new _ _ _)) (ints_map _)
    exact ⟨w, _, by simp [m_law_number, b_law_number, e, h, cut_map, s, e2]; rfl, Pre.app _ _⟩
/-! ### the names -/
theorem lts_at {i : Int} (h0 : 0 ≤ i) (h : i < 26) : ∃ c, atI LTS i = some c ∧ c ∈ SG ∧ 97 ≤ c ∧ c ≤ 122 := by
  have hl : i.toNat < LTS.length := by show i.toNat < 26; omega
  have all : ∀ k : Nat, k < 26 → ∀ c, LTS[k]? = some c → c ∈ SG ∧ 97 ≤ c ∧ c ≤ 122 := by decide
  exact ⟨LTS[i.toNat], at_nat h0 (List.getElem?_eq_getElem hl), all i.toNat (by omega) _ (List.getElem?_eq_getElem hl)⟩
structure CsI (i : Nat) (cs : Tx) : Prop where
  len : cs.length = i
  fst : 0 < i → ∃ c, cs[0]? = some c ∧ 97 ≤ c ∧ c ≤ 122
  all : ∀ c ∈ cs, c ∈ SG
theorem CsI.snoc {i : Nat} {cs : Tx} (h : CsI i cs) {c : Nat} (hc : c ∈ SG) (h0 : i = 0 → 97 ≤ c ∧ c ≤ 122) : CsI (i + 1) (cs ++ [c]) := by
  refine ⟨by simp [h.len], fun _ => ?_, ?_⟩
  · by_cases hi : i = 0
    · have : cs = [] := List.length_eq_zero_iff.mp (by rw [h.len, hi])
      subst this
      exact ⟨c, rfl, h0 hi⟩
    · obtain ⟨d, e, q⟩ := h.fst (by omega)
      exact ⟨d, by rw [List.getElem?_append_left (by rw [h.len]; omega)]; exact e, q⟩
  · intro d hd
    rcases List.mem_append.mp hd with z | z
    · exact h.all d z
    · rw [List.mem_singleton.mp z]; exact hc
/-- the name of such signs, a 1 behind a word -/
def nmOf1 (cs : Tx) : Tx := if cs = w_sy ∨ cs = w_go ∨ cs = w_pt ∨ cs = w_en then cs ++ [49] else cs
theorem nmOf1_ok {cs : Tx} (h : Cs cs) : Nm (nmOf1 cs) := by
  unfold nmOf1
  split
  · rename_i q
    rcases q with rfl | rfl | rfl | rfl <;> exact ⟨by decide, by decide, ⟨_, rfl, by decide⟩, by decide, by decide⟩
  · rename_i q
    refine ⟨h.lo, h.hi, h.fst, h.all, ?_⟩
    refine ⟨fun e => q (.inl e), fun e => q (.inr (.inl e)), fun e => q (.inr (.inr (.inl e))), fun e => q (.inr (.inr (.inr e)))⟩
theorem names_ok (c0 : Int) (S : Store) : ∃ (l : List Tx) (m : Nat) (S' : Store), m_law_names [.int c0] S = .ok (.ref m) S' ∧ Pre S S' ∧ S.length ≤ m ∧ S'[m]? = some (.lst (l.map .str)) ∧ 3 ≤ l.length ∧ l.length ≤ 5 ∧ ∀ t ∈ l, Nm t := by
  obtain ⟨c, ec, hc⟩ := mixed_ok c0 3 S
  obtain ⟨sz, hsz, hs0, hs8⟩ : ∃ sz : Nat, 1 + c % 8 = (sz : Int) ∧ 1 ≤ sz ∧ sz ≤ 8 := ⟨(1 + c % 8).toNat, by omega, by omega, by omega⟩
  have hszp : (0 : Int) < sz := by omega
  generalize hat : c / 8 % (sz : Int) = sp
  obtain ⟨mn, hmn, hm3, hm5⟩ : ∃ mn : Nat, 3 + c / 64 % 3 = (mn : Int) ∧ 3 ≤ mn ∧ mn ≤ 5 := ⟨(3 + c / 64 % 3).toNat, by omega, by omega, by omega⟩
  have d192 : divOk 192 := div_ok (by decide) (by decide)
  have inner : ∀ (k : Int) (x7 x8 : Option D) (S2 : Store), ∃ cs y7 y8, loopM [] (turnM (gName 7) l_law_names_1) (rng 0 sz) [some (.int c), some (.str LTS), some (.int sz), some (.int sp), some (.ref S.length), some (.int k), some (.str []), x7, x8] S2 = .ok (.nx [some (.int c), some (.str LTS), some (.int sz), some (.int sp), some (.ref S.length), some (.int k), some (.str cs), y7, y8]) S2 ∧ CsI sz cs := by
    intro k x7 x8 S2
    have key := loop_inv (hs := []) (turn := turnM (gName 7) l_law_names_1)
      (fun i fr S' => ∃ cs y7 y8, fr = [some (.int c), some (.str LTS), some (.int sz), some (.int sp), some (.ref S.length), some (.int k), some (.str cs), y7, y8] ∧ S' = S2 ∧ CsI i cs)
      (rng 0 sz) 0 [some (.int c), some (.str LTS), some (.int sz), some (.int sp), some (.ref S.length), some (.int k), some (.str []), x7, x8] S2
      ⟨[], x7, x8, rfl, rfl, ⟨rfl, fun h => absurd h (by decide), by simp⟩⟩ (fun _ _ S _ => stands_nil S) (by
        rintro i d fr S' hd ⟨cs, y7, y8, rfl, rfl, hcs⟩
        obtain ⟨hi, rfl⟩ := rng_at hd
        rw [show 0 + i = i by omega] at *
        have e0 : (0 : Int) + (i : Int) = (i : Int) := by omega
        have dv : divOk ((i : Int) + 1) := div_ok (by omega) (by omega)
        have mo : mulOk 5 (i : Int) := mul_l (by decide)
        have mo2 : ∀ b : Bool, mulOk k (if b = true then 1 else 0) := fun b => mul_r (by cases b <;> decide)
        have cl : cs.length + 1 ≤ 16777216 := by rw [hcs.len]; omega
        have cf : cs.length ≤ 16777216 := by omega
        by_cases h : (i : Int) = sp ∨ i = 0
        · have h1 : ∀ z : Int, 0 ≤ z % 26 ∧ z % 26 < 26 := fun z => ⟨Int.emod_nonneg _ (by decide), Int.emod_lt_of_pos _ (by decide)⟩
          obtain ⟨x, ex, mx, qx⟩ := lts_at (h1 (c / 192 / ((i : Int) + 1) + 5 * (i : Int) + k * (if (i : Int) = sp then 1 else 0))).1 (h1 _).2
          refine ⟨[some (.int c), some (.str LTS), some (.int sz), some (.int sp), some (.ref S.length), some (.int k), some (.str (cs ++ [x])), some (.int i), some (.int (c / 192 / ((i : Int) + 1) + 5 * (i : Int)))], S', .inl ?_, _, _, _, rfl, rfl, hcs.snoc mx fun _ => qx⟩
          have mo3 : mulOk k (if (i : Int) = sp then 1 else 0) := by have := mo2 (decide ((i : Int) = sp)); simpa using this
          by_cases h2 : (i : Int) = sp
          · simp [h2] at ex mo3
            rw [h2] at dv mo
            simp [turnM_s, l_law_names_1, e0, d192, dv, mo, h2, mo3, LINE, ex, cl]
          · have h3 : i = 0 := by rcases h with z | z; · exact absurd z h2
                                  · exact z
            subst h3
            have h2' : ¬ (0 : Int) = sp := h2
            simp [h2'] at ex mo3
            simp at dv
            have mo0 : mulOk 5 0 := mul_l (by decide)
            simp [turnM_s, l_law_names_1, d192, dv, mo0, h2', mo3, LINE, ex, cl]
        · have h2 : ¬ (i : Int) = sp := fun z => h (.inl z)
          have h3 : ¬ i = 0 := fun z => h (.inr z)
          have h1 : ∀ z : Int, 0 ≤ z % 36 ∧ z % 36 < 36 := fun z => ⟨Int.emod_nonneg _ (by decide), Int.emod_lt_of_pos _ (by decide)⟩
          obtain ⟨x, ex, mx, qx⟩ := sg_lt (h1 (c / 192 / ((i : Int) + 1) + 5 * (i : Int))).1 (h1 _).2
          refine ⟨[some (.int c), some (.str LTS), some (.int sz), some (.int sp), some (.ref S.length), some (.int k), some (.str (cs ++ [x])), some (.int i), some (.int (c / 192 / ((i : Int) + 1) + 5 * (i : Int)))], S', .inl ?_, _, _, _, rfl, rfl, hcs.snoc mx fun z => absurd z h3⟩
          simp [turnM_s, l_law_names_1, e0, d192, dv, mo, h2, h3, LINE, ex, cl])
    obtain ⟨fr', S', e, cs, y7, y8, rfl, rfl, hcs⟩ := key
    rw [rng_len, Nat.zero_add] at hcs
    exact ⟨cs, y7, y8, e, hcs⟩
  have fsz : far (sz : Int) := by unfold far; omega
  have key := loop_inv (hs := []) (turn := turnM (gName 5) l_law_names_2)
    (fun i fr S' => ∃ k5 k6 k7 k8 l, fr = [some (.int c), some (.str LTS), some (.int sz), some (.int sp), some (.ref S.length), k5, k6, k7, k8] ∧ Pre S S' ∧ S'[S.length]? = some (.lst (l.map .str)) ∧ l.length = i ∧ ∀ t ∈ l, Nm t)
    (rng 0 mn) 0 [some (.int c), some (.str LTS), some (.int sz), some (.int sp), some (.ref S.length), none, none, none, none] (S ++ [.lst []])
    ⟨none, none, none, none, [], rfl, Pre.app _ _, app_new _ _ _, rfl, by simp⟩ (fun _ _ S _ => stands_nil S) (by
      rintro i d fr S' hd ⟨k5, k6, k7, k8, l, rfl, pr, ga, hl, hnm⟩
      obtain ⟨hi, rfl⟩ := rng_at hd
      rw [show 0 + i = i by omega] at *
      have e0 : (0 : Int) + (i : Int) = (i : Int) := by omega
      obtain ⟨cs, y7, y8, e, hcs⟩ := inner i k7 k8 S'
      have cs0 : Cs cs := ⟨by rw [hcs.len]; exact hs0, by rw [hcs.len]; exact hs8, hcs.fst hs0, hcs.all⟩
      have hl' : l.length < 16777216 := by omega
      have cl : cs.length + 1 ≤ 16777216 := by rw [hcs.len]; omega
      refine ⟨[some (.int c), some (.str LTS), some (.int sz), some (.int sp), some (.ref S.length), some (.int i), some (.str (nmOf1 cs)), y7, y8], S'.set S.length (.lst ((l ++ [nmOf1 cs]).map .str)), .inl ?_, _, _, _, _, _, rfl, pr.set (Nat.le_refl _), set_get ga, by simp [hl], ?_⟩
      · simp [turnM_s, l_law_names_2, e0, fsz]
        rw [e]
        by_cases hw : cs = w_sy ∨ cs = w_go ∨ cs = w_pt ∨ cs = w_en
        · have : nmOf1 cs = cs ++ [49] := by unfold nmOf1; rw [if_pos hw]
          have hw' : ((w_sy == cs) || ((w_go == cs) || ((w_pt == cs) || (w_en == cs)))) = true := by
            simp only [Bool.or_eq_true, beq_iff_eq]
            rcases hw with z | z | z | z <;> simp [z]
          rw [this]
          simp [hw', LINE, ga, hl', cl]
        · have : nmOf1 cs = cs := by unfold nmOf1; rw [if_neg hw]
          have hw' : ((w_sy == cs) || ((w_go == cs) || ((w_pt == cs) || (w_en == cs)))) = false := by
            simp only [not_or] at hw
            simp only [Bool.or_eq_false_iff, beq_eq_false_iff_ne, ne_eq]
            exact ⟨fun e => hw.1 e.symm, fun e => hw.2.1 e.symm, fun e => hw.2.2.1 e.symm, fun e => hw.2.2.2 e.symm⟩
          rw [this]
          simp [hw', LINE, ga, hl']
      · intro t ht
        rcases List.mem_append.mp ht with z | z
        · exact hnm t z
        · rw [List.mem_singleton.mp z]; exact nmOf1_ok cs0)
  obtain ⟨fr', S', e, k5, k6, k7, k8, l, rfl, pr, ga, hl, hnm⟩ := key
  rw [rng_len, Nat.zero_add] at hl
  refine ⟨l, S.length, S', ?_, pr, Nat.le_refl _, ga, by omega, by omega, hnm⟩
  have d8 : divOk 8 := div_ok (by decide) (by decide)
  have d64 : divOk 64 := div_ok (by decide) (by decide)
  have fm : far (mn : Int) := by unfold far; omega
  have hs0' : 0 < sz := by omega
  simp [m_law_names, b_law_names, ec, hsz, d8, hat, hs0', LINE, d64, hmn, fm]
  rw [e]
  simp
end Lk34
set_option Elab.async false
set_option linter.all false
set_option maxHeartbeats 1000000
namespace Lk34
open Mi
/-! ### operands -/
theorem div_big {j : Int} (h : 0 < j) (h2 : j < 2 ^ 200) : divOk j := ⟨h, by
  have : j.natAbs < 2 ^ 200 := by omega
  have : j.natAbs.log2 < 200 := (Nat.log2_lt (by omega)).mpr this
  omega⟩
theorem at_mod {l : List Tx} {c : Int} (h0 : 0 < l.length) : ∃ t, atI (l.map D.str) (c % (l.length : Int)) = some (.str t) ∧ t ∈ l := by
  have h1 := Int.emod_nonneg c (show (l.length : Int) ≠ 0 by omega)
  have h2 := Int.emod_lt_of_pos c (show (0 : Int) < l.length by omega)
  have hl : (c % (l.length : Int)).toNat < l.length := by omega
  exact ⟨l[(c % (l.length : Int)).toNat], at_nat h1 (by rw [List.getElem?_map, List.getElem?_eq_getElem hl]; rfl), List.getElem_mem hl⟩
theorem operand_ok (c : Int) (N : Nat) (S : Store) (l : List Tx) (h : S[N]? = some (.lst (l.map .str))) (h0 : 0 < l.length) : ∃ (k : Ky) (S' : Store), m_law_operand [.int c, .ref N] S = .ok (kyD k) S' ∧ Pre S S' ∧ Opd l k := by
  have d6 : divOk 6 := div_ok (by decide) (by decide)
  by_cases hc : c % 6 = 0
  · have d24 : divOk 24 := div_ok (by decide) (by decide)
    have p2 : powOk 2 64 := by unfold powOk; decide
    have mo : ∀ x : Int, mulOk x 48271 := fun x => mul_r (by decide)
    have hw : 0 ≤ c / 24 * 48271 % 18446744073709551616 ∧ c / 24 * 48271 % 18446744073709551616 < 18446744073709551616 := ⟨Int.emod_nonneg _ (by decide), Int.emod_lt_of_pos _ (by decide)⟩
    have cases4 : c / 6 % 4 = 0 ∨ c / 6 % 4 = 1 ∨ c / 6 % 4 = 2 ∨ c / 6 % 4 = 3 := by omega
    rcases cases4 with i | i | i | i
    · exact ⟨.inl 0, _, by simp [m_law_operand, b_law_operand, hc, d6, d24, p2, mo, LINE, i]; rfl, Pre.app _ _, .inr ⟨_, rfl, by decide, by decide⟩⟩
    · exact ⟨.inl 1, _, by simp [m_law_operand, b_law_operand, hc, d6, d24, p2, mo, LINE, i]; rfl, Pre.app _ _, .inr ⟨_, rfl, by decide, by decide⟩⟩
    · exact ⟨.inl 18446744073709551615, _, by simp [m_law_operand, b_law_operand, hc, d6, d24, p2, mo, LINE, i]; rfl, Pre.app _ _, .inr ⟨_, rfl, by decide, by decide⟩⟩
    · exact ⟨.inl (c / 24 * 48271 % 18446744073709551616), _, by simp [m_law_operand, b_law_operand, hc, d6, d24, p2, mo, LINE, i]; rfl, Pre.app _ _, .inr ⟨_, rfl, hw⟩⟩
  · obtain ⟨t, et, ht⟩ := at_mod (l := l) (c := c / 6) h0
    refine ⟨.inr t, S, ?_, Pre.refl _, .inl ⟨t, ht, rfl⟩⟩
    simp [m_law_operand, b_law_operand, hc, d6, h, h0, et]
/-! ### deeds -/
def DsOk (l : List Tx) (ds : List (List Ky)) : Prop := ∀ d ∈ ds, ∃ s a b, d = [s, a, b] ∧ Rkg l s a b
theorem s8_at {i : Int} (h : 0 ≤ i ∧ i < 8) : ∃ c, atI S8 i = some c ∧ c ∈ S8 := by
  have hl : i.toNat < S8.length := by show i.toNat < 8; omega
  exact ⟨S8[i.toNat], at_nat h.1 (List.getElem?_eq_getElem hl), List.getElem_mem hl⟩
theorem deeds_ok {ns : List Int} (N : Nat) (S : Store) (l : List Tx) (h : S[0]? = some (.fls (ns.map .int))) (hN : S[N]? = some (.lst (l.map .str))) (h0 : 0 < l.length) : ∃ (ds : List (List Ky)) (m : Nat) (S' : Store), m_law_deeds [.ref 0, .ref N] S = .ok (.ref m) S' ∧ Pre S S' ∧ S.length ≤ m ∧ S'[m]? = some (.lst (ds.map kt)) ∧ 0 < ds.length ∧ ds.length ≤ 12 ∧ DsOk l ds := by
  obtain ⟨c, ec⟩ := cell_ok h 1
  have ec' : m_law_cell [.ref 0, .int 1] S = .ok (.int c) S := ec
  obtain ⟨mn, hm1, hm12, hmn⟩ : ∃ mn : Nat, 1 ≤ mn ∧ mn ≤ 12 ∧ (if c / 4 % 6 = 1 then (12 : Int) else 1 + c % 4) = (mn : Int) := ⟨(if c / 4 % 6 = 1 then (12 : Int) else 1 + c % 4).toNat, by split <;> omega, by split <;> omega, by split <;> omega⟩
  have p21 : powOk 10 21 := by unfold powOk; decide
  have p42 : powOk 10 42 := by unfold powOk; decide
  have d21 : divOk 1000000000000000000000 := div_big (by decide) (by decide)
  have d42 : divOk 1000000000000000000000000000000000000000000 := div_big (by decide) (by decide)
  have d842 : divOk 8000000000000000000000000000000000000000000 := div_big (by decide) (by decide)
  have m8 : ∀ x, mulOk 8 x := fun x => mul_l (by decide)
  have hSl := Pre.lt (S' := S) hN
  have key := loop_inv (hs := []) (turn := turnM (gName 6) l_law_deeds_1)
    (fun i fr S' => ∃ (rest : Int) (k6 k7 k8 k9 : Option D) (ds : List (List Ky)), fr = [some (.ref 0), some (.ref N), some (.int c), some (.int mn), some (.int rest), some (.ref S.length), k6, k7, k8, k9] ∧ Pre S S' ∧ S'[S.length]? = some (.lst (ds.map kt)) ∧ ds.length = i ∧ DsOk l ds)
    (rng 0 mn) 0 [some (.ref 0), some (.ref N), some (.int c), some (.int mn), some (.int (c / 24)), some (.ref S.length), none, none, none, none] (S ++ [.lst []])
    ⟨_, none, none, none, none, [], rfl, Pre.app _ _, app_new _ _ _, rfl, by simp [DsOk]⟩ (fun _ _ S _ => stands_nil S) (by
      rintro i d fr S' hd ⟨rest, k6, k7, k8, k9, ds, rfl, pr, g, hl, dk⟩
      obtain ⟨hi, rfl⟩ := rng_at hd
      rw [show 0 + i = i by omega] at *
      have e0 : (0 : Int) + (i : Int) = (i : Int) := by omega
      obtain ⟨o1, q1, _⟩ := mixed_ok rest i S'
      obtain ⟨o2, q2, _⟩ := mixed_ok rest (i + 20) S'
      obtain ⟨o3, q3, _⟩ := mixed_ok rest (i + 40) S'
      obtain ⟨b, qf⟩ := free_ok (pr.get h)
      have fin : ∀ (one other sgn rest' : Int), 0 ≤ sgn ∧ sgn < 8 → ∃ fr' S2, sExp (mMt isLst lAppend (mVar 5) (aCons (mTup (aCons (mOp oIx (mC (.str S8)) (mVar 9)) (aCons (mCall m_law_operand (aCons (mVar 7) (aCons (mVar 1) aNil))) (aCons (mCall m_law_operand (aCons (mVar 8) (aCons (mVar 1) aNil))) aNil)))) aNil)) [some (.ref 0), some (.ref N), some (.int c), some (.int mn), some (.int rest'), some (.ref S.length), some (.int i), some (.int one), some (.int other), some (.int sgn)] S' = .ok (.nx fr') S2 ∧
          ∃ (rest : Int) (k6 k7 k8 k9 : Option D) (ds : List (List Ky)), fr' = [some (.ref 0), some (.ref N), some (.int c), some (.int mn), some (.int rest), some (.ref S.length), k6, k7, k8, k9] ∧ Pre S S2 ∧ S2[S.length]? = some (.lst (ds.map kt)) ∧ ds.length = i + 1 ∧ DsOk l ds := by
        intro one other sgn rest' hs
        obtain ⟨x, ex, mx⟩ := s8_at hs
        obtain ⟨a, S1, qa, pa, oa⟩ := operand_ok one N S' l (pr.get hN) h0
        obtain ⟨b, S2, qb, pb, ob⟩ := operand_ok other N S1 l (pa.get (pr.get hN)) h0
        have g2 := pb.get (pa.get g)
        have hl' : ds.length < 16777216 := by omega
        refine ⟨_, S2.set S.length (.lst ((ds ++ [[.inr [x], a, b]]).map kt)), by simp [LINE, ex, qa, qb, g, g2, hl', kt]; exact ⟨rfl, rfl, rfl, rfl⟩, rest', _, _, _, _, ds ++ [[.inr [x], a, b]], rfl, ((pr.trans pa).trans pb).set (Nat.le_refl _), set_get g2, by simp [hl], ?_⟩
        · intro d hd
          rcases List.mem_append.mp hd with z | z
          · exact dk d z
          · rw [List.mem_singleton.mp z]; exact ⟨_, _, _, rfl, ⟨x, mx, rfl⟩, oa, ob⟩
      cases b with
      | false =>
        obtain ⟨fr', S2, e, q⟩ := fin o1 o2 (o3 % 8) rest ⟨Int.emod_nonneg _ (by decide), Int.emod_lt_of_pos _ (by decide)⟩
        refine ⟨fr', S2, .inl ?_, q⟩
        rw [← e]
        simp [turnM_s, l_law_deeds_1, e0, q1, q2, q3, qf]
      | true =>
        obtain ⟨fr', S2, e, q⟩ := fin (rest % 1000000000000000000000) (rest / 1000000000000000000000 % 1000000000000000000000) (rest / 1000000000000000000000000000000000000000000 % 8) (rest / 8000000000000000000000000000000000000000000) ⟨Int.emod_nonneg _ (by decide), Int.emod_lt_of_pos _ (by decide)⟩
        refine ⟨fr', S2, .inl ?_, q⟩
        rw [← e]
        simp [turnM_s, l_law_deeds_1, e0, q1, q2, q3, qf, p21, p42, d21, d42, d842, m8])
  obtain ⟨fr', S', e, rest, k6, k7, k8, k9, ds, rfl, pr, g, hl, dk⟩ := key
  rw [rng_len, Nat.zero_add] at hl
  have d4 : divOk 4 := div_ok (by decide) (by decide)
  have d24 : divOk 24 := div_ok (by decide) (by decide)
  have fm : far (mn : Int) := by unfold far; omega
  have head : m_law_deeds [.ref 0, .ref N] S = quiet (deK (seqK (sSeq (sIf (tAnd (tBl (mOp oEq (mCall bLen (aCons (mVar 5) aNil)) (mC (.int 2)))) (tBl (mOp oEq (mOp oMod (mOp oDiv (mVar 2) (mC (.int 4))) (mC (.int 3))) (mC (.int 0))))) (sAsg (mTup (aCons (mOp oIx (mOp oIx (mVar 5) (mC (.int 0))) (mC (.int 0))) (aCons (mOp oIx (mOp oIx (mVar 5) (mC (.int 0))) (mC (.int 2))) (aCons (mOp oIx (mOp oIx (mVar 5) (mC (.int 0))) (mC (.int 1))) aNil)))) (gSub (mVar 5) (mC (.int 1)))) (sNx)) (sRet (mVar 5))) (loopM [] (turnM (gName 6) l_law_deeds_1) (rng 0 mn) [some (.ref 0), some (.ref N), some (.int c), some (.int mn), some (.int (c / 24)), some (.ref S.length), none, none, none, none] (S ++ [.lst []])))) := by
    by_cases h1 : c / 4 % 6 = 1
    · rw [if_pos h1] at hmn
      have h12 : mn = 12 := by omega
      subst h12
      simp [m_law_deeds, b_law_deeds, ec', d4, h1, d24, LINE, show far 12 by unfold far; omega]
    · rw [if_neg h1] at hmn
      simp [m_law_deeds, b_law_deeds, ec', d4, h1, d24, LINE, hmn, fm]
  by_cases h2 : ds.length = 2 ∧ c / 4 % 3 = 0
  · match ds, h2.1, g, dk with
    | [u, v], _, g, dk =>
      obtain ⟨s, a, b, rfl, rk⟩ := dk u (by simp)
      have ix : ixN 2 1 = some 1 := rfl
      refine ⟨[[s, a, b], [s, b, a]], S.length, S'.set S.length (.lst [kt [s, a, b], kt [s, b, a]]), ?_, pr.set (Nat.le_refl _), Nat.le_refl _, set_get g, by simp, by simp, ?_⟩
      · rw [head, e]
        simp [kt] at g
        simp [g, h2.2, d4, LINE, kt, ix]
      · intro d hd
        simp only [List.mem_cons, List.not_mem_nil, or_false] at hd
        rcases hd with rfl | rfl
        · exact ⟨_, _, _, rfl, rk⟩
        · exact ⟨_, _, _, rfl, rk.s1, rk.b1, rk.a1⟩
  · refine ⟨ds, S.length, S', ?_, pr, Nat.le_refl _, g, by omega, by omega, dk⟩
    rw [head, e]
    by_cases h3 : ds.length = 2
    · have h4 : ¬ c / 4 % 3 = 0 := fun z => h2 ⟨h3, z⟩
      simp [g, h3, d4, h4]
    · have h3' : ¬ (ds.length : Int) = 2 := by omega
      simp [g, h3', h3]
end Lk34
set_option Elab.async false
set_option linter.all false
set_option maxHeartbeats 1000000
namespace Lk34
open Mi
/-! ### rows -/
theorem at_deed {l : List Tx} {ds : List (List Ky)} (c : Int) (dk : DsOk l ds) (h0 : 0 < ds.length) : ∃ x a b, atI (ds.map kt) (c % (ds.length : Int)) = some (.tup [.str [x], kyD a, kyD b]) ∧ Rkg l (.inr [x]) a b := by
  have h1 := Int.emod_nonneg c (show (ds.length : Int) ≠ 0 by omega)
  have h2 := Int.emod_lt_of_pos c (show (0 : Int) < ds.length by omega)
  have hl : (c % (ds.length : Int)).toNat < ds.length := by omega
  obtain ⟨s, a, b, e, rk⟩ := dk _ (List.getElem_mem hl)
  obtain ⟨x, _, rfl⟩ := rk.s1
  refine ⟨x, a, b, at_nat h1 (by rw [List.getElem?_map, List.getElem?_eq_getElem hl, e]; rfl), rk⟩
theorem row_ok (c o : Int) (N M : Nat) (S : Store) (l : List Tx) (ds : List (List Ky)) (hN : S[N]? = some (.lst (l.map .str))) (hM : S[M]? = some (.lst (ds.map kt))) (h0 : 0 < l.length) (d0 : 0 < ds.length) (dk : DsOk l ds) : ∃ (r : Row) (S' : Store), m_law_row [.int c, .int o, .ref N, .ref M] S = .ok r.d S' ∧ Pre S S' ∧ RowN l r ∧ r.seq = true ∧ (∀ a t, r = .pt a t → 7 ≤ c % 11 ∧ ((c % 11 < 9 ∧ 0 ≤ t) ∨ (9 ≤ c % 11 ∧ t = -1))) ∧ (9 ≤ c % 11 → ∃ a, r = .pt a (-1)) := by
  obtain ⟨nm, en, hn⟩ := at_mod (l := l) (c := o % 60) h0
  obtain ⟨k, S1, qk, pk, ok⟩ := operand_ok (o / 43200) N S l hN h0
  obtain ⟨x, a, b, ed, rk⟩ := at_deed (o / 60 % 12) dk d0
  have d43200 : divOk 43200 := div_ok (by decide) (by decide)
  have d60 : divOk 60 := div_ok (by decide) (by decide)
  have d720 : divOk 720 := div_ok (by decide) (by decide)
  have hM1 := pk.get hM
  by_cases h5 : c % 11 < 5
  · refine ⟨.rk nm [x] a b, S1, ?_, pk, ⟨hn, rk⟩, rfl, (fun _ _ e => by cases e), fun z => absurd z (by omega)⟩
    simp [m_law_row, b_law_row, hN, h0, en, d43200, d60, qk, h5, hM1, d0, ed, LINE, d_rk]
  · by_cases h6 : c % 11 = 5
    · refine ⟨.cp nm k, S1, ?_, pk, ⟨hn, ok⟩, rfl, (fun _ _ e => by cases e), fun z => absurd z (by omega)⟩
      simp [m_law_row, b_law_row, hN, h0, en, d43200, qk, h6, LINE, d_cp]
    · by_cases h7 : c % 11 = 6
      · refine ⟨.sy k, S1, ?_, pk, ok, rfl, (fun _ _ e => by cases e), fun z => absurd z (by omega)⟩
        simp [m_law_row, b_law_row, hN, h0, en, d43200, qk, h7, LINE, d_sy]
      · by_cases h9 : c % 11 < 9
        · refine ⟨.pt k (o / 720 % 60), S1, ?_, pk, ok, rfl, (fun _ _ e => by cases e; exact ⟨by omega, .inl ⟨h9, Int.emod_nonneg _ (by decide)⟩⟩), fun z => absurd z (by omega)⟩
          simp [m_law_row, b_law_row, hN, h0, en, d43200, qk, h5, h6, h7, h9, d720, LINE, d_pt]
        · refine ⟨.pt k (-1), S1, ?_, pk, ok, rfl, (fun _ _ e => by cases e; exact ⟨by omega, .inr ⟨by omega, rfl⟩⟩), fun _ => ⟨_, rfl⟩⟩
          simp [m_law_row, b_law_row, hN, h0, en, d43200, qk, h5, h6, h7, h9, LINE, d_pt]
theorem any_row_ok (c : Int) (n many : Nat) (N M : Nat) (S : Store) (l : List Tx) (ds : List (List Ky)) (hN : S[N]? = some (.lst (l.map .str))) (hM : S[M]? = some (.lst (ds.map kt))) (h0 : 0 < l.length) (hl : l.length ≤ 10) (d0 : 0 < ds.length) (dk : DsOk l ds) (hm : 0 < many) (hm2 : many ≤ 1000) : ∃ (r : Row) (S' : Store), m_law_any_row [.int c, .int n, .int many, .ref N, .ref M] S = .ok r.d S' ∧ Pre S S' ∧ RowN l r ∧ (∀ t, r = .go t → 0 ≤ t ∧ t < many) ∧ ∀ a t, r = .pt a t → 0 ≤ t ∧ t < many ∧ t ≠ (n : Int) + 1 := by
  have d14 : divOk 14 := div_ok (by decide) (by decide)
  have dl : divOk (l.length : Int) := div_ok (by omega) (by omega)
  obtain ⟨nm, en, hn⟩ := at_mod (l := l) (c := c / 14) h0
  obtain ⟨x, a, b, ed, rk⟩ := at_deed (c / 14 / (l.length : Int)) dk d0
  by_cases h6 : c % 14 < 6
  · refine ⟨.rk nm [x] a b, S, ?_, Pre.refl _, ⟨hn, rk⟩, (fun _ e => by cases e), fun _ _ e => by cases e⟩
    simp [m_law_any_row, b_law_any_row, hN, h0, en, d14, dl, h6, hM, d0, ed, LINE, d_rk]
  · by_cases h8 : c % 14 < 8
    · obtain ⟨k, S1, qk, pk, ok⟩ := operand_ok (c / 14 / (l.length : Int)) N S l hN h0
      refine ⟨.cp nm k, S1, ?_, pk, ⟨hn, ok⟩, (fun _ e => by cases e), fun _ _ e => by cases e⟩
      simp [m_law_any_row, b_law_any_row, hN, h0, en, d14, dl, h6, h8, qk, LINE, d_cp]
    · by_cases h10 : c % 14 < 10
      · obtain ⟨k, S1, qk, pk, ok⟩ := operand_ok (c / 14) N S l hN h0
        refine ⟨.sy k, S1, ?_, pk, ok, (fun _ e => by cases e), fun _ _ e => by cases e⟩
        simp [m_law_any_row, b_law_any_row, d14, h6, h8, h10, qk, LINE, d_sy]
      · by_cases h12 : c % 14 < 12 ∧ 1 < many
        · obtain ⟨k, S1, qk, pk, ok⟩ := operand_ok (c / 14 / ((many : Int) - 1)) N S l hN h0
          have dm : divOk ((many : Int) - 1) := div_ok (by omega) (by omega)
          have mp : (0 : Int) < (many : Int) - 1 := by omega
          have mp2 : (0 : Int) < (many : Int) := by omega
          have t1 := Int.emod_nonneg ((n : Int) + 2 + c / 14 % ((many : Int) - 1)) (show (many : Int) ≠ 0 by omega)
          have t2 := Int.emod_lt_of_pos ((n : Int) + 2 + c / 14 % ((many : Int) - 1)) mp2
          have nonx : ((n : Int) + 2 + c / 14 % ((many : Int) - 1)) % (many : Int) ≠ (n : Int) + 1 := by
            have u1 := Int.emod_nonneg (c / 14) (show (many : Int) - 1 ≠ 0 by omega)
            have u2 := Int.emod_lt_of_pos (c / 14) mp
            generalize c / 14 % ((many : Int) - 1) = q at *
            intro z
            have d := Int.mul_ediv_add_emod ((n : Int) + 2 + q) (many : Int)
            rw [z] at d
            generalize ((n : Int) + 2 + q) / (many : Int) = w at d
            have w1 : (many : Int) * w = q + 1 := by omega
            have w2 : 0 < w := by
              rcases Int.lt_or_le 0 w with h | h
              · exact h
              · have := Int.mul_nonpos_of_nonneg_of_nonpos (show (0 : Int) ≤ (many : Int) by omega) h
                omega
            have w3 : (many : Int) * 1 ≤ (many : Int) * w := Int.mul_le_mul_of_nonneg_left (by omega) (by omega)
            omega
          refine ⟨.pt k (((n : Int) + 2 + c / 14 % ((many : Int) - 1)) % (many : Int)), S1, ?_, pk, ok, (fun _ e => by cases e), fun _ _ e => by cases e; exact ⟨t1, t2, nonx⟩⟩
          have h1 := h12.2
          have h2 : (1 : Int) < (many : Int) := by omega
          simp [m_law_any_row, b_law_any_row, d14, h6, h8, h10, h12.1, h1, h2, hm, dm, mp, mp2, qk, LINE, d_pt]
        · have q : (if c % 14 < 12 then decide (1 < many) else false) = false := by
            split
            · rename_i z; exact decide_eq_false fun y => h12 ⟨z, y⟩
            · rfl
          by_cases h13 : c % 14 = 12
          · have mp2 : (0 : Int) < (many : Int) := by omega
            have t1 := Int.emod_nonneg (c / 14) (show (many : Int) ≠ 0 by omega)
            have t2 := Int.emod_lt_of_pos (c / 14) mp2
            refine ⟨.go (c / 14 % (many : Int)), S, ?_, Pre.refl _, trivial, (fun _ e => by cases e; exact ⟨t1, t2⟩), fun _ _ e => by cases e⟩
            simp [m_law_any_row, b_law_any_row, d14, h13, hm, LINE, d_go]
          · refine ⟨.en, S, ?_, Pre.refl _, trivial, (fun _ e => by cases e), fun _ _ e => by cases e⟩
            by_cases h11 : c % 14 < 12
            · have h1 : ¬ 1 < many := fun y => h12 ⟨h11, y⟩
              have h1' : ¬ (1 : Int) < (many : Int) := by omega
              simp [m_law_any_row, b_law_any_row, d14, h6, h8, h10, h11, h1, h1', h13, LINE, d_en]
            · simp [m_law_any_row, b_law_any_row, d14, h6, h8, h10, h11, h13, LINE, d_en]
/-! ### followers -/
theorem lfol_ok (P n : Nat) (rows : List Row) (r : Row) (S : Store) (hP : S[P]? = some (.lst (rows.map Row.d))) (hr : rows[n]? = some r) : m_law_followers [.ref P, .int n] S = .ok (.ref S.length) (S ++ [.lst ((fol n r).map .int)]) := by
  have e : atI (rows.map Row.d) (n : Int) = some r.d := at_of (by rw [List.getElem?_map, hr]; rfl)
  cases r <;> simp [m_law_followers, b_law_followers, hP, e, d_rk, d_cp, d_sy, d_go, d_pt, d_en, LINE, fol]
/-! ### where a go leads -/
theorem goal_loop (R : Nat) (rows : List Row) (S : Store) (hR : S[R]? = some (.lst (rows.map Row.d))) (hz : ∀ t, rows[0]? ≠ some (.go t)) : ∀ k : Nat, k < rows.length → ∃ j : Nat, j < rows.length ∧ j ≤ k ∧ (∀ t, rows[j]? ≠ some (.go t)) ∧ sWhile c_law_goal_2 l_law_goal_1 [some (.ref R), some (.int k)] S = .ok (.nx [some (.ref R), some (.int j)]) S := by
  intro k
  induction k with
  | zero =>
    intro hk
    refine ⟨0, hk, Nat.le_refl _, hz, ?_⟩
    have e : rows[0]? = some rows[0] := List.getElem?_eq_getElem hk
    generalize rows[0] = r at e
    have ea : atI (rows.map Row.d) 0 = some r.d := at_of (k := 0) (by rw [List.getElem?_map, e]; rfl)
    rw [while_s]
    cases r with
    | go t => exact absurd e (hz t)
    | _ => simp [c_law_goal_2, hR, ea, d_rk, d_cp, d_sy, d_pt, d_en]
  | succ k ih =>
    intro hk
    have e : rows[k + 1]? = some rows[k + 1] := List.getElem?_eq_getElem hk
    generalize rows[k + 1] = r at e
    have ea : atI (rows.map Row.d) ((k : Int) + 1) = some r.d := by
      have := at_of (l := rows.map Row.d) (k := k + 1) (d := r.d) (by rw [List.getElem?_map, e]; rfl)
      rwa [Int.natCast_succ] at this
    rw [while_s]
    cases r with
    | go t =>
      obtain ⟨j, hj, hjk, hjg, q⟩ := ih (by omega)
      refine ⟨j, hj, by omega, hjg, ?_⟩
      simp [c_law_goal_2, l_law_goal_1, hR, ea, d_go]
      exact q
    | _ => exact ⟨k + 1, hk, Nat.le_refl _, (fun t z => by rw [e] at z; cases z), by simp [c_law_goal_2, hR, ea, d_rk, d_cp, d_sy, d_pt, d_en]⟩
theorem goal_ok (R : Nat) (to : Int) (rows : List Row) (S : Store) (hR : S[R]? = some (.lst (rows.map Row.d))) (hz : ∀ t, rows[0]? ≠ some (.go t)) (h0 : 0 < rows.length) : ∃ t : Nat, m_law_goal [.ref R, .int to] S = .ok (.int (t : Int)) S ∧ t < rows.length ∧ (t : Int) ≤ to % (rows.length : Int) ∧ ∀ z, rows[t]? ≠ some (.go z) := by
  have h1 := Int.emod_nonneg to (show (rows.length : Int) ≠ 0 by omega)
  have h2 := Int.emod_lt_of_pos to (show (0 : Int) < rows.length by omega)
  obtain ⟨k, hk, hk2⟩ : ∃ k : Nat, to % (rows.length : Int) = (k : Int) ∧ k < rows.length := ⟨(to % (rows.length : Int)).toNat, by omega, by omega⟩
  obtain ⟨j, hj, hjk, hjg, q⟩ := goal_loop R rows S hR hz k hk2
  refine ⟨j, ?_, hj, by omega, hjg⟩
  simp [m_law_goal, b_law_goal, hR, h0, hk]
  rw [q]
  simp
/-! ### the last row -/
theorem fil_head {N a : Nat} {rest : List Nat} {p : Nat → Bool} (h : (List.range N).filter p = a :: rest) : a < N ∧ p a = true ∧ ∀ b, b < a → p b = false := by
  obtain ⟨l1, l2, e, h1, h2, _⟩ := List.filter_eq_cons_iff.mp h
  have ha : (List.range N)[l1.length]? = some a := by rw [e, List.getElem?_append_right (Nat.le_refl _), Nat.sub_self]; rfl
  have hl : l1.length < N := by
    have := (List.getElem?_eq_some_iff.mp ha).1
    rw [List.length_range] at this; exact this
  rw [List.getElem?_range hl] at ha
  have hal : l1.length = a := Option.some.inj ha
  refine ⟨by omega, h2, fun b hb => ?_⟩
  have hb2 : (List.range N)[b]? = some b := List.getElem?_range (by omega)
  rw [e, List.getElem?_append_left (by omega)] at hb2
  have := h1 b (List.mem_of_getElem? hb2)
  simpa using this
theorem last_ok (R : Nat) (c : Int) (rows : List Row) (S : Store) (hR : S[R]? = some (.lst (rows.map Row.d))) (hz : rows[0]? ≠ some .en) (hl : rows.length ≤ 1000) : ∃ (r : Row) (S' : Store), m_law_last [.ref R, .int c] S = .ok r.d S' ∧ Pre S S' ∧ (r = .en ∨ (rows ≠ [] ∧ ∃ (t : Int) (z : Nat), r = .go t ∧ 0 ≤ t ∧ t < (z : Int) ∧ rows[z]? = some .en ∧ ∀ m, m < z → rows[m]? ≠ some .en)) := by
  have fl : far (rows.length : Int) := by unfold far; omega
  obtain ⟨S1, e1, p1, g1⟩ := lc_fil (vs := [3]) (g := gName 3) (t := c_law_last_1) (e := e_law_last_2) (fr := [some (.ref R), some (.int c), none, none]) (l := rng 0 rows.length) (hs := []) (S := S) (List.range rows.length) (fun k => .int (0 + (k : Nat))) (fun k => .int ((k : Nat) : Int)) (fun k => dec (rows[k]? = some .en)) rfl (fun _ h => by cases h) (by rw [List.length_range]; exact Nat.le_trans hl (by decide)) (by
    intro k hk S' pr
    have hk' : k < rows.length := List.mem_range.mp hk
    have e : rows[k]? = some rows[k] := List.getElem?_eq_getElem hk'
    generalize rows[k] = r at e
    have ea : atI (rows.map Row.d) (k : Int) = some r.d := at_of (by rw [List.getElem?_map, e]; rfl)
    have e0 : (0 : Int) + (k : Int) = (k : Int) := by omega
    have d1 : dec True = true := dec_true trivial
    have d0 : dec False = false := dec_false id
    refine ⟨[some (.ref R), some (.int c), none, some (.int k)], S', by simp [unset, e0], ?_, Pre.refl _, fun _ => ⟨S', by simp [e_law_last_2], Pre.refl _⟩⟩
    rw [e]
    cases r <;> simp [c_law_last_1, pr.get hR, ea, d_rk, d_cp, d_sy, d_go, d_pt, d_en, d0, d1])
  have ne : (S1 ++ [O.lst []])[S1.length]? = some (.lst (([] : List Int).map .int)) := app_new _ _ _
  have hmap : ∀ L : List Nat, L.map (fun k => D.int ((k : Nat) : Int)) = (L.map fun k => ((k : Nat) : Int)).map .int := fun L => by rw [List.map_map]; rfl
  rw [hmap] at g1
  generalize hE : (List.range rows.length).filter (fun k => dec (rows[k]? = some .en)) = E at g1
  have q : oEq (.ref S.length) (.ref S1.length) (S1 ++ [O.lst []]) = .ok (.bl (decide (E.map (fun k => ((k : Nat) : Int)) = []))) (S1 ++ [O.lst []]) := by
    rw [oEq_g, eq_ints (lst_of (app_get g1)) (lst_of ne)]; rfl
  have hp := fun G => app_get (G := G) g1
  by_cases h : E = [] ∨ 0 < c % 3
  · refine ⟨.en, S1 ++ [.lst []], ?_, p1.trans (Pre.app _ _), .inl rfl⟩
    by_cases h1 : E = []
    · subst h1
      simp at q
      simp [m_law_last, b_law_last, hR, fl]
      rw [e1]
      simp [LINE, q, d_en]
    · have h2 : 0 < c % 3 := by rcases h with z | z; · exact absurd z h1
                                · exact z
      simp [h1] at q
      simp [m_law_last, b_law_last, hR, fl]
      rw [e1]
      simp [LINE, q, h2, d_en]
  · have h1 : ¬ E = [] := fun z => h (.inl z)
    have h2 : ¬ 0 < c % 3 := fun z => h (.inr z)
    cases E with
    | nil => exact absurd rfl h1
    | cons z E' =>
      have hz0 : z ∈ (List.range rows.length).filter (fun k => dec (rows[k]? = some .en)) := by rw [hE]; simp
      have hrn : rows ≠ [] := fun q => by
        obtain ⟨k1, _⟩ := List.mem_filter.mp hz0
        rw [q] at k1; simp at k1
      have hz1 : 0 < z := by
        obtain ⟨_, k2⟩ := List.mem_filter.mp hz0
        have k2 : rows[z]? = some .en := of_dec k2
        by_cases hz0 : z = 0
        · subst hz0; exact absurd k2 hz
        · omega
      have d3 : divOk 3 := div_ok (by decide) (by decide)
      simp at q
      simp at hp
      have hzz := fil_head hE
      refine ⟨.go (c / 3 % (z : Int)), S1 ++ [.lst []], ?_, p1.trans (Pre.app _ _), .inr ⟨hrn, _, z, rfl, Int.emod_nonneg _ (by omega), Int.emod_lt_of_pos _ (by omega), of_dec hzz.2.1, fun m hm w => by have := hzz.2.2 m hm; rw [dec_true w] at this; cases this⟩⟩
      simp [m_law_last, b_law_last, hR, fl]
      rw [e1]
      simp [LINE, q, h2, d3, hp, hz1, d_go]
end Lk34
set_option Elab.async false
set_option linter.all false
set_option maxHeartbeats 1000000
namespace Lk34
open Mi
/-! ### rows as they are drawn -/
theorem prs_at {l : List D} {i : Nat} {d : D} (h : (prs 0 l)[i]? = some d) : ∃ x, l[i]? = some x ∧ d = .tup [.int (i : Nat), x] := by
  rw [prs_get] at h
  obtain ⟨x, hx, rfl⟩ := Option.map_eq_some_iff.mp h
  exact ⟨x, hx, by simp⟩
structure Rg (l : List Tx) (rows : List Row) : Prop where
  nm : ∀ r ∈ rows, RowN l r
  fst : ∀ r, rows[0]? = some r → r.seq = true
  pts : ∀ n a t, rows[n]? = some (.pt a t) → 0 ≤ t ∨ (t = -1 ∧ n + 1 < rows.length)
  c1 : ∀ n r, rows[n]? = some r → (r = .en ∨ ∃ t, r = .go t) → n ≠ 0 ∧ ∃ a, rows[n - 1]? = some (.pt a (-1))
  c2 : ∀ n a, rows[n]? = some (.pt a (-1)) → ∃ r, rows[n + 1]? = some r ∧ (r = .en ∨ ∃ t, r = .go t)
theorem app_lt {rows q : List Row} {n : Nat} (h : n < rows.length) : (rows ++ q)[n]? = rows[n]? := List.getElem?_append_left h
theorem Rg.add {l : List Tx} {rows : List Row} (h : Rg l rows) {r : Row} (hr : RowN l r) (hs : r.seq = true) (hp : ∀ a t, r = .pt a t → 0 ≤ t) : Rg l (rows ++ [r]) := by
  refine ⟨?_, ?_, ?_, ?_, ?_⟩
  · intro r' hr'
    rcases List.mem_append.mp hr' with z | z
    · exact h.nm r' z
    · rw [List.mem_singleton.mp z]; exact hr
  · intro r' e
    rcases get_snoc e with z | ⟨_, z⟩
    · exact h.fst r' z
    · rw [z]; exact hs
  · intro n a t e
    rcases get_snoc e with z | ⟨_, z⟩
    · rcases h.pts n a t z with q | ⟨q, q2⟩
      · exact .inl q
      · exact .inr ⟨q, by rw [List.length_append]; omega⟩
    · exact .inl (hp a t z.symm)
  · intro n r' e k
    rcases get_snoc e with z | ⟨_, z⟩
    · obtain ⟨n0, a, w⟩ := h.c1 n r' z k
      exact ⟨n0, a, by rw [app_lt (List.getElem?_eq_some_iff.mp w).1]; exact w⟩
    · subst z
      rcases k with rfl | ⟨t, rfl⟩ <;> cases hs
  · intro n a e
    rcases get_snoc e with z | ⟨_, z⟩
    · obtain ⟨r', w, k⟩ := h.c2 n a z
      exact ⟨r', by rw [app_lt (List.getElem?_eq_some_iff.mp w).1]; exact w, k⟩
    · exact absurd (hp a (-1) z.symm) (by decide)
theorem Rg.add2 {l : List Tx} {rows : List Row} (h : Rg l rows) {r r' : Row} (hr : RowN l r) (hs : r.seq = true) (hp : ∃ a, r = .pt a (-1)) (h2 : r' = .en ∨ ∃ t, r' = .go t) : Rg l (rows ++ [r] ++ [r']) := by
  have last : (rows ++ [r] ++ [r'])[rows.length + 1]? = some r' := by
    rw [List.getElem?_append_right (by simp)]; simp
  have mid : (rows ++ [r] ++ [r'])[rows.length]? = some r := by
    rw [app_lt (by simp), List.getElem?_append_right (Nat.le_refl _), Nat.sub_self]; rfl
  have old : ∀ n, n < rows.length → (rows ++ [r] ++ [r'])[n]? = rows[n]? := fun n hn => by
    rw [app_lt (by rw [List.length_append]; omega), app_lt hn]
  refine ⟨?_, ?_, ?_, ?_, ?_⟩
  · intro x hx
    rcases List.mem_append.mp hx with z | z
    · rcases List.mem_append.mp z with z | z
      · exact h.nm x z
      · rw [List.mem_singleton.mp z]; exact hr
    · rw [List.mem_singleton.mp z]
      rcases h2 with rfl | ⟨t, rfl⟩ <;> trivial
  · intro x e
    rcases get_snoc e with z | ⟨z, _⟩
    · rcases get_snoc z with z | ⟨_, z⟩
      · exact h.fst x z
      · rw [z]; exact hs
    · simp at z
  · intro n a t e
    rcases get_snoc e with z | ⟨_, z⟩
    · rcases get_snoc z with z | ⟨zn, z⟩
      · rcases h.pts n a t z with q | ⟨q, q2⟩
        · exact .inl q
        · exact .inr ⟨q, by simp; omega⟩
      · obtain ⟨b, rfl⟩ := hp
        cases z
        exact .inr ⟨rfl, by rw [zn]; simp⟩
    · rcases h2 with rfl | ⟨t, rfl⟩ <;> cases z
  · intro n x e k
    rcases get_snoc e with z | ⟨zn, z⟩
    · rcases get_snoc z with z | ⟨zn, z⟩
      · obtain ⟨n0, a, w⟩ := h.c1 n x z k
        exact ⟨n0, a, by rw [old _ (List.getElem?_eq_some_iff.mp w).1]; exact w⟩
      · subst z
        obtain ⟨b, rfl⟩ := hp
        rcases k with k | ⟨t, k⟩ <;> cases k
    · rw [List.length_append, List.length_singleton] at zn
      obtain ⟨b, rfl⟩ := hp
      exact ⟨by omega, b, by rw [zn, Nat.add_sub_cancel]; exact mid⟩
  · intro n a e
    rcases get_snoc e with z | ⟨_, z⟩
    · rcases get_snoc z with z | ⟨zn, z⟩
      · obtain ⟨x, w, k⟩ := h.c2 n a z
        exact ⟨x, by rw [old _ (List.getElem?_eq_some_iff.mp w).1]; exact w, k⟩
      · exact ⟨r', by rw [zn]; exact last, h2⟩
    · rcases h2 with rfl | ⟨t, rfl⟩ <;> cases z
structure Rgh (l : List Tx) (rows : List Row) : Prop where
  nm : ∀ r ∈ rows, RowN l r
  fst : ∀ t, rows[0]? ≠ some (.go t)
  pts : ∀ n a t, rows[n]? = some (.pt a t) → 0 ≤ t ∨ (t = -1 ∧ n + 2 < rows.length)
  lst : ∃ q r, rows = q ++ [r] ∧ (r = .en ∨ ∃ t, r = .go t)
  sq : 1 < rows.length → ∀ r, rows[0]? = some r → r.seq = true
  c1 : ∀ n r, n + 1 < rows.length → rows[n]? = some r → (r = .en ∨ ∃ t, r = .go t) → n ≠ 0 ∧ ∃ a, rows[n - 1]? = some (.pt a (-1))
  c2 : ∀ n a, rows[n]? = some (.pt a (-1)) → ∃ r, rows[n + 1]? = some r ∧ (r = .en ∨ ∃ t, r = .go t)
  ls2 : rows[rows.length - 1]? = some .en ∨ ∃ (t : Int) (z : Nat), rows[rows.length - 1]? = some (.go t) ∧ 0 ≤ t ∧ t < (z : Int) ∧ z + 1 < rows.length ∧ rows[z]? = some .en ∧ ∀ m, m < z → rows[m]? ≠ some .en
theorem Rg.last {l : List Tx} {rows : List Row} (h : Rg l rows) {r : Row} (hr : r = .en ∨ (rows ≠ [] ∧ ∃ (t : Int) (z : Nat), r = .go t ∧ 0 ≤ t ∧ t < (z : Int) ∧ rows[z]? = some .en ∧ ∀ m, m < z → rows[m]? ≠ some .en)) : Rgh l (rows ++ [r]) := by
  have lastAt : (rows ++ [r])[(rows ++ [r]).length - 1]? = some r := by simp
  refine ⟨?_, ?_, ?_, ⟨rows, r, rfl, hr.imp id fun z => by obtain ⟨_, t, _, e, _⟩ := z; exact ⟨t, e⟩⟩, ?_, ?_, ?_, ?_⟩
  · intro x hx
    rcases List.mem_append.mp hx with z | z
    · exact h.nm x z
    · rw [List.mem_singleton.mp z]
      rcases hr with rfl | ⟨_, t, _, rfl, _⟩ <;> trivial
  · intro t e
    rcases get_snoc e with z | ⟨z, z2⟩
    · exact absurd (h.fst _ z) (by simp [Row.seq])
    · rcases hr with rfl | ⟨q, t, _, rfl, _⟩
      · cases z2
      · exact q (List.length_eq_zero_iff.mp z.symm)
  · intro n a t e
    rcases get_snoc e with z | ⟨_, z⟩
    · rcases h.pts n a t z with q | ⟨q, q2⟩
      · exact .inl q
      · exact .inr ⟨q, by simp; omega⟩
    · rcases hr with rfl | ⟨_, t, _, rfl, _⟩ <;> cases z
  · intro hl x e
    rw [List.length_append, List.length_singleton] at hl
    rw [app_lt (by omega)] at e
    exact h.fst x e
  · intro n x hn e k
    rw [List.length_append, List.length_singleton] at hn
    rw [app_lt (by omega)] at e
    obtain ⟨n0, a, w⟩ := h.c1 n x e k
    exact ⟨n0, a, by rw [app_lt (by omega)]; exact w⟩
  · intro n a e
    rcases get_snoc e with z | ⟨_, z⟩
    · obtain ⟨x, w, k⟩ := h.c2 n a z
      exact ⟨x, by rw [app_lt (List.getElem?_eq_some_iff.mp w).1]; exact w, k⟩
    · rcases hr with rfl | ⟨_, t, _, rfl, _⟩ <;> cases z
  · rcases hr with rfl | ⟨_, t, z, rfl, t0, tz, ez, no⟩
    · exact .inl lastAt
    · have zl := (List.getElem?_eq_some_iff.mp ez).1
      exact .inr ⟨t, z, lastAt, t0, tz, by rw [List.length_append, List.length_singleton]; omega, by rw [app_lt zl]; exact ez, fun m hm => by rw [app_lt (by omega)]; exact no m hm⟩
theorem rough_ok {ns : List Int} (C : Nat) (cells : List Int) (S : Store) (h : S[0]? = some (.fls (ns.map .int))) (hC : S[C]? = some (.lst (cells.map .int))) (hc : cells.length ≤ 60) : ∃ (l : List Tx) (rows : List Row) (m : Nat) (S' : Store), m_law_rough [.ref 0, .ref C] S = .ok (.ref m) S' ∧ Pre S S' ∧ S'[m]? = some (.lst (rows.map Row.d)) ∧ Rgh l rows ∧ rows.length ≤ 121 ∧ (∀ t ∈ l, Nm t) ∧ 3 ≤ l.length ∧ l.length ≤ 5 := by
  obtain ⟨c0, ec⟩ := cell_ok h 0
  have ec' : m_law_cell [.ref 0, .int 0] S = .ok (.int c0) S := ec
  obtain ⟨l, N, S1, en, p1, hN1, gN, hl3, hl5, hnm⟩ := names_ok c0 S
  obtain ⟨ds, M, S2, ed, p2, hM2, gM, d0, d12, dk⟩ := deeds_ok N S1 l (p1.get h) gN (by omega)
  have gN2 := p2.get gN
  have hS2 := (p1.trans p2)
  have h2 := hS2.get h
  have hC2 := hS2.get hC
  have key := loop_inv (hs := [(C, cells.map D.int)]) (turn := turnM (gTup 2 (gCons (gName 5) (gCons (gName 6) gNil))) l_law_rough_1)
    (fun i fr S' => ∃ (k5 k6 k7 : Option D) (rows : List Row), fr = [some (.ref 0), some (.ref C), some (.ref N), some (.ref M), some (.ref S2.length), k5, k6, k7] ∧ Pre S2 S' ∧ S'[S2.length]? = some (.lst (rows.map Row.d)) ∧ Rg l rows ∧ rows.length ≤ 2 * i)
    (prs 0 (cells.map D.int)) 0 [some (.ref 0), some (.ref C), some (.ref N), some (.ref M), some (.ref S2.length), none, none, none] (S2 ++ [.lst []])
    ⟨none, none, none, [], rfl, Pre.app _ _, app_new _ _ _, ⟨by simp, by simp, by simp, by simp, by simp⟩, Nat.le_refl _⟩
    (by
      rintro i fr S' ⟨k5, k6, k7, rows, rfl, pr, g, _⟩
      exact stands_one (lst_of (pr.get hC2)))
    (by
      rintro i d fr S' hd ⟨k5, k6, k7, rows, rfl, pr, g, rg, hrl⟩
      obtain ⟨x, hx, rfl⟩ := prs_at hd
      rw [List.getElem?_map] at hx
      obtain ⟨c, hn, rfl⟩ := Option.map_eq_some_iff.mp hx
      have hi : i < cells.length := (List.getElem?_eq_some_iff.mp hn).1
      rw [show 0 + i = i by omega] at *
      obtain ⟨o, eo, _⟩ := mixed_ok c i S'
      obtain ⟨r, S3, er, p3, hr, hs, hp, hp9⟩ := row_ok c o N M S' l ds (pr.get gN2) (pr.get gM) (by omega) d0 dk
      have g3 := p3.get g
      have hl1 : rows.length < 16777216 := by omega
      have hl2 : rows.length + 1 < 16777216 := by omega
      have gs : ∀ X, (S3.set S2.length X)[S2.length]? = some X := fun X => set_get g3
      have pS := fun X => (pr.trans p3).set (x := X) (Nat.le_refl S2.length)
      have d720 : divOk 720 := div_ok (by decide) (by decide)
      by_cases h9 : c % 11 = 9
      · refine ⟨_, S3.set S2.length (.lst ((rows ++ [r] ++ [Row.en]).map Row.d)), .inl (by simp [turnM_s, l_law_rough_1, eo, er, g, g3, hl1, hl2, LINE, h9, gs, d_en]; exact ⟨rfl, rfl, rfl⟩), _, _, _, rows ++ [r] ++ [Row.en], rfl, pS _, gs _, rg.add2 hr hs (hp9 (by omega)) (.inl rfl), by simp; omega⟩
      · by_cases h10 : c % 11 = 10
        · refine ⟨_, S3.set S2.length (.lst ((rows ++ [r] ++ [Row.go (o / 720 % 60)]).map Row.d)), .inl (by simp [turnM_s, l_law_rough_1, eo, er, g, g3, hl1, hl2, LINE, h10, gs, d_go, d720]; exact ⟨rfl, rfl, rfl⟩), _, _, _, rows ++ [r] ++ [Row.go (o / 720 % 60)], rfl, pS _, gs _, rg.add2 hr hs (hp9 (by omega)) (.inr ⟨_, rfl⟩), by simp; omega⟩
        · have hp0 : ∀ a t, r = .pt a t → 0 ≤ t := fun a t e => by
            rcases (hp a t e).2 with ⟨_, z⟩ | ⟨z, _⟩
            · exact z
            · omega
          refine ⟨_, S3.set S2.length (.lst ((rows ++ [r]).map Row.d)), .inl (by simp [turnM_s, l_law_rough_1, eo, er, g, g3, hl1, hl2, LINE, h9, h10, gs]; exact ⟨rfl, rfl, rfl⟩), _, _, _, rows ++ [r], rfl, pS _, gs _, rg.add hr hs hp0, by simp; omega⟩)
  obtain ⟨fr', S', e, k5, k6, k7, rows, rfl, pr, g, rg, hrl⟩ := key
  rw [prs_len, List.length_map, Nat.zero_add] at hrl
  obtain ⟨c58, S4, e58, p4⟩ := number_ok (pr.get h2) 58
  have e58' : m_law_number [.ref 0, .int 58] S' = .ok (.int c58) S4 := e58
  obtain ⟨r, S5, el, p5, hr⟩ := last_ok S2.length c58 rows S4 (p4.get g) (fun z => by have := rg.fst _ z; simp [Row.seq] at this) (by omega)
  have g5 := p5.get (p4.get g)
  refine ⟨l, rows ++ [r], S5.length + 1, S5 ++ [.lst [r.d], .lst ((rows ++ [r]).map Row.d)], ?_, (((hS2.trans pr).trans p4).trans p5).trans (Pre.app _ _), by simp [get_app], rg.last hr, by simp; omega, hnm, hl3, hl5⟩
  have hl : rows.length + 1 ≤ 16777216 := by omega
  simp [m_law_rough, b_law_rough, ec', en, ed, LINE, app_get hC2]
  rw [e]
  simp [e58', el, LINE, get_app, g5, hl]
/-! ### good programs -/
def NoNx (rows : List Row) : Prop := ∀ (n : Nat) (a : Ky) (t : Int), rows[n]? = some (.pt a t) → t ≠ (n : Int) + 1
structure Gd (l : List Tx) (rows : List Row) : Prop where
  nm : ∀ r ∈ rows, RowN l r
  lst : ∃ q r, rows = q ++ [r] ∧ (r = .en ∨ ∃ t, r = .go t)
  go : ∀ (n : Nat) (t : Int), rows[n]? = some (.go t) → 0 ≤ t ∧ t < rows.length
  pt : ∀ (n : Nat) (a : Ky) (t : Int), rows[n]? = some (.pt a t) → 0 ≤ t ∧ t < rows.length
  nn : NoNx rows
theorem Gd.pos {l : List Tx} {rows : List Row} (h : Gd l rows) : 0 < rows.length := by
  obtain ⟨q, r, rfl, _⟩ := h.lst
  simp
theorem Gd.nx {l : List Tx} {rows : List Row} (h : Gd l rows) {n : Nat} {r : Row} (e : rows[n]? = some r) (ne : r ≠ .en) (ng : ∀ t, r ≠ .go t) : n + 1 < rows.length := by
  obtain ⟨q, z, rfl, hz⟩ := h.lst
  rcases get_snoc e with k | ⟨_, k⟩
  · have := (List.getElem?_eq_some_iff.mp k).1
    rw [List.length_append, List.length_singleton]; omega
  · subst k
    rcases hz with k | ⟨t, k⟩
    · exact absurd k ne
    · exact absurd k (ng t)
theorem Gd.fol_in {l : List Tx} {rows : List Row} (h : Gd l rows) {n : Nat} {r : Row} {m : Int} (e : rows[n]? = some r) (f : m ∈ fol n r) : 0 ≤ m ∧ m < rows.length := by
  cases r with
  | go t => have := h.go n t e; simp only [fol, List.mem_singleton] at f; omega
  | pt a t =>
    have := h.pt n a t e
    have := h.nx e (by simp) (by simp)
    simp only [fol, List.mem_cons, List.not_mem_nil, or_false] at f
    rcases f with f | f <;> omega
  | en => cases f
  | rk _ _ _ _ => have := h.nx e (by simp) (by simp); simp only [fol, List.mem_singleton] at f; omega
  | cp _ _ => have := h.nx e (by simp) (by simp); simp only [fol, List.mem_singleton] at f; omega
  | sy _ => have := h.nx e (by simp) (by simp); simp only [fol, List.mem_singleton] at f; omega
theorem Gd.set {l : List Tx} {rows : List Row} (h : Gd l rows) {i : Nat} (hi : i + 1 < rows.length) {r : Row} (hr : RowN l r) (hg : ∀ t, r = .go t → 0 ≤ t ∧ t < rows.length) (hp : ∀ a t, r = .pt a t → 0 ≤ t ∧ t < rows.length ∧ t ≠ (i : Int) + 1) : Gd l (rows.set i r) := by
  have inv : ∀ (n : Nat) (x : Row), (rows.set i r)[n]? = some x → rows[n]? = some x ∨ x = r := fun n x e => by
    rw [List.getElem?_set] at e
    split at e
    · split at e
      · exact .inr (Option.some.inj e).symm
      · cases e
    · exact .inl e
  have nox : NoNx (rows.set i r) := by
    intro n a t e
    rw [List.getElem?_set] at e
    split at e
    · rename_i hni
      split at e
      · have := hp a t (Option.some.inj e)
        omega
      · cases e
    · exact h.nn n a t e
  refine ⟨?_, ?_, ?_, ?_, ?_⟩
  · intro x hx
    rcases List.mem_or_eq_of_mem_set hx with z | z
    · exact h.nm x z
    · exact z ▸ hr
  · obtain ⟨q, z, rfl, hz⟩ := h.lst
    rw [List.length_append, List.length_singleton] at hi
    exact ⟨q.set i r, z, by rw [List.set_append_left _ _ (by omega)], hz⟩
  · intro n t e
    rw [List.length_set]
    rcases inv n _ e with z | z
    · exact h.go n t z
    · exact hg t z.symm
  · intro n a t e
    rw [List.length_set]
    rcases inv n _ e with z | z
    · exact h.pt n a t z
    · have := hp a t z.symm; omega
  · exact nox
/-- the last one made an end -/
theorem Gd.endLast {l : List Tx} {rows : List Row} (h : Gd l rows) : Gd l (rows.set (rows.length - 1) .en) := by
  have inv : ∀ (n : Nat) (x : Row), (rows.set (rows.length - 1) .en)[n]? = some x → rows[n]? = some x ∨ x = .en := fun n x e => by
    rw [List.getElem?_set] at e
    split at e
    · split at e
      · exact .inr (Option.some.inj e).symm
      · cases e
    · exact .inl e
  refine ⟨?_, ?_, ?_, ?_, ?_⟩
  · intro x hx
    rcases List.mem_or_eq_of_mem_set hx with z | z
    · exact h.nm x z
    · rw [z]; trivial
  · obtain ⟨q, z, rfl, hz⟩ := h.lst
    exact ⟨q, .en, by rw [List.length_append, List.length_singleton, Nat.add_sub_cancel, List.set_append_right _ _ (Nat.le_refl _), Nat.sub_self, List.set_cons_zero], .inl rfl⟩
  · intro n t e
    rw [List.length_set]
    rcases inv n _ e with z | z
    · exact h.go n t z
    · cases z
  · intro n a t e
    rw [List.length_set]
    rcases inv n _ e with z | z
    · exact h.pt n a t z
    · cases z
  · intro n a t e
    rcases inv n _ e with z | z
    · exact h.nn n a t z
    · cases z
end Lk34
set_option Elab.async false
set_option linter.all false
set_option maxHeartbeats 1000000
namespace Lk34
open Mi
/-! ### an if and else, a while -/
def flatR : Row → Bool
  | .rk _ _ _ _ => true
  | .cp _ _ => true
  | .sy _ => true
  | _ => false
def flatAt (rows : List Row) (i : Nat) : Bool := match rows[i]? with
  | some r => flatR r
  | none => false
theorem flat_in {rows : List Row} {i : Nat} (h : flatAt rows i = true) : ∃ r, rows[i]? = some r ∧ flatR r = true := by
  unfold flatAt at h
  split at h
  · rename_i r e; exact ⟨r, e, h⟩
  · cases h
theorem flat_one {l : List Tx} {r : Row} (h : RowN l r) (f : flatR r = true) : ∃ k, atI (match r.d with | .tup d => d | _ => []) 1 = some (kyD k) ∧ Opd l k := by
  cases r with
  | rk n s a b => exact ⟨.inr n, rfl, .inl ⟨n, h.1, rfl⟩⟩
  | cp n a => exact ⟨.inr n, rfl, .inl ⟨n, h.1, rfl⟩⟩
  | sy a => exact ⟨a, rfl, h⟩
  | _ => cases f
/-- the second thing of a flat row, by its place -/
theorem flat_ix {l : List Tx} {rows : List Row} (gd : Gd l rows) {i : Nat} (h : flatAt rows i = true) : ∃ (d : List D) (k : Ky), atI (rows.map Row.d) (i : Int) = some (.tup d) ∧ atI d 1 = some (kyD k) ∧ Opd l k ∧ i + 1 < rows.length := by
  obtain ⟨r, e, f⟩ := flat_in h
  obtain ⟨k, q, o⟩ := flat_one (gd.nm r (List.mem_of_getElem? e)) f
  have hn : i + 1 < rows.length := gd.nx e (by intro z; subst z; cases f) (by intro t z; subst z; cases f)
  refine ⟨r.ks.map kyD, k, at_of (by rw [List.getElem?_map, e]; rfl), q, o, hn⟩
theorem flat_test (rows : List Row) {i : Nat} {r : Row} (e : rows[i]? = some r) (S : Store) (a : D) (d : List D) (hd : r.d = .tup d) (ha : atI d 0 = some a) : inSeq a [.str w_rk, .str w_cp, .str w_sy] S = some (flatAt rows i) := by
  have hf : flatAt rows i = flatR r := by unfold flatAt; rw [e]
  rw [hf]
  cases r <;> (simp [d_rk, d_cp, d_sy, d_go, d_pt, d_en] at hd; subst hd; simp at ha; subst ha; simp [flatR])
theorem ofI_map (L : List Nat) : L.map (fun k => D.int ((k : Nat) : Int)) = (L.map fun k => ((k : Nat) : Int)).map .int := by rw [List.map_map]; rfl
theorem at_nats {L : List Nat} {c : Int} (h : 0 ≤ c ∧ c < (L.length : Int)) : ∃ k, atI (L.map (fun k => D.int ((k : Nat) : Int))) c = some (.int ((k : Nat) : Int)) ∧ L[c.toNat]? = some k := by
  have hl : c.toNat < L.length := by omega
  exact ⟨L[c.toNat], at_nat h.1 (by rw [List.getElem?_map, List.getElem?_eq_getElem hl]; rfl), List.getElem?_eq_getElem hl⟩
theorem row_tup (r : Row) : r.d = .tup (r.ks.map kyD) := rfl
theorem row_at0 (r : Row) : ∃ w, atI (r.ks.map kyD) 0 = some (.str w) ∧ (w = w_go ↔ ∃ t, r = .go t) ∧ (w = w_en ↔ r = .en) := by
  cases r <;> exact ⟨_, rfl, by simp, by simp⟩
theorem rows_at {rows : List Row} {i : Nat} (h : i < rows.length) : ∃ r, rows[i]? = some r ∧ atI (rows.map Row.d) (i : Int) = some r.d := ⟨rows[i], List.getElem?_eq_getElem h, at_of (by rw [List.getElem?_map, List.getElem?_eq_getElem h]; rfl)⟩
/-! ### rows along a line: each comes to an end -/
structure Ln (rows : List Row) (st : Nat → Prop) : Prop where
  pos : 0 < rows.length
  st0 : st 0
  stN : st (rows.length - 1)
  nx : ∀ (n : Nat) (r : Row), st n → n + 1 < rows.length → rows[n]? = some r → ((n : Int) + 1 ∈ fol n r) ∧ (st (n + 1) ∨ (n + 2 < rows.length ∧ st (n + 2) ∧ ¬ st (n + 1) ∧ ∃ a, r = .pt a ((n : Int) + 2)))
  com : ∀ (n : Nat) (r : Row), ¬ st n → rows[n]? = some r → r = .en ∨ ∃ t : Nat, r = .go (t : Int) ∧ t < rows.length ∧ (st t ∨ rows[t]? = some .en)
  lst : rows[rows.length - 1]? = some .en ∨ ∃ (k e : Nat), rows[rows.length - 1]? = some (.go (k : Int)) ∧ st k ∧ k < e ∧ e < rows.length ∧ rows[e]? = some .en ∧ ¬ st e ∧ 1 ≤ e ∧ st (e - 1)
section
variable {rows rows2 : List Row} {st : Nat → Prop}
theorem Ln.fw (L : Ln rows st) {b : Nat} (hb : b < rows.length) (sb : st b) (e : Ends rows2 b) : ∀ (d a : Nat), a + d = b → st a → (∀ n, a ≤ n → n < b → st n → rows2[n]? = rows[n]? ∨ (st (n + 1) ∧ ∃ q t, rows2[n]? = some (.pt q t))) → Ends rows2 a := by
  intro d
  induction d using Nat.strongRecOn with
  | ind d ih =>
    intro a hd sa same
    by_cases h0 : d = 0
    · have : a = b := by omega
      rw [this]; exact e
    · have hr : rows[a]? = some rows[a] := List.getElem?_eq_getElem (by omega)
      generalize rows[a] = r at hr
      obtain ⟨h1, h2⟩ := L.nx a r sa (by omega) hr
      rcases same a (Nat.le_refl _) (by omega) sa with z | ⟨s1, q, t, z⟩
      · rw [hr] at z
        rcases h2 with s1 | ⟨l2, s2, n1, q, rfl⟩
        · have := ih (d - 1) (by omega) (a + 1) (by omega) s1 fun n x y => same n (by omega) y
          exact .step (i := a + 1) z (by rw [Int.natCast_succ]; exact h1) this
        · have hne : b ≠ a + 1 := fun w => n1 (w ▸ sb)
          have := ih (d - 2) (by omega) (a + 2) (by omega) s2 fun n x y => same n (by omega) y
          exact .step (i := a + 2) z (by simp [fol]) this
      · have := ih (d - 1) (by omega) (a + 1) (by omega) s1 fun n x y => same n (by omega) y
        exact .step (i := a + 1) z (by simp [fol]) this
theorem Ln.coms (L : Ln rows st) (h : ∀ n, n < rows.length → st n → Ends rows2 n) (same : ∀ n, ¬ st n → rows2[n]? = rows[n]?) : ∀ n, n < rows.length → Ends rows2 n := fun n hn => by
  by_cases s : st n
  · exact h n hn s
  · have hr : rows[n]? = some rows[n] := List.getElem?_eq_getElem hn
    generalize rows[n] = r at hr
    have z := same n s
    rw [hr] at z
    rcases L.com n r s hr with rfl | ⟨t, rfl, ht, e⟩
    · exact .en z
    · refine .step (i := t) z (List.mem_singleton.mpr rfl) ?_
      by_cases s2 : st t
      · exact h t ht s2
      · rcases e with e | e
        · exact absurd e s2
        · exact .en (by rw [same t s2]; exact e)
theorem Ln.ends (L : Ln rows st) : ∀ n, n < rows.length → Ends rows n := by
  have pos := L.pos
  have eN : Ends rows (rows.length - 1) := by
    rcases L.lst with z | ⟨k, e, z, sk, hke, he, ee, ne, e1, se⟩
    · exact .en z
    · have hr : rows[e - 1]? = some rows[e - 1] := List.getElem?_eq_getElem (by omega)
      obtain ⟨h1, _⟩ := L.nx (e - 1) _ se (by omega) hr
      have ee1 : Ends rows (e - 1) := .step (i := e) hr (by rw [show ((e : Nat) : Int) = ((e - 1 : Nat) : Int) + 1 by omega]; exact h1) (.en ee)
      have : Ends rows k := L.fw (by omega) se ee1 (e - 1 - k) k (by omega) sk fun n _ _ _ => .inl rfl
      exact .step (i := k) z (List.mem_singleton.mpr rfl) this
  exact L.coms (fun n hn sn => L.fw (by omega) L.stN eN (rows.length - 1 - n) n (by omega) sn fun _ _ _ _ => .inl rfl) fun _ _ => rfl
theorem Ln.flat (L : Ln rows st) {n : Nat} (h : flatAt rows n = true) (hn : n + 1 < rows.length) : st n ∧ st (n + 1) ∧ (∀ q t, rows[n]? ≠ some (.pt q t)) ∧ rows[n]? ≠ some .en ∧ ∀ t, rows[n]? ≠ some (.go t) := by
  obtain ⟨r, hr, f⟩ := flat_in h
  have np : ∀ q t, rows[n]? ≠ some (.pt q t) := fun q t z => by rw [hr] at z; obtain rfl := Option.some.inj z; cases f
  have ne : rows[n]? ≠ some .en := fun z => by rw [hr] at z; obtain rfl := Option.some.inj z; cases f
  have ng : ∀ t, rows[n]? ≠ some (.go t) := fun t z => by rw [hr] at z; obtain rfl := Option.some.inj z; cases f
  have sn : st n := Classical.byContradiction fun s => by
    rcases L.com n r s hr with rfl | ⟨t, rfl, _⟩
    · exact ne hr
    · exact ng _ hr
  refine ⟨sn, ?_, np, ne, ng⟩
  rcases (L.nx n r sn hn hr).2 with z | ⟨_, _, _, q, rfl⟩
  · exact z
  · exact absurd hr (np _ _)
/-- with an if and else -/
theorem Ln.els (L : Ln rows st) {a b t : Nat} {ka : Ky} (fa : flatAt rows a = true) (fb : flatAt rows b = true) (hab : a < b) (hb1 : b + 1 < rows.length) (ht : t < rows.length) (hto : t ≤ a ∨ b < t) (hgo : ∀ z, rows[t]? ≠ some (.go z)) (hla : (∃ k, rows[rows.length - 1]? = some (.go k)) → t ≤ a) :
    ∀ n, n < rows.length → Ends ((rows.set a (.pt ka ((b : Int) + 1))).set b (.go (t : Int))) n := by
  have pos := L.pos
  obtain ⟨sa, sa1, npa, nea, nga⟩ := L.flat fa (by omega)
  obtain ⟨sb, sb1, npb, neb, ngb⟩ := L.flat fb hb1
  obtain ⟨R2, hR2⟩ : ∃ R2, (rows.set a (.pt ka ((b : Int) + 1))).set b (.go (t : Int)) = R2 := ⟨_, rfl⟩
  rw [hR2]
  have at_ : ∀ n, n ≠ a → n ≠ b → R2[n]? = rows[n]? := fun n h1 h2 => by rw [← hR2, List.getElem?_set_ne (Ne.symm h2), List.getElem?_set_ne (Ne.symm h1)]
  have atA : R2[a]? = some (.pt ka ((b : Int) + 1)) := by rw [← hR2, List.getElem?_set_ne (by omega), List.getElem?_set_self (by omega)]
  have atB : R2[b]? = some (.go (t : Int)) := by rw [← hR2, List.getElem?_set_self (by rw [List.length_set]; omega)]
  have same : ∀ n, n ≠ b → st n → R2[n]? = rows[n]? ∨ (st (n + 1) ∧ ∃ q t, R2[n]? = some (.pt q t)) := fun n hn _ => by
    by_cases h : n = a
    · rw [h]; exact .inr ⟨sa1, _, _, atA⟩
    · exact .inl (at_ n h hn)
  have sameC : ∀ n, ¬ st n → R2[n]? = rows[n]? := fun n hn => at_ n (fun z => hn (z ▸ sa)) fun z => hn (z ▸ sb)
  have fw : ∀ {x : Nat}, x < rows.length → st x → Ends R2 x → ∀ n, n ≤ x → st n → (x ≤ b ∨ b < n) → Ends R2 n := fun {x} hx sx ex n hn sn hb => L.fw hx sx ex (x - n) n (by omega) sn fun m h1 h2 s => same m (by omega) s
  have eT : (st t → Ends R2 t) → Ends R2 t := fun h => by
    by_cases s : st t
    · exact h s
    · have hr : rows[t]? = some rows[t] := List.getElem?_eq_getElem ht
      generalize rows[t] = r at hr
      rcases L.com t r s hr with rfl | ⟨z, rfl, _⟩
      · exact .en (by rw [sameC t s]; exact hr)
      · exact absurd hr (hgo _)
  have eB : Ends R2 t → Ends R2 b := fun h => .step (i := t) atB (List.mem_singleton.mpr rfl) h
  have eA : Ends R2 (b + 1) → Ends R2 a := fun h => .step (i := b + 1) atA (by simp [fol]) h
  refine L.coms (fun n hn sn => ?_) sameC
  have nN : rows.length - 1 ≠ a ∧ rows.length - 1 ≠ b := by omega
  have atN := at_ _ nN.1 nN.2
  -- once the last row and the rows behind b are settled
  have fin : Ends R2 (rows.length - 1) → Ends R2 n := fun eN => by
    have hi : ∀ m, b < m → m < rows.length → st m → Ends R2 m := fun m h1 h2 s => fw (by omega) L.stN eN m (by omega) s (.inr h1)
    have lo : ∀ m, m ≤ a → st m → Ends R2 m := fun m h1 s => fw (by omega) sa (eA (hi (b + 1) (by omega) hb1 sb1)) m h1 s (.inl (by omega))
    have et : Ends R2 t := eT fun s => hto.elim (fun h => lo t h s) fun h => hi t h ht s
    by_cases h1 : n ≤ a
    · exact lo n h1 sn
    · by_cases h2 : b < n
      · exact hi n h2 hn sn
      · exact fw (by omega) sb (eB et) n (by omega) sn (.inl (Nat.le_refl _))
  rcases L.lst with z | ⟨k, e, z, sk, hke, he, ee, ne, e1, se⟩
  · exact fin (.en (by rw [atN]; exact z))
  · have tA := hla ⟨_, z⟩
    have eN : Ends R2 k → Ends R2 (rows.length - 1) := fun h => .step (i := k) (by rw [atN]; exact z) (List.mem_singleton.mpr rfl) h
    refine fin (eN ?_)
    have hr : rows[e - 1]? = some rows[e - 1] := List.getElem?_eq_getElem (by omega)
    generalize rows[e - 1] = r at hr
    obtain ⟨h1, h2⟩ := L.nx (e - 1) r se (by omega) hr
    have rp : ∃ q t, rows[e - 1]? = some (.pt q t) := by
      rcases h2 with w | ⟨_, _, _, q, rfl⟩
      · rw [show e - 1 + 1 = e by omega] at w
        exact absurd w ne
      · exact ⟨_, _, hr⟩
    have nab : e - 1 ≠ a ∧ e - 1 ≠ b := by
      obtain ⟨q, w, h⟩ := rp
      exact ⟨fun y => npa _ _ (by rw [← y]; exact h), fun y => npb _ _ (by rw [← y]; exact h)⟩
    have ee1 : Ends R2 (e - 1) := .step (i := e) (by rw [at_ _ nab.1 nab.2]; exact hr) (by rw [show ((e : Nat) : Int) = ((e - 1 : Nat) : Int) + 1 by omega]; exact h1) (.en (by rw [sameC e ne]; exact ee))
    have hk : k ≤ e - 1 := by omega
    by_cases hb : b < e - 1
    · have hi : ∀ m, b < m → m ≤ e - 1 → st m → Ends R2 m := fun m h1 h2 s => fw (by omega) se ee1 m h2 s (.inr h1)
      have lo : ∀ m, m ≤ a → st m → Ends R2 m := fun m h1 s => fw (by omega) sa (eA (hi (b + 1) (by omega) (by omega) sb1)) m h1 s (.inl (by omega))
      by_cases h1 : k ≤ a
      · exact lo k h1 sk
      · by_cases h2 : b < k
        · exact hi k h2 hk sk
        · exact fw (by omega) sb (eB (eT fun s => lo t tA s)) k (by omega) sk (.inl (Nat.le_refl _))
    · exact fw (by omega) se ee1 k hk sk (.inl (by omega))
/-- with a while -/
theorem Ln.whl (L : Ln rows st) {b : Nat} {kb : Ky} (f0 : flatAt rows 0 = true) (fb : flatAt rows b = true) (hb2 : 2 ≤ b) (hb1 : b + 1 < rows.length) : ∀ n, n < rows.length → Ends ((rows.set b (.pt kb 1)).set 0 (.go (b : Int))) n := by
  have pos := L.pos
  obtain ⟨s0, s1, np0, ne0, ng0⟩ := L.flat f0 (by omega)
  obtain ⟨sb, sb1, npb, neb, ngb⟩ := L.flat fb hb1
  obtain ⟨R2, hR2⟩ : ∃ R2, (rows.set b (.pt kb 1)).set 0 (.go (b : Int)) = R2 := ⟨_, rfl⟩
  rw [hR2]
  have at_ : ∀ n, n ≠ 0 → n ≠ b → R2[n]? = rows[n]? := fun n h1 h2 => by rw [← hR2, List.getElem?_set_ne (Ne.symm h1), List.getElem?_set_ne (Ne.symm h2)]
  have atB : R2[b]? = some (.pt kb 1) := by rw [← hR2, List.getElem?_set_ne (by omega), List.getElem?_set_self (by omega)]
  have at0 : R2[0]? = some (.go (b : Int)) := by rw [← hR2, List.getElem?_set_self (by rw [List.length_set]; omega)]
  have same : ∀ n, n ≠ 0 → st n → R2[n]? = rows[n]? ∨ (st (n + 1) ∧ ∃ q t, R2[n]? = some (.pt q t)) := fun n hn _ => by
    by_cases h : n = b
    · rw [h]; exact .inr ⟨sb1, _, _, atB⟩
    · exact .inl (at_ n hn h)
  have sameC : ∀ n, ¬ st n → R2[n]? = rows[n]? := fun n hn => at_ n (fun z => hn (z ▸ s0)) fun z => hn (z ▸ sb)
  have fw : ∀ {x : Nat}, x < rows.length → st x → Ends R2 x → ∀ n, n ≤ x → st n → 0 < n → Ends R2 n := fun {x} hx sx ex n hn sn h0 => L.fw hx sx ex (x - n) n (by omega) sn fun m h1 h2 s => same m (by omega) s
  have e0 : Ends R2 b → Ends R2 0 := fun h => .step (i := b) at0 (List.mem_singleton.mpr rfl) h
  refine L.coms (fun n hn sn => ?_) sameC
  have atN := at_ (rows.length - 1) (by omega) (by omega)
  have fin : Ends R2 (rows.length - 1) → Ends R2 n := fun eN => by
    have hi : ∀ m, 0 < m → m < rows.length → st m → Ends R2 m := fun m h1 h2 s => fw (by omega) L.stN eN m (by omega) s h1
    by_cases h : n = 0
    · rw [h]; exact e0 (hi b (by omega) (by omega) sb)
    · exact hi n (by omega) hn sn
  rcases L.lst with z | ⟨k, e, z, sk, hke, he, ee, ne, e1, se⟩
  · exact fin (.en (by rw [atN]; exact z))
  · have eN : Ends R2 k → Ends R2 (rows.length - 1) := fun h => .step (i := k) (by rw [atN]; exact z) (List.mem_singleton.mpr rfl) h
    refine fin (eN ?_)
    have hr : rows[e - 1]? = some rows[e - 1] := List.getElem?_eq_getElem (by omega)
    generalize rows[e - 1] = r at hr
    obtain ⟨h1, h2⟩ := L.nx (e - 1) r se (by omega) hr
    have rp : ∃ q t, rows[e - 1]? = some (.pt q t) := by
      rcases h2 with w | ⟨_, _, _, q, rfl⟩
      · rw [show e - 1 + 1 = e by omega] at w
        exact absurd w ne
      · exact ⟨_, _, hr⟩
    have nab : e - 1 ≠ 0 ∧ e - 1 ≠ b := by
      obtain ⟨q, w, h⟩ := rp
      exact ⟨fun y => np0 _ _ (by rw [← y]; exact h), fun y => npb _ _ (by rw [← y]; exact h)⟩
    have ee1 : Ends R2 (e - 1) := .step (i := e) (by rw [at_ _ nab.1 nab.2]; exact hr) (by rw [show ((e : Nat) : Int) = ((e - 1 : Nat) : Int) + 1 by omega]; exact h1) (.en (by rw [sameC e ne]; exact ee))
    have lo : ∀ m, 0 < m → m ≤ e - 1 → st m → Ends R2 m := fun m h1 h2 s => fw (by omega) se ee1 m h2 s h1
    have eb : Ends R2 b := by
      by_cases h : b ≤ e - 1
      · exact lo b (by omega) h sb
      · exact .step (i := 1) atB (by simp [fol]) (lo 1 (by omega) (by omega) s1)
    by_cases h : k = 0
    · rw [h]; exact e0 eb
    · exact lo k (by omega) (by omega) sk
end
/-- what an if and else, or a while, make of rows -/
inductive WE (rows : List Row) : List Row → Prop
  | same : WE rows rows
  | els {a b t : Nat} {ka : Ky} : flatAt rows a = true → flatAt rows b = true → a < b → b + 1 < rows.length → t < rows.length → (t ≤ a ∨ b < t) → (∀ z, rows[t]? ≠ some (.go z)) → ((∃ k, rows[rows.length - 1]? = some (.go k)) → t ≤ a) → WE rows ((rows.set a (.pt ka ((b : Int) + 1))).set b (.go (t : Int)))
  | whl {b : Nat} {kb : Ky} : flatAt rows 0 = true → flatAt rows b = true → 2 ≤ b → b + 1 < rows.length → WE rows ((rows.set b (.pt kb 1)).set 0 (.go (b : Int)))
theorem Ln.we {rows rows2 : List Row} {st : Nat → Prop} (L : Ln rows st) (w : WE rows rows2) : ∀ n, n < rows.length → Ends rows2 n := by
  cases w with
  | same => exact L.ends
  | els h1 h2 h3 h4 h5 h6 h7 h8 => exact L.els h1 h2 h3 h4 h5 h6 h7 h8
  | whl h1 h2 h3 h4 => exact L.whl h1 h2 h3 h4
theorem with_while_ok (R : Nat) (c : Int) (l : List Tx) (rows : List Row) (S S0 : Store) (p0 : Pre S0 S) (hR0 : S0.length ≤ R) (hR : S[R]? = some (.lst (rows.map Row.d))) (gd : Gd l rows) (hl : rows.length ≤ 1000) : ∃ (rows' : List Row) (S' : Store), m_law_with_while [.ref R, .int c] S = .ok (.ref R) S' ∧ Pre S0 S' ∧ S'[R]? = some (.lst (rows'.map Row.d)) ∧ Gd l rows' ∧ rows'.length = rows.length ∧ WE rows rows' := by
  have fl : far (rows.length : Int) := by unfold far; omega
  have f2 : far 2 := by unfold far; omega
  obtain ⟨S1, e1, p1, g1⟩ := lc_fil (vs := [3]) (g := gName 3) (t := c_law_with_while_1) (e := e_law_with_while_2) (fr := [some (.ref R), some (.int c), none, none, none]) (l := rng 2 (rows.length - 2)) (hs := []) (S := S) (List.range (rows.length - 2)) (fun k => .int (2 + (k : Nat))) (fun k => .int (((2 + k : Nat) : Nat) : Int)) (fun k => flatAt rows (2 + k)) rfl (fun _ h => by cases h) (by rw [List.length_range]; exact Nat.le_trans (show rows.length - 2 ≤ 1000 by omega) (by decide)) (by
    intro k hk S' pr
    have hk' : 2 + k < rows.length := by have := List.mem_range.mp hk; omega
    obtain ⟨r, e, ea⟩ := rows_at hk'
    have e2 : ((2 + k : Nat) : Int) = (2 : Int) + (k : Int) := by omega
    rw [e2] at ea
    obtain ⟨w, hw, _⟩ := row_at0 r
    have ft := flat_test rows e S' _ _ (row_tup r) hw
    refine ⟨[some (.ref R), some (.int c), none, some (.int ((2 : Int) + (k : Int))), none], S', by simp [unset], ?_, Pre.refl _, fun _ => ⟨S', by simp [e_law_with_while_2], Pre.refl _⟩⟩
    simp [c_law_with_while_1, pr.get hR, ea, row_tup, hw, LINE]
    simp at ft
    simp [ft])
  have hmap : ∀ L : List Nat, L.map (fun k => D.int (((2 + k : Nat) : Nat) : Int)) = (L.map fun k => 2 + k).map fun k => D.int ((k : Nat) : Int) := fun L => by rw [List.map_map]; rfl
  rw [hmap] at g1
  have hE : ∀ i ∈ ((List.range (rows.length - 2)).filter fun k => flatAt rows (2 + k)).map fun k => 2 + k, 2 ≤ i ∧ flatAt rows i = true := by
    intro i hi
    obtain ⟨k, hk, rfl⟩ := List.mem_map.mp hi
    exact ⟨by omega, (List.mem_filter.mp hk).2⟩
  generalize ((List.range (rows.length - 2)).filter fun k => flatAt rows (2 + k)).map (fun k => 2 + k) = E at g1 hE
  have ne : (S1 ++ [O.lst []])[S1.length]? = some (.lst (([] : List Int).map .int)) := app_new _ _ _
  have q : oEq (.ref S.length) (.ref S1.length) (S1 ++ [O.lst []]) = .ok (.bl (decide (E.map (fun k => ((k : Nat) : Int)) = []))) (S1 ++ [O.lst []]) := by
    rw [oEq_g, eq_ints (lst_of (app_get (by rw [← ofI_map]; exact g1))) (lst_of ne)]; rfl
  have hR1 := p1.get hR
  have hRp := fun G => app_get (G := G) hR1
  have hp := fun G => app_get (G := G) g1
  have hpos := gd.pos
  obtain ⟨r0, e00, ea0⟩ := rows_at hpos
  have ea0 : atI (rows.map Row.d) 0 = some r0.d := ea0
  obtain ⟨w0, hw0, _⟩ := row_at0 r0
  have ft0 := flat_test rows e00 (S1 ++ [.lst []]) _ _ (row_tup r0) hw0
  simp at ft0
  have h02 : (rows.length : Int) - 2 = ((rows.length : Int) - 2) := rfl
  have tn : ((rows.length : Int) - 2).toNat = rows.length - 2 := by omega
  by_cases hem : E = []
  · refine ⟨rows, S1 ++ [.lst []], ?_, (p0.trans p1).trans (Pre.app _ _), hRp _, gd, rfl, .same⟩
    subst hem
    simp at q
    simp [m_law_with_while, b_law_with_while, hR, fl, f2, tn]
    rw [e1]
    simp [LINE, q]
  · have hem' : ¬ E.map (fun k => ((k : Nat) : Int)) = [] := by simpa using hem
    simp [hem] at q
    by_cases hf : flatAt rows 0 = true
    · have hEl : 0 < E.length := List.length_pos_iff.mpr hem
      have hc : 0 ≤ c / 4 % (E.length : Int) ∧ c / 4 % (E.length : Int) < E.length := ⟨Int.emod_nonneg _ (by omega), Int.emod_lt_of_pos _ (by omega)⟩
      obtain ⟨k, ek, ek2⟩ := at_nats hc
      obtain ⟨hk2, hkf⟩ := hE k (List.mem_of_getElem? ek2)
      obtain ⟨d, kk, ed, ed1, od, hk1⟩ := flat_ix gd hkf
      have d4 : divOk 4 := div_ok (by decide) (by decide)
      have ik : ixN rows.length (k : Int) = some k := by rw [ixN_of (by omega) (by omega)]; simp
      have i0 : ixN rows.length 0 = some 0 := by rw [ixN_of (by omega) (by omega)]; rfl
      have gd2 := (gd.set (i := k) (r := .pt kk 1) hk1 od (fun t e => by cases e) (fun a t e => by cases e; omega))
      have gd3 := gd2.set (i := 0) (r := .go k) (by rw [List.length_set]; omega) trivial (fun t e => by cases e; rw [List.length_set]; omega) (fun a t e => by cases e)
      refine ⟨(rows.set k (.pt kk 1)).set 0 (.go k), List.set (List.set (S1 ++ [O.lst []]) R (O.lst ((rows.set k (.pt kk 1)).map Row.d))) R (O.lst (((rows.set k (.pt kk 1)).set 0 (.go k)).map Row.d)), ?_, (((p0.trans p1).trans (Pre.app _ _)).set hR0).set hR0, set_get (set_get (hRp _)), gd3, by simp, .whl hf hkf hk2 hk1⟩
      have gs : ∀ X, (List.set (S1 ++ [O.lst []]) R X)[R]? = some X := fun X => set_get (o := .lst (rows.map Row.d)) (hRp _)
      simp [m_law_with_while, b_law_with_while, hR, fl, f2, tn]
      rw [e1]
      simp [LINE, q, hRp, ea0, row_tup r0, hw0, ft0, hf, hp, hEl, ek, d4, ed, ed1, ik, gs, i0, d_pt, d_go]
    · refine ⟨rows, S1 ++ [.lst []], ?_, (p0.trans p1).trans (Pre.app _ _), hRp _, gd, rfl, .same⟩
      simp at hf
      simp [m_law_with_while, b_law_with_while, hR, fl, f2, tn]
      rw [e1]
      simp [LINE, q, hRp, ea0, row_tup r0, hw0, ft0, hf]
theorem with_else_ok (R : Nat) (c : Int) (l : List Tx) (rows : List Row) (S S0 : Store) (p0 : Pre S0 S) (hR0 : S0.length ≤ R) (hR : S[R]? = some (.lst (rows.map Row.d))) (gd : Gd l rows) (hl : rows.length ≤ 1000) (h0g : 1 < rows.length → ∀ z, rows[0]? ≠ some (.go z)) : ∃ (rows' : List Row) (S' : Store), m_law_with_else [.ref R, .int c] S = .ok (.ref R) S' ∧ Pre S0 S' ∧ S'[R]? = some (.lst (rows'.map Row.d)) ∧ Gd l rows' ∧ rows'.length = rows.length ∧ WE rows rows' := by
  have fl : far (rows.length : Int) := by unfold far; omega
  obtain ⟨S1, e1, p1, g1⟩ := lc_fil (vs := [3]) (g := gName 3) (t := c_law_with_else_1) (e := e_law_with_else_2) (fr := [some (.ref R), some (.int c), none, none, none, none, none, none]) (l := rng 0 rows.length) (hs := []) (S := S) (List.range rows.length) (fun k => .int (0 + (k : Nat))) (fun k => .int ((k : Nat) : Int)) (fun k => flatAt rows k) rfl (fun _ h => by cases h) (by rw [List.length_range]; exact Nat.le_trans hl (by decide)) (by
    intro k hk S' pr
    obtain ⟨r, e, ea⟩ := rows_at (List.mem_range.mp hk)
    have e0 : (0 : Int) + (k : Int) = (k : Int) := by omega
    obtain ⟨w, hw, _⟩ := row_at0 r
    have ft := flat_test rows e S' _ _ (row_tup r) hw
    refine ⟨[some (.ref R), some (.int c), none, some (.int (k : Int)), none, none, none, none], S', by simp [unset, e0], ?_, Pre.refl _, fun _ => ⟨S', by simp [e_law_with_else_2], Pre.refl _⟩⟩
    simp [c_law_with_else_1, pr.get hR, ea, row_tup, hw, LINE]
    simp at ft
    simp [ft])
  have hE : ∀ i ∈ (List.range rows.length).filter (fun k => flatAt rows k), flatAt rows i = true := fun i hi => (List.mem_filter.mp hi).2
  have hpw : ((List.range rows.length).filter (fun k => flatAt rows k)).Pairwise (· < ·) := List.Pairwise.filter _ List.pairwise_lt_range
  have hEl : ((List.range rows.length).filter (fun k => flatAt rows k)).length ≤ rows.length := by
    have := List.length_filter_le (fun k => flatAt rows k) (List.range rows.length)
    rwa [List.length_range] at this
  generalize (List.range rows.length).filter (fun k => flatAt rows k) = E at g1 hE hpw hEl
  have hR1 := p1.get hR
  by_cases h3 : c % 4 = 3
  · obtain ⟨rows', S', e, pr, g, gd', hlen, we⟩ := with_while_ok R c l rows S1 S0 (p0.trans p1) hR0 hR1 gd hl
    refine ⟨rows', S', ?_, pr, g, gd', hlen, we⟩
    simp [m_law_with_else, b_law_with_else, hR, fl]
    rw [e1]
    simp [h3, e]
  · by_cases h2 : E.length < 2 ∨ c % 2 = 0
    · refine ⟨rows, S1, ?_, p0.trans p1, hR1, gd, rfl, .same⟩
      simp [m_law_with_else, b_law_with_else, hR, fl]
      rw [e1]
      by_cases h4 : E.length < 2
      · have h4' : (E.length : Int) < 2 := by omega
        simp [h3, g1, h4, h4']
      · have h4' : ¬ (E.length : Int) < 2 := by omega
        have h5 : c % 2 = 0 := by rcases h2 with z | z; · exact absurd z h4
                                  · exact z
        simp [h3, g1, h4, h4', h5]
    · have h4 : ¬ E.length < 2 := fun z => h2 (.inl z)
      have h4' : ¬ (E.length : Int) < 2 := by omega
      have h5 : ¬ c % 2 = 0 := fun z => h2 (.inr z)
      have hm1 : (0 : Int) < (E.length : Int) - 1 := by omega
      have hm1a : 1 < E.length := by omega
      have hm1b : (1 : Int) < (E.length : Int) := by omega
      have hc1 : 0 ≤ c / 4 % ((E.length : Int) - 1) ∧ c / 4 % ((E.length : Int) - 1) < (E.length : Int) - 1 := ⟨Int.emod_nonneg _ (by omega), Int.emod_lt_of_pos _ hm1⟩
      obtain ⟨a, ea, ea2⟩ := at_nats (L := E) (c := c / 4 % ((E.length : Int) - 1)) ⟨hc1.1, by omega⟩
      have hbl : E.length - 1 < E.length := by omega
      have hlast : a < E[E.length - 1] := by
        obtain ⟨hl1, rfl⟩ := List.getElem?_eq_some_iff.mp ea2
        exact List.pairwise_iff_getElem.mp hpw _ _ hl1 hbl (by omega)
      obtain ⟨S2, e2, p2, g2⟩ := lc_fil (vs := [3]) (g := gName 3) (t := c_law_with_else_3) (e := e_law_with_else_4) (fr := [some (.ref R), some (.int c), some (.ref S.length), none, some (.int a), none, none, none]) (l := E.map fun k => D.int ((k : Nat) : Int)) (hs := [(S.length, E.map fun k => D.int ((k : Nat) : Int))]) (S := S1) E (fun k => .int ((k : Nat) : Int)) (fun k => .int ((k : Nat) : Int)) (fun k => decide (a < k)) rfl (stand_one (lst_of g1)) (Nat.le_trans (Nat.le_trans hEl hl) (by decide)) (by
        intro k hk S' pr
        refine ⟨[some (.ref R), some (.int c), some (.ref S.length), some (.int (k : Int)), some (.int a), none, none, none], S', by simp [unset], ?_, Pre.refl _, fun _ => ⟨S', by simp [e_law_with_else_4], Pre.refl _⟩⟩
        simp [c_law_with_else_3])
      have hF : ∀ i ∈ E.filter (fun k => decide (a < k)), a < i ∧ flatAt rows i = true := fun i hi => ⟨of_decide_eq_true (List.mem_filter.mp hi).2, hE i (List.mem_filter.mp hi).1⟩
      have hFl : 0 < (E.filter (fun k => decide (a < k))).length := List.length_pos_iff.mpr fun z => by
        have : E[E.length - 1] ∈ E.filter (fun k => decide (a < k)) := List.mem_filter.mpr ⟨List.getElem_mem hbl, decide_eq_true hlast⟩
        rw [z] at this; cases this
      generalize E.filter (fun k => decide (a < k)) = F at g2 hF hFl
      have hc2 : 0 ≤ c / 256 % (F.length : Int) ∧ c / 256 % (F.length : Int) < F.length := ⟨Int.emod_nonneg _ (by omega), Int.emod_lt_of_pos _ (by omega)⟩
      obtain ⟨b, eb, eb2⟩ := at_nats hc2
      obtain ⟨hab, hbf⟩ := hF b (List.mem_of_getElem? eb2)
      obtain ⟨da, ka, eda, eda1, oa, ha1⟩ := flat_ix gd (hE a (List.mem_of_getElem? ea2))
      obtain ⟨db, kb, edb, edb1, ob, hb1⟩ := flat_ix gd hbf
      have hpos := gd.pos
      have d4 : divOk 4 := div_ok (by decide) (by decide)
      have d256 : divOk 256 := div_ok (by decide) (by decide)
      have d16384 : divOk 16384 := div_ok (by decide) (by decide)
      have hR2 := p2.get hR1
      have g12 := p2.get g1
      -- where the go leads
      have tail : ∀ (to : Nat), to < rows.length → ∃ (to' : Nat), to' < rows.length ∧ (to' = 0 ∨ to' = to) ∧ (∀ z, rows[to']? ≠ some (.go z)) ∧ sIf (tBl (mOp oEq (mOp oIx (mOp oIx (mVar 0) (mVar 7)) (mC (.int 0))) (mC (.str w_go)))) (sAsg (mC (.int 0)) (gName 7)) (sNx) [some (.ref R), some (.int c), some (.ref S.length), none, some (.int a), some (.ref S1.length), some (.int b), some (.int (to : Int))] S2 = .ok (.nx [some (.ref R), some (.int c), some (.ref S.length), none, some (.int a), some (.ref S1.length), some (.int b), some (.int (to' : Int))]) S2 := by
        intro to hto
        obtain ⟨r, er, era⟩ := rows_at hto
        obtain ⟨w, hw, hg, _⟩ := row_at0 r
        by_cases h : w = w_go
        · exact ⟨0, hpos, .inl rfl, h0g (by omega), by simp [hR2, era, row_tup r, hw, h]⟩
        · exact ⟨to, hto, .inr rfl, (fun z e => h (hg.mpr ⟨z, Option.some.inj (er.symm.trans e)⟩)), by simp [hR2, era, row_tup r, hw, h]⟩
      have chain : ∀ (to : Nat), to < rows.length → ∃ (to' : Nat), to' < rows.length ∧ (to' ≤ a ∨ b < to') ∧ (to ≤ a → to' = to) ∧ sIf (tBl (mChain oLt oLe (mVar 4) (mVar 7) (mVar 6))) (sAsg (mOp oAdd (mVar 6) (mC (.int 1))) (gName 7)) (sNx) [some (.ref R), some (.int c), some (.ref S.length), none, some (.int a), some (.ref S1.length), some (.int b), some (.int (to : Int))] S2 = .ok (.nx [some (.ref R), some (.int c), some (.ref S.length), none, some (.int a), some (.ref S1.length), some (.int b), some (.int (to' : Int))]) S2 := by
        intro to hto
        by_cases h : a < to
        · by_cases h' : to ≤ b
          · exact ⟨b + 1, hb1, .inr (by omega), (fun z => absurd z (by omega)), by simp [h, h']⟩
          · exact ⟨to, hto, .inr (by omega), (fun _ => rfl), by simp [h, h']⟩
        · exact ⟨to, hto, .inl (by omega), (fun _ => rfl), by simp [h]⟩
      obtain ⟨q, rl, hrows, hrl⟩ := gd.lst
      have era : atI (rows.map Row.d) (-1) = some rl.d := by rw [hrows, List.map_append]; exact at_last _ _
      obtain ⟨wl, hwl, hwg, _⟩ := row_at0 rl
      have elast : rows[rows.length - 1]? = some rl := by rw [hrows]; simp
      have back : ∀ (to : Nat), to < rows.length → ∃ (to' : Nat), to' < rows.length ∧ ((∃ k, rows[rows.length - 1]? = some (.go k)) → to' ≤ a) ∧ sIf (tBl (mOp oEq (mOp oIx (mOp oIx (mVar 0) (mUn uNeg (mC (.int 1)))) (mC (.int 0))) (mC (.str w_go)))) (sAsg (mOp oMod (mVar 7) (mOp oAdd (mVar 4) (mC (.int 1)))) (gName 7)) (sNx) [some (.ref R), some (.int c), some (.ref S.length), none, some (.int a), some (.ref S1.length), some (.int b), some (.int (to : Int))] S2 = .ok (.nx [some (.ref R), some (.int c), some (.ref S.length), none, some (.int a), some (.ref S1.length), some (.int b), some (.int (to' : Int))]) S2 := by
        intro to hto
        by_cases h : wl = w_go
        · have hp1 : (0 : Int) < (a : Int) + 1 := by omega
          have hm : to % (a + 1) < a + 1 := Nat.mod_lt _ (by omega)
          exact ⟨to % (a + 1), by omega, (fun _ => by omega), by simp [hR2, era, row_tup rl, hwl, h, hp1]⟩
        · exact ⟨to, hto, (fun ⟨k, e⟩ => absurd (hwg.mpr ⟨k, Option.some.inj (elast.symm.trans e)⟩) h), by simp [hR2, era, row_tup rl, hwl, h]⟩
      have hc3 : 0 ≤ c / 16384 % (rows.length : Int) ∧ c / 16384 % (rows.length : Int) < rows.length := ⟨Int.emod_nonneg _ (by omega), Int.emod_lt_of_pos _ (by omega)⟩
      obtain ⟨t0, ht0, ht0l⟩ : ∃ t : Nat, c / 16384 % (rows.length : Int) = (t : Int) ∧ t < rows.length := ⟨(c / 16384 % (rows.length : Int)).toNat, by omega, by omega⟩
      obtain ⟨t1, ht1, b1, k1⟩ := back t0 ht0l
      obtain ⟨t2, ht2, b2, b2', k2⟩ := chain t1 ht1
      obtain ⟨t3, ht3, b3, b3', k3⟩ := tail t2 ht2
      have ia : ixN rows.length (a : Int) = some a := by rw [ixN_of (by omega) (by omega)]; simp
      have ib : ixN rows.length (b : Int) = some b := by rw [ixN_of (by omega) (by omega)]; simp
      have gd2 := (gd.set (i := a) (r := .pt ka (b + 1)) ha1 oa (fun t e => by cases e) (fun a t e => by cases e; omega))
      have gd3 := gd2.set (i := b) (r := .go t3) (by rw [List.length_set]; omega) trivial (fun t e => by cases e; rw [List.length_set]; omega) (fun a t e => by cases e)
      have gs : ∀ X, (S2.set R X)[R]? = some X := fun X => set_get hR2
      refine ⟨(rows.set a (.pt ka (b + 1))).set b (.go t3), (S2.set R (.lst ((rows.set a (.pt ka (b + 1))).map Row.d))).set R (.lst (((rows.set a (.pt ka (b + 1))).set b (.go t3)).map Row.d)), ?_, (((p0.trans p1).trans p2).set hR0).set hR0, set_get (gs _), gd3, by simp, .els (hE a (List.mem_of_getElem? ea2)) hbf hab hb1 ht3 (by rcases b3 with z | z <;> omega) b3' (fun h => by have := b1 h; have := b2' this; rcases b3 with z | z <;> omega)⟩
      obtain ⟨A1, hA1⟩ : ∃ A : SM, A = sIf (tBl (mOp oEq (mOp oIx (mOp oIx (mVar 0) (mUn uNeg (mC (.int 1)))) (mC (.int 0))) (mC (.str w_go)))) (sAsg (mOp oMod (mVar 7) (mOp oAdd (mVar 4) (mC (.int 1)))) (gName 7)) (sNx) := ⟨_, rfl⟩
      obtain ⟨A2, hA2⟩ : ∃ A : SM, A = sIf (tBl (mChain oLt oLe (mVar 4) (mVar 7) (mVar 6))) (sAsg (mOp oAdd (mVar 6) (mC (.int 1))) (gName 7)) (sNx) := ⟨_, rfl⟩
      obtain ⟨A3, hA3⟩ : ∃ A : SM, A = sIf (tBl (mOp oEq (mOp oIx (mOp oIx (mVar 0) (mVar 7)) (mC (.int 0))) (mC (.str w_go)))) (sAsg (mC (.int 0)) (gName 7)) (sNx) := ⟨_, rfl⟩
      rw [← hA1] at k1
      rw [← hA2] at k2
      rw [← hA3] at k3
      simp only [m_law_with_else, b_law_with_else]
      rw [← hA1, ← hA2, ← hA3]
      simp [hR, fl]
      rw [e1]
      simp [h3, g1, h4, h4', h5, hm1, hm1a, hm1b, ea, d4]
      rw [e2]
      simp [g2, hFl, eb, d256, d16384, hR2, hpos, ht0, k1, k2, k3, eda, eda1, ia, gs, ib, d_pt, d_go, LINE]
end Lk34
set_option Elab.async false
set_option linter.all false
set_option maxHeartbeats 1000000
namespace Lk34
open Mi
/-! ### stairs -/
theorem stairs_ok {ns : List Int} (many : Nat) (S : Store) (h : S[0]? = some (.fls (ns.map .int))) (hm1 : 1 ≤ many) (hm2 : many ≤ 28) : ∃ (l : List Tx) (rows : List Row) (m : Nat) (S' : Store), m_law_stairs [.ref 0, .int many] S = .ok (.ref m) S' ∧ Pre S S' ∧ S.length ≤ m ∧ S'[m]? = some (.lst (rows.map Row.d)) ∧ Gd l rows ∧ rows.length ≤ 130 ∧ (∀ t ∈ l, Nm t) ∧ ∀ n, n < rows.length → Ends rows n := by
  obtain ⟨c0, ec⟩ := cell_ok h 0
  have ec' : m_law_cell [.ref 0, .int 0] S = .ok (.int c0) S := ec
  obtain ⟨l, N, S1, en, p1, hN1, gN, hl3, hl5, hnm⟩ := names_ok c0 S
  obtain ⟨ds, M, S2, ed, p2, hM2, gM, d0, d12, dk⟩ := deeds_ok N S1 l (p1.get h) gN (by omega)
  have gN2 := p2.get gN
  have hS2 := (p1.trans p2)
  have h2 := hS2.get h
  have fm : far (many : Int) := by unfold far; omega
  have key := loop_inv (hs := []) (turn := turnM (gName 5) l_law_stairs_1)
    (fun i fr S' => ∃ (k5 k6 : Option D) (rows : List Row), fr = [some (.ref 0), some (.int many), some (.ref N), some (.ref M), some (.ref S2.length), k5, k6] ∧ Pre S2 S' ∧ S'[S2.length]? = some (.lst (rows.map Row.d)) ∧ rows.length = 1 + 2 * i ∧ ∀ (n : Nat) (r : Row), rows[n]? = some r → RowN l r ∧ ((flatR r = true ∧ n % 2 = 1) ∨ (n = 0 ∧ r = .go (2 * many - 1)) ∨ (2 ≤ n ∧ n % 2 = 0 ∧ r = .go ((n : Int) - 3))))
    (rng 0 many) 0 [some (.ref 0), some (.int many), some (.ref N), some (.ref M), some (.ref S2.length), none, none] (S2 ++ [.lst [Row.d (.go (2 * many - 1))]])
    ⟨none, none, [.go (2 * many - 1)], rfl, Pre.app _ _, app_new _ _ _, rfl, fun n r e => by
      cases n with
      | zero => obtain rfl := Option.some.inj e; exact ⟨trivial, .inr (.inl ⟨rfl, rfl⟩)⟩
      | succ n => cases e⟩ (fun _ _ S _ => stands_nil S) (by
      rintro i d fr S' hd ⟨k5, k6, rows, rfl, pr, g, hlen, hrows⟩
      obtain ⟨hi, rfl⟩ := rng_at hd
      rw [show 0 + i = i by omega] at *
      have e0 : (0 : Int) + (i : Int) = (i : Int) := by omega
      obtain ⟨c, ec⟩ := cell_ok (pr.get h2) (2 + i)
      have ec2 : m_law_cell [.ref 0, .int (2 + (i : Int))] S' = .ok (.int c) S' := by
        rw [show (2 : Int) + (i : Int) = ((2 + i : Nat) : Int) by omega]; exact ec
      obtain ⟨o, eo, _⟩ := mixed_ok c i S'
      obtain ⟨r, S3, er, p3, hr, hs, hp, _⟩ := row_ok (c / 11 * 11 + c % 7) o N M S' l ds (pr.get gN2) (pr.get gM) (by omega) d0 dk
      have d11 : divOk 11 := div_ok (by decide) (by decide)
      have mo : mulOk (c / 11) 11 := mul_r (by decide)
      have mo2 : mulOk 2 (i : Int) := mul_l (by decide)
      have g3 := p3.get g
      have hl1 : rows.length < 16777216 := by omega
      have hl2 : rows.length + 1 < 16777216 := by omega
      have gs : ∀ X, (S3.set S2.length X)[S2.length]? = some X := fun X => set_get g3
      have rf : flatR r = true := by
        cases r with
        | pt a t => have := (hp a t rfl).1; omega
        | go t => cases hs
        | en => cases hs
        | _ => rfl
      refine ⟨_, S3.set S2.length (.lst ((rows ++ [r] ++ [Row.go (2 * i - 1)]).map Row.d)), .inl (by simp [turnM_s, l_law_stairs_1, e0, ec2, eo, er, g, g3, hl1, hl2, LINE, gs, d_go, d11, mo, mo2]; exact ⟨rfl, rfl⟩), _, _, rows ++ [r] ++ [Row.go (2 * i - 1)], rfl, (pr.trans p3).set (Nat.le_refl _), gs _, by simp; omega, ?_⟩
      intro n x e
      rcases get_snoc e with z | ⟨z, rfl⟩
      · rcases get_snoc z with z | ⟨zn, rfl⟩
        · exact hrows n x z
        · exact ⟨hr, .inl ⟨rf, by omega⟩⟩
      · have hn : n = 2 + 2 * i := by rw [z, List.length_append, hlen, List.length_singleton]; omega
        exact ⟨trivial, .inr (.inr ⟨by omega, by omega, by rw [hn]; congr 1; omega⟩)⟩)
  obtain ⟨fr', S', e, k5, k6, rows, rfl, pr, g, hlen, hrows⟩ := key
  rw [rng_len, Nat.zero_add] at hlen
  have g' : (S'.set S2.length (.lst ((rows.set 2 (.go (2 * many + 1))).map Row.d)))[S2.length]? = some (.lst ((rows.set 2 (.go (2 * many + 1))).map Row.d)) := set_get g
  have lS : (S'.set S2.length (.lst ((rows.set 2 (.go (2 * many + 1))).map Row.d))).length = S'.length := List.length_set
  have pS : Pre S2 (S'.set S2.length (.lst ((rows.set 2 (.go (2 * many + 1))).map Row.d))) := pr.set (Nat.le_refl _)
  have inv : ∀ (n : Nat) (r : Row), (rows.set 2 (.go (2 * many + 1)) ++ [Row.en])[n]? = some r → RowN l r ∧ (flatR r = true ∨ r = .en ∨ ∃ t, r = .go t ∧ 0 ≤ t ∧ t < 2 * many + 2) := by
    intro n r e
    rcases get_snoc e with z | ⟨_, rfl⟩
    · rw [List.getElem?_set] at z
      split at z
      · split at z
        · obtain rfl := Option.some.inj z
          exact ⟨trivial, .inr (.inr ⟨_, rfl, by omega, by omega⟩)⟩
        · cases z
      · rename_i hn2
        have hn := (List.getElem?_eq_some_iff.mp z).1
        obtain ⟨q1, q2⟩ := hrows n r z
        refine ⟨q1, ?_⟩
        rcases q2 with ⟨q, _⟩ | ⟨_, q⟩ | ⟨q2, _, q⟩
        · exact .inl q
        · exact .inr (.inr ⟨_, q, by omega, by omega⟩)
        · by_cases h3 : n = 2
          · exact absurd h3.symm hn2
          · exact .inr (.inr ⟨_, q, by omega, by omega⟩)
    · exact ⟨trivial, .inr (.inl rfl)⟩
  have hlen2 : (rows.set 2 (.go (2 * many + 1)) ++ [Row.en]).length = 2 * many + 2 := by rw [List.length_append, List.length_set, hlen]; simp; omega
  have gd : Gd l (rows.set 2 (.go (2 * many + 1)) ++ [Row.en]) := by
    refine ⟨fun r hr => ?_, ⟨_, _, rfl, .inl rfl⟩, fun n t e => ?_, fun n a t e => ?_, fun n a t e => ?_⟩
    · obtain ⟨n, e⟩ := List.getElem?_of_mem hr
      exact (inv n r e).1
    · rcases (inv n _ e).2 with z | z | ⟨t', z, q1, q2⟩
      · cases z
      · cases z
      · cases z; rw [hlen2]; omega
    · rcases (inv n _ e).2 with z | z | ⟨t', z, q1, q2⟩
      · cases z
      · cases z
      · cases z
    · rcases (inv n _ e).2 with z | z | ⟨t', z, q1, q2⟩
      · cases z
      · cases z
      · cases z
  have ends : ∀ n, n < (rows.set 2 (.go (2 * many + 1)) ++ [Row.en]).length → Ends (rows.set 2 (.go (2 * many + 1)) ++ [Row.en]) n := by
    obtain ⟨F, hF⟩ : ∃ F, rows.set 2 (.go (2 * many + 1)) ++ [Row.en] = F := ⟨_, rfl⟩
    have at_ : ∀ n, n < rows.length → n ≠ 2 → F[n]? = rows[n]? := fun n h1 h2 => by
      rw [← hF, List.getElem?_append_left (by rw [List.length_set]; exact h1), List.getElem?_set_ne (Ne.symm h2)]
    have eE : Ends F (2 * many + 1) := .en (by rw [← hF, List.getElem?_append_right (by rw [List.length_set]; omega), List.length_set, show 2 * many + 1 - rows.length = 0 by omega]; rfl)
    have e2 : Ends F 2 := .step (i := 2 * many + 1) (by rw [← hF, List.getElem?_append_left (by rw [List.length_set]; omega), List.getElem?_set_self (by omega)]) (by simp [fol]) eE
    have fl : ∀ n, n % 2 = 1 → n < rows.length → Ends F (n + 1) → Ends F n := fun n h1 h2 e => by
      have hr : rows[n]? = some rows[n] := List.getElem?_eq_getElem h2
      generalize rows[n] = r at hr
      have z := at_ n h2 (by omega)
      rw [hr] at z
      refine .step (i := n + 1) z ?_ e
      rcases (hrows n r hr).2 with ⟨f, _⟩ | ⟨f, _⟩ | ⟨_, f, _⟩
      · cases r with
        | rk _ _ _ _ => simp [fol]
        | cp _ _ => simp [fol]
        | sy _ => simp [fol]
        | _ => cases f
      · omega
      · omega
    have odd : ∀ i, 2 * i + 1 < rows.length → Ends F (2 * i + 1) := by
      intro i
      induction i with
      | zero => intro h; exact fl _ (by omega) h e2
      | succ i ih =>
        intro h
        refine fl _ (by omega) h ?_
        have h2 : 2 * (i + 1) + 1 + 1 < rows.length := by omega
        have hr : rows[2 * (i + 1) + 1 + 1]? = some rows[2 * (i + 1) + 1 + 1] := List.getElem?_eq_getElem h2
        generalize rows[2 * (i + 1) + 1 + 1] = r at hr
        have z := at_ _ h2 (by omega)
        rw [hr] at z
        rcases (hrows _ r hr).2 with ⟨_, f⟩ | ⟨f, _⟩ | ⟨_, _, rfl⟩
        · omega
        · omega
        · exact .step (i := 2 * i + 1) z (by simp only [fol, List.mem_singleton]; omega) (ih (by omega))
    intro n hn
    rw [hF]
    rw [hlen2] at hn
    by_cases h : n = 2 * many + 1
    · rw [h]; exact eE
    · have h2 : n < rows.length := by omega
      by_cases ho : n % 2 = 1
      · have := odd (n / 2) (by omega)
        rwa [show 2 * (n / 2) + 1 = n by omega] at this
      · by_cases h22 : n = 2
        · rw [h22]; exact e2
        · have hr : rows[n]? = some rows[n] := List.getElem?_eq_getElem h2
          generalize rows[n] = r at hr
          have z := at_ n h2 h22
          rw [hr] at z
          rcases (hrows n r hr).2 with ⟨_, f⟩ | ⟨f, rfl⟩ | ⟨f, _, rfl⟩
          · omega
          · exact .step (i := 2 * (many - 1) + 1) z (by simp only [fol, List.mem_singleton]; omega) (odd (many - 1) (by omega))
          · exact .step (i := 2 * ((n - 4) / 2) + 1) z (by simp only [fol, List.mem_singleton]; omega) (odd _ (by omega))
  have i2 : ixN rows.length 2 = some 2 := by rw [ixN_of (by omega) (by omega)]; rfl
  have m2 : mulOk 2 (many : Int) := mul_l (by decide)
  have hl1 : rows.length + 1 ≤ 16777216 := by omega
  refine ⟨l, _, S'.length + 1, (S'.set S2.length (.lst ((rows.set 2 (.go (2 * many + 1))).map Row.d))) ++ [.lst [Row.d .en], .lst ((rows.set 2 (.go (2 * many + 1)) ++ [Row.en]).map Row.d)], ?_, (hS2.trans pS).trans (Pre.app _ _), by have := (hS2.trans pr).len; omega, by rw [← lS]; simp [get_app], gd, by rw [hlen2]; omega, hnm, ends⟩
  have g' : ∀ X, (S'.set S2.length X)[S2.length]? = some X := fun X => set_get g
  simp at lS
  have e' := e
  simp only [d_go] at e'
  simp [m_law_stairs, b_law_stairs, ec', en, ed, LINE, fm, m2]
  rw [e']
  simp [g, i2, d_go, m2, LINE, get_app, g', hl1, d_en]
end Lk34
set_option Elab.async false
set_option linter.all false
set_option maxHeartbeats 1000000
namespace Lk34
open Mi
/-! ### rows come to -/
theorem tk_sx {α : Type} {l : List α} {i : Nat} {r : α} (h : l[i]? = some r) : l.take (i + 1) = l.take i ++ [r] := by
  obtain ⟨hi, rfl⟩ := List.getElem?_eq_some_iff.mp h
  rw [List.take_succ_eq_append_getElem hi]
def cP (ah : Bool) (rows : List Row) (n : Nat) : Prop := match ah with
  | true => Reach rows n
  | false => Ends rows n
def sndC (ah : Bool) (rows : List Row) (ks : List Int) : Prop := ∀ n : Nat, (n : Int) ∈ ks → cP ah rows n
def satC (ah : Bool) (ks : List Int) (n m : Nat) : Prop := match ah with
  | true => (n : Int) ∈ ks → (m : Int) ∈ ks
  | false => (m : Int) ∈ ks → (n : Int) ∈ ks
theorem sndC.snoc {ah : Bool} {rows : List Row} {ks : List Int} (h : sndC ah rows ks) {t : Nat} (ht : cP ah rows t) : sndC ah rows (ks ++ [(t : Int)]) := fun n hn => by
  rcases List.mem_append.mp hn with z | z
  · exact h n z
  · have : n = t := by have := List.mem_singleton.mp z; omega
    rw [this]; exact ht
theorem comes_turn (R Dn : Nat) (ah b : Bool) (n m : Nat) (x6 x7 : Option D) (rows : List Row) (ks : List Int) (S : Store) (hD : S[Dn]? = some (bmD ks)) (K : Ks rows ks) (hl : rows.length ≤ 1000) (hn : n < rows.length) (hm : m < rows.length) (S0 : Store) (p0 : Pre S0 S) (hD0 : S0.length ≤ Dn) (hRD : R < S0.length) (hR : S[R]? = some (.lst (rows.map Row.d))) (r : Row) (hrn : rows[n]? = some r) (hmf : (m : Int) ∈ fol n r) :
    ∃ (ks' : List Int) (b' : Bool) (y6 y7 : Option D) (S' : Store), l_law_comes_to_2 [some (.ref R), some (.bl ah), some (.ref Dn), some (.int n), some (.bl b), some (.int m), x6, x7] S = .ok (.nx [some (.ref R), some (.bl ah), some (.ref Dn), some (.int n), some (.bl b'), some (.int m), y6, y7]) S' ∧ Pre S0 S' ∧ S'[R]? = some (.lst (rows.map Row.d)) ∧ S'[Dn]? = some (bmD ks') ∧ Ks rows ks' ∧ (∀ x ∈ ks, x ∈ ks') ∧ ks.length ≤ ks'.length ∧ (b' = true → b = true ∨ ks.length < ks'.length) ∧ (∀ p, p < S.length → p ≠ Dn → S'[p]? = S[p]?) ∧ (sndC ah rows ks → sndC ah rows ks') ∧ (b' = false → b = false ∧ ks' = ks ∧ satC ah ks n m) := by
  obtain ⟨S1, hS1⟩ : ∃ S1 : Store, S1 = S ++ [.lst [.tup [.int m, .int n], .tup [.int n, .int m]]] := ⟨_, rfl⟩
  have p1 : Pre S S1 := by rw [hS1]; exact Pre.app _ _
  have g1 : S1[S.length]? = some (.lst [.tup [.int m, .int n], .tup [.int n, .int m]]) := by rw [hS1]; exact app_new _ _ _
  have hD1 := p1.get hD
  have hR1 := p1.get hR
  have hD1' := hD1
  unfold bmD at hD1'
  have kl := K.len
  have kl' : ks.length < 16777216 := by omega
  have go : ∀ (o t : Nat), o < rows.length → t < rows.length → (∃ y, atI [D.tup [.int m, .int n], .tup [.int n, .int m]] (if ah = true then 1 else 0) = some y ∧ y = .tup [.int o, .int t]) → (cP ah rows o → cP ah rows t) → (((o : Int) ∈ ks → (t : Int) ∈ ks) → satC ah ks n m) → ∃ (ks' : List Int) (b' : Bool) (y6 y7 : Option D) (S' : Store), l_law_comes_to_2 [some (.ref R), some (.bl ah), some (.ref Dn), some (.int n), some (.bl b), some (.int m), x6, x7] S = .ok (.nx [some (.ref R), some (.bl ah), some (.ref Dn), some (.int n), some (.bl b'), some (.int m), y6, y7]) S' ∧ Pre S0 S' ∧ S'[R]? = some (.lst (rows.map Row.d)) ∧ S'[Dn]? = some (bmD ks') ∧ Ks rows ks' ∧ (∀ x ∈ ks, x ∈ ks') ∧ ks.length ≤ ks'.length ∧ (b' = true → b = true ∨ ks.length < ks'.length) ∧ (∀ p, p < S.length → p ≠ Dn → S'[p]? = S[p]?) ∧ (sndC ah rows ks → sndC ah rows ks') ∧ (b' = false → b = false ∧ ks' = ks ∧ satC ah ks n m) := by
    rintro o t ho ht ⟨y, hy, rfl⟩ hP hs
    have ev : ∀ P : Prop, dec P = true ∨ dec P = false := fun P => by cases dec P <;> simp
    by_cases h1 : (o : Int) ∈ ks
    · by_cases h2 : (t : Int) ∈ ks
      · refine ⟨ks, b, some (.int o), some (.int t), S1, ?_, p0.trans p1, hR1, hD1, K, fun x hx => hx, Nat.le_refl _, fun z => .inl z, fun p hp _ => by rw [hS1, List.getElem?_append_left hp], id, fun z => ⟨z, rfl, hs fun _ => h2⟩⟩
        have d1 := bm_get ks o
        have d2 := bm_get ks t
        rw [dec_true h1] at d1
        rw [dec_true h2] at d2
        simp [l_law_comes_to_2, LINE, ← hS1, g1, hy, hD1', d1, d2]
      · have K' := K.snoc h2 (by omega)
        refine ⟨ks ++ [(t : Int)], true, some (.int o), some (.int t), S1.set Dn (bmD (ks ++ [(t : Int)])), ?_, (p0.trans p1).set hD0, by rw [set_ne (by omega)]; exact hR1, set_get hD1, K', fun x hx => List.mem_append_left _ hx, by simp, fun _ => .inr (by simp), fun p hp hne => by rw [set_ne (Ne.symm hne), hS1, List.getElem?_append_left hp], fun sn => sn.snoc (hP (sn o h1)), fun z => by cases z⟩
        have d1 := bm_get ks o
        have d2 := bm_get ks t
        rw [dec_true h1] at d1
        rw [dec_false h2] at d2
        have pu := bm_put h2
        simp [l_law_comes_to_2, LINE, ← hS1, g1, hy, hD1', d1, d2, kl', pu, bmD]
    · refine ⟨ks, b, some (.int o), some (.int t), S1, ?_, p0.trans p1, hR1, hD1, K, fun x hx => hx, Nat.le_refl _, fun z => .inl z, fun p hp _ => by rw [hS1, List.getElem?_append_left hp], id, fun z => ⟨z, rfl, hs fun w => absurd w h1⟩⟩
      have d1 := bm_get ks o
      rw [dec_false h1] at d1
      simp [l_law_comes_to_2, LINE, ← hS1, g1, hy, hD1', d1]
  cases ah with
  | true => exact go n m hn hm ⟨_, by simp, rfl⟩ (fun h => .step h hrn hmf) (fun h => h)
  | false => exact go m n hm hn ⟨_, by simp, rfl⟩ (fun h => .step hrn hmf h) (fun h => h)
theorem comes_row (R Dn : Nat) (ah b : Bool) (n : Nat) (x5 x6 x7 : Option D) (l : List Tx) (rows : List Row) (ks : List Int) (S : Store) (gd : Gd l rows) (hD : S[Dn]? = some (bmD ks)) (K : Ks rows ks) (hl : rows.length ≤ 1000) (hn : n < rows.length) (S0 : Store) (p0 : Pre S0 S) (hD0 : S0.length ≤ Dn) (hRD : R < S0.length) (hR : S[R]? = some (.lst (rows.map Row.d))) :
    ∃ (ks' : List Int) (b' : Bool) (y5 y6 y7 : Option D) (S' : Store), l_law_comes_to_3 [some (.ref R), some (.bl ah), some (.ref Dn), some (.int n), some (.bl b), x5, x6, x7] S = .ok (.nx [some (.ref R), some (.bl ah), some (.ref Dn), some (.int n), some (.bl b'), y5, y6, y7]) S' ∧ Pre S0 S' ∧ S'[R]? = some (.lst (rows.map Row.d)) ∧ S'[Dn]? = some (bmD ks') ∧ Ks rows ks' ∧ (∀ x ∈ ks, x ∈ ks') ∧ ks.length ≤ ks'.length ∧ (b' = true → b = true ∨ ks.length < ks'.length) ∧ (sndC ah rows ks → sndC ah rows ks') ∧ (b' = false → b = false ∧ ks' = ks ∧ ∀ (r : Row) (m : Nat), rows[n]? = some r → (m : Int) ∈ fol n r → satC ah ks n m) := by
  have hr : rows[n]? = some rows[n] := List.getElem?_eq_getElem hn
  generalize rows[n] = r at hr
  have f := lfol_ok R n rows r S hR hr
  have hDl := Pre.lt (S' := S) hD
  have key := loop_inv (hs := [(S.length, (fol n r).map D.int)]) (turn := turnM (gName 5) l_law_comes_to_2)
    (fun i fr S' => ∃ (ks' : List Int) (b' : Bool) (y5 y6 y7 : Option D), fr = [some (.ref R), some (.bl ah), some (.ref Dn), some (.int n), some (.bl b'), y5, y6, y7] ∧ Pre S0 S' ∧ S.length < S'.length ∧ S'[S.length]? = some (.lst ((fol n r).map .int)) ∧ S'[R]? = some (.lst (rows.map Row.d)) ∧ S'[Dn]? = some (bmD ks') ∧ Ks rows ks' ∧ (∀ x ∈ ks, x ∈ ks') ∧ ks.length ≤ ks'.length ∧ (b' = true → b = true ∨ ks.length < ks'.length) ∧ (sndC ah rows ks → sndC ah rows ks') ∧ (b' = false → b = false ∧ ks' = ks ∧ ∀ (m : Nat), (m : Int) ∈ (fol n r).take i → satC ah ks n m))
    ((fol n r).map D.int) 0 [some (.ref R), some (.bl ah), some (.ref Dn), some (.int n), some (.bl b), x5, x6, x7] (S ++ [.lst ((fol n r).map .int)])
    ⟨ks, b, x5, x6, x7, rfl, p0.trans (Pre.app _ _), by simp, app_new _ _ _, app_get hR, app_get hD, K, fun x hx => hx, Nat.le_refl _, fun z => .inl z, id, fun z => ⟨z, rfl, fun m h => by simp at h⟩⟩
    (by
      rintro i fr S' ⟨ks', b', y5, y6, y7, rfl, pr, hlt, gf, _⟩
      exact stands_one (lst_of gf))
    (by
      rintro i d fr S' hd ⟨ks', b', y5, y6, y7, rfl, pr, hlt, gf, gR, gD, K', sub, le, bb, sn, bf⟩
      rw [List.getElem?_map] at hd
      obtain ⟨m, hm, rfl⟩ := Option.map_eq_some_iff.mp hd
      have hin := gd.fol_in hr (List.mem_of_getElem? hm)
      obtain ⟨m, rfl⟩ : ∃ k : Nat, m = (k : Int) := ⟨m.toNat, by omega⟩
      rw [show 0 + i = i by omega] at *
      obtain ⟨ks2, b2, z6, z7, S2, e, p2, gR2, gD2, K2, sub2, le2, bb2, st, sn2, bf2⟩ := comes_turn R Dn ah b' n m y6 y7 rows ks' S' gD K' hl hn (by omega) S0 pr hD0 hRD gR r hr (List.mem_of_getElem? hm)
      refine ⟨_, S2, .inl (by simp [turnM_s]; exact e), ks2, b2, _, _, _, rfl, p2, ?_, by rw [st _ hlt (by omega)]; exact gf, gR2, gD2, K2, fun x hx => sub2 x (sub x hx), by omega, fun z => ?_, fun h => sn2 (sn h), fun z => ?_⟩
      · have := st S.length hlt (by omega)
        rw [gf] at this
        exact (List.getElem?_eq_some_iff.mp this).1
      · rcases bb2 z with q | q
        · rcases bb q with w | w
          · exact .inl w
          · exact .inr (by omega)
        · exact .inr (by omega)
      · obtain ⟨f1, f2, f3⟩ := bf2 z
        obtain ⟨g1, g2, g3⟩ := bf f1
        subst g2
        refine ⟨g1, f2, fun q hq => ?_⟩
        rw [tk_sx hm] at hq
        rcases List.mem_append.mp hq with w | w
        · exact g3 q w
        · have : q = m := by have := List.mem_singleton.mp w; omega
          rw [this]; exact f3)
  obtain ⟨fr', S', e, ks', b', y5, y6, y7, rfl, pr, hlt, gf, gR, gD, K', sub, le, bb, sn, bf⟩ := key
  rw [List.length_map, Nat.zero_add, List.take_length] at bf
  refine ⟨ks', b', y5, y6, y7, S', ?_, pr, gR, gD, K', sub, le, bb, sn, fun z => ⟨(bf z).1, (bf z).2.1, fun r' m hr' hm => by rw [hr] at hr'; obtain rfl := Option.some.inj hr'; exact (bf z).2.2 m hm⟩⟩
  simp [l_law_comes_to_3, f, get_len]
  exact e
theorem comes_pass (R Dn : Nat) (ah : Bool) (x3 x4 x5 x6 x7 : Option D) (l : List Tx) (rows : List Row) (ks : List Int) (S : Store) (gd : Gd l rows) (hD : S[Dn]? = some (bmD ks)) (K : Ks rows ks) (hl : rows.length ≤ 1000) (S0 : Store) (p0 : Pre S0 S) (hD0 : S0.length ≤ Dn) (hRD : R < S0.length) (hR : S[R]? = some (.lst (rows.map Row.d))) :
    ∃ (ks' : List Int) (b' : Bool) (y3 y5 y6 y7 : Option D) (S' : Store), l_law_comes_to_4 [some (.ref R), some (.bl ah), some (.ref Dn), x3, x4, x5, x6, x7] S = .ok (.nx [some (.ref R), some (.bl ah), some (.ref Dn), y3, some (.bl b'), y5, y6, y7]) S' ∧ Pre S0 S' ∧ S'[R]? = some (.lst (rows.map Row.d)) ∧ S'[Dn]? = some (bmD ks') ∧ Ks rows ks' ∧ (∀ x ∈ ks, x ∈ ks') ∧ ks.length ≤ ks'.length ∧ (b' = true → ks.length < ks'.length) ∧ (sndC ah rows ks → sndC ah rows ks') ∧ (b' = false → ks' = ks ∧ ∀ (n : Nat) (r : Row) (m : Nat), n < rows.length → rows[n]? = some r → (m : Int) ∈ fol n r → satC ah ks n m) := by
  have fl : far (rows.length : Int) := by unfold far; omega
  have key := loop_inv (hs := []) (turn := turnM (gName 3) l_law_comes_to_3)
    (fun i fr S' => ∃ (ks' : List Int) (b' : Bool) (y3 y5 y6 y7 : Option D), fr = [some (.ref R), some (.bl ah), some (.ref Dn), y3, some (.bl b'), y5, y6, y7] ∧ Pre S0 S' ∧ S'[R]? = some (.lst (rows.map Row.d)) ∧ S'[Dn]? = some (bmD ks') ∧ Ks rows ks' ∧ (∀ x ∈ ks, x ∈ ks') ∧ ks.length ≤ ks'.length ∧ (b' = true → ks.length < ks'.length) ∧ (sndC ah rows ks → sndC ah rows ks') ∧ (b' = false → ks' = ks ∧ ∀ (n : Nat) (r : Row) (m : Nat), n < i → rows[n]? = some r → (m : Int) ∈ fol n r → satC ah ks n m))
    (rng 0 rows.length) 0 [some (.ref R), some (.bl ah), some (.ref Dn), x3, some (.bl false), x5, x6, x7] S
    ⟨ks, false, x3, x5, x6, x7, rfl, p0, hR, hD, K, fun x hx => hx, Nat.le_refl _, (fun z => by cases z), id, fun _ => ⟨rfl, fun n r m h => absurd h (by omega)⟩⟩ (fun _ _ S _ => stands_nil S) (by
      rintro i d fr S' hd ⟨ks', b', y3, y5, y6, y7, rfl, pr, gR, gD, K', sub, le, bb, sn, bf⟩
      obtain ⟨hi, rfl⟩ := rng_at hd
      have e0 : (0 : Int) + (i : Int) = (i : Int) := by omega
      obtain ⟨ks2, b2, z5, z6, z7, S2, e, p2, gR2, gD2, K2, sub2, le2, bb2, sn2, bf2⟩ := comes_row R Dn ah b' i y5 y6 y7 l rows ks' S' gd gD K' hl hi S0 pr hD0 hRD gR
      refine ⟨_, S2, .inl (by simp [turnM_s, e0]; exact e), ks2, b2, _, _, _, _, rfl, p2, gR2, gD2, K2, fun x hx => sub2 x (sub x hx), by omega, fun z => ?_, fun h => sn2 (sn h), fun z => ?_⟩
      · rcases bb2 z with q | q
        · have := bb q; omega
        · omega
      · obtain ⟨f1, f2, f3⟩ := bf2 z
        obtain ⟨g2, g3⟩ := bf f1
        subst g2
        refine ⟨f2, fun n r m hn hr hm => ?_⟩
        by_cases h : n = i
        · subst h; exact f3 r m hr hm
        · exact g3 n r m (by omega) hr hm)
  obtain ⟨fr', S', e, ks', b', y3, y5, y6, y7, rfl, pr, gR, gD, K', sub, le, bb, sn, bf⟩ := key
  rw [rng_len, Nat.zero_add] at bf
  refine ⟨ks', b', y3, y5, y6, y7, S', ?_, pr, gR, gD, K', sub, le, bb, sn, bf⟩
  simp [l_law_comes_to_4, hR, fl]
  exact e
theorem comes_while (R Dn : Nat) (ah : Bool) (l : List Tx) (rows : List Row) (gd : Gd l rows) (hl : rows.length ≤ 1000) (S0 : Store) (hD0 : S0.length ≤ Dn) (hRD : R < S0.length) : ∀ (k : Nat) (b : Bool) (x3 x5 x6 x7 : Option D) (ks : List Int) (S : Store), (if b = true then rows.length + 1 - ks.length else 0) ≤ k → S[Dn]? = some (bmD ks) → Ks rows ks → Pre S0 S → S[R]? = some (.lst (rows.map Row.d)) → sndC ah rows ks → (b = false → ∀ (n : Nat) (r : Row) (m : Nat), n < rows.length → rows[n]? = some r → (m : Int) ∈ fol n r → satC ah ks n m) →
    ∃ (ks' : List Int) (fr' : Fr) (S' : Store), sWhile c_law_comes_to_5 l_law_comes_to_4 [some (.ref R), some (.bl ah), some (.ref Dn), x3, some (.bl b), x5, x6, x7] S = .ok (.nx fr') S' ∧ fr'[2]? = some (some (.ref Dn)) ∧ Pre S0 S' ∧ S'[Dn]? = some (bmD ks') ∧ Ks rows ks' ∧ (∀ x ∈ ks, x ∈ ks') ∧ sndC ah rows ks' ∧ (∀ (n : Nat) (r : Row) (m : Nat), n < rows.length → rows[n]? = some r → (m : Int) ∈ fol n r → satC ah ks' n m) := by
  intro k
  induction k with
  | zero =>
    intro b x3 x5 x6 x7 ks S hk hD K p0 hR sn cl
    have kl := K.len
    cases b with
    | true => simp at hk; omega
    | false =>
      refine ⟨ks, [some (.ref R), some (.bl ah), some (.ref Dn), x3, some (.bl false), x5, x6, x7], S, ?_, rfl, p0, hD, K, fun x hx => hx, sn, cl rfl⟩
      rw [while_s]
      simp [c_law_comes_to_5]
  | succ k ih =>
    intro b x3 x5 x6 x7 ks S hk hD K p0 hR sn cl
    cases b with
    | false =>
      refine ⟨ks, [some (.ref R), some (.bl ah), some (.ref Dn), x3, some (.bl false), x5, x6, x7], S, ?_, rfl, p0, hD, K, fun x hx => hx, sn, cl rfl⟩
      rw [while_s]
      simp [c_law_comes_to_5]
    | true =>
      obtain ⟨ks', b', y3, y5, y6, y7, S', e, p', gR, gD, K', sub, le, bb, sn', bf⟩ := comes_pass R Dn ah x3 (some (.bl true)) x5 x6 x7 l rows ks S gd hD K hl S0 p0 hD0 hRD hR
      obtain ⟨ks2, fr2, S2, e2, f2, p2, gD2, K2, sub2, sn2, cl2⟩ := ih b' y3 y5 y6 y7 ks' S' (by
        split
        · rename_i hb
          have := bb hb
          simp at hk
          omega
        · omega) gD K' p' gR (sn' sn) (fun z => by obtain ⟨q1, q2⟩ := bf z; rw [q1]; exact q2)
      refine ⟨ks2, fr2, S2, ?_, f2, p2, gD2, K2, fun x hx => sub2 x (sub x hx), sn2, cl2⟩
      rw [while_s]
      simp [c_law_comes_to_5, e]
      exact e2
theorem comes_ok (R : Nat) (ah : Bool) (l : List Tx) (rows : List Row) (S : Store) (gd : Gd l rows) (hl : rows.length ≤ 1000) (hR : S[R]? = some (.lst (rows.map Row.d))) : ∃ (ks : List Int) (m : Nat) (S' : Store), m_law_comes_to [.ref R, .bl ah] S = .ok (.ref m) S' ∧ Pre S S' ∧ S'[m]? = some (bmD ks) ∧ Ks rows ks ∧ (ah = true → (0 : Int) ∈ ks) ∧ sndC ah rows ks ∧ (∀ (n : Nat) (r : Row) (m : Nat), n < rows.length → rows[n]? = some r → (m : Int) ∈ fol n r → satC ah ks n m) ∧ (ah = false → ∀ n : Nat, rows[n]? = some .en → (n : Int) ∈ ks) := by
  have fl : far (rows.length : Int) := by unfold far; omega
  have hpos := gd.pos
  have hRl := Pre.lt (S' := S) hR
  have z1 : ∀ S : Store, disK S.length (S ++ [O.dK []]) (kvsM [(D.int 0, D.bl true)]) (some (O.dK [])) = .ok (.ref S.length) (S ++ [O.dK [(.inl 0, .bl true)]]) := fun S => by
    have := dis_one S.length (S ++ [O.dK []]) (.inl 0) (.bl true) (app_new _ _ _)
    rw [app_new] at this
    rw [kyD_l] at this
    rw [this, set_at]
  cases ah with
  | true =>
    obtain ⟨ks', fr', S', e, f2, p', gD, K', sub, sn, cl⟩ := comes_while R S.length true l rows gd hl S (Nat.le_refl _) hRl (rows.length + 1) true none none none none [0] (S ++ [bmD [0]]) (by simp) (app_new _ _ _) ⟨by simp, fun x hx => by simp at hx; omega⟩ (Pre.app _ _) (app_get hR) (fun n hn => (show n = 0 by simp at hn; omega) ▸ .zero) (fun z => by cases z)
    refine ⟨ks', S.length, S', ?_, p', gD, K', fun _ => sub 0 (by simp), sn, cl, fun z => by cases z⟩
    simp [m_law_comes_to, b_law_comes_to, z1]
    simp [bmD] at e
    rw [e]
    simp [f2]
  | false =>
    have hRa := app_get (G := [O.dK [((Sum.inl 0 : Ky), D.bl true)]]) hR
    obtain ⟨S1, hS1⟩ : ∃ S1 : Store, S1 = S ++ [O.dK [((Sum.inl 0 : Ky), D.bl true)]] := ⟨_, rfl⟩
    rw [← hS1] at hRa
    have p1 : Pre S S1 := by rw [hS1]; exact Pre.app _ _
    have l1 : S1.length = S.length + 1 := by rw [hS1]; simp
    have key := loop_inv (hs := []) (turn := turnM (gName 3) l_law_comes_to_1)
      (fun i fr S' => ∃ (ks : List Int) (y3 : Option D), fr = [some (.ref R), some (.bl false), some (.ref S1.length), y3, none, none, none, none] ∧ Pre S1 S' ∧ S'[S1.length]? = some (bmD ks) ∧ ks.Nodup ∧ (∀ x ∈ ks, 0 ≤ x ∧ x < (i : Int)) ∧ ∀ n : Nat, n < i → ((n : Int) ∈ ks ↔ rows[n]? = some .en))
      (rng 0 rows.length) 0 [some (.ref R), some (.bl false), some (.ref S1.length), none, none, none, none, none] (S1 ++ [bmD []])
      ⟨[], none, rfl, Pre.app _ _, app_new _ _ _, List.nodup_nil, by simp, fun n h => absurd h (by omega)⟩ (fun _ _ S _ => stands_nil S) (by
        rintro i d fr S' hd ⟨ks, y3, rfl, pr, gD, nd, rg, ie⟩
        obtain ⟨hi, rfl⟩ := rng_at hd
        rw [show 0 + i = i by omega] at *
        have e0 : (0 : Int) + (i : Int) = (i : Int) := by omega
        obtain ⟨r, er, era⟩ := rows_at hi
        obtain ⟨w, hw, _, he⟩ := row_at0 r
        have ni : (i : Int) ∉ ks := fun z => by have := rg _ z; omega
        by_cases h : w = w_en
        · have kl : ks.length < 16777216 := by
            have := nodup_range i ks nd (fun x hx => by have := rg x hx; omega)
            omega
          have pu := bm_put ni
          have gD' := gD
          unfold bmD at gD'
          refine ⟨_, S'.set S1.length (bmD (ks ++ [(i : Int)])), .inl (by simp [turnM_s, l_law_comes_to_1, e0, pr.get hRa, era, row_tup r, hw, h, gD', kl, pu, bmD]; rfl), ks ++ [(i : Int)], _, rfl, pr.set (Nat.le_refl _), set_get gD, ?_, ?_, fun n hn => ?_⟩
          · rw [List.nodup_append]
            refine ⟨nd, by simp, ?_⟩
            intro a ha b hb
            rw [List.mem_singleton.mp hb]
            intro z
            exact ni (z ▸ ha)
          · intro x hx
            rcases List.mem_append.mp hx with z | z
            · have := rg x z; omega
            · rw [List.mem_singleton.mp z]; omega
          · by_cases hni : n = i
            · subst hni
              exact ⟨fun _ => by rw [er, he.mp h], fun _ => by simp⟩
            · rw [List.mem_append, ie n (by omega)]
              exact ⟨fun z => z.elim id fun w => absurd (List.mem_singleton.mp w) (by omega), fun z => .inl z⟩
        · exact ⟨_, S', .inl (by simp [turnM_s, l_law_comes_to_1, e0, pr.get hRa, era, row_tup r, hw, h]; rfl), ks, _, rfl, pr, gD, nd, (fun x hx => by have := rg x hx; omega), fun n hn => by
            by_cases hni : n = i
            · subst hni
              exact ⟨fun z => absurd z ni, fun z => absurd (he.mpr (Option.some.inj (er.symm.trans z))) h⟩
            · exact ie n (by omega)⟩)
    obtain ⟨fr1, S2, e1, ks, y3, rfl, p2, gD, nd, rg, ie⟩ := key
    rw [rng_len, Nat.zero_add] at rg ie
    obtain ⟨ks', fr', S', e, f2, p', gD', K', sub, sn, cl⟩ := comes_while R S1.length false l rows gd hl S1 (Nat.le_refl _) (by omega) (rows.length + 1) true y3 none none none ks S2 (by simp) gD ⟨nd, rg⟩ p2 (p2.get hRa) (fun n hn => .en ((ie n (by have := rg n hn; omega)).mp hn)) (fun z => by cases z)
    refine ⟨ks', S1.length, S', ?_, p1.trans p', gD', K', (fun z => by cases z), sn, cl, fun _ n hn => sub n ((ie n (List.getElem?_eq_some_iff.mp hn).1).mpr hn)⟩
    simp [bmD] at e1
    simp [m_law_comes_to, b_law_comes_to, z1, ← hS1, app_get hRa, fl]
    rw [e1]
    simp
    rw [e]
    simp [f2]
end Lk34
set_option Elab.async false
set_option linter.all false
set_option maxHeartbeats 1000000
namespace Lk34
open Mi
/-! ### mended -/
structure Gd0 (l : List Tx) (rows : List Row) : Prop where
  nm : ∀ r ∈ rows, RowN l r
  pos : 0 < rows.length
  go : ∀ (n : Nat) (t : Int), rows[n]? = some (.go t) → 0 ≤ t ∧ t < rows.length
  pt : ∀ (n : Nat) (a : Ky) (t : Int), rows[n]? = some (.pt a t) → 0 ≤ t ∧ t < rows.length
  nn : NoNx rows
theorem snoc_of {α : Type} {l : List α} (h : 0 < l.length) : ∃ q a, l = q ++ [a] ∧ l[l.length - 1]? = some a := by
  rcases snoc_or l with rfl | ⟨q, a, rfl⟩
  · simp at h
  · exact ⟨q, a, rfl, by simp⟩
theorem Gd0.gd {l : List Tx} {rows : List Row} (h : Gd0 l rows) (hl : ∃ t, rows[rows.length - 1]? = some (.go t)) : Gd l rows := by
  obtain ⟨q, a, e, ea⟩ := snoc_of h.pos
  obtain ⟨t, et⟩ := hl
  rw [ea] at et
  exact ⟨h.nm, ⟨q, a, e, .inr ⟨t, Option.some.inj et⟩⟩, h.go, h.pt, h.nn⟩
theorem Gd0.fix {l : List Tx} {rows : List Row} (h : Gd0 l rows) : Gd l (rows.set (rows.length - 1) .en) := by
  have inv : ∀ (n : Nat) (x : Row), (rows.set (rows.length - 1) .en)[n]? = some x → rows[n]? = some x ∨ x = .en := fun n x e => by
    rw [List.getElem?_set] at e
    split at e
    · split at e
      · exact .inr (Option.some.inj e).symm
      · cases e
    · exact .inl e
  refine ⟨?_, ?_, ?_, ?_, ?_⟩
  · intro x hx
    rcases List.mem_or_eq_of_mem_set hx with z | z
    · exact h.nm x z
    · rw [z]; trivial
  · obtain ⟨q, z, rfl, hz⟩ := snoc_of h.pos
    exact ⟨q, .en, by rw [List.length_append, List.length_singleton, Nat.add_sub_cancel, List.set_append_right _ _ (Nat.le_refl _), Nat.sub_self, List.set_cons_zero], .inl rfl⟩
  · intro n t e
    rw [List.length_set]
    rcases inv n _ e with z | z
    · exact h.go n t z
    · cases z
  · intro n a t e
    rw [List.length_set]
    rcases inv n _ e with z | z
    · exact h.pt n a t z
    · cases z
  · intro n a t e
    rcases inv n _ e with z | z
    · exact h.nn n a t z
    · cases z
theorem bm_lost (Dn : Nat) (ks : List Int) (n : Nat) (S : Store) (hD : S[Dn]? = some (bmD ks)) : oNotIn (.int (n : Int)) (.ref Dn) S = .ok (.bl (!dec ((n : Int) ∈ ks))) S := by
  have hD' := hD
  unfold bmD at hD'
  have := bm_get ks n
  simp [hD', this]
def wt : Row → Nat
  | .go _ => 2
  | .en => 1
  | _ => 0
def nu (rows : List Row) : Nat := (rows.map wt).sum
theorem nu_set {rows : List Row} {i : Nat} {r r' : Row} (h : rows[i]? = some r) (hw : wt r' < wt r) : nu (rows.set i r') < nu rows := by
  unfold nu
  rw [List.map_set]
  exact sum_set (by rw [List.getElem?_map, h]; rfl) hw
theorem nu_le (rows : List Row) : nu rows ≤ 2 * rows.length := by
  unfold nu
  induction rows with
  | nil => simp
  | cons r q ih =>
    rw [List.map_cons, List.sum_cons, List.length_cons]
    have : wt r ≤ 2 := by cases r <;> simp [wt]
    omega
theorem nu_pos {l : List Tx} {rows : List Row} (gd : Gd l rows) : 0 < nu rows := by
  obtain ⟨q, r, rfl, hr⟩ := gd.lst
  unfold nu
  rw [List.map_append, List.sum_append]
  rcases hr with rfl | ⟨t, rfl⟩ <;> simp [wt]
theorem fil_last {N d : Nat} {q : List Nat} {p : Nat → Bool} (h : (List.range N).filter p = q ++ [d]) : d < N ∧ p d = true ∧ ∀ b, d < b → b < N → p b = false := by
  have hd : d ∈ (List.range N).filter p := by rw [h]; simp
  obtain ⟨h1, h2⟩ := List.mem_filter.mp hd
  refine ⟨List.mem_range.mp h1, h2, fun b hb hbN => ?_⟩
  cases hp : p b with
  | false => rfl
  | true =>
    have hm : b ∈ (List.range N).filter p := List.mem_filter.mpr ⟨List.mem_range.mpr hbN, hp⟩
    have srt : ((List.range N).filter p).Pairwise (· < ·) := List.Pairwise.filter _ List.pairwise_lt_range
    rw [h] at hm srt
    rcases List.mem_append.mp hm with z | z
    · have := (List.pairwise_append.mp srt).2.2 b z d (by simp)
      omega
    · have := List.mem_singleton.mp z
      omega
theorem mended_ok (R : Nat) (l : List Tx) (rows : List Row) (S S0 : Store) (p0 : Pre S0 S) (hR0 : S0.length ≤ R) (hR : S[R]? = some (.lst (rows.map Row.d))) (g0 : Gd0 l rows) (hl : rows.length ≤ 1000) : ∃ (rows' : List Row) (S' : Store), m_law_mended [.ref R] S = .ok (.ref R) S' ∧ Pre S0 S' ∧ S'[R]? = some (.lst (rows'.map Row.d)) ∧ Gd l rows' ∧ rows'.length = rows.length ∧ ∀ n, n < rows.length → Ends rows' n := by
  have fl : far (rows.length : Int) := by unfold far; omega
  have fl2 : far (2 * (rows.length : Int)) := by unfold far; omega
  have m2 : mulOk 2 (rows.length : Int) := mul_l (by decide)
  have hpos := g0.pos
  -- behind the first step
  have first : ∃ (rows1 : List Row) (S1 : Store), Gd l rows1 ∧ rows1.length = rows.length ∧ S1[R]? = some (.lst (rows1.map Row.d)) ∧ Pre S0 S1 ∧ sIf (tBl (mOp oNe (mOp oIx (mOp oIx (mVar 0) (mVar 1)) (mC (.int 0))) (mC (.str t_go)))) (sAsg (mTup (aCons (mC (.str t_end)) aNil)) (gSub (mVar 0) (mVar 1))) (sNx) [some (.ref R), some (.int ((rows.length : Int) - 1)), none, none, none, none, none, none] S = .ok (.nx [some (.ref R), some (.int ((rows.length : Int) - 1)), none, none, none, none, none, none]) S1 := by
    obtain ⟨r, er, era⟩ := rows_at (rows := rows) (i := rows.length - 1) (by omega)
    rw [show ((rows.length - 1 : Nat) : Int) = (rows.length : Int) - 1 by omega] at era
    obtain ⟨w, hw, hg, _⟩ := row_at0 r
    have ix : ixN rows.length ((rows.length : Int) - 1) = some (rows.length - 1) := by rw [ixN_of (by omega) (by omega)]; congr 1; omega
    by_cases h : w = w_go
    · obtain ⟨t, rfl⟩ := hg.mp h
      exact ⟨rows, S, g0.gd ⟨t, er⟩, rfl, hR, p0, by simp [hR, era, d_go]⟩
    · exact ⟨rows.set (rows.length - 1) .en, S.set R (.lst ((rows.set (rows.length - 1) .en).map Row.d)), g0.fix, by simp, set_get hR, p0.set hR0, by simp [hR, era, row_tup r, hw, h, ix, LINE, d_en]⟩
  obtain ⟨rows1, S1, gd1, hlen1, g1, p1, e1⟩ := first
  have key := loop_ret (hs := []) (turn := turnM (gName 2) l_law_mended_5)
    (fun i fr S' => ∃ (rows' : List Row) (k2 k3 k4 k5 k6 k7 : Option D), fr = [some (.ref R), some (.int ((rows.length : Int) - 1)), k2, k3, k4, k5, k6, k7] ∧ Pre S0 S' ∧ S'[R]? = some (.lst (rows'.map Row.d)) ∧ Gd l rows' ∧ rows'.length = rows.length ∧ nu rows' + i ≤ 2 * rows.length)
    (fun x S' => x = .ref R ∧ ∃ (rows' : List Row), Pre S0 S' ∧ S'[R]? = some (.lst (rows'.map Row.d)) ∧ Gd l rows' ∧ rows'.length = rows.length ∧ ∀ n, n < rows.length → Ends rows' n)
    (rng 0 (2 * rows.length)) 0 [some (.ref R), some (.int ((rows.length : Int) - 1)), none, none, none, none, none, none] S1
    ⟨rows1, none, none, none, none, none, none, rfl, p1, g1, gd1, hlen1, by have := nu_le rows1; omega⟩ (fun _ _ S _ => stands_nil S) (by
      rintro i d fr S' hd ⟨rows', k2, k3, k4, k5, k6, k7, rfl, pr, gR, gd, hlen, hnu⟩
      obtain ⟨hi, rfl⟩ := rng_at hd
      have e0 : (0 : Int) + (i : Int) = (i : Int) := by omega
      obtain ⟨ks, m1, S2, q1, p2, gm1, K1, hz, _, cl1, _⟩ := comes_ok R true l rows' S' gd (by omega) gR
      have hz := hz rfl
      obtain ⟨kd, m2, S3, q2, p3, gm2, K2, _, sn2, cl2, en2⟩ := comes_ok R false l rows' S2 gd (by omega) (p2.get gR)
      have gR3 := p3.get (p2.get gR)
      have gm13 := p3.get gm1
      obtain ⟨S4, e4, p4, g4⟩ := lc_fil (vs := [6]) (g := gName 6) (t := c_law_mended_1) (e := e_law_mended_2) (fr := [some (.ref R), some (.int ((rows.length : Int) - 1)), some (.int i), some (.ref m1), some (.ref m2), k5, k6, k7]) (l := rng 0 rows.length) (hs := []) (S := S3) (List.range rows.length) (fun k => .int (0 + (k : Nat))) (fun k => .int ((k : Nat) : Int)) (fun (k : Nat) => !dec ((k : Int) ∈ ks)) rfl (fun _ h => by cases h) (by rw [List.length_range]; exact Nat.le_trans hl (by decide)) (by
        intro k hk S'' pr
        have e0 : (0 : Int) + (k : Int) = (k : Int) := by omega
        have bl := bm_lost m1 ks k S'' (pr.get gm13)
        refine ⟨[some (.ref R), some (.int ((rows.length : Int) - 1)), some (.int i), some (.ref m1), some (.ref m2), k5, some (.int k), k7], S'', by simp [unset, e0], ?_, Pre.refl _, fun _ => ⟨S'', by simp [e_law_mended_2], Pre.refl _⟩⟩
        simp only [c_law_mended_1, tBl_s, mOp_s, mVar_s, List.getElem?_cons_succ, List.getElem?_cons_zero, varK_s, opK1_s, opK2_s, bl, blK_s])
      obtain ⟨S5, e5, p5, g5⟩ := lc_fil (vs := [6]) (g := gName 6) (t := c_law_mended_3) (e := e_law_mended_4) (fr := [some (.ref R), some (.int ((rows.length : Int) - 1)), some (.int i), some (.ref m1), some (.ref m2), some (.ref S3.length), k6, k7]) (l := rng 0 rows.length) (hs := []) (S := S4) (List.range rows.length) (fun k => .int (0 + (k : Nat))) (fun k => .int ((k : Nat) : Int)) (fun (k : Nat) => !dec ((k : Int) ∈ kd)) rfl (fun _ h => by cases h) (by rw [List.length_range]; exact Nat.le_trans hl (by decide)) (by
        intro k hk S'' pr
        have e0 : (0 : Int) + (k : Int) = (k : Int) := by omega
        have bl := bm_lost m2 kd k S'' (pr.get (p4.get gm2))
        refine ⟨[some (.ref R), some (.int ((rows.length : Int) - 1)), some (.int i), some (.ref m1), some (.ref m2), some (.ref S3.length), some (.int k), k7], S'', by simp [unset, e0], ?_, Pre.refl _, fun _ => ⟨S'', by simp [e_law_mended_4], Pre.refl _⟩⟩
        simp only [c_law_mended_3, tBl_s, mOp_s, mVar_s, List.getElem?_cons_succ, List.getElem?_cons_zero, varK_s, opK1_s, opK2_s, bl, blK_s])
      have hL : ∀ k : Nat, k ∈ (List.range rows.length).filter (fun (k : Nat) => !dec ((k : Int) ∈ ks)) → k < rows.length ∧ 0 < k := fun k hk => by
        obtain ⟨h1, h2⟩ := List.mem_filter.mp hk
        refine ⟨List.mem_range.mp h1, ?_⟩
        by_cases h0 : k = 0
        · subst h0
          rw [show ((0 : Nat) : Int) = 0 by rfl, dec_true hz] at h2
          cases h2
        · omega
      have hDd : ∀ k : Nat, k ∈ (List.range rows.length).filter (fun (k : Nat) => !dec ((k : Int) ∈ kd)) → k < rows.length := fun k hk => List.mem_range.mp (List.mem_filter.mp hk).1
      have inv : ∀ {x : Int} {q : List Int}, (!dec (x ∈ q)) = false → x ∈ q := fun {x q} h => Classical.byContradiction fun z => by rw [dec_false z] at h; cases h
      have hL1 : ∀ z L', (List.range rows.length).filter (fun (k : Nat) => !dec ((k : Int) ∈ ks)) = z :: L' → ∃ r, rows'[z - 1]? = some r ∧ 0 < wt r := fun z L' e => by
        obtain ⟨h1, h2⟩ := hL z (by rw [e]; simp)
        obtain ⟨_, f2, f3⟩ := fil_head e
        have nk : (z : Int) ∉ ks := fun w => by rw [dec_true w] at f2; cases f2
        have pk := inv (f3 (z - 1) (by omega))
        have hr : rows'[z - 1]? = some (rows'[z - 1]'(by omega)) := List.getElem?_eq_getElem _
        generalize rows'[z - 1]'(by omega) = r at hr
        refine ⟨r, hr, ?_⟩
        have no : (z : Int) ∉ fol (z - 1) r := fun w => nk (cl1 (z - 1) r z (by omega) hr w pk)
        cases r with
        | go _ => simp [wt]
        | en => simp [wt]
        | pt _ _ => exact absurd (by simp only [fol, List.mem_cons]; left; omega) no
        | rk _ _ _ _ => exact absurd (by simp only [fol, List.mem_singleton]; omega) no
        | cp _ _ => exact absurd (by simp only [fol, List.mem_singleton]; omega) no
        | sy _ => exact absurd (by simp only [fol, List.mem_singleton]; omega) no
      have hZ1 : ∀ q za, (List.range rows.length).filter (fun (k : Nat) => !dec ((k : Int) ∈ kd)) = q ++ [za] → ∃ r, rows'[za]? = some r ∧ (za + 1 < rows.length → 0 < wt r) ∧ (za + 1 = rows.length → 1 < wt r) := fun q za e => by
        obtain ⟨f1, f2, f3⟩ := fil_last e
        have nk : (za : Int) ∉ kd := fun w => by rw [dec_true w] at f2; cases f2
        have hr : rows'[za]? = some (rows'[za]'(by omega)) := List.getElem?_eq_getElem _
        generalize rows'[za]'(by omega) = r at hr
        have nen : r ≠ .en := fun w => nk (en2 rfl za (by rw [← w]; exact hr))
        have nx : (za + 1 < rows.length) → ((za + 1 : Nat) : Int) ∉ fol za r := fun h w => nk (cl2 za r (za + 1) (by omega) hr w (inv (f3 (za + 1) (by omega) h)))
        refine ⟨r, hr, fun h => ?_, fun h => ?_⟩
        · have no := nx h
          cases r with
          | go _ => simp [wt]
          | en => simp [wt]
          | pt _ _ => exact absurd (by simp only [fol, List.mem_cons]; left; omega) no
          | rk _ _ _ _ => exact absurd (by simp only [fol, List.mem_singleton]; omega) no
          | cp _ _ => exact absurd (by simp only [fol, List.mem_singleton]; omega) no
          | sy _ => exact absurd (by simp only [fol, List.mem_singleton]; omega) no
        · cases r with
          | go _ => simp [wt]
          | en => exact absurd rfl nen
          | pt _ _ => have := gd.nx hr (by simp) (by simp); omega
          | rk _ _ _ _ => have := gd.nx hr (by simp) (by simp); omega
          | cp _ _ => have := gd.nx hr (by simp) (by simp); omega
          | sy _ => have := gd.nx hr (by simp) (by simp); omega
      have hZ0 : (List.range rows.length).filter (fun (k : Nat) => !dec ((k : Int) ∈ kd)) = [] → ∀ n, n < rows.length → Ends rows' n := fun e n hn => by
        have := List.filter_eq_nil_iff.mp e n (List.mem_range.mpr hn)
        exact sn2 n (inv (by simpa using this))
      generalize (List.range rows.length).filter (fun (k : Nat) => !dec ((k : Int) ∈ ks)) = L at g4 hL hL1
      generalize (List.range rows.length).filter (fun (k : Nat) => !dec ((k : Int) ∈ kd)) = Z at g5 hDd hZ1 hZ0
      have g45 := p5.get g4
      have gR5 := p5.get (p4.get gR3)
      have pr5 := (((pr.trans p2).trans p3).trans p4).trans p5
      have ne : ∀ G, (S5 ++ O.lst [] :: G)[S5.length]? = some (.lst (([] : List Int).map .int)) := fun G => app_new _ _ _
      have qL : ∀ G, oNe (.ref S3.length) (.ref S5.length) (S5 ++ O.lst [] :: G) = .ok (.bl (!decide (L.map (fun k => ((k : Nat) : Int)) = []))) (S5 ++ O.lst [] :: G) := fun G => by
        rw [oNe_g, eq_ints (lst_of (app_get (by rw [← ofI_map]; exact g45))) (lst_of (ne G))]; rfl
      have i0 : oNe (.ref S4.length) (.ref (S5.length + 1)) (S5 ++ [O.lst [], O.lst []]) = .ok (.bl (!decide (Z.map (fun k => ((k : Nat) : Int)) = []))) (S5 ++ [O.lst [], O.lst []]) := by
        rw [oNe_g, eq_ints (B := []) (lst_of (app_get (by rw [← ofI_map]; exact g5))) (lst_of (by simp [get_app]))]; rfl
      have i1 : oNe (.ref S4.length) (.ref (S5.length + 2)) (S5 ++ [O.lst [], O.lst [], O.lst []]) = .ok (.bl (!decide (Z.map (fun k => ((k : Nat) : Int)) = []))) (S5 ++ [O.lst [], O.lst [], O.lst []]) := by
        rw [oNe_g, eq_ints (B := []) (lst_of (app_get (by rw [← ofI_map]; exact g5))) (lst_of (by simp [get_app]))]; rfl
      have h5 := fun G => app_get (G := G) g45
      have h6 := fun G => app_get (G := G) g5
      have hRp := fun G => app_get (G := G) gR5
      have dlen : divOk 2 := div_ok (by decide) (by decide)
      have opw : Opd l (.inl (i : Int)) := .inr ⟨_, rfl, by omega, by omega⟩
      have turn : turnM (gName 2) l_law_mended_5 (.int (0 + (i : Int))) [some (.ref R), some (.int ((rows.length : Int) - 1)), k2, k3, k4, k5, k6, k7] S' = (sIf (tBl (mOp oNe (mVar 5) (mLst (aNil)))) (sAsg (mTup (aCons (mC (.str t_say)) (aCons (mVar 2) aNil))) (gSub (mVar 0) (mOp oSub (mOp oIx (mVar 5) (mC (.int 0))) (mC (.int 1))))) (sIf (tAnd (tBl (mOp oNe (mVar 7) (mLst (aNil)))) (tBl (mOp oEq (mOp oIx (mVar 7) (mUn uNeg (mC (.int 1)))) (mVar 1)))) (sAsg (mTup (aCons (mC (.str t_end)) aNil)) (gSub (mVar 0) (mVar 1))) (sIf (tBl (mOp oNe (mVar 7) (mLst (aNil)))) (sAsg (mTup (aCons (mC (.str t_say)) (aCons (mVar 2) aNil))) (gSub (mVar 0) (mOp oIx (mVar 7) (mUn uNeg (mC (.int 1)))))) (sRet (mVar 0))))) [some (.ref R), some (.int ((rows.length : Int) - 1)), some (.int i), some (.ref m1), some (.ref m2), some (.ref S3.length), k6, some (.ref S4.length)] S5 := by
        obtain ⟨A, hA⟩ : ∃ A : SM, A = (sIf (tBl (mOp oNe (mVar 5) (mLst (aNil)))) (sAsg (mTup (aCons (mC (.str t_say)) (aCons (mVar 2) aNil))) (gSub (mVar 0) (mOp oSub (mOp oIx (mVar 5) (mC (.int 0))) (mC (.int 1))))) (sIf (tAnd (tBl (mOp oNe (mVar 7) (mLst (aNil)))) (tBl (mOp oEq (mOp oIx (mVar 7) (mUn uNeg (mC (.int 1)))) (mVar 1)))) (sAsg (mTup (aCons (mC (.str t_end)) aNil)) (gSub (mVar 0) (mVar 1))) (sIf (tBl (mOp oNe (mVar 7) (mLst (aNil)))) (sAsg (mTup (aCons (mC (.str t_say)) (aCons (mVar 2) aNil))) (gSub (mVar 0) (mOp oIx (mVar 7) (mUn uNeg (mC (.int 1)))))) (sRet (mVar 0))))) := ⟨_, rfl⟩
        simp only [l_law_mended_5]
        rw [← hA]
        have gl3 : ∀ X, S3[R]? = some X → lenK S3 S3[R]? = lenK S3 (some X) := fun X h => by rw [h]
        have gR4 := p4.get gR3
        have ll : rows'.length = rows.length := hlen
        simp [turnM_s, e0, q1, q2, gR3, ll, fl]
        rw [e4]
        simp [gR4, ll, fl]
        rw [e5]
        simp
      rw [turn]
      by_cases hLe : L = []
      · subst hLe
        have qL0 := qL []
        simp at qL0
        by_cases hZe : Z = []
        · subst hZe
          refine .inr ⟨.ref R, S5 ++ [.lst [], .lst [], .lst []], ?_, rfl, rows', pr5.trans (Pre.app _ _), hRp _, gd, hlen, hZ0 rfl⟩
          simp at i0 i1
          simp [LINE, qL0, i0, i1]
        · obtain ⟨zq, za, hza, _⟩ := snoc_of (List.length_pos_iff.mpr hZe)
          have hzl : za < rows.length := hDd za (by rw [hza]; simp)
          obtain ⟨rz, erz, wz1, wz2⟩ := hZ1 zq za hza
          have zat : atI (Z.map (fun k => D.int ((k : Nat) : Int))) (-1) = some (.int (za : Int)) := by rw [hza, List.map_append]; exact at_last _ _
          simp [hZe] at i0 i1
          by_cases hlast : (za : Int) = (rows.length : Int) - 1
          · have ix : ixN rows'.length ((rows.length : Int) - 1) = some (rows'.length - 1) := by rw [ixN_of (by omega) (by omega)]; congr 1; omega
            have gd2 := gd.endLast
            refine .inl ⟨_, List.set (S5 ++ [O.lst [], O.lst []]) R (.lst ((rows'.set (rows'.length - 1) .en).map Row.d)), .inl (by simp [LINE, qL0, i0, h6, zat, hlast, hRp, ix, d_en]; exact ⟨rfl, rfl, rfl, rfl, rfl, rfl⟩), rows'.set (rows'.length - 1) .en, _, _, _, _, _, _, rfl, (pr5.trans (Pre.app _ _)).set hR0, set_get (o := .lst (rows'.map Row.d)) (hRp _), gd2, by rw [List.length_set]; exact hlen, (by have hzz : rows'.length - 1 = za := (by omega); have := nu_set (rows := rows') (i := rows'.length - 1) (r' := .en) (by rw [hzz]; exact erz) (wz2 (by omega)); omega)⟩
          · have ix : ixN rows'.length (za : Int) = some za := by rw [ixN_of (by omega) (by omega)]; simp
            have gd2 := gd.set (i := za) (r := .sy (.inl i)) (by omega) opw (fun t e => by cases e) (fun a t e => by cases e)
            refine .inl ⟨_, List.set (S5 ++ [O.lst [], O.lst [], O.lst []]) R (.lst ((rows'.set za (.sy (.inl i))).map Row.d)), .inl (by simp [LINE, qL0, i0, i1, h6, zat, hlast, hRp, ix, d_sy]; exact ⟨rfl, rfl, rfl, rfl, rfl, rfl⟩), rows'.set za (.sy (.inl i)), _, _, _, _, _, _, rfl, (pr5.trans (Pre.app _ _)).set hR0, set_get (o := .lst (rows'.map Row.d)) (hRp _), gd2, by rw [List.length_set]; exact hlen, (by have := nu_set (rows := rows') (i := za) (r' := .sy (.inl (i : Int))) erz (wz1 (by omega)); omega)⟩
      · obtain ⟨z, L', hzL⟩ : ∃ z L', L = z :: L' := by cases L with
          | nil => exact absurd rfl hLe
          | cons z L' => exact ⟨z, L', rfl⟩
        obtain ⟨hz1, hz2⟩ := hL z (by rw [hzL]; simp)
        obtain ⟨rz, erz, wz⟩ := hL1 z L' hzL
        have zat : atI (L.map (fun k => D.int ((k : Nat) : Int))) 0 = some (.int (z : Int)) := by rw [hzL]; exact at0 _ _
        have ix : ixN rows'.length ((z : Int) - 1) = some (z - 1) := by rw [ixN_of (by omega) (by omega)]; congr 1; omega
        have qL0 := qL []
        simp [hLe] at qL0
        have gd2 := gd.set (i := z - 1) (r := .sy (.inl i)) (by omega) opw (fun t e => by cases e) (fun a t e => by cases e)
        refine .inl ⟨_, List.set (S5 ++ [O.lst []]) R (.lst ((rows'.set (z - 1) (.sy (.inl i))).map Row.d)), .inl (by simp [LINE, qL0, h5, zat, hRp, ix, d_sy]; exact ⟨rfl, rfl, rfl, rfl, rfl, rfl⟩), rows'.set (z - 1) (.sy (.inl i)), _, _, _, _, _, _, rfl, (pr5.trans (Pre.app _ _)).set hR0, set_get (o := .lst (rows'.map Row.d)) (hRp _), gd2, by rw [List.length_set]; exact hlen, (by have := nu_set (rows := rows') (i := z - 1) (r' := .sy (.inl (i : Int))) erz wz; omega)⟩)
  obtain ⟨A, hA⟩ : ∃ A : SM, A = sIf (tBl (mOp oNe (mOp oIx (mOp oIx (mVar 0) (mVar 1)) (mC (.int 0))) (mC (.str t_go)))) (sAsg (mTup (aCons (mC (.str t_end)) aNil)) (gSub (mVar 0) (mVar 1))) (sNx) := ⟨_, rfl⟩
  rw [← hA] at e1
  have tn : (2 * (rows.length : Int)).toNat = 2 * rows.length := by omega
  rcases key with ⟨fr', S', e, rows', k2, k3, k4, k5, k6, k7, rfl, pr, gR, gd, hlen, hnu⟩ | ⟨x, S', e, rfl, rows', pr, gR, gd, hlen, he⟩
  · rw [rng_len] at hnu
    have := nu_pos gd
    omega
  · refine ⟨rows', S', ?_, pr, gR, gd, hlen, he⟩
    simp only [m_law_mended, b_law_mended]
    rw [← hA]
    simp [hR, e1, g1, hlen1, m2, fl2, tn]
    rw [e]
    simp
end Lk34
set_option Elab.async false
set_option linter.all false
set_option maxHeartbeats 1000000
namespace Lk34
open Mi
/-! ### the program -/
theorem any_program_ok {ns : List Int} (C : Nat) (cells : List Int) (S : Store) (h : S[0]? = some (.fls (ns.map .int))) (hC : S[C]? = some (.lst (cells.map .int))) (hc : cells.length ≤ 60) : ∃ (l : List Tx) (rows : List Row) (m : Nat) (S' : Store), m_law_any_program [.ref 0, .ref C] S = .ok (.ref m) S' ∧ Pre S S' ∧ S.length ≤ m ∧ S'[m]? = some (.lst (rows.map Row.d)) ∧ Gd l rows ∧ rows.length ≤ 130 ∧ (∀ t ∈ l, Nm t) ∧ ∀ n, n < rows.length → Ends rows n := by
  obtain ⟨c0, ec⟩ := cell_ok h 0
  have ec' : m_law_cell [.ref 0, .int 0] S = .ok (.int c0) S := ec
  obtain ⟨l, N, S1, en, p1, hN1, gN, hl3, hl5, hnm⟩ := names_ok c0 S
  obtain ⟨ds, M, S2, ed, p2, hM2, gM, d0, d12, dk⟩ := deeds_ok N S1 l (p1.get h) gN (by omega)
  have gN2 := p2.get gN
  have hS2 := (p1.trans p2)
  have hC2 := hS2.get hC
  have hC3 := app_get (G := [O.lst [D.tup [.str w_en]]]) hC2
  by_cases hz : cells = []
  · subst hz
    have g0 : Gd0 l [Row.en] := ⟨by simp [RowN], by simp, by intro n t e; cases n <;> simp at e, by intro n a t e; cases n <;> simp at e, by intro n a t e; cases n <;> simp at e⟩
    obtain ⟨rows', S', e, pr, g, gd, hlen, he⟩ := mended_ok S2.length l [Row.en] (S2 ++ [.lst ([Row.en].map Row.d)]) S2 (Pre.app _ _) (Nat.le_refl _) (app_new _ _ _) g0 (by simp)
    refine ⟨l, rows', S2.length, S', ?_, hS2.trans pr, by have := hS2.len; omega, g, gd, by rw [hlen]; simp, hnm, by rw [hlen]; exact he⟩
    simp [d_en] at e
    simp at hC3
    simp [m_law_any_program, b_law_any_program, ec', en, ed, hC2, LINE, hC3, e]
  · have hpos : 0 < cells.length := List.length_pos_iff.mpr hz
    have hb : (if (cells.length : Int) > 1 then (cells.length : Int) else 1) = (cells.length : Int) := by split <;> omega
    have fc : far (cells.length : Int) := by unfold far; omega
    obtain ⟨xs, S3, e3, p3, g3, hxl, hx⟩ := lc_rel (vs := [6]) (g := gName 6) (e := e_law_any_program_1) (fr := [some (.ref 0), some (.ref C), some (.ref N), some (.ref M), some (.int cells.length), some (.ref S2.length), none]) (l := rng 0 cells.length) (hs := []) (S := S2 ++ [O.lst [D.tup [.str w_en]]]) (fun d x => ∃ r : Row, x = r.d ∧ (RowN l r ∧ (∀ t, r = .go t → 0 ≤ t ∧ t < (cells.length : Int)) ∧ ∀ a t, r = .pt a t → 0 ≤ t ∧ t < (cells.length : Int) ∧ ∀ j : Nat, d = .int (j : Int) → t ≠ (j : Int) + 1)) (fun _ h => by cases h) (by rw [rng_len]; exact Nat.le_trans hc (by decide)) (by
      intro d hd S' pr
      obtain ⟨i, hi⟩ := List.getElem?_of_mem hd
      obtain ⟨hlt, rfl⟩ := rng_at hi
      have e0 : (0 : Int) + (i : Int) = (i : Int) := by omega
      have e : atI (cells.map D.int) (i : Int) = some (.int cells[i]) := at_of (by simp [hlt])
      obtain ⟨r, S4, er, p4, hr, hg, hp⟩ := any_row_ok cells[i] i cells.length N M S' l ds (pr.get (app_get gN2)) (pr.get (app_get gM)) (by omega) (by omega) d0 dk hpos (by omega)
      refine ⟨_, S4, rfl, r.d, ?_, p4, r, rfl, hr, hg, fun a t e => ?_⟩
      rotate_left
      · have := hp a t e
        refine ⟨this.1, this.2.1, fun j hj => ?_⟩
        have : (j : Int) = (i : Int) := by injection hj with hj; omega
        omega
      simp [e_law_any_program_1, unset, e0, pr.get hC3, e, er])
    have hx2 := hx
    obtain ⟨rows, rfl, hrl, hrows⟩ := of_rel (f := Row.d) (Q := fun r => RowN l r ∧ (∀ t, r = .go t → 0 ≤ t ∧ t < (cells.length : Int)) ∧ ∀ a t, r = .pt a t → 0 ≤ t ∧ t < (cells.length : Int)) hxl (fun i d x h1 h2 => by
      obtain ⟨r, e, q1, q2, q3⟩ := hx i d x h1 h2
      exact ⟨r, e, q1, q2, fun a t z => ⟨(q3 a t z).1, (q3 a t z).2.1⟩⟩)
    rw [rng_len] at hrl
    have nn : NoNx rows := fun n a t e => by
      have hn := (List.getElem?_eq_some_iff.mp e).1
      have h1 : (rng 0 cells.length)[n]? = some (.int (n : Int)) := by
        unfold rng
        rw [List.getElem?_map, List.getElem?_range (by omega)]
        simp
      have h2 : (rows.map Row.d)[n]? = some (Row.pt a t).d := by rw [List.getElem?_map, e]; rfl
      obtain ⟨r, er, _, _, q3⟩ := hx2 n _ _ h1 h2
      cases r with
      | pt a' t' =>
        rw [d_pt, d_pt] at er
        simp at er
        have := (q3 a' t' rfl).2.2 n rfl
        rw [er.2]; exact this
      | rk _ _ _ _ => rw [d_rk, d_pt] at er; simp at er
      | cp _ _ => rw [d_cp, d_pt] at er; simp at er
      | sy _ => rw [d_sy, d_pt] at er; simp at er
      | go _ => rw [d_go, d_pt] at er; simp at er
      | en => rw [d_en, d_pt] at er; simp at er
    have g0 : Gd0 l rows := ⟨fun r hr => (hrows r hr).1, by omega, fun n t e => by rw [hrl]; exact (hrows _ (List.mem_of_getElem? e)).2.1 t rfl, fun n a t e => by rw [hrl]; exact (hrows _ (List.mem_of_getElem? e)).2.2 a t rfl, nn⟩
    have p23 : Pre S2 S3 := (Pre.app _ _).trans p3
    obtain ⟨rows', S', e, pr, g, gd, hlen, he⟩ := mended_ok (S2.length + 1) l rows S3 S2 p23 (by omega) (by simpa using g3) g0 (by omega)
    refine ⟨l, rows', S2.length + 1, S', ?_, hS2.trans pr, by have := hS2.len; omega, g, gd, by omega, hnm, by rw [hlen]; exact he⟩
    have h1 : ¬ (cells.length : Int) ≤ 0 := by omega
    by_cases hc1 : 1 < cells.length
    · have hc1' : (1 : Int) < (cells.length : Int) := by omega
      simp [m_law_any_program, b_law_any_program, ec', en, ed, hC2, LINE, hC3, hpos, hc1, hc1', fc]
      rw [e3]
      simp [e]
    · have hc1' : cells.length = 1 := by omega
      have f1 : far 1 := by unfold far; omega
      rw [hc1'] at e3
      simp at e3
      simp [m_law_any_program, b_law_any_program, ec', en, ed, hC2, LINE, hC3, hc1', f1]
      rw [e3]
      simp [e]
/-- a row turned to where it leads -/
def TurnOk (rough : List Row) (l : List Tx) (len : Nat) (n : Nat) (r r' : Row) : Prop := ((flatR r = true → r' = r) ∧ (∀ a t, r = .pt a t → ∃ t', r' = .pt a t') ∧ (∀ a, r = .pt a (-1) → r' = .pt a ((n : Int) + 2)) ∧ ∀ t, r = .go t → ∃ t' : Nat, r' = .go (t' : Int) ∧ t' < len ∧ (t' : Int) ≤ t % (len : Int) ∧ ∀ z, rough[t']? ≠ some (.go z)) ∧ RowN l r' ∧ (∀ t, r' = .go t → 0 ≤ t ∧ t < (len : Int)) ∧ (∀ a t, r' = .pt a t → 0 ≤ t ∧ t < (len : Int) ∧ t ≠ (n : Int) + 1) ∧ (r = .en → r' = .en) ∧ ((∃ t, r = .go t) → ∃ t, r' = .go t)
/-- rows turned lie along a line -/
theorem turned_ln {l : List Tx} {rows rows' : List Row} (rg : Rgh l rows) (hlen : rows'.length = rows.length) (hrows : ∀ (n : Nat) (r r' : Row), rows[n]? = some r → rows'[n]? = some r' → TurnOk rows l rows.length n r r') : Ln rows' (fun n => n = 0 ∨ ∀ a, rows[n - 1]? ≠ some (.pt a (-1))) := by
  have hpos : 0 < rows.length := by obtain ⟨q, r, rfl, _⟩ := rg.lst; simp
  have pair : ∀ (n : Nat) (r' : Row), rows'[n]? = some r' → ∃ r, rows[n]? = some r ∧ TurnOk rows l rows.length n r r' := fun n r' e => by
    have hn := (List.getElem?_eq_some_iff.mp e).1
    have : n < rows.length := by omega
    exact ⟨_, List.getElem?_eq_getElem this, hrows n _ r' (List.getElem?_eq_getElem this) e⟩
  have back : ∀ (n : Nat) (r : Row), rows[n]? = some r → ∃ r', rows'[n]? = some r' ∧ TurnOk rows l rows.length n r r' := fun n r e => by
    have hn := (List.getElem?_eq_some_iff.mp e).1
    have : n < rows'.length := by omega
    exact ⟨_, List.getElem?_eq_getElem this, hrows n r _ e (List.getElem?_eq_getElem this)⟩
  have en_ : ∀ n, rows[n]? = some Row.en → rows'[n]? = some Row.en := fun n e => by
    obtain ⟨r', h1, tk⟩ := back n _ e
    rw [h1, tk.2.2.2.2.1 rfl]
  have nst : ∀ {n : Nat}, ¬ (n = 0 ∨ ∀ a, rows[n - 1]? ≠ some (.pt a (-1))) → n ≠ 0 ∧ ∃ r, rows[n]? = some r ∧ (r = .en ∨ ∃ t, r = .go t) := fun {n} h => by
    have h0 : n ≠ 0 := fun z => h (.inl z)
    refine ⟨h0, ?_⟩
    obtain ⟨a, ha⟩ : ∃ a, rows[n - 1]? = some (.pt a (-1)) := Classical.byContradiction fun z => h (.inr fun a w => z ⟨a, w⟩)
    have := rg.c2 _ a ha
    rwa [show n - 1 + 1 = n by omega] at this
  have stOf : ∀ {n : Nat} {r : Row}, rows[n]? = some r → r ≠ .en → (∀ t, r ≠ .go t) → (n = 0 ∨ ∀ a, rows[n - 1]? ≠ some (.pt a (-1))) := fun {n r} hr h1 h2 => Classical.byContradiction fun z => by
    obtain ⟨_, r2, h3, h4⟩ := nst z
    rw [hr] at h3
    obtain rfl := Option.some.inj h3
    rcases h4 with w | ⟨t, w⟩
    · exact h1 w
    · exact h2 t w
  refine ⟨by omega, .inl rfl, ?_, fun n r' sn hn hr' => ?_, fun n r' sn hr' => ?_, ?_⟩
  · rw [hlen]
    by_cases h : rows.length - 1 = 0
    · exact .inl h
    · refine .inr fun a w => ?_
      rcases rg.pts _ a _ w with z | ⟨_, z⟩
      · exact absurd z (by decide)
      · omega
  · obtain ⟨r, hr, tk⟩ := pair n r' hr'
    have ng : ¬ (r = .en ∨ ∃ t, r = .go t) := fun z => by
      obtain ⟨n0, a, w⟩ := rg.c1 n r (by omega) hr z
      rcases sn with s | s
      · exact n0 s
      · exact s a w
    have plain : flatR r = true → ((n : Int) + 1 ∈ fol n r') ∧ (((n + 1 = 0) ∨ ∀ a, rows[n + 1 - 1]? ≠ some (.pt a (-1))) ∨ (n + 2 < rows'.length ∧ ((n + 2 = 0) ∨ ∀ a, rows[n + 2 - 1]? ≠ some (.pt a (-1))) ∧ ¬ ((n + 1 = 0) ∨ ∀ a, rows[n + 1 - 1]? ≠ some (.pt a (-1))) ∧ ∃ a, r' = .pt a ((n : Int) + 2))) := fun f => by
      have e := tk.1.1 f
      subst e
      refine ⟨?_, .inl (.inr fun a w => ?_)⟩
      · cases r' with
        | rk _ _ _ _ => simp [fol]
        | cp _ _ => simp [fol]
        | sy _ => simp [fol]
        | _ => cases f
      · rw [Nat.add_sub_cancel, hr] at w
        obtain rfl := Option.some.inj w
        cases f
    cases r with
    | rk _ _ _ _ => exact plain rfl
    | cp _ _ => exact plain rfl
    | sy _ => exact plain rfl
    | go t => exact absurd (.inr ⟨t, rfl⟩) ng
    | en => exact absurd (.inl rfl) ng
    | pt a t =>
      by_cases ht : t = -1
      · subst ht
        have e := tk.1.2.2.1 a rfl
        have h2 : n + 2 < rows.length := by
          rcases rg.pts n a _ hr with z | ⟨_, z⟩
          · exact absurd z (by decide)
          · exact z
        obtain ⟨r2, hr2, k2⟩ := rg.c2 n a hr
        refine ⟨by rw [e]; simp [fol], .inr ⟨by omega, .inr fun b w => ?_, fun z => ?_, a, e⟩⟩
        · rw [show n + 2 - 1 = n + 1 by omega, hr2] at w
          obtain rfl := Option.some.inj w
          rcases k2 with k | ⟨t, k⟩ <;> cases k
        · rcases z with z | z
          · omega
          · exact z a (by rw [Nat.add_sub_cancel]; exact hr)
      · obtain ⟨t', e⟩ := tk.1.2.1 a t rfl
        refine ⟨by rw [e]; simp [fol], .inl (.inr fun b w => ?_)⟩
        rw [Nat.add_sub_cancel, hr] at w
        have := Option.some.inj w
        injection this with _ h
        exact ht h
  · obtain ⟨r, hr, tk⟩ := pair n r' hr'
    obtain ⟨n0, r2, hr2, k⟩ := nst sn
    rw [hr] at hr2
    obtain rfl := Option.some.inj hr2
    rcases k with rfl | ⟨t, rfl⟩
    · exact .inl (tk.2.2.2.2.1 rfl)
    · obtain ⟨t', e, h1, h2, h3⟩ := tk.1.2.2.2 t rfl
      refine .inr ⟨t', e, by omega, ?_⟩
      by_cases s : (t' = 0 ∨ ∀ a, rows[t' - 1]? ≠ some (.pt a (-1)))
      · exact .inl s
      · obtain ⟨_, r3, hr3, k3⟩ := nst s
        rcases k3 with rfl | ⟨z, rfl⟩
        · exact .inr (en_ _ hr3)
        · exact absurd hr3 (h3 z)
  · rw [hlen]
    rcases rg.ls2 with z | ⟨t, e, z, t0, te, el, ee, no⟩
    · exact .inl (en_ _ z)
    · obtain ⟨r', hr', tk⟩ := back _ _ z
      obtain ⟨t', e', h1, h2, h3⟩ := tk.1.2.2.2 t rfl
      have hm : t % (rows.length : Int) = t := Int.emod_eq_of_lt t0 (by omega)
      rw [hm] at h2
      obtain ⟨e0, a, ha⟩ := rg.c1 e .en el ee (.inl rfl)
      refine .inr ⟨t', e, by rw [hr', e'], ?_, by omega, by omega, en_ _ ee, fun s => ?_, by omega, ?_⟩
      · refine Classical.byContradiction fun s => ?_
        obtain ⟨_, r3, hr3, k3⟩ := nst s
        rcases k3 with rfl | ⟨w, rfl⟩
        · exact no t' (by omega) hr3
        · exact h3 w hr3
      · rcases s with s | s
        · exact e0 s
        · exact s a ha
      · exact stOf ha (by simp) (by simp)
theorem program_ok {ns : List Int} (C : Nat) (cells : List Int) (S : Store) (h : S[0]? = some (.fls (ns.map .int))) (hC : S[C]? = some (.lst (cells.map .int))) (hc : cells.length ≤ 60) : ∃ (l : List Tx) (rows : List Row) (m : Nat) (S' : Store), m_law_program [.ref 0, .ref C] S = .ok (.ref m) S' ∧ Pre S S' ∧ S.length ≤ m ∧ S'[m]? = some (.lst (rows.map Row.d)) ∧ Gd l rows ∧ rows.length ≤ 130 ∧ (∀ t ∈ l, Nm t) ∧ ∀ n, n < rows.length → Ends rows n := by
  obtain ⟨b, eb⟩ := free_ok h
  cases b with
  | true =>
    obtain ⟨l, rows, m, S', e, q⟩ := any_program_ok C cells S h hC hc
    exact ⟨l, rows, m, S', by simp [m_law_program, b_law_program, eb, e], q⟩
  | false =>
    obtain ⟨c57, S1, e57, p1⟩ := number_ok h 57
    have e57' : m_law_number [.ref 0, .int 57] S = .ok (.int c57) S1 := e57
    have h1 := p1.get h
    have d8 : divOk 8 := div_ok (by decide) (by decide)
    by_cases hs : c57 % 8 = 1
    · obtain ⟨many, hm, hm1, hm2⟩ : ∃ k : Nat, 1 + c57 / 8 % 28 = (k : Int) ∧ 1 ≤ k ∧ k ≤ 28 := ⟨(1 + c57 / 8 % 28).toNat, by omega, by omega, by omega⟩
      obtain ⟨l, rows, m, S', e, pr, hm', q⟩ := stairs_ok many S1 h1 hm1 hm2
      exact ⟨l, rows, m, S', by simp [m_law_program, b_law_program, eb, e57', hs, d8, hm, e], p1.trans pr, by have := p1.len; omega, q⟩
    · obtain ⟨l, rows, R, S2, e2, p2, gR, rg, hrl, hnm, hl3, hl5⟩ := rough_ok C cells S1 h1 (p1.get hC) hc
      have hpos : 0 < rows.length := by obtain ⟨q, r, rfl, _⟩ := rg.lst; simp
      have key := loop_inv (hs := [(R, rows.map Row.d)]) (turn := turnM (gTup 2 (gCons (gName 5) (gCons (gName 6) gNil))) l_law_program_1)
        (fun i fr S' => ∃ (k5 k6 : Option D) (rows' : List Row), fr = [some (.ref 0), some (.ref C), some (.int c57), some (.ref R), some (.ref S2.length), k5, k6] ∧ Pre S2 S' ∧ S'[S2.length]? = some (.lst (rows'.map Row.d)) ∧ rows'.length = i ∧ ∀ (n : Nat) (r r' : Row), rows[n]? = some r → rows'[n]? = some r' → TurnOk rows l rows.length n r r')
        (prs 0 (rows.map Row.d)) 0 [some (.ref 0), some (.ref C), some (.int c57), some (.ref R), some (.ref S2.length), none, none] (S2 ++ [.lst []])
        ⟨none, none, [], rfl, Pre.app _ _, app_new _ _ _, rfl, fun n r r' _ e => by cases e⟩
        (by
          rintro i fr S' ⟨k5, k6, rows', rfl, pr, g, _⟩
          exact stands_one (lst_of (pr.get gR)))
        (by
          rintro i d fr S' hd ⟨k5, k6, rows', rfl, pr, g, hlen, hrows⟩
          obtain ⟨x, hx, rfl⟩ := prs_at hd
          rw [List.getElem?_map] at hx
          obtain ⟨r, hn, rfl⟩ := Option.map_eq_some_iff.mp hx
          have hi : i < rows.length := (List.getElem?_eq_some_iff.mp hn).1
          rw [show 0 + i = i by omega] at *
          have hrN := rg.nm r (List.mem_of_getElem? hn)
          have hl1 : rows'.length < 16777216 := by omega
          have gR' := pr.get gR
          have nlast : r ≠ .en → (∀ t, r ≠ .go t) → i + 1 < rows.length := fun n1 n2 => by
            obtain ⟨q, z, hq, hz⟩ := rg.lst
            rw [hq] at hn ⊢
            rcases get_snoc hn with k | ⟨_, k⟩
            · have := (List.getElem?_eq_some_iff.mp k).1
              rw [List.length_append, List.length_singleton]; omega
            · rcases hz with w | ⟨t, w⟩
              · exact absurd (k.trans w) n1
              · exact absurd (k.trans w) (n2 t)
          have fin : ∀ (r' : Row), TurnOk rows l rows.length i r r' → turnM (gTup 2 (gCons (gName 5) (gCons (gName 6) gNil))) l_law_program_1 (.tup [.int (i : Nat), r.d]) [some (.ref 0), some (.ref C), some (.int c57), some (.ref R), some (.ref S2.length), k5, k6] S' = .ok (.nx [some (.ref 0), some (.ref C), some (.int c57), some (.ref R), some (.ref S2.length), some (.int i), some r'.d]) (S'.set S2.length (.lst ((rows' ++ [r']).map Row.d))) →
              ∃ fr' S'', (turnM (gTup 2 (gCons (gName 5) (gCons (gName 6) gNil))) l_law_program_1 (.tup [.int (i : Nat), r.d]) [some (.ref 0), some (.ref C), some (.int c57), some (.ref R), some (.ref S2.length), k5, k6] S' = .ok (.nx fr') S'' ∨ turnM (gTup 2 (gCons (gName 5) (gCons (gName 6) gNil))) l_law_program_1 (.tup [.int (i : Nat), r.d]) [some (.ref 0), some (.ref C), some (.int c57), some (.ref R), some (.ref S2.length), k5, k6] S' = .ok (.ct fr') S'') ∧ ∃ (k5 k6 : Option D) (rows' : List Row), fr' = [some (.ref 0), some (.ref C), some (.int c57), some (.ref R), some (.ref S2.length), k5, k6] ∧ Pre S2 S'' ∧ S''[S2.length]? = some (.lst (rows'.map Row.d)) ∧ rows'.length = i + 1 ∧ ∀ (n : Nat) (r r' : Row), rows[n]? = some r → rows'[n]? = some r' → TurnOk rows l rows.length n r r' := by
            intro r' tk e
            refine ⟨_, _, .inl e, _, _, rows' ++ [r'], rfl, pr.set (Nat.le_refl _), set_get g, by simp [hlen], ?_⟩
            intro n a a' ea ea'
            rcases get_snoc ea' with z | ⟨z, rfl⟩
            · exact hrows n a a' ea z
            · rw [hlen] at z
              subst z
              rw [hn] at ea
              obtain rfl := Option.some.inj ea
              exact tk
          cases r with
          | go t =>
            obtain ⟨t', et, ht1, ht2, ht3⟩ := goal_ok R t rows S' gR' rg.fst hpos
            refine fin (.go t') ⟨⟨(fun f => by cases f), (fun _ _ e => by cases e), (fun _ e => by cases e), fun _ e => by cases e; exact ⟨t', rfl, ht1, ht2, ht3⟩⟩, trivial, (fun _ e => by cases e; omega), (fun _ _ e => by cases e), (fun e => by cases e), fun _ => ⟨_, rfl⟩⟩ ?_
            simp [turnM_s, l_law_program_1, d_go, et, LINE, g, hl1]
          | pt a t =>
            have hn1 := nlast (by simp) (by simp)
            have hp := rg.pts i a t hn
            have m0 := Int.emod_nonneg t (show (rows.length : Int) ≠ 0 by omega)
            have m1 := Int.emod_lt_of_pos t (show (0 : Int) < rows.length by omega)
            by_cases ht : t = -1
            · have h2 : i + 2 < rows.length := by rcases hp with z | ⟨_, z⟩; · omega
                                                  · exact z
              refine fin (.pt a ((i : Int) + 2)) ⟨⟨(fun f => by cases f), (fun _ _ e => by cases e; exact ⟨_, rfl⟩), (fun _ e => by cases e; rfl), fun _ e => by cases e⟩, hrN, (fun _ e => by cases e), (fun _ _ e => by cases e; omega), (fun e => by cases e), fun ⟨_, e⟩ => by cases e⟩ ?_
              simp [turnM_s, l_law_program_1, d_pt, ht, LINE, g, hl1]
            · by_cases hm : t % (rows.length : Int) = (i : Int) + 1
              · refine fin (.pt a (i : Int)) ⟨⟨(fun f => by cases f), (fun _ _ e => by cases e; exact ⟨_, rfl⟩), (fun _ e => by cases e; exact absurd rfl ht), fun _ e => by cases e⟩, hrN, (fun _ e => by cases e), (fun _ _ e => by cases e; omega), (fun e => by cases e), fun ⟨_, e⟩ => by cases e⟩ ?_
                simp [turnM_s, l_law_program_1, d_pt, ht, gR', hpos, hm, LINE, g, hl1]
              · refine fin (.pt a (t % (rows.length : Int))) ⟨⟨(fun f => by cases f), (fun _ _ e => by cases e; exact ⟨_, rfl⟩), (fun _ e => by cases e; exact absurd rfl ht), fun _ e => by cases e⟩, hrN, (fun _ e => by cases e), (fun _ _ e => by cases e; exact ⟨m0, m1, hm⟩), (fun e => by cases e), fun ⟨_, e⟩ => by cases e⟩ ?_
                simp [turnM_s, l_law_program_1, d_pt, ht, gR', hpos, hm, LINE, g, hl1]
          | rk n s a b => exact fin (.rk n s a b) ⟨⟨(fun _ => rfl), (fun _ _ e => by cases e), (fun _ e => by cases e), fun _ e => by cases e⟩, hrN, (fun _ e => by cases e), (fun _ _ e => by cases e), (fun e => by cases e), fun ⟨_, e⟩ => by cases e⟩ (by simp [turnM_s, l_law_program_1, d_rk, LINE, g, hl1])
          | cp n a => exact fin (.cp n a) ⟨⟨(fun _ => rfl), (fun _ _ e => by cases e), (fun _ e => by cases e), fun _ e => by cases e⟩, hrN, (fun _ e => by cases e), (fun _ _ e => by cases e), (fun e => by cases e), fun ⟨_, e⟩ => by cases e⟩ (by simp [turnM_s, l_law_program_1, d_cp, LINE, g, hl1])
          | sy a => exact fin (.sy a) ⟨⟨(fun _ => rfl), (fun _ _ e => by cases e), (fun _ e => by cases e), fun _ e => by cases e⟩, hrN, (fun _ e => by cases e), (fun _ _ e => by cases e), (fun e => by cases e), fun ⟨_, e⟩ => by cases e⟩ (by simp [turnM_s, l_law_program_1, d_sy, LINE, g, hl1])
          | en => exact fin .en ⟨⟨(fun f => by cases f), (fun _ _ e => by cases e), (fun _ e => by cases e), fun _ e => by cases e⟩, trivial, (fun _ e => by cases e), (fun _ _ e => by cases e), (fun _ => rfl), fun ⟨_, e⟩ => by cases e⟩ (by simp [turnM_s, l_law_program_1, d_en, LINE, g, hl1]))
      obtain ⟨fr', S3, e3, k5, k6, rows', rfl, p3, g3, hlen, hrows⟩ := key
      rw [prs_len, List.length_map, Nat.zero_add] at hlen
      have pair : ∀ (n : Nat) (r' : Row), rows'[n]? = some r' → ∃ r, rows[n]? = some r ∧ TurnOk rows l rows.length n r r' := fun n r' e => by
        have hn := (List.getElem?_eq_some_iff.mp e).1
        have : n < rows.length := by omega
        exact ⟨_, List.getElem?_eq_getElem this, hrows n _ r' (List.getElem?_eq_getElem this) e⟩
      have gd : Gd l rows' := by
        refine ⟨fun r hr => ?_, ?_, fun n t e => ?_, fun n a t e => ?_, fun n a t e => ?_⟩
        · obtain ⟨n, e⟩ := List.getElem?_of_mem hr
          obtain ⟨_, _, q⟩ := pair n r e
          exact q.2.1
        · obtain ⟨q, z, hq, ez⟩ := snoc_of (l := rows') (by omega)
          refine ⟨q, z, hq, ?_⟩
          obtain ⟨r, er, tk⟩ := pair _ _ ez
          obtain ⟨q2, r2, hq2, hr2⟩ := rg.lst
          have : r = r2 := by
            rw [hlen, hq2] at er
            simp at er
            exact er.symm
          subst this
          rcases hr2 with w | w
          · exact .inl (tk.2.2.2.2.1 w)
          · exact .inr (tk.2.2.2.2.2 w)
        · obtain ⟨r, er, tk⟩ := pair _ _ e
          rw [hlen]; exact tk.2.2.1 t rfl
        · obtain ⟨r, er, tk⟩ := pair _ _ e
          rw [hlen]; have := tk.2.2.2.1 a t rfl; exact ⟨this.1, this.2.1⟩
        · obtain ⟨r, er, tk⟩ := pair _ _ e
          exact (tk.2.2.2.1 a t rfl).2.2
      have L := turned_ln rg hlen hrows
      have h0g : 1 < rows'.length → ∀ z, rows'[0]? ≠ some (.go z) := fun h1 z e => by
        obtain ⟨r, er, tk⟩ := pair _ _ e
        have sq := rg.sq (by omega) r er
        cases r with
        | pt a t => obtain ⟨t', w⟩ := tk.1.2.1 a t rfl; cases w
        | rk _ _ _ _ => have := tk.1.1 rfl; cases this
        | cp _ _ => have := tk.1.1 rfl; cases this
        | sy _ => have := tk.1.1 rfl; cases this
        | go _ => cases sq
        | en => cases sq
      have h3 := p3.get (p2.get h1)
      obtain ⟨c59, S4, e59, p4⟩ := number_ok h3 59
      have e59' : m_law_number [.ref 0, .int 59] S3 = .ok (.int c59) S4 := e59
      obtain ⟨rows2, S5, e5, p5, g5, gd5, hlen5, we⟩ := with_else_ok S2.length c59 l rows' S4 S2 (p3.trans p4) (Nat.le_refl _) (p4.get g3) gd (by omega) h0g
      refine ⟨l, rows2, S2.length, S5, ?_, (p1.trans p2).trans p5, (p1.trans p2).len, g5, gd5, by omega, hnm, by rw [hlen5]; exact L.we we⟩
      simp [m_law_program, b_law_program, eb, e57', hs, e2, LINE, app_get gR]
      rw [e3]
      simp [e59', e5]
end Lk34
set_option Elab.async false
set_option linter.all false
set_option maxHeartbeats 1000000
namespace Lk34
open Mi
theorem tk_succ {α : Type} {l : List α} {i : Nat} {r : α} (h : l[i]? = some r) : l.take (i + 1) = l.take i ++ [r] := by
  obtain ⟨hi, rfl⟩ := List.getElem?_eq_some_iff.mp h
  rw [List.take_succ_eq_append_getElem hi]
/-! ### rows: what they reckon, set, change -/
structure RkO (k : List Ky) : Prop where
  three : ∃ s a b, k = [s, a, b]
  ok : k.all kOk = true
theorem RowN.k {l : List Tx} {r : Row} (h : RowN l r) (hl : ∀ t ∈ l, Nm t) : r.ks.all kOk = true := by
  cases r with
  | rk n s a b =>
    obtain ⟨h1, h2⟩ := h
    obtain ⟨c, hc, e⟩ := h2.s1
    have hs : kOk (.inr s) = true := by
      rw [e]
      have : ∀ c ∈ S8, kOk (.inr [c]) = true := by decide
      exact this c hc
    simp only [Row.ks, List.all_cons, List.all_nil, (hl _ h1).ok, hs, h2.a1.ok hl, h2.b1.ok hl]
    rfl
  | cp n a => simp only [Row.ks, List.all_cons, List.all_nil, (hl _ h.1).ok, Opd.ok h.2 hl]; rfl
  | sy a => simp only [Row.ks, List.all_cons, List.all_nil, Opd.ok h hl]; rfl
  | go t => rfl
  | pt a t => simp only [Row.ks, List.all_cons, List.all_nil, Opd.ok h hl]; rfl
  | en => rfl
theorem rkg_ok {r : Row} {k : List Ky} (h : r.ks.all kOk = true) (e : r.rkg = some k) : RkO k := by
  cases r with
  | rk n s a b =>
    obtain rfl := Option.some.inj e
    refine ⟨⟨_, _, _, rfl⟩, ?_⟩
    simp only [Row.ks, List.all_cons, List.all_nil, Bool.and_eq_true] at h ⊢
    exact ⟨h.2.2.1, h.2.2.2.1, h.2.2.2.2.1, trivial⟩
  | _ => cases e
/-- rows whose data are in order -/
def RowsK (rows : List Row) : Prop := ∀ r ∈ rows, r.ks.all kOk = true
theorem recs_ok {rows : List Row} (h : RowsK rows) {k : List Ky} (hk : k ∈ recs rows) : RkO k := by
  obtain ⟨r, hr, e⟩ := recs_mem.mp hk
  exact rkg_ok (h r hr) e
theorem reckoning_of_ok (r : Row) (S : Store) : m_reckoning_of [r.d] S = .ok (match r.rkg with | some k => kt k | none => .non) S := by
  cases r <;> simp [m_reckoning_of, b_reckoning_of, Row.d, Row.ks, Row.rkg, kt, LINE]
theorem cut1 {α : Type} (a b c : α) : cut [a, b, c] (some 1) none = [b, c] := rfl
theorem in_two (n : Tx) (a b : Ky) (S : Store) : inSeq (.str n) [kyD a, kyD b] S = some (dec ((.inr n : Ky) ∈ [a, b])) := in_ks (.inr n) [a, b] S
theorem changes_ok (r : Row) (k : List Ky) (hk : RkO k) (S : Store) : m_changes [r.d, kt k] S = .ok (.bl (chg r k)) S := by
  obtain ⟨s, a, b, rfl⟩ := hk.three
  have q := fun n => in_two n a b S
  cases r <;> simp [m_changes, b_changes, m_sets, b_sets, Row.d, Row.ks, kt, chg, Row.set, cut1, q]
theorem cut2 {α : Type} (a b c d e : α) : cut [a, b, c, d, e] (some 2) none = [c, d, e] := rfl
/-! ### reckonings -/
theorem reckonings_ok (p : Nat) (rows : List Row) (S : Store) (h : S[p]? = some (.lst (rows.map Row.d))) (hr : rows.length ≤ 1000) : ∃ S', m_reckonings [.ref p] S = .ok (.ref (S.length + 1)) S' ∧ Pre S S' ∧ S'[S.length + 1]? = some (.lst ((recs rows).map kt)) := by
  have hp := Pre.lt (S' := S) h
  have key := loop_inv (hs := [(p, rows.map Row.d)]) (turn := turnM (gName 2) l_reckonings_1)
    (fun i fr S' => ∃ (x y : Option D), fr = [some (.ref p), some (.ref S.length), x, y] ∧ S' = S ++ [.dT ((recs (rows.take i)).map fun k => (k, .bl true))])
    (rows.map Row.d) 0 [some (.ref p), some (.ref S.length), none, none] (S ++ [.dT []]) ⟨none, none, rfl, rfl⟩
    (by
      rintro i fr S' ⟨x, y, rfl, rfl⟩
      exact stands_one (by simp [app_get h]))
    (by
      rintro i d fr S' hd ⟨x, y, rfl, rfl⟩
      rw [List.getElem?_map] at hd
      obtain ⟨r, hn, rfl⟩ := Option.map_eq_some_iff.mp hd
      have q := reckoning_of_ok r (S ++ [.dT ((recs (rows.take i)).map fun k => (k, D.bl true))])
      have tk : rows.take (i + 1) = rows.take i ++ [r] := by
        obtain ⟨hi, rfl⟩ := List.getElem?_eq_some_iff.mp hn
        rw [List.take_succ_eq_append_getElem hi]
      have len := recs_len (rows.take i)
      have hi : i < rows.length := (List.getElem?_eq_some_iff.mp hn).1
      rw [List.length_take] at len
      have e0 : 0 + i = i := by omega
      rw [e0] at *
      rw [tk, recs_snoc]
      generalize recs (rows.take i) = acc at *
      have hlen : acc.length < LINE := Nat.lt_of_le_of_lt (show acc.length ≤ 1000 by omega) (by decide)
      cases hk : r.rkg with
      | none =>
        rw [hk] at q
        refine ⟨[some (.ref p), some (.ref S.length), some r.d, some .non], _, .inl (by simp [turnM_s, l_reckonings_1, q]; rfl), some r.d, some .non, rfl, ?_⟩
        simp [addK, hk]
      | some k =>
        rw [hk] at q
        refine ⟨[some (.ref p), some (.ref S.length), some r.d, some (kt k)], S ++ [.dT ((if dec (k ∈ acc) = true then acc else acc ++ [k]).map fun k => (k, .bl true))], .inl (by
          simp [turnM_s, l_reckonings_1, q, kt, hlen, dPut_map]), some r.d, some (kt k), rfl, ?_⟩
        simp only [addK, hk])
  obtain ⟨fr', S', e, x, y, rfl, rfl⟩ := key
  have e0 : (rows.take (0 + (rows.map Row.d).length)) = rows := by simp
  rw [e0] at e
  refine ⟨S ++ [.dT ((recs rows).map fun k => (k, .bl true))] ++ [.lst ((recs rows).map kt)], ?_, (Pre.app _ _).trans (Pre.app _ _), by simp [get_app]⟩
  simp [m_reckonings, b_reckonings, app_get h]
  rw [e]
  simp [bList, seqOf, lstOf, new, kt]
theorem law_changes_ok (r : Row) (k : List Ky) (hk : RkO k) (S : Store) : m_law_changes [r.d, kt k] S = .ok (.bl (chg r k)) S := by
  obtain ⟨s, a, b, rfl⟩ := hk.three
  have q := fun n => in_two n a b S
  cases r <;> simp [m_law_changes, b_law_changes, Row.d, Row.ks, kt, chg, Row.set, cut1, q, LINE]
theorem law_has_ok (r : Row) (k : List Ky) (hr : r.ks.all kOk = true) (hk : RkO k) (S : Store) : m_law_has [r.d, kt k] S = .ok (.bl (hasK r k)) S := by
  cases r with
  | rk n s a b =>
    have h2 : [Sum.inr s, a, b].all kOk = true := (rkg_ok hr rfl).ok
    have q := oEq_kt (a := [.inr s, a, b]) S h2 hk.ok
    have e : hasK (.rk n s a b) k = decide ([Sum.inr s, a, b] = k) := by
      unfold hasK
      by_cases h : [Sum.inr s, a, b] = k
      · rw [dec_true (by rw [← h]; rfl), decide_eq_true h]
      · rw [show dec ((Row.rk n s a b).rkg = some k) = false from dec_false fun z => h (Option.some.inj z), decide_eq_false h]
    rw [e]
    simp [kt] at q
    simp [m_law_has, b_law_has, Row.d, Row.ks, kt, cut2, q]
  | _ =>
    have e : ∀ (r : Row), r.rkg = none → hasK r k = false := fun r h => dec_false (by rw [h]; simp)
    rw [e _ rfl]
    simp [m_law_has, b_law_has, Row.d, Row.ks, kt]
theorem law_known_ok (p : Nat) (rows : List Row) (S : Store) (hk : RowsK rows) (h : S[p]? = some (.lst (rows.map Row.d))) (hr : rows.length ≤ 1000) : ∃ S', m_law_known [.ref p] S = .ok (.ref S.length) S' ∧ Pre S S' ∧ S'[S.length]? = some (.lst ((recs rows).map kt)) := by
  have key := loop_inv (hs := [(p, rows.map Row.d)]) (turn := turnM (gName 2) l_law_known_1)
    (fun i fr S' => ∃ (x : Option D), fr = [some (.ref p), some (.ref S.length), x] ∧ S' = S ++ [.lst ((recs (rows.take i)).map kt)])
    (rows.map Row.d) 0 [some (.ref p), some (.ref S.length), none] (S ++ [.lst []]) ⟨none, rfl, rfl⟩
    (by
      rintro i fr S' ⟨x, rfl, rfl⟩
      exact stands_one (by simp [app_get h]))
    (by
      rintro i d fr S' hd ⟨x, rfl, rfl⟩
      rw [List.getElem?_map] at hd
      obtain ⟨r, hn, rfl⟩ := Option.map_eq_some_iff.mp hd
      have hrk := hk r (List.mem_of_getElem? hn)
      have hi : i < rows.length := (List.getElem?_eq_some_iff.mp hn).1
      have len := recs_len (rows.take i)
      rw [List.length_take] at len
      have e0 : 0 + i = i := by omega
      rw [e0] at *
      have hok : (recs (rows.take i)).all (fun l => l.all kOk) = true := by
        rw [List.all_eq_true]
        intro k hk2
        exact (recs_ok (rows := rows.take i) (fun r hr => hk r (List.mem_of_mem_take hr)) hk2).ok
      rw [tk_succ hn, recs_snoc]
      generalize recs (rows.take i) = acc at *
      have hlen : acc.length < 16777216 := by omega
      refine ⟨[some (.ref p), some (.ref S.length), some r.d], S ++ [.lst ((addK acc r).map kt)], .inl ?_, _, rfl, rfl⟩
      cases r with
      | rk n s a b =>
        have hx : [Sum.inr s, a, b].all kOk = true := (rkg_ok hrk rfl).ok
        have q := in_kts (x := [.inr s, a, b]) (S ++ [.lst (acc.map kt)]) hx hok
        simp [kt] at q
        by_cases hm : [Sum.inr s, a, b] ∈ acc
        · rw [dec_true hm] at q
          simp [turnM_s, l_law_known_1, Row.d, Row.ks, kt, cut2, get_len, q, addK, Row.rkg, dec_true hm]
        · rw [dec_false hm] at q
          simp [turnM_s, l_law_known_1, Row.d, Row.ks, kt, cut2, get_len, q, addK, Row.rkg, dec_false hm, hlen, LINE]
      | _ => simp [turnM_s, l_law_known_1, Row.d, Row.ks, kt, addK, Row.rkg])
  obtain ⟨fr', S', e, x, rfl, rfl⟩ := key
  have e0 : (rows.take (0 + (rows.map Row.d).length)) = rows := by simp
  rw [e0] at e
  refine ⟨S ++ [.lst ((recs rows).map kt)], ?_, Pre.app _ _, app_new _ _ _⟩
  simp [m_law_known, b_law_known, app_get h]
  rw [e]
  simp
end Lk34
set_option Elab.async false
set_option linter.all false
set_option maxHeartbeats 1000000
namespace Lk34
open Mi
/-! ### bits of rows -/
theorem all_bits_ok (p : Nat) (rows : List Row) (S : Store) (h : S[p]? = some (.lst (rows.map Row.d))) (hr : rows.length ≤ 1000) : ∃ S', m_all_bits [.ref p] S = .ok (.int ((bitsOf (fun _ => true) (recs rows).length : Nat) : Int)) S' ∧ Pre S S' := by
  obtain ⟨S', e, pr, g⟩ := reckonings_ok p rows S h hr
  have len := recs_len rows
  have s := shl_1 (recs rows).length (by omega) S'
  refine ⟨S', ?_, pr⟩
  have e1 : ((2 ^ (recs rows).length : Nat) : Int) - 1 = ((bitsOf (fun _ => true) (recs rows).length : Nat) : Int) := by
    rw [bits_all]
    have := Nat.one_le_two_pow (n := (recs rows).length)
    omega
  have s' : oSub (.int ((2 ^ (recs rows).length : Nat) : Int)) (.int 1) S' = .ok (.int ((bitsOf (fun _ => true) (recs rows).length : Nat) : Int)) S' := by rw [oSub_i, e1]
  simp only [m_all_bits, b_all_bits, mDef_1, sRet_s, mOp_s, mC_s, mCall_s, aCons_s, mVar_s, List.cons_append, List.nil_append, List.getElem?_cons_zero, varK_s, acK1_s, aNil_s, acK2_s, callK_s, e, bLen_r, g, lenK_l, List.length_map, opK1_s, opK2_s, s, s', reK_s, deK_r, quiet_s]
/-- what a row reckons, by its number -/
noncomputable def ownB (rows : List Row) (r : Row) : D := bD (recs rows).length (ownF rows r)
theorem own_none {rows : List Row} {r : Row} (h : r.rkg = none) : ownB rows r = .int 0 := by
  unfold ownB bD
  rw [show ownF rows r = fun _ => false from funext fun k => dec_false (by rw [h]; simp), bits_none]
  rfl
theorem own_some {rows : List Row} {r : Row} {k : List Ky} {j : Nat} (h : r.rkg = some k) (hj : (recs rows)[j]? = some k) : ownB rows r = .int ((2 ^ j : Nat) : Int) := by
  have hl := (List.getElem?_eq_some_iff.mp hj).1
  unfold ownB bD
  rw [bits_one hl]
  congr 3
  funext i
  unfold ownF
  rw [h]
  by_cases e : i = j
  · subst e
    rw [dec_true ⟨by simp, hj.symm⟩]; simp
  · rw [dec_false, decide_eq_false e]
    rintro ⟨_, z⟩
    have z' : (recs rows)[i]? = (recs rows)[j]? := by rw [← z, hj]
    have hi : i < (recs rows).length := by
      have : (recs rows)[i]? = some k := z.symm
      exact (List.getElem?_eq_some_iff.mp this).1
    exact e ((List.getElem?_inj hi (recs_nd rows)).mp z')
theorem own_bits_ok (p : Nat) (rows : List Row) (S : Store) (h : S[p]? = some (.lst (rows.map Row.d))) (hr : rows.length ≤ 1000) : ∃ (m : Nat) (S' : Store), m_own_bits [.ref p] S = .ok (.ref m) S' ∧ Pre S S' ∧ S.length ≤ m ∧ S'[m]? = some (.lst (rows.map (ownB rows))) := by
  obtain ⟨S1, e1, p1, g1⟩ := reckonings_ok p rows (S ++ [.dT []]) (app_get h) hr
  have lS : (S ++ [O.dT []]).length = S.length + 1 := by simp
  have len := recs_len rows
  have nd := recs_nd rows
  generalize hL : recs rows = L at *
  have pS1 : Pre S S1 := (Pre.app _ _).trans p1
  have gd1 : S1[S.length]? = some (.dT []) := p1.get (app_new _ _ _)
  have hSl := Pre.lt (S' := S) h
  have key1 := loop_inv (hs := [((S ++ [O.dT []]).length + 1, L.map kt)]) (turn := turnM (gTup 2 (gCons (gName 2) (gCons (gName 3) gNil))) l_own_bits_1)
    (fun i fr S' => ∃ (k2 k3 : Option D), fr = [some (.ref p), some (.ref S.length), k2, k3, none, none] ∧ Pre S S' ∧ S'[(S ++ [O.dT []]).length + 1]? = some (.lst (L.map kt)) ∧ S'[S.length]? = some (.dT (numK 0 (L.take i))))
    (prs 0 (L.map kt)) 0 [some (.ref p), some (.ref S.length), none, none, none, none] S1
    ⟨none, none, rfl, pS1, g1, gd1⟩
    (by
      rintro i fr S' ⟨k2, k3, rfl, pr, gl, gd⟩
      exact stands_one (lst_of gl))
    (by
      rintro i d fr S' hd ⟨k2, k3, rfl, pr, gl, gd⟩
      obtain ⟨x, hx, rfl⟩ : ∃ x, (L.map kt)[i]? = some x ∧ d = .tup [.int (i : Nat), x] := by
        rw [prs_get] at hd
        obtain ⟨x, hx, rfl⟩ := Option.map_eq_some_iff.mp hd
        exact ⟨x, hx, by simp⟩
      rw [List.getElem?_map] at hx
      obtain ⟨k, hk, rfl⟩ := Option.map_eq_some_iff.mp hx
      have hi := (List.getElem?_eq_some_iff.mp hk).1
      rw [show 0 + i = i by omega] at *
      have nk : k ∉ L.take i := fun z => by
        obtain ⟨j, hj⟩ := List.getElem?_of_mem z
        have hji : j < i := by
          have := (List.getElem?_eq_some_iff.mp hj).1
          rw [List.length_take] at this; omega
        rw [List.getElem?_take_of_lt hji] at hj
        have := (List.getElem?_inj (by omega) nd).mp (hj.trans hk.symm)
        omega
      have put := numK_put (i := 0) nk (.int (i : Nat))
      have nl := numK_len 0 (L.take i)
      rw [List.length_take] at nl
      have nl2 : (numK 0 (L.take i)).length < 16777216 := by omega
      refine ⟨[some (.ref p), some (.ref S.length), some (.int (i : Nat)), some (kt k), none, none], S'.set S.length (.dT (numK 0 (L.take (i + 1)))), .inl ?_, _, _, rfl, pr.set (Nat.le_refl _), by rw [set_ne (by omega)]; exact gl, set_get gd⟩
      have e : numK 0 (L.take (i + 1)) = dPut (numK 0 (L.take i)) k (.int (i : Nat)) := by
        rw [tk_succ hk, numK_snoc, put, List.length_take]
        congr 5
        omega
      rw [e]
      simp [turnM_s, l_own_bits_1, gd, nl2, LINE])
  obtain ⟨fr1, S2, e2, k2, k3, rfl, p2, gl2, gd2⟩ := key1
  rw [prs_len, List.length_map, Nat.zero_add, List.take_length] at gd2
  have h2 := p2.get h
  have key2 := loop_inv (hs := [(p, rows.map Row.d)]) (turn := turnM (gName 5) l_own_bits_2)
    (fun i fr S' => ∃ (k3 k5 : Option D), fr = [some (.ref p), some (.ref S.length), k2, k3, some (.ref S2.length), k5] ∧ S' = S2 ++ [.lst ((rows.take i).map (ownB rows))])
    (rows.map Row.d) 0 [some (.ref p), some (.ref S.length), k2, k3, some (.ref S2.length), none] (S2 ++ [.lst []])
    ⟨k3, none, rfl, rfl⟩
    (by
      rintro i fr S' ⟨k3, k5, rfl, rfl⟩
      exact stands_one (lst_of (app_get h2)))
    (by
      rintro i d fr S' hd ⟨k3, k5, rfl, rfl⟩
      rw [List.getElem?_map] at hd
      obtain ⟨r, hn, rfl⟩ := Option.map_eq_some_iff.mp hd
      have hi : i < rows.length := (List.getElem?_eq_some_iff.mp hn).1
      rw [show 0 + i = i by omega] at *
      have q := reckoning_of_ok r (S2 ++ [.lst ((rows.take i).map (ownB rows))])
      have tl : ((rows.take i).map (ownB rows)).length < 16777216 := by rw [List.length_map, List.length_take]; omega
      have tl2 : min i rows.length < 16777216 := by omega
      rw [tk_succ hn, List.map_append]
      have tl3 : ((rows.take i).map (ownB rows)).length = min i rows.length := by rw [List.length_map, List.length_take]
      generalize (rows.take i).map (ownB rows) = A at *
      cases hk : r.rkg with
      | none =>
        rw [hk] at q
        refine ⟨[some (.ref p), some (.ref S.length), k2, some .non, some (.ref S2.length), some r.d], _, .inl ?_, _, _, rfl, rfl⟩
        simp [turnM_s, l_own_bits_2, q, get_len, tl, LINE, own_none hk]
      | some k =>
        rw [hk] at q
        have hm : k ∈ L := by rw [← hL]; exact recs_mem.mpr ⟨r, List.mem_of_getElem? hn, hk⟩
        obtain ⟨j, hj⟩ := List.getElem?_of_mem hm
        have hjl := (List.getElem?_eq_some_iff.mp hj).1
        have g := numK_get 0 nd hj
        rw [Nat.zero_add] at g
        have ow := own_some (rows := rows) hk (by rw [hL]; exact hj)
        have sh : powOk 1 (j : Int) := by unfold powOk; refine ⟨by omega, by omega, by decide⟩
        have gdd := app_get (G := [.lst A]) gd2
        refine ⟨[some (.ref p), some (.ref S.length), k2, some (kt k), some (.ref S2.length), some r.d], S2 ++ [.lst (A ++ [r].map (ownB rows))], .inl ?_, _, _, rfl, rfl⟩
        have iskt : isN (kt k) = false := rfl
        simp [turnM_s, l_own_bits_2, q, get_len, tl, LINE, ow, iskt, gd2, get_app, g, sh])
  obtain ⟨fr2, S3, e3, k3', k5, rfl, rfl⟩ := key2
  rw [List.length_map, Nat.zero_add, List.take_length] at e3
  refine ⟨S2.length, S2 ++ [.lst (rows.map (ownB rows))], ?_, p2.trans (Pre.app _ _), p2.len, app_new _ _ _⟩
  rw [lS] at e1 e2 g1
  simp [m_own_bits, b_own_bits, e1, g1]
  rw [e2]
  simp [LINE, app_get h2]
  rw [e3]
  simp
noncomputable def lostB (rows : List Row) (r : Row) : D := bD (recs rows).length (lostF rows r)
theorem lost_bits_ok (p : Nat) (rows : List Row) (S : Store) (hk : RowsK rows) (h : S[p]? = some (.lst (rows.map Row.d))) (hr : rows.length ≤ 1000) : ∃ (m : Nat) (S' : Store), m_lost_bits [.ref p] S = .ok (.ref m) S' ∧ Pre S S' ∧ S.length ≤ m ∧ S'[m]? = some (.lst (rows.map (lostB rows))) := by
  obtain ⟨S1, e1, p1, g1⟩ := reckonings_ok p rows S h hr
  have len := recs_len rows
  have rok := fun k => recs_ok (rows := rows) hk (k := k)
  have h1 := p1.get h
  have g1l := Pre.lt (S' := S1) g1
  have inner : ∀ (r : Row) (x5 x6 : Option D) (G : List D), ∃ y5 y6, loopM [(S.length + 1, (recs rows).map kt)] (turnM (gTup 2 (gCons (gName 5) (gCons (gName 6) gNil))) l_lost_bits_1) (prs 0 ((recs rows).map kt)) [some (.ref p), some (.ref (S.length + 1)), some (.ref S1.length), some r.d, some (.int 0), x5, x6] (S1 ++ [.lst G]) = .ok (.nx [some (.ref p), some (.ref (S.length + 1)), some (.ref S1.length), some r.d, some (lostB rows r), y5, y6]) (S1 ++ [.lst G]) := by
    intro r x5 x6 G
    have key := loop_inv (hs := [(S.length + 1, (recs rows).map kt)]) (turn := turnM (gTup 2 (gCons (gName 5) (gCons (gName 6) gNil))) l_lost_bits_1)
      (fun i fr S' => ∃ (y5 y6 : Option D), fr = [some (.ref p), some (.ref (S.length + 1)), some (.ref S1.length), some r.d, some (.int ((bitsOf (lostF rows r) i : Nat) : Int)), y5, y6] ∧ S' = S1 ++ [.lst G])
      (prs 0 ((recs rows).map kt)) 0 [some (.ref p), some (.ref (S.length + 1)), some (.ref S1.length), some r.d, some (.int 0), x5, x6] (S1 ++ [.lst G]) ⟨x5, x6, rfl, rfl⟩
      (by
        rintro i fr S' ⟨y5, y6, rfl, rfl⟩
        exact stands_one (lst_of (app_get g1)))
      (by
        rintro i d fr S' hd ⟨y5, y6, rfl, rfl⟩
        obtain ⟨x, hx, rfl⟩ : ∃ x, ((recs rows).map kt)[i]? = some x ∧ d = .tup [.int (i : Nat), x] := by
          rw [prs_get] at hd
          obtain ⟨x, hx, rfl⟩ := Option.map_eq_some_iff.mp hd
          exact ⟨x, hx, by simp⟩
        rw [List.getElem?_map] at hx
        obtain ⟨k, hk2, rfl⟩ := Option.map_eq_some_iff.mp hx
        have hi := (List.getElem?_eq_some_iff.mp hk2).1
        rw [show 0 + i = i by omega] at *
        have q := changes_ok r k (rok k (List.mem_of_getElem? hk2)) (S1 ++ [.lst G])
        have lp : lostF rows r i = chg r k := by unfold lostF; rw [hk2]
        have sh := shl_1 i (by omega) (S1 ++ [.lst G])
        rw [oShl_i] at sh
        have e1 : bitsOf (lostF rows r) (i + 1) = if chg r k = true then bitsOf (lostF rows r) i ||| 2 ^ i else bitsOf (lostF rows r) i := by
          rw [show bitsOf (lostF rows r) (i + 1) = bitsOf (lostF rows r) i + if lostF rows r i = true then 2 ^ i else 0 from rfl, lp]
          cases chg r k with
          | false => simp
          | true =>
            simp only [if_true]
            have := Nat.two_pow_add_eq_or_of_lt (bits_lt (lostF rows r) i) 1
            rw [Nat.mul_one] at this
            rw [Nat.add_comm, this, Nat.or_comm]
        refine ⟨[some (.ref p), some (.ref (S.length + 1)), some (.ref S1.length), some r.d, some (.int ((bitsOf (lostF rows r) (i + 1) : Nat) : Int)), some (.int (i : Nat)), some (kt k)], S1 ++ [.lst G], .inl ?_, _, _, rfl, rfl⟩
        rw [e1]
        cases hc : chg r k with
        | false =>
          rw [hc] at q
          simp [turnM_s, l_lost_bits_1, q]
        | true =>
          rw [hc] at q
          have e2 : ((2 : Int) ^ i).toNat = 2 ^ i := by
            rw [show ((2 : Int) ^ i) = ((2 ^ i : Nat) : Int) by simp]; exact Int.toNat_natCast _
          have e3 : (0 : Int) ≤ 2 ^ i := Int.pow_nonneg (by decide)
          simp at sh
          simp [turnM_s, l_lost_bits_1, q, sh, e2, e3])
    obtain ⟨fr', S', e, y5, y6, rfl, rfl⟩ := key
    rw [prs_len, List.length_map, Nat.zero_add] at e
    exact ⟨y5, y6, e⟩
  have key := loop_inv (hs := [(p, rows.map Row.d)]) (turn := turnM (gName 3) l_lost_bits_2)
    (fun i fr S' => ∃ (y3 y4 y5 y6 : Option D), fr = [some (.ref p), some (.ref (S.length + 1)), some (.ref S1.length), y3, y4, y5, y6] ∧ S' = S1 ++ [.lst ((rows.take i).map (lostB rows))])
    (rows.map Row.d) 0 [some (.ref p), some (.ref (S.length + 1)), some (.ref S1.length), none, none, none, none] (S1 ++ [.lst []]) ⟨none, none, none, none, rfl, rfl⟩
    (by
      rintro i fr S' ⟨y3, y4, y5, y6, rfl, rfl⟩
      exact stands_one (lst_of (app_get h1)))
    (by
      rintro i d fr S' hd ⟨y3, y4, y5, y6, rfl, rfl⟩
      rw [List.getElem?_map] at hd
      obtain ⟨r, hn, rfl⟩ := Option.map_eq_some_iff.mp hd
      have hi : i < rows.length := (List.getElem?_eq_some_iff.mp hn).1
      rw [show 0 + i = i by omega] at *
      obtain ⟨z5, z6, e⟩ := inner r y5 y6 ((rows.take i).map (lostB rows))
      have tl2 : min i rows.length < 16777216 := by omega
      rw [tk_succ hn, List.map_append]
      have tl3 : ((rows.take i).map (lostB rows)).length < 16777216 := by rw [List.length_map, List.length_take]; omega
      generalize (rows.take i).map (lostB rows) = A at *
      refine ⟨[some (.ref p), some (.ref (S.length + 1)), some (.ref S1.length), some r.d, some (lostB rows r), z5, z6], _, .inl ?_, _, _, _, _, rfl, rfl⟩
      simp [turnM_s, l_lost_bits_2, app_get g1]
      rw [e]
      simp [get_len, tl3, LINE])
  obtain ⟨fr', S', e, y3, y4, y5, y6, rfl, rfl⟩ := key
  rw [List.length_map, Nat.zero_add, List.take_length] at e
  refine ⟨S1.length, S1 ++ [.lst (rows.map (lostB rows))], ?_, p1.trans (Pre.app _ _), p1.len, app_new _ _ _⟩
  simp [m_lost_bits, b_lost_bits, e1, LINE, app_get h1]
  rw [e]
  simp
end Lk34
set_option Elab.async false
set_option linter.all false
set_option maxHeartbeats 1000000
namespace Lk34
open Mi
/-! ### followers, places -/
theorem followers_ok (P n : Nat) (rows : List Row) (r : Row) (S : Store) (hP : S[P]? = some (.lst (rows.map Row.d))) (hr : rows[n]? = some r) : m_followers [.ref P, .int n] S = .ok (.ref S.length) (S ++ [.lst ((fol n r).map .int)]) := by
  have e : atI (rows.map Row.d) (n : Int) = some r.d := at_of (by rw [List.getElem?_map, hr]; rfl)
  cases r <;> simp [m_followers, b_followers, hP, e, d_rk, d_cp, d_sy, d_go, d_pt, d_en, LINE, fol]
def pD (p : Int × Int) : D := .tup [.int p.1, .int p.2]
theorem pD_kt (p : Int × Int) : pD p = kt (pk p) := rfl
theorem places_ok (P : Nat) (rows : List Row) (S : Store) (hP : S[P]? = some (.lst (rows.map Row.d))) (hl : rows.length ≤ 1000) : ∃ (m : Nat) (S' : Store), m_places [.ref P] S = .ok (.ref m) S' ∧ Pre S S' ∧ S.length ≤ m ∧ S'[m]? = some (.lst ((plc rows).map pD)) := by
  have fl : far (rows.length : Int) := by unfold far; omega
  have hPl := Pre.lt (S' := S) hP
  have key := loop_inv (hs := []) (turn := turnM (gName 2) l_places_2)
    (fun i fr S' => ∃ (k2 k3 : Option D), fr = [some (.ref P), some (.ref S.length), k2, k3] ∧ Pre S S' ∧ S'[S.length]? = some (.lst (((-1, 0) :: plcFrom 0 (rows.take i)).map pD)))
    (rng 0 rows.length) 0 [some (.ref P), some (.ref S.length), none, none] (S ++ [.lst [pD (-1, 0)]])
    ⟨none, none, rfl, Pre.app _ _, app_new _ _ _⟩ (fun _ _ S _ => stands_nil S) (by
      rintro i d fr S' hd ⟨k2, k3, rfl, pr, g⟩
      obtain ⟨hi, rfl⟩ := rng_at hd
      rw [show 0 + i = i by omega] at *
      have e0 : (0 : Int) + (i : Int) = (i : Int) := by omega
      have hr : rows[i]? = some rows[i] := List.getElem?_eq_getElem hi
      generalize rows[i] = r at hr
      have f := followers_ok P i rows r S' (pr.get hP) hr
      have hlt := Pre.lt (S' := S') g
      have tl : (rows.take i).length = i := by rw [List.length_take]; omega
      have pl := plcFrom_len 0 (rows.take i)
      have fl2 := fol_len i r
      have inner := loop_inv (hs := [(S'.length, (fol i r).map D.int)]) (turn := turnM (gName 3) l_places_1)
        (fun j fr S2 => ∃ (k3 : Option D), fr = [some (.ref P), some (.ref S.length), some (.int i), k3] ∧ Pre S S2 ∧ S2[S'.length]? = some (.lst ((fol i r).map .int)) ∧ S2[S.length]? = some (.lst (((-1, 0) :: plcFrom 0 (rows.take i) ++ ((fol i r).take j).map fun m => ((i : Int), m)).map pD)))
        ((fol i r).map D.int) 0 [some (.ref P), some (.ref S.length), some (.int i), k3] (S' ++ [.lst ((fol i r).map .int)])
        ⟨k3, rfl, pr.trans (Pre.app _ _), app_new _ _ _, by simpa using app_get g⟩
        (by
          rintro j fr S2 ⟨k3, rfl, pr2, gf, _⟩
          exact stands_one (lst_of gf))
        (by
          rintro j d fr S2 hd2 ⟨k3, rfl, pr2, gf, g2⟩
          rw [List.getElem?_map] at hd2
          obtain ⟨m, hm, rfl⟩ := Option.map_eq_some_iff.mp hd2
          rw [show 0 + j = j by omega] at *
          have hj := (List.getElem?_eq_some_iff.mp hm).1
          have ll : (((-1, 0) :: plcFrom 0 (rows.take i) ++ ((fol i r).take j).map fun m => ((i : Int), m)).map pD).length < 16777216 := by
            rw [List.length_map, List.length_append, List.length_cons, List.length_map, List.length_take]; omega
          refine ⟨[some (.ref P), some (.ref S.length), some (.int i), some (.int m)], S2.set S.length (.lst (((-1, 0) :: plcFrom 0 (rows.take i) ++ ((fol i r).take (j + 1)).map fun m => ((i : Int), m)).map pD)), .inl ?_, _, rfl, pr2.set (Nat.le_refl _), by rw [set_ne (by omega)]; exact gf, set_get g2⟩
          have eA : (((-1, 0) :: plcFrom 0 (rows.take i) ++ ((fol i r).take (j + 1)).map fun m => ((i : Int), m)).map pD) = (((-1, 0) :: plcFrom 0 (rows.take i) ++ ((fol i r).take j).map fun m => ((i : Int), m)).map pD) ++ [pD ((i : Int), m)] := by
            rw [tk_succ hm]
            simp only [List.map_append, List.map_cons, List.map_nil, List.append_assoc, List.cons_append]
          rw [eA]
          generalize ((-1, 0) :: plcFrom 0 (rows.take i) ++ ((fol i r).take j).map fun m => ((i : Int), m)).map pD = A at *
          simp [turnM_s, l_places_1, g2, ll, LINE, pD])
      obtain ⟨fr2, S2, e2, k3', rfl, pr2, _, g2⟩ := inner
      rw [List.length_map, Nat.zero_add, List.take_length] at g2
      refine ⟨[some (.ref P), some (.ref S.length), some (.int i), k3'], S2, .inl ?_, _, _, rfl, pr2, ?_⟩
      · simp [turnM_s, l_places_2, e0, f, get_len]
        exact e2
      · rw [tk_succ hr, plcFrom_snoc, tl, show 0 + i = i by omega]
        exact g2)
  obtain ⟨fr', S', e, k2, k3, rfl, pr, g⟩ := key
  rw [rng_len, Nat.zero_add, List.take_length] at g
  refine ⟨S.length, S', ?_, pr, Nat.le_refl _, g⟩
  simp [m_places, b_places, LINE, app_get hP, fl]
  simp [pD] at e
  rw [e]
  simp
end Lk34
set_option Elab.async false
set_option linter.all false
set_option maxHeartbeats 1000000
namespace Lk34
open Mi
/-! ### where it is wanted: the greatest sets -/
noncomputable abbrev mR (rows : List Row) : Nat := (recs rows).length
/-- one row's turn -/
theorem asked_turn (P Ow Lo Fo n : Nat) (b : Bool) (x5 x8 x9 x10 : Option D) (l : List Tx) (rows : List Row) (fs : List BF) (S S0 : Store) (gd : Gd l rows) (hn : n < rows.length) (hl : rows.length ≤ 1000) (hfl : fs.length = rows.length)
    (p0 : Pre S0 S) (hF0 : S0.length ≤ Fo) (hP : S0[P]? = some (.lst (rows.map Row.d))) (hO : S0[Ow]? = some (.lst (rows.map (ownB rows)))) (hL : S0[Lo]? = some (.lst (rows.map (lostB rows)))) (hF : S[Fo]? = some (.lst (fs.map (bD (mR rows))))) :
    ∃ (y8 y9 y10 : Option D) (fs' : List BF) (b' : Bool) (S' : Store), l_asked_by_3 [some (.ref P), some (bD (mR rows) fun _ => true), some (.ref Ow), some (.ref Lo), some (.ref Fo), x5, some (.bl b), some (.int n), x8, x9, x10] S = .ok (.nx [some (.ref P), some (bD (mR rows) fun _ => true), some (.ref Ow), some (.ref Lo), some (.ref Fo), x5, some (.bl b'), some (.int n), y8, y9, y10]) S' ∧ Pre S0 S' ∧ S'[Fo]? = some (.lst (fs'.map (bD (mR rows)))) ∧
      ((bitsOf (gAsk rows fs n) (mR rows) = bitsOf (fsAt fs (n : Int)) (mR rows) ∧ fs' = fs ∧ b' = b) ∨ (bitsOf (gAsk rows fs n) (mR rows) ≠ bitsOf (fsAt fs (n : Int)) (mR rows) ∧ fs' = fs.set n (gAsk rows fs n) ∧ b' = true)) := by
  have hr : rows[n]? = some rows[n] := List.getElem?_eq_getElem hn
  generalize rows[n] = r at hr
  have hP1 := p0.get hP
  have f := followers_ok P n rows r S hP1 hr
  have ea : atI (rows.map Row.d) (n : Int) = some r.d := at_of (by rw [List.getElem?_map, hr]; rfl)
  obtain ⟨w, hw, _, he⟩ : ∃ w, atI (r.ks.map kyD) 0 = some (.str w) ∧ True ∧ (w = w_en ↔ r = .en) := by
    cases r <;> exact ⟨_, rfl, trivial, by simp⟩
  have hrd : r.d = .tup (r.ks.map kyD) := rfl
  have hFl := Pre.lt (S' := S) hF
  obtain ⟨b0, hb0⟩ : ∃ b0 : Bool, b0 = dec (r ≠ .en) := ⟨_, rfl⟩
  -- the followers' bits
  have inner := loop_inv (hs := [(S.length, (fol n r).map D.int)]) (turn := turnM (gName 9) l_asked_by_2)
    (fun i fr S' => ∃ (y9 : Option D), fr = [some (.ref P), some (bD (mR rows) fun _ => true), some (.ref Ow), some (.ref Lo), some (.ref Fo), x5, some (.bl b), some (.int n), some (bD (mR rows) fun k => b0 && allF fs ((fol n r).take i) k), y9, x10] ∧ S' = S ++ [.lst ((fol n r).map .int)])
    ((fol n r).map D.int) 0 [some (.ref P), some (bD (mR rows) fun _ => true), some (.ref Ow), some (.ref Lo), some (.ref Fo), x5, some (.bl b), some (.int n), some (bD (mR rows) fun _ => b0), x9, x10] (S ++ [.lst ((fol n r).map .int)])
    ⟨x9, by rw [show bD (mR rows) (fun _ => b0) = bD (mR rows) (fun k => b0 && allF fs (List.take 0 (fol n r)) k) from bD_funext fun k => by rw [List.take_zero, allF_nil, Bool.and_true]], rfl⟩
    (by
      rintro i fr S' ⟨y9, rfl, rfl⟩
      exact stands_one (lst_of (app_new _ _ _)))
    (by
      rintro i d fr S' hd ⟨y9, rfl, rfl⟩
      rw [List.getElem?_map] at hd
      obtain ⟨m, hm, rfl⟩ := Option.map_eq_some_iff.mp hd
      rw [show 0 + i = i by omega] at *
      have hin := gd.fol_in hr (List.mem_of_getElem? hm)
      obtain ⟨q, hq⟩ : ∃ q, fs[m.toNat]? = some q := ⟨_, List.getElem?_eq_getElem (by omega)⟩
      have eq1 : atI (fs.map (bD (mR rows))) m = some (bD (mR rows) (fsAt fs m)) := at_nat hin.1 (by
        rw [List.getElem?_map, hq]
        have := fsAt_of hq
        rw [Int.toNat_of_nonneg hin.1] at this
        rw [this]; rfl)
      refine ⟨_, _, .inl ?_, some (.int m), rfl, rfl⟩
      rw [bD_funext (p := fun k => b0 && allF fs ((fol n r).take (i + 1)) k) (q := fun k => (b0 && allF fs ((fol n r).take i) k) && fsAt fs m k) fun k => by rw [tk_succ hm, allF_snoc, Bool.and_assoc]]
      simp [turnM_s, l_asked_by_2, app_get hF, eq1, bD_and])
  obtain ⟨fr', S', e, y9, rfl, rfl⟩ := inner
  rw [List.length_map, Nat.zero_add, List.take_length] at e
  have eo : atI (rows.map (ownB rows)) (n : Int) = some (ownB rows r) := at_of (by rw [List.getElem?_map, hr]; rfl)
  have el : atI (rows.map (lostB rows)) (n : Int) = some (lostB rows r) := at_of (by rw [List.getElem?_map, hr]; rfl)
  obtain ⟨q, hq⟩ : ∃ q, fs[n]? = some q := ⟨_, List.getElem?_eq_getElem (by omega)⟩
  have ef : atI (fs.map (bD (mR rows))) (n : Int) = some (bD (mR rows) (fsAt fs n)) := at_of (by rw [List.getElem?_map, hq, fsAt_of hq]; rfl)
  have hg : bD (mR rows) (gAsk rows fs n) = bD (mR rows) (fun k => ownF rows r k || (b0 && allF fs (fol n r) k && (true ^^ lostF rows r k))) := bD_funext fun k => by unfold gAsk; rw [hr, hb0]
  have hO1 := app_get (G := [.lst ((fol n r).map .int)]) (p0.get hO)
  have hL1 := app_get (G := [.lst ((fol n r).map .int)]) (p0.get hL)
  have hF1 := app_get (G := [.lst ((fol n r).map .int)]) hF
  have pa := p0.trans (Pre.app S [.lst ((fol n r).map .int)])
  have z0 : (D.int 0) = bD (mR rows) fun _ => false := bD_zero _
  have head : l_asked_by_3 [some (.ref P), some (bD (mR rows) fun _ => true), some (.ref Ow), some (.ref Lo), some (.ref Fo), x5, some (.bl b), some (.int n), x8, x9, x10] S = seqK (sIf (tBl (mOp oNe (mVar 10) (mOp oIx (mVar 4) (mVar 7)))) (sSeq (sAsg (mVar 10) (gSub (mVar 4) (mVar 7))) (sAsg (mC (.bl true)) (gName 6))) (sNx)) (.ok (.nx [some (.ref P), some (bD (mR rows) fun _ => true), some (.ref Ow), some (.ref Lo), some (.ref Fo), x5, some (.bl b), some (.int n), some (bD (mR rows) fun k => b0 && allF fs (fol n r) k), y9, some (bD (mR rows) (gAsk rows fs n))]) (S ++ [.lst ((fol n r).map .int)])) := by
    rw [hg]
    by_cases h : r = .en
    · have hb : b0 = false := by rw [hb0]; exact dec_false fun z => z h
      have hw' := he.mpr h
      subst hb
      rw [← z0] at e
      simp [l_asked_by_3, hP1, ea, hrd, hw, hw', f, get_len]
      rw [e]
      simp [hO1, hL1, eo, el, ownB, lostB, bD_xor, bD_and, bD_or]
    · have hb : b0 = true := by rw [hb0]; exact dec_true h
      have hw' : ¬ w = w_en := fun z => h (he.mp z)
      subst hb
      simp [l_asked_by_3, hP1, ea, hrd, hw, hw', f, get_len]
      rw [e]
      simp [hO1, hL1, eo, el, ownB, lostB, bD_xor, bD_and, bD_or]
  rw [head]
  by_cases hb : bitsOf (gAsk rows fs n) (mR rows) = bitsOf (fsAt fs (n : Int)) (mR rows)
  · exact ⟨_, _, _, fs, b, S ++ [.lst ((fol n r).map .int)], by simp [hF1, ef, bD_ne, hb]; exact ⟨rfl, rfl, rfl⟩, pa, hF1, .inl ⟨hb, rfl, rfl⟩⟩
  · have ix : ixN rows.length (n : Int) = some n := by rw [ixN_of (by omega) (by omega)]; simp
    exact ⟨_, _, _, fs.set n (gAsk rows fs n), true, List.set (S ++ [.lst ((fol n r).map .int)]) Fo (.lst ((fs.set n (gAsk rows fs n)).map (bD (mR rows)))), by simp [hF1, ef, bD_ne, hb, hfl, ix]; exact ⟨rfl, rfl, rfl⟩, pa.set hF0, set_get (o := .lst (fs.map (bD (mR rows)))) hF1, .inr ⟨hb, rfl, rfl⟩⟩
/-- a pass over all rows -/
theorem asked_pass (P Ow Lo Fo : Nat) (x5 x6 x7 x8 x9 x10 : Option D) (l : List Tx) (rows : List Row) (fs : List BF) (S S0 : Store) (gd : Gd l rows) (hl : rows.length ≤ 1000) (dn : Down (ruleA rows) (mR rows) (fun n k => wantP rows n k = true) fs)
    (p0 : Pre S0 S) (hF0 : S0.length ≤ Fo) (hP : S0[P]? = some (.lst (rows.map Row.d))) (hO : S0[Ow]? = some (.lst (rows.map (ownB rows)))) (hL : S0[Lo]? = some (.lst (rows.map (lostB rows)))) (hF : S[Fo]? = some (.lst (fs.map (bD (mR rows))))) :
    ∃ (y7 y8 y9 y10 : Option D) (fs' : List BF) (b' : Bool) (S' : Store), l_asked_by_4 [some (.ref P), some (bD (mR rows) fun _ => true), some (.ref Ow), some (.ref Lo), some (.ref Fo), x5, x6, x7, x8, x9, x10] S = .ok (.nx [some (.ref P), some (bD (mR rows) fun _ => true), some (.ref Ow), some (.ref Lo), some (.ref Fo), x5, some (.bl b'), y7, y8, y9, y10]) S' ∧ Pre S0 S' ∧ S'[Fo]? = some (.lst (fs'.map (bD (mR rows)))) ∧ Down (ruleA rows) (mR rows) (fun n k => wantP rows n k = true) fs' ∧
      (b' = true → sumB (mR rows) fs' < sumB (mR rows) fs) ∧ (b' = false → ∀ n k, n < rows.length → k < mR rows → gAsk rows fs' n k = fsAt fs' (n : Int) k) := by
  have hin : ∀ (n : Nat) (r : Row) (m : Int), rows[n]? = some r → m ∈ fol n r → 0 ≤ m ∧ m < rows.length := fun n r m e f => gd.fol_in e f
  have key := loop_inv (hs := []) (turn := turnM (gName 7) l_asked_by_3)
    (fun i fr S' => ∃ (y7 y8 y9 y10 : Option D) (fs' : List BF) (b' : Bool), fr = [some (.ref P), some (bD (mR rows) fun _ => true), some (.ref Ow), some (.ref Lo), some (.ref Fo), x5, some (.bl b'), y7, y8, y9, y10] ∧ Pre S0 S' ∧ S'[Fo]? = some (.lst (fs'.map (bD (mR rows)))) ∧ Down (ruleA rows) (mR rows) (fun n k => wantP rows n k = true) fs' ∧
      (b' = true → sumB (mR rows) fs' < sumB (mR rows) fs) ∧ (b' = false → fs' = fs ∧ ∀ n k, rows.length - i ≤ n → n < rows.length → k < mR rows → gAsk rows fs' n k = fsAt fs' (n : Int) k))
    ((List.range rows.length).map fun k => D.int (((rows.length : Int) - 1) - (k : Nat))) 0 [some (.ref P), some (bD (mR rows) fun _ => true), some (.ref Ow), some (.ref Lo), some (.ref Fo), x5, some (.bl false), x7, x8, x9, x10] S
    ⟨x7, x8, x9, x10, fs, false, rfl, p0, hF, dn, (fun z => by cases z), fun _ => ⟨rfl, fun n k h1 h2 => by omega⟩⟩ (fun _ _ S _ => stands_nil S) (by
      rintro i d fr S' hd ⟨y7, y8, y9, y10, fs', b', rfl, pr, g, dn', bt, bf⟩
      rw [List.getElem?_map] at hd
      obtain ⟨i', hi', rfl⟩ := Option.map_eq_some_iff.mp hd
      have hi : i < rows.length := by
        have := (List.getElem?_eq_some_iff.mp hi').1
        rwa [List.length_range] at this
      rw [List.getElem?_range hi] at hi'
      obtain rfl := Option.some.inj hi'
      rw [show 0 + i = i by omega] at *
      obtain ⟨n, hn, hnl⟩ : ∃ n : Nat, (rows.length : Int) - 1 - (i : Int) = (n : Int) ∧ n + i + 1 = rows.length := ⟨rows.length - 1 - i, by omega, by omega⟩
      rw [hn]
      obtain ⟨z8, z9, z10, fs2, b2, S2, e, p2, g2, c⟩ := asked_turn P Ow Lo Fo n b' x5 y8 y9 y10 l rows fs' S' S0 gd (by omega) hl dn'.len pr hF0 hP hO hL g
      refine ⟨_, S2, .inl (by simp [turnM_s]; exact e), _, _, _, _, fs2, b2, rfl, p2, g2, ?_⟩
      rcases c with ⟨c1, rfl, rfl⟩ | ⟨c1, rfl, rfl⟩
      · refine ⟨dn', bt, fun hb => ?_⟩
        obtain ⟨h1, h2⟩ := bf hb
        refine ⟨h1, fun n' k h3 h4 h5 => ?_⟩
        by_cases h6 : n' = n
        · subst h6
          exact bits_inj c1 k h5
        · exact h2 n' k (by omega) h4 h5
      · have hnl' : n < rows.length := by omega
        refine ⟨dn'.put hnl' fun k hk w => ask_up dn' hin hnl' k hk w, fun _ => ?_, fun z => by cases z⟩
        have lt : bitsOf (gAsk rows fs' n) (mR rows) < bitsOf (fsAt fs' (n : Int)) (mR rows) := bit_lt (fun k hk h => dn'.post n k hnl' hk h) c1
        obtain ⟨q, hq⟩ : ∃ q, fs'[n]? = some q := ⟨_, List.getElem?_eq_getElem (by rw [dn'.len]; exact hnl')⟩
        rw [fsAt_of hq] at lt
        have s1 := sumB_set hq lt
        cases hb : b' with
        | true => have := bt hb; omega
        | false => rw [(bf hb).1] at s1 ⊢; exact s1)
  obtain ⟨fr', S', e, y7, y8, y9, y10, fs', b', rfl, pr, g, dn', bt, bf⟩ := key
  rw [List.length_map, List.length_range, Nat.zero_add] at bf
  refine ⟨y7, y8, y9, y10, fs', b', S', ?_, pr, g, dn', bt, fun hb n k h1 h2 => (bf hb).2 n k (by omega) h1 h2⟩
  have f1 : far ((rows.length : Int) - 1) := by unfold far; omega
  have f2 : far (-1) := by unfold far; omega
  have tn : ((rows.length : Int) - 1 - -1).toNat = rows.length := by omega
  have tn2 : ((rows.length : Int) - 1 + 1).toNat = rows.length := by omega
  have hP1 := p0.get hP
  simp [l_asked_by_4, hP1, f1, f2]
  exact e
theorem asked_while (P Ow Lo Fo : Nat) (x5 : Option D) (l : List Tx) (rows : List Row) (S0 : Store) (gd : Gd l rows) (hl : rows.length ≤ 1000) (hF0 : S0.length ≤ Fo) (hP : S0[P]? = some (.lst (rows.map Row.d))) (hO : S0[Ow]? = some (.lst (rows.map (ownB rows)))) (hL : S0[Lo]? = some (.lst (rows.map (lostB rows)))) :
    ∀ (k : Nat) (x7 x8 x9 x10 : Option D) (fs : List BF) (S : Store), sumB (mR rows) fs ≤ k → Down (ruleA rows) (mR rows) (fun n k => wantP rows n k = true) fs → Pre S0 S → S[Fo]? = some (.lst (fs.map (bD (mR rows)))) →
    ∃ (fr' : Fr) (fs' : List BF) (S' : Store), sWhile c_asked_by_5 l_asked_by_4 [some (.ref P), some (bD (mR rows) fun _ => true), some (.ref Ow), some (.ref Lo), some (.ref Fo), x5, some (.bl true), x7, x8, x9, x10] S = .ok (.nx fr') S' ∧ fr'[4]? = some (some (.ref Fo)) ∧ Pre S0 S' ∧ S'[Fo]? = some (.lst (fs'.map (bD (mR rows)))) ∧ fs'.length = rows.length ∧ ∀ n k, n < rows.length → k < mR rows → fsAt fs' (n : Int) k = wantP rows n k := by
  intro k
  induction k with
  | zero =>
    intro x7 x8 x9 x10 fs S hk dn p0 hF
    obtain ⟨y7, y8, y9, y10, fs', b', S', e, pr, g, dn', bt, bf⟩ := asked_pass P Ow Lo Fo x5 (some (.bl true)) x7 x8 x9 x10 l rows fs S S0 gd hl dn p0 hF0 hP hO hL hF
    cases b' with
    | true => have := bt rfl; omega
    | false =>
      refine ⟨[some (.ref P), some (bD (mR rows) fun _ => true), some (.ref Ow), some (.ref Lo), some (.ref Fo), x5, some (.bl false), y7, y8, y9, y10], fs', S', ?_, rfl, pr, g, dn'.len, ?_⟩
      · rw [while_s]
        simp [c_asked_by_5, e]
        rw [while_s]
        simp [c_asked_by_5]
      · intro n k hn hk
        obtain ⟨x, hx⟩ : ∃ x, (recs rows)[k]? = some x := ⟨_, List.getElem?_eq_getElem hk⟩
        have wx : wantP rows n k = !dec (Mis rows x n) := by unfold wantP; rw [hx]
        by_cases hm : Mis rows x n
        · rw [ask_fix (bf rfl) hx hm, wx, dec_true hm]; rfl
        · rw [wx, dec_false hm]
          exact dn'.up n k hn hk (by rw [wx, dec_false hm]; rfl)
  | succ k ih =>
    intro x7 x8 x9 x10 fs S hk dn p0 hF
    obtain ⟨y7, y8, y9, y10, fs', b', S', e, pr, g, dn', bt, bf⟩ := asked_pass P Ow Lo Fo x5 (some (.bl true)) x7 x8 x9 x10 l rows fs S S0 gd hl dn p0 hF0 hP hO hL hF
    cases b' with
    | true =>
      obtain ⟨fr2, fs2, S2, e2, q⟩ := ih y7 y8 y9 y10 fs' S' (by have := bt rfl; omega) dn' pr g
      refine ⟨fr2, fs2, S2, ?_, q⟩
      rw [while_s]
      simp [c_asked_by_5, e]
      exact e2
    | false =>
      refine ⟨[some (.ref P), some (bD (mR rows) fun _ => true), some (.ref Ow), some (.ref Lo), some (.ref Fo), x5, some (.bl false), y7, y8, y9, y10], fs', S', ?_, rfl, pr, g, dn'.len, ?_⟩
      · rw [while_s]
        simp [c_asked_by_5, e]
        rw [while_s]
        simp [c_asked_by_5]
      · intro n k hn hk
        obtain ⟨x, hx⟩ : ∃ x, (recs rows)[k]? = some x := ⟨_, List.getElem?_eq_getElem hk⟩
        have wx : wantP rows n k = !dec (Mis rows x n) := by unfold wantP; rw [hx]
        by_cases hm : Mis rows x n
        · rw [ask_fix (bf rfl) hx hm, wx, dec_true hm]; rfl
        · rw [wx, dec_false hm]
          exact dn'.up n k hn hk (by rw [wx, dec_false hm]; rfl)
/-- rows numbered -/
def numD (n : Nat) (f : Nat → D) : List D := (List.range n).map f
theorem asked_ok (P : Nat) (l : List Tx) (rows : List Row) (S : Store) (gd : Gd l rows) (rk : RowsK rows) (hP : S[P]? = some (.lst (rows.map Row.d))) (hl : rows.length ≤ 1000) : ∃ (m : Nat) (S' : Store), m_asked_by [.ref P] S = .ok (.ref m) S' ∧ Pre S S' ∧ S.length ≤ m ∧ S'[m]? = some (.lst (numD rows.length (wantD rows))) := by
  obtain ⟨S1, e1, p1⟩ := all_bits_ok P rows S hP hl
  obtain ⟨Ow, S2, e2, p2, hO0, gO⟩ := own_bits_ok P rows S1 (p1.get hP) hl
  obtain ⟨Lo, S3, e3, p3, hL0, gL⟩ := lost_bits_ok P rows S2 rk (p2.get (p1.get hP)) hl
  have hP3 := p3.get (p2.get (p1.get hP))
  have gO3 := p3.get gO
  have e1' : m_all_bits [.ref P] S = .ok (bD (mR rows) fun _ => true) S1 := e1
  obtain ⟨S4, e4, p4, g4⟩ := lc_fil (vs := [5]) (g := gName 5) (t := tYes) (e := e_asked_by_1) (fr := [some (.ref P), some (bD (mR rows) fun _ => true), some (.ref Ow), some (.ref Lo), none, none, none, none, none, none, none]) (l := rows.map Row.d) (hs := [(P, rows.map Row.d)]) (S := S3) rows Row.d (fun _ => bD (mR rows) fun _ => true) (fun _ => true) rfl (stand_one (lst_of hP3)) (Nat.le_trans hl (by decide)) (by
    intro r hr S' pr
    exact ⟨[some (.ref P), some (bD (mR rows) fun _ => true), some (.ref Ow), some (.ref Lo), none, some r.d, none, none, none, none, none], S', by simp [unset], by simp, Pre.refl _, fun _ => ⟨S', by simp [e_asked_by_1], Pre.refl _⟩⟩)
  have hf : rows.filter (fun _ => true) = rows := by simp
  rw [hf] at g4
  have g4' : S4[S3.length]? = some (.lst ((rows.map fun _ => (fun _ => true : BF)).map (bD (mR rows)))) := by rw [g4, List.map_map]; rfl
  have fs0 : ∀ (n : Nat) k, n < rows.length → fsAt (rows.map fun _ => (fun _ => true : BF)) (n : Int) k = true := fun n k hn => by
    rw [fsAt_of (p := fun _ => true) (by rw [List.getElem?_map, List.getElem?_eq_getElem hn]; rfl)]
  have dn : Down (ruleA rows) (mR rows) (fun n k => wantP rows n k = true) (rows.map fun _ => (fun _ => true : BF)) := ⟨by simp, fun n k hn _ _ => fs0 n k hn, fun n k hn _ _ => fs0 n k hn⟩
  obtain ⟨fr', fs', S5, e5, f4, p5, g5, hlen, hW⟩ := asked_while P Ow Lo S3.length none l rows S3 gd hl (Nat.le_refl _) hP3 gO3 gL (sumB (mR rows) (rows.map fun _ => (fun _ => true : BF))) none none none none _ S4 (Nat.le_refl _) dn p4 g4'
  have pt := ((p1.trans p2).trans p3)
  refine ⟨S3.length, S5, ?_, pt.trans p5, pt.len, ?_⟩
  · simp [m_asked_by, b_asked_by, e1', e2, e3, hP3]
    rw [e4]
    simp
    rw [e5]
    simp [f4]
  · rw [g5]
    congr 2
    apply List.ext_getElem?
    intro n
    unfold numD
    by_cases hn : n < rows.length
    · obtain ⟨q, hq⟩ : ∃ q, fs'[n]? = some q := ⟨_, List.getElem?_eq_getElem (by omega)⟩
      rw [List.getElem?_map, hq, List.getElem?_map, List.getElem?_range hn]
      show some (bD _ q) = some (wantD rows n)
      congr 1
      refine bD_congr fun k hk => ?_
      rw [← hW n k hn hk, fsAt_of hq]
    · rw [List.getElem?_eq_none (by rw [List.length_map]; omega), List.getElem?_eq_none (by rw [List.length_map, List.length_range]; omega)]
/-- the dict that tells what is wanted at each place -/
noncomputable def wantsT (rows : List Row) : List (List Ky × D) := dOf (fun p => wantD rows p.2.toNat) (plc rows)
theorem num_at {n k : Nat} {f : Nat → D} (h : k < n) : atI (numD n f) (k : Int) = some (f k) := at_of (by unfold numD; rw [List.getElem?_map, List.getElem?_range h]; rfl)
theorem plc_in {l : List Tx} {rows : List Row} (gd : Gd l rows) {p : Int × Int} (h : p ∈ plc rows) : -1 ≤ p.1 ∧ p.1 < rows.length ∧ 0 ≤ p.2 ∧ p.2 < rows.length := by
  obtain ⟨a, b⟩ := p
  have hp := gd.pos
  rcases plc_mem.mp h with ⟨rfl, rfl⟩ | ⟨i, r, e, rfl, hb⟩
  · exact ⟨by omega, by omega, by omega, by omega⟩
  · have := gd.fol_in e hb
    have hi := (List.getElem?_eq_some_iff.mp e).1
    exact ⟨by omega, by omega, by omega, by omega⟩
theorem wanted_ok (P : Nat) (l : List Tx) (rows : List Row) (S : Store) (gd : Gd l rows) (rk : RowsK rows) (hP : S[P]? = some (.lst (rows.map Row.d))) (hl : rows.length ≤ 1000) : ∃ (m : Nat) (S' : Store), m_wanted [.ref P] S = .ok (.ref m) S' ∧ Pre S S' ∧ S.length ≤ m ∧ S'[m]? = some (.dT (wantsT rows)) := by
  obtain ⟨A, S1, e1, p1, hA, gA⟩ := asked_ok P l rows S gd rk hP hl
  obtain ⟨Q, S2, e2, p2, hQ, gQ⟩ := places_ok P rows (S1 ++ [.dT []]) (app_get (p1.get hP)) hl
  have p12 : Pre S1 S2 := (Pre.app _ _).trans p2
  have gA2 := p12.get gA
  have gD2 : S2[S1.length]? = some (.dT []) := p2.get (app_new _ _ _)
  have hQ' : S1.length < Q := by simp at hQ; omega
  have pl := plc_len rows
  have key := loop_inv (hs := [(Q, (plc rows).map pD)]) (turn := turnM (gName 3) l_wanted_1)
    (fun i fr S' => ∃ (k3 : Option D), fr = [some (.ref P), some (.ref A), some (.ref S1.length), k3] ∧ Pre S1 S' ∧ S'[Q]? = some (.lst ((plc rows).map pD)) ∧ S'[S1.length]? = some (.dT (dOf (fun p => wantD rows p.2.toNat) ((plc rows).take i))))
    ((plc rows).map pD) 0 [some (.ref P), some (.ref A), some (.ref S1.length), none] S2
    ⟨none, rfl, p12, gQ, gD2⟩
    (by
      rintro i fr S' ⟨k3, rfl, pr, gq, _⟩
      exact stands_one (lst_of gq))
    (by
      rintro i d fr S' hd ⟨k3, rfl, pr, gq, g⟩
      rw [List.getElem?_map] at hd
      obtain ⟨q, hq, rfl⟩ := Option.map_eq_some_iff.mp hd
      rw [show 0 + i = i by omega] at *
      have hin := plc_in gd (List.mem_of_getElem? hq)
      obtain ⟨k, hk⟩ : ∃ k : Nat, q.2 = (k : Int) := ⟨q.2.toNat, by omega⟩
      have ea : atI (numD rows.length (wantD rows)) q.2 = some (wantD rows q.2.toNat) := by rw [hk, Int.toNat_natCast]; exact num_at (by omega)
      have dl := dOf_len (fun p => wantD rows p.2.toNat) ((plc rows).take i)
      rw [List.length_take] at dl
      have dl2 : (dOf (fun p => wantD rows p.2.toNat) ((plc rows).take i)).length < 16777216 := by omega
      refine ⟨[some (.ref P), some (.ref A), some (.ref S1.length), some (pD q)], S'.set S1.length (.dT (dOf (fun p => wantD rows p.2.toNat) ((plc rows).take (i + 1)))), .inl ?_, _, rfl, pr.set (Nat.le_refl _), by rw [set_ne (by omega)]; exact gq, set_get g⟩
      rw [tk_succ hq, dOf_snoc]
      have kq : ktOf (pD q) = some (pk q) := by rw [pD_kt, ktOf_kt]
      have gA' := pr.get gA
      have e0 : oIx (pD q) (.int 1) S' = .ok (.int q.2) S' := by unfold pD; rw [oIx_t, at1]; rfl
      simp [turnM_s, l_wanted_1, gA', e0, ea, g, kq, dl2, LINE])
  obtain ⟨fr', S3, e3, k3, rfl, p3, _, g3⟩ := key
  rw [List.length_map, Nat.zero_add, List.take_length] at g3
  refine ⟨S1.length, S3, ?_, p1.trans p3, p1.len, g3⟩
  simp [m_wanted, b_wanted, e1, e2, gQ]
  rw [e3]
  simp
end Lk34
set_option Elab.async false
set_option linter.all false
set_option maxHeartbeats 1000000
namespace Lk34
open Mi
/-! ### the rows from which each is come to -/
theorem ahead_ok (P : Nat) (l : List Tx) (rows : List Row) (S : Store) (gd : Gd l rows) (hP : S[P]? = some (.lst (rows.map Row.d))) (hl : rows.length ≤ 1000) : ∃ (A : Nat) (S' : Store), m_ahead_of [.ref P] S = .ok (.ref A) S' ∧ Pre S S' ∧ S.length ≤ A ∧ Cm S' A rows.length (cameR rows) := by
  have q1 := lc_fresh (vs := [2]) (g := gName 2) (e := e_ahead_of_1) (fr := [some (.ref P), none, none, none, none]) (l := rows.map Row.d) (hs := [(P, rows.map Row.d)]) (S := S) (fun d S' => ⟨[some (.ref P), none, some d, none, none], by simp [unset], by simp [e_ahead_of_1, LINE]⟩) (stand_one (lst_of hP)) (by rw [List.length_map]; exact Nat.le_trans hl (by decide))
  rw [List.length_map] at q1
  obtain ⟨S1, hS1⟩ : ∃ S1 : Store, S1 = S ++ O.lst ((List.range rows.length).map fun i => .ref (S.length + 1 + i)) :: List.replicate rows.length (.lst []) := ⟨_, rfl⟩
  have c1 : Cm S1 S.length rows.length fun _ => [] := by rw [hS1]; exact Cm.start
  have p1 : Pre S S1 := by rw [hS1]; exact Pre.app _ _
  have l1 : S1.length = S.length + 1 + rows.length := by rw [hS1, List.length_append, List.length_cons, List.length_replicate]; omega
  rw [← hS1] at q1
  obtain ⟨Q, S2, e2, p2, hQ, gQ⟩ := places_ok P rows S1 (p1.get hP) hl
  have pl := plc_len rows
  have key := loop_inv (hs := [(Q, (plc rows).map pD)]) (turn := turnM (gTup 2 (gCons (gName 3) (gCons (gName 4) gNil))) l_ahead_of_2)
    (fun i fr S' => ∃ (y3 y4 : Option D), fr = [some (.ref P), some (.ref S.length), none, y3, y4] ∧ Pre S S' ∧ S'[Q]? = some (.lst ((plc rows).map pD)) ∧ Cm S' S.length rows.length (cameL ((plc rows).take i)))
    ((plc rows).map pD) 0 [some (.ref P), some (.ref S.length), none, none, none] S2
    ⟨none, none, rfl, p1.trans p2, gQ, c1.mono p2⟩
    (by
      rintro i fr S' ⟨y3, y4, rfl, pr, gq, _⟩
      exact stands_one (lst_of gq))
    (by
      rintro i d fr S' hd ⟨y3, y4, rfl, pr, gq, cm⟩
      rw [List.getElem?_map] at hd
      obtain ⟨q, hq, rfl⟩ := Option.map_eq_some_iff.mp hd
      rw [show 0 + i = i by omega] at *
      have hin := plc_in gd (List.mem_of_getElem? hq)
      obtain ⟨a, b⟩ := q
      obtain ⟨m, rfl⟩ : ∃ m : Nat, b = (m : Int) := ⟨b.toNat, by have := hin.2.2.1; omega⟩
      have hm : m < rows.length := by have := hin.2.2.2; omega
      have ix := cm.ix hm
      have gm := cm.at_ m hm
      have ll := cameL_len ((plc rows).take i) m
      rw [List.length_take] at ll
      have ll2 : (cameL ((plc rows).take i) m).length < 16777216 := by omega
      by_cases ha : a = -1
      · refine ⟨_, S', .inl (by simp [turnM_s, pD, l_ahead_of_2, ha]; exact ⟨rfl, rfl⟩), _, _, rfl, pr, gq, ?_⟩
        have e : cameL ((plc rows).take (i + 1)) = cameL ((plc rows).take i) := by
          funext j
          rw [tk_succ hq, cameL_snoc, if_neg (fun z => z.1 ha)]
        rw [e]; exact cm
      · refine ⟨_, S'.set (S.length + 1 + m) (.lst ((cameL ((plc rows).take i) m ++ [a]).map .int)), .inl (by simp [turnM_s, pD, l_ahead_of_2, ha, cm.a, ix, gm, ll2, LINE]; exact ⟨rfl, rfl⟩), _, _, rfl, pr.set (by omega), by rw [set_ne (by omega)]; exact gq, ?_⟩
        have e : cameL ((plc rows).take (i + 1)) = fun j => if j = m then cameL ((plc rows).take i) j ++ [a] else cameL ((plc rows).take i) j := by
          funext j
          rw [tk_succ hq, cameL_snoc]
          by_cases hj : j = m
          · subst hj
            rw [if_pos ⟨ha, rfl⟩, if_pos rfl]
          · rw [if_neg (fun z => hj (by have := z.2; omega)), if_neg hj]
        rw [e]
        exact cm.put hm a)
  obtain ⟨fr', S3, e3, y3, y4, rfl, p3, _, cm⟩ := key
  rw [List.length_map, Nat.zero_add, List.take_length] at cm
  refine ⟨S.length, S3, ?_, p3, Nat.le_refl _, cm⟩
  simp [m_ahead_of, b_ahead_of, hP]
  rw [q1]
  simp [e2, gQ]
  rw [e3]
  simp
end Lk34
set_option Elab.async false
set_option linter.all false
set_option maxHeartbeats 1000000
namespace Lk34
open Mi
/-! ### where it is standing: the greatest sets -/
theorem left_turn (P Ow Lo Ca Fo n : Nat) (b : Bool) (x6 x9 x10 x11 : Option D) (rows : List Row) (fs : List BF) (S S0 : Store) (hn : n < rows.length) (hl : rows.length ≤ 1000) (hfl : fs.length = rows.length)
    (p0 : Pre S0 S) (hF0 : S0.length ≤ Fo) (hO : S0[Ow]? = some (.lst (rows.map (ownB rows)))) (hL : S0[Lo]? = some (.lst (rows.map (lostB rows)))) (hC : Cm S0 Ca rows.length (cameR rows)) (hF : S[Fo]? = some (.lst (fs.map (bD (mR rows))))) :
    ∃ (y9 y10 y11 : Option D) (fs' : List BF) (b' : Bool) (S' : Store), l_left_by_3 [some (.ref P), some (bD (mR rows) fun _ => true), some (.ref Ow), some (.ref Lo), some (.ref Ca), some (.ref Fo), x6, some (.bl b), some (.int n), x9, x10, x11] S = .ok (.nx [some (.ref P), some (bD (mR rows) fun _ => true), some (.ref Ow), some (.ref Lo), some (.ref Ca), some (.ref Fo), x6, some (.bl b'), some (.int n), y9, y10, y11]) S' ∧ Pre S0 S' ∧ S'[Fo]? = some (.lst (fs'.map (bD (mR rows)))) ∧
      ((bitsOf (gStd rows fs n) (mR rows) = bitsOf (fsAt fs (n : Int)) (mR rows) ∧ fs' = fs ∧ b' = b) ∨ (bitsOf (gStd rows fs n) (mR rows) ≠ bitsOf (fsAt fs (n : Int)) (mR rows) ∧ fs' = fs.set n (gStd rows fs n) ∧ b' = true)) := by
  have hr : rows[n]? = some rows[n] := List.getElem?_eq_getElem hn
  generalize rows[n] = r at hr
  have cm := hC.mono p0
  have ix := cm.ix hn
  have gc := cm.at_ n hn
  have hFl := Pre.lt (S' := S) hF
  obtain ⟨b0, hb0⟩ : ∃ b0 : Bool, b0 = decide (n ≠ 0) := ⟨_, rfl⟩
  have inner := loop_inv (hs := [(Ca + 1 + n, (cameR rows n).map D.int)]) (turn := turnM (gName 10) l_left_by_2)
    (fun i fr S' => ∃ (y10 : Option D), fr = [some (.ref P), some (bD (mR rows) fun _ => true), some (.ref Ow), some (.ref Lo), some (.ref Ca), some (.ref Fo), x6, some (.bl b), some (.int n), some (bD (mR rows) fun k => b0 && allF fs ((cameR rows n).take i) k), y10, x11] ∧ S' = S)
    ((cameR rows n).map D.int) 0 [some (.ref P), some (bD (mR rows) fun _ => true), some (.ref Ow), some (.ref Lo), some (.ref Ca), some (.ref Fo), x6, some (.bl b), some (.int n), some (bD (mR rows) fun _ => b0), x10, x11] S
    ⟨x10, by rw [show bD (mR rows) (fun _ => b0) = bD (mR rows) (fun k => b0 && allF fs (List.take 0 (cameR rows n)) k) from bD_funext fun k => by rw [List.take_zero, allF_nil, Bool.and_true]], rfl⟩
    (by
      rintro i fr S' ⟨y9, rfl, rfl⟩
      exact stands_one (lst_of gc))
    (by
      rintro i d fr S' hd ⟨y9, rfl, rfl⟩
      rw [List.getElem?_map] at hd
      obtain ⟨m, hm, rfl⟩ := Option.map_eq_some_iff.mp hd
      rw [show 0 + i = i by omega] at *
      obtain ⟨j, q', hq', rfl, _⟩ := cameR_mem.mp (List.mem_of_getElem? hm)
      have hj := (List.getElem?_eq_some_iff.mp hq').1
      obtain ⟨q, hq⟩ : ∃ q, fs[j]? = some q := ⟨_, List.getElem?_eq_getElem (by omega)⟩
      have eq1 : atI (fs.map (bD (mR rows))) (j : Int) = some (bD (mR rows) (fsAt fs (j : Int))) := at_of (by
        rw [List.getElem?_map, hq, fsAt_of hq]; rfl)
      refine ⟨_, _, .inl ?_, some (.int (j : Int)), rfl, rfl⟩
      rw [bD_funext (p := fun k => b0 && allF fs ((cameR rows n).take (i + 1)) k) (q := fun k => (b0 && allF fs ((cameR rows n).take i) k) && fsAt fs (j : Int) k) fun k => by rw [tk_succ hm, allF_snoc, Bool.and_assoc]]
      simp [turnM_s, l_left_by_2, hF, eq1, bD_and])
  obtain ⟨fr', S', e, y10, rfl, rfl⟩ := inner
  rw [List.length_map, Nat.zero_add, List.take_length] at e
  have eo : atI (rows.map (ownB rows)) (n : Int) = some (ownB rows r) := at_of (by rw [List.getElem?_map, hr]; rfl)
  have el : atI (rows.map (lostB rows)) (n : Int) = some (lostB rows r) := at_of (by rw [List.getElem?_map, hr]; rfl)
  obtain ⟨q, hq⟩ : ∃ q, fs[n]? = some q := ⟨_, List.getElem?_eq_getElem (by omega)⟩
  have ef : atI (fs.map (bD (mR rows))) (n : Int) = some (bD (mR rows) (fsAt fs n)) := at_of (by rw [List.getElem?_map, hq, fsAt_of hq]; rfl)
  have hg : bD (mR rows) (gStd rows fs n) = bD (mR rows) (fun k => (ownF rows r k || (b0 && allF fs (cameR rows n) k)) && (true ^^ lostF rows r k)) := bD_funext fun k => by unfold gStd; rw [hr, hb0]
  have hO1 := p0.get hO
  have hL1 := p0.get hL
  have z0 : (D.int 0) = bD (mR rows) fun _ => false := bD_zero _
  have head : l_left_by_3 [some (.ref P), some (bD (mR rows) fun _ => true), some (.ref Ow), some (.ref Lo), some (.ref Ca), some (.ref Fo), x6, some (.bl b), some (.int n), x9, x10, x11] S' = seqK (sIf (tBl (mOp oNe (mVar 11) (mOp oIx (mVar 5) (mVar 8)))) (sSeq (sAsg (mVar 11) (gSub (mVar 5) (mVar 8))) (sAsg (mC (.bl true)) (gName 7))) (sNx)) (.ok (.nx [some (.ref P), some (bD (mR rows) fun _ => true), some (.ref Ow), some (.ref Lo), some (.ref Ca), some (.ref Fo), x6, some (.bl b), some (.int n), some (bD (mR rows) fun k => b0 && allF fs (cameR rows n) k), y10, some (bD (mR rows) (gStd rows fs n))]) S') := by
    rw [hg]
    by_cases h : n = 0
    · have hb : b0 = false := by rw [hb0]; exact decide_eq_false fun z => z h
      subst hb
      rw [← z0] at e
      subst h
      simp at e ix gc eo el
      simp [l_left_by_3, cm.a, ix, gc]
      rw [e]
      simp [hO1, hL1, eo, el, ownB, lostB, bD_xor, bD_and, bD_or]
    · have hb : b0 = true := by rw [hb0]; exact decide_eq_true h
      subst hb
      simp [l_left_by_3, h, cm.a, ix, gc]
      rw [e]
      simp [hO1, hL1, eo, el, ownB, lostB, bD_xor, bD_and, bD_or]
  rw [head]
  by_cases hb : bitsOf (gStd rows fs n) (mR rows) = bitsOf (fsAt fs (n : Int)) (mR rows)
  · exact ⟨_, _, _, fs, b, S', by simp [hF, ef, bD_ne, hb]; exact ⟨rfl, rfl, rfl⟩, p0, hF, .inl ⟨hb, rfl, rfl⟩⟩
  · have ix : ixN rows.length (n : Int) = some n := by rw [ixN_of (by omega) (by omega)]; simp
    exact ⟨_, _, _, fs.set n (gStd rows fs n), true, S'.set Fo (.lst ((fs.set n (gStd rows fs n)).map (bD (mR rows)))), by simp [hF, ef, bD_ne, hb, hfl, ix]; exact ⟨rfl, rfl, rfl⟩, p0.set hF0, set_get hF, .inr ⟨hb, rfl, rfl⟩⟩
theorem left_pass (P Ow Lo Ca Fo : Nat) (x6 x7 x8 x9 x10 x11 : Option D) (rows : List Row) (fs : List BF) (S S0 : Store) (hl : rows.length ≤ 1000) (dn : Down (ruleS rows) (mR rows) (fun n k => standP rows n k = true) fs)
    (p0 : Pre S0 S) (hF0 : S0.length ≤ Fo) (hP : S0[P]? = some (.lst (rows.map Row.d))) (hO : S0[Ow]? = some (.lst (rows.map (ownB rows)))) (hL : S0[Lo]? = some (.lst (rows.map (lostB rows)))) (hC : Cm S0 Ca rows.length (cameR rows)) (hF : S[Fo]? = some (.lst (fs.map (bD (mR rows))))) :
    ∃ (y8 y9 y10 y11 : Option D) (fs' : List BF) (b' : Bool) (S' : Store), l_left_by_4 [some (.ref P), some (bD (mR rows) fun _ => true), some (.ref Ow), some (.ref Lo), some (.ref Ca), some (.ref Fo), x6, x7, x8, x9, x10, x11] S = .ok (.nx [some (.ref P), some (bD (mR rows) fun _ => true), some (.ref Ow), some (.ref Lo), some (.ref Ca), some (.ref Fo), x6, some (.bl b'), y8, y9, y10, y11]) S' ∧ Pre S0 S' ∧ S'[Fo]? = some (.lst (fs'.map (bD (mR rows)))) ∧ Down (ruleS rows) (mR rows) (fun n k => standP rows n k = true) fs' ∧
      (b' = true → sumB (mR rows) fs' < sumB (mR rows) fs) ∧ (b' = false → ∀ n k, n < rows.length → k < mR rows → gStd rows fs' n k = fsAt fs' (n : Int) k) := by
  have key := loop_inv (hs := []) (turn := turnM (gName 8) l_left_by_3)
    (fun i fr S' => ∃ (y8 y9 y10 y11 : Option D) (fs' : List BF) (b' : Bool), fr = [some (.ref P), some (bD (mR rows) fun _ => true), some (.ref Ow), some (.ref Lo), some (.ref Ca), some (.ref Fo), x6, some (.bl b'), y8, y9, y10, y11] ∧ Pre S0 S' ∧ S'[Fo]? = some (.lst (fs'.map (bD (mR rows)))) ∧ Down (ruleS rows) (mR rows) (fun n k => standP rows n k = true) fs' ∧
      (b' = true → sumB (mR rows) fs' < sumB (mR rows) fs) ∧ (b' = false → fs' = fs ∧ ∀ n k, n < i → n < rows.length → k < mR rows → gStd rows fs' n k = fsAt fs' (n : Int) k))
    (rng 0 rows.length) 0 [some (.ref P), some (bD (mR rows) fun _ => true), some (.ref Ow), some (.ref Lo), some (.ref Ca), some (.ref Fo), x6, some (.bl false), x8, x9, x10, x11] S
    ⟨x8, x9, x10, x11, fs, false, rfl, p0, hF, dn, (fun z => by cases z), fun _ => ⟨rfl, fun n k h1 h2 => by omega⟩⟩ (fun _ _ S _ => stands_nil S) (by
      rintro i d fr S' hd ⟨y8, y9, y10, y11, fs', b', rfl, pr, g, dn', bt, bf⟩
      obtain ⟨hi, rfl⟩ := rng_at hd
      rw [show 0 + i = i by omega] at *
      have e0 : (0 : Int) + (i : Int) = (i : Int) := by omega
      rw [e0]
      obtain ⟨z9, z10, z11, fs2, b2, S2, e, p2, g2, c⟩ := left_turn P Ow Lo Ca Fo i b' x6 y9 y10 y11 rows fs' S' S0 hi hl dn'.len pr hF0 hO hL hC g
      refine ⟨_, S2, .inl (by simp [turnM_s]; exact e), _, _, _, _, fs2, b2, rfl, p2, g2, ?_⟩
      rcases c with ⟨c1, rfl, rfl⟩ | ⟨c1, rfl, rfl⟩
      · refine ⟨dn', bt, fun hb => ?_⟩
        obtain ⟨h1, h2⟩ := bf hb
        refine ⟨h1, fun n' k h3 h4 h5 => ?_⟩
        by_cases h6 : n' = i
        · subst h6
          exact bits_inj c1 k h5
        · exact h2 n' k (by omega) h4 h5
      · refine ⟨dn'.put hi fun k hk w => std_up dn' hi k hk w, fun _ => ?_, fun z => by cases z⟩
        have lt : bitsOf (gStd rows fs' i) (mR rows) < bitsOf (fsAt fs' (i : Int)) (mR rows) := bit_lt (fun k hk h => dn'.post i k hi hk h) c1
        obtain ⟨q, hq⟩ : ∃ q, fs'[i]? = some q := ⟨_, List.getElem?_eq_getElem (by rw [dn'.len]; exact hi)⟩
        rw [fsAt_of hq] at lt
        have s1 := sumB_set hq lt
        cases hb : b' with
        | true => have := bt hb; omega
        | false => rw [(bf hb).1] at s1 ⊢; exact s1)
  obtain ⟨fr', S', e, y8, y9, y10, y11, fs', b', rfl, pr, g, dn', bt, bf⟩ := key
  rw [rng_len, Nat.zero_add] at bf
  refine ⟨y8, y9, y10, y11, fs', b', S', ?_, pr, g, dn', bt, fun hb n k h1 h2 => (bf hb).2 n k h1 h1 h2⟩
  have fl : far (rows.length : Int) := by unfold far; omega
  have hP1 := p0.get hP
  simp [l_left_by_4, hP1, fl]
  exact e
theorem left_while (P Ow Lo Ca Fo : Nat) (x6 : Option D) (rows : List Row) (S0 : Store) (hl : rows.length ≤ 1000) (hF0 : S0.length ≤ Fo) (hP : S0[P]? = some (.lst (rows.map Row.d))) (hO : S0[Ow]? = some (.lst (rows.map (ownB rows)))) (hL : S0[Lo]? = some (.lst (rows.map (lostB rows)))) (hC : Cm S0 Ca rows.length (cameR rows)) :
    ∀ (k : Nat) (x8 x9 x10 x11 : Option D) (fs : List BF) (S : Store), sumB (mR rows) fs ≤ k → Down (ruleS rows) (mR rows) (fun n k => standP rows n k = true) fs → Pre S0 S → S[Fo]? = some (.lst (fs.map (bD (mR rows)))) →
    ∃ (fr' : Fr) (fs' : List BF) (S' : Store), sWhile c_left_by_5 l_left_by_4 [some (.ref P), some (bD (mR rows) fun _ => true), some (.ref Ow), some (.ref Lo), some (.ref Ca), some (.ref Fo), x6, some (.bl true), x8, x9, x10, x11] S = .ok (.nx fr') S' ∧ fr'[5]? = some (some (.ref Fo)) ∧ Pre S0 S' ∧ S'[Fo]? = some (.lst (fs'.map (bD (mR rows)))) ∧ fs'.length = rows.length ∧ ∀ n k, n < rows.length → k < mR rows → fsAt fs' (n : Int) k = standP rows n k := by
  intro k
  induction k with
  | zero =>
    intro x8 x9 x10 x11 fs S hk dn p0 hF
    obtain ⟨y8, y9, y10, y11, fs', b', S', e, pr, g, dn', bt, bf⟩ := left_pass P Ow Lo Ca Fo x6 (some (.bl true)) x8 x9 x10 x11 rows fs S S0 hl dn p0 hF0 hP hO hL hC hF
    cases b' with
    | true => have := bt rfl; omega
    | false =>
      refine ⟨[some (.ref P), some (bD (mR rows) fun _ => true), some (.ref Ow), some (.ref Lo), some (.ref Ca), some (.ref Fo), x6, some (.bl false), y8, y9, y10, y11], fs', S', ?_, rfl, pr, g, dn'.len, ?_⟩
      · rw [while_s]
        simp [c_left_by_5, e]
        rw [while_s]
        simp [c_left_by_5]
      · intro n k hn hk
        obtain ⟨x, hx⟩ : ∃ x, (recs rows)[k]? = some x := ⟨_, List.getElem?_eq_getElem hk⟩
        have wx : standP rows n k = !dec (Mst rows x n) := by unfold standP; rw [hx]
        by_cases hm : Mst rows x n
        · rw [std_fix (bf rfl) hx hm, wx, dec_true hm]; rfl
        · rw [wx, dec_false hm]
          exact dn'.up n k hn hk (by rw [wx, dec_false hm]; rfl)
  | succ k ih =>
    intro x8 x9 x10 x11 fs S hk dn p0 hF
    obtain ⟨y8, y9, y10, y11, fs', b', S', e, pr, g, dn', bt, bf⟩ := left_pass P Ow Lo Ca Fo x6 (some (.bl true)) x8 x9 x10 x11 rows fs S S0 hl dn p0 hF0 hP hO hL hC hF
    cases b' with
    | true =>
      obtain ⟨fr2, fs2, S2, e2, q⟩ := ih y8 y9 y10 y11 fs' S' (by have := bt rfl; omega) dn' pr g
      refine ⟨fr2, fs2, S2, ?_, q⟩
      rw [while_s]
      simp [c_left_by_5, e]
      exact e2
    | false =>
      refine ⟨[some (.ref P), some (bD (mR rows) fun _ => true), some (.ref Ow), some (.ref Lo), some (.ref Ca), some (.ref Fo), x6, some (.bl false), y8, y9, y10, y11], fs', S', ?_, rfl, pr, g, dn'.len, ?_⟩
      · rw [while_s]
        simp [c_left_by_5, e]
        rw [while_s]
        simp [c_left_by_5]
      · intro n k hn hk
        obtain ⟨x, hx⟩ : ∃ x, (recs rows)[k]? = some x := ⟨_, List.getElem?_eq_getElem hk⟩
        have wx : standP rows n k = !dec (Mst rows x n) := by unfold standP; rw [hx]
        by_cases hm : Mst rows x n
        · rw [std_fix (bf rfl) hx hm, wx, dec_true hm]; rfl
        · rw [wx, dec_false hm]
          exact dn'.up n k hn hk (by rw [wx, dec_false hm]; rfl)
noncomputable def standD (rows : List Row) (n : Nat) : D := bD (mR rows) (standP rows n)
theorem left_by_ok (P : Nat) (l : List Tx) (rows : List Row) (S : Store) (gd : Gd l rows) (rk : RowsK rows) (hP : S[P]? = some (.lst (rows.map Row.d))) (hl : rows.length ≤ 1000) : ∃ (m : Nat) (S' : Store), m_left_by [.ref P] S = .ok (.ref m) S' ∧ Pre S S' ∧ S.length ≤ m ∧ S'[m]? = some (.lst (numD rows.length (standD rows))) := by
  obtain ⟨S1, e1, p1⟩ := all_bits_ok P rows S hP hl
  obtain ⟨Ow, S2, e2, p2, hO0, gO⟩ := own_bits_ok P rows S1 (p1.get hP) hl
  obtain ⟨Lo, S3', e3, p3', hL0, gL⟩ := lost_bits_ok P rows S2 rk (p2.get (p1.get hP)) hl
  obtain ⟨Ca, S3, e3a, p3a, hC0, cm⟩ := ahead_ok P l rows S3' gd (p3'.get (p2.get (p1.get hP))) hl
  have p3 := p3'.trans p3a
  have hP3 := p3.get (p2.get (p1.get hP))
  have gO3 := p3.get gO
  have gL3 := p3a.get gL
  have e1' : m_all_bits [.ref P] S = .ok (bD (mR rows) fun _ => true) S1 := e1
  obtain ⟨S4, e4, p4, g4⟩ := lc_fil (vs := [6]) (g := gName 6) (t := tYes) (e := e_left_by_1) (fr := [some (.ref P), some (bD (mR rows) fun _ => true), some (.ref Ow), some (.ref Lo), some (.ref Ca), none, none, none, none, none, none, none]) (l := rows.map Row.d) (hs := [(P, rows.map Row.d)]) (S := S3) rows Row.d (fun _ => bD (mR rows) fun _ => true) (fun _ => true) rfl (stand_one (lst_of hP3)) (Nat.le_trans hl (by decide)) (by
    intro r hr S' pr
    exact ⟨[some (.ref P), some (bD (mR rows) fun _ => true), some (.ref Ow), some (.ref Lo), some (.ref Ca), none, some r.d, none, none, none, none, none], S', by simp [unset], by simp, Pre.refl _, fun _ => ⟨S', by simp [e_left_by_1], Pre.refl _⟩⟩)
  have hf : rows.filter (fun _ => true) = rows := by simp
  rw [hf] at g4
  have g4' : S4[S3.length]? = some (.lst ((rows.map fun _ => (fun _ => true : BF)).map (bD (mR rows)))) := by rw [g4, List.map_map]; rfl
  have fs0 : ∀ (n : Nat) k, n < rows.length → fsAt (rows.map fun _ => (fun _ => true : BF)) (n : Int) k = true := fun n k hn => by
    rw [fsAt_of (p := fun _ => true) (by rw [List.getElem?_map, List.getElem?_eq_getElem hn]; rfl)]
  have dn : Down (ruleS rows) (mR rows) (fun n k => standP rows n k = true) (rows.map fun _ => (fun _ => true : BF)) := ⟨by simp, fun n k hn _ _ => fs0 n k hn, fun n k hn _ _ => fs0 n k hn⟩
  obtain ⟨fr', fs', S5, e5, f4, p5, g5, hlen, hW⟩ := left_while P Ow Lo Ca S3.length none rows S3 hl (Nat.le_refl _) hP3 gO3 gL3 cm (sumB (mR rows) (rows.map fun _ => (fun _ => true : BF))) none none none none _ S4 (Nat.le_refl _) dn p4 g4'
  have pt := ((p1.trans p2).trans p3)
  refine ⟨S3.length, S5, ?_, pt.trans p5, pt.len, ?_⟩
  · simp [m_left_by, b_left_by, e1', e2, e3, e3a, hP3]
    rw [e4]
    simp
    rw [e5]
    simp [f4]
  · rw [g5]
    congr 2
    apply List.ext_getElem?
    intro n
    unfold numD
    by_cases hn : n < rows.length
    · obtain ⟨q, hq⟩ : ∃ q, fs'[n]? = some q := ⟨_, List.getElem?_eq_getElem (by omega)⟩
      rw [List.getElem?_map, hq, List.getElem?_map, List.getElem?_range hn]
      show some (bD _ q) = some (standD rows n)
      congr 1
      refine bD_congr fun k hk => ?_
      rw [← hW n k hn hk, fsAt_of hq]
    · rw [List.getElem?_eq_none (by rw [List.length_map]; omega), List.getElem?_eq_none (by rw [List.length_map, List.length_range]; omega)]
/-- what stands at a place -/
noncomputable def standsT (rows : List Row) : List (List Ky × D) := dOf (fun p => bD (mR rows) (stdB rows p)) (plc rows)
theorem standing_ok (P : Nat) (l : List Tx) (rows : List Row) (S : Store) (gd : Gd l rows) (rk : RowsK rows) (hP : S[P]? = some (.lst (rows.map Row.d))) (hl : rows.length ≤ 1000) : ∃ (m : Nat) (S' : Store), m_standing [.ref P] S = .ok (.ref m) S' ∧ Pre S S' ∧ S.length ≤ m ∧ S'[m]? = some (.dT (standsT rows)) := by
  obtain ⟨A, S1, e1, p1, hA, gA⟩ := left_by_ok P l rows S gd rk hP hl
  obtain ⟨Q, S2, e2, p2, hQ, gQ⟩ := places_ok P rows (S1 ++ [.dT []]) (app_get (p1.get hP)) hl
  have p12 : Pre S1 S2 := (Pre.app _ _).trans p2
  have gA2 := p12.get gA
  have gD2 : S2[S1.length]? = some (.dT []) := p2.get (app_new _ _ _)
  have hQ' : S1.length < Q := by simp at hQ; omega
  have pl := plc_len rows
  have key := loop_inv (hs := [(Q, (plc rows).map pD)]) (turn := turnM (gName 3) l_standing_1)
    (fun i fr S' => ∃ (k3 : Option D), fr = [some (.ref P), some (.ref A), some (.ref S1.length), k3] ∧ Pre S1 S' ∧ S'[Q]? = some (.lst ((plc rows).map pD)) ∧ S'[S1.length]? = some (.dT (dOf (fun p => bD (mR rows) (stdB rows p)) ((plc rows).take i))))
    ((plc rows).map pD) 0 [some (.ref P), some (.ref A), some (.ref S1.length), none] S2
    ⟨none, rfl, p12, gQ, gD2⟩
    (by
      rintro i fr S' ⟨k3, rfl, pr, gq, _⟩
      exact stands_one (lst_of gq))
    (by
      rintro i d fr S' hd ⟨k3, rfl, pr, gq, g⟩
      rw [List.getElem?_map] at hd
      obtain ⟨q, hq, rfl⟩ := Option.map_eq_some_iff.mp hd
      rw [show 0 + i = i by omega] at *
      have hin := plc_in gd (List.mem_of_getElem? hq)
      have dl := dOf_len (fun p => bD (mR rows) (stdB rows p)) ((plc rows).take i)
      rw [List.length_take] at dl
      have dl2 : (dOf (fun p => bD (mR rows) (stdB rows p)) ((plc rows).take i)).length < 16777216 := by omega
      refine ⟨[some (.ref P), some (.ref A), some (.ref S1.length), some (pD q)], S'.set S1.length (.dT (dOf (fun p => bD (mR rows) (stdB rows p)) ((plc rows).take (i + 1)))), .inl ?_, _, rfl, pr.set (Nat.le_refl _), by rw [set_ne (by omega)]; exact gq, set_get g⟩
      rw [tk_succ hq, dOf_snoc]
      have kq : ktOf (pD q) = some (pk q) := by rw [pD_kt, ktOf_kt]
      have gA' := pr.get gA
      have e0 : oIx (pD q) (.int 0) S' = .ok (.int q.1) S' := by unfold pD; rw [oIx_t, at0]; rfl
      by_cases hq1 : q.1 = -1
      · have z0 : (D.int 0) = bD (mR rows) (stdB rows q) := by unfold stdB; rw [if_pos hq1]; exact bD_zero _
        simp [turnM_s, l_standing_1, e0, hq1, g, kq, dl2, LINE]
        rw [z0]
      · obtain ⟨k, hk⟩ : ∃ k : Nat, q.1 = (k : Int) := ⟨q.1.toNat, by omega⟩
        have ea : atI (numD rows.length (standD rows)) q.1 = some (bD (mR rows) (stdB rows q)) := by
          unfold stdB
          rw [if_neg hq1, hk, Int.toNat_natCast]; exact num_at (by omega)
        simp [turnM_s, l_standing_1, gA', e0, hq1, ea, g, kq, dl2, LINE])
  obtain ⟨fr', S3, e3, k3, rfl, p3, _, g3⟩ := key
  rw [List.length_map, Nat.zero_add, List.take_length] at g3
  refine ⟨S1.length, S3, ?_, p1.trans p3, p1.len, g3⟩
  simp [m_standing, b_standing, e1, e2, gQ]
  rw [e3]
  simp
end Lk34
set_option Elab.async false
set_option linter.all false
set_option maxHeartbeats 1000000
namespace Lk34
open Mi
/-! ### how far an end is -/
inductive EndsIn (rows : List Row) : Nat → Nat → Prop
  | en {n d : Nat} : rows[n]? = some .en → EndsIn rows n d
  | step {i j d : Nat} {r : Row} : rows[j]? = some r → (i : Int) ∈ fol j r → EndsIn rows i d → EndsIn rows j (d + 1)
theorem EndsIn.up {rows : List Row} {n d : Nat} (h : EndsIn rows n d) : EndsIn rows n (d + 1) := by
  induction h with
  | en e => exact .en e
  | step h1 h2 _ ih => exact .step h1 h2 ih
theorem ends_edge {rows : List Row} {P : Nat → Prop} (h0 : ∀ n, rows[n]? = some .en → P n) {n : Nat} (h : Ends rows n) : P n ∨ ∃ (j i : Nat) (r : Row), rows[j]? = some r ∧ (i : Int) ∈ fol j r ∧ P i ∧ ¬ P j := by
  induction h with
  | en e => exact .inl (h0 _ e)
  | @step i j r hr hf _ ih =>
    rcases ih with z | z
    · by_cases w : P j
      · exact .inl w
      · exact .inr ⟨j, i, r, hr, hf, z, w⟩
    · exact .inr z
theorem ends_has {rows : List Row} {n : Nat} (h : Ends rows n) : ∃ e, e < rows.length ∧ rows[e]? = some .en := by
  induction h with
  | en e => exact ⟨_, (List.getElem?_eq_some_iff.mp e).1, e⟩
  | step _ _ _ ih => exact ih
theorem dle {p q : Prop} (h : p → q) : (dec p).toNat ≤ (dec q).toNat := by
  by_cases hp : p
  · rw [dec_true hp, dec_true (h hp)]; exact Nat.le_refl _
  · rw [dec_false hp]; exact Nat.zero_le _
noncomputable def cntE (rows : List Row) (d : Nat) : Nat := Mi.sumTo (fun n => (dec (EndsIn rows n d)).toNat) rows.length
theorem sum_one : ∀ N, Mi.sumTo (fun _ => 1) N = N
  | 0 => rfl
  | N + 1 => by rw [Mi.sumTo, sum_one N]
theorem cnt_grow {rows : List Row} (he : ∀ n, n < rows.length → Ends rows n) (hp : 0 < rows.length) : ∀ d, (∀ n, n < rows.length → EndsIn rows n d) ∨ d + 1 ≤ cntE rows d := by
  intro d
  induction d with
  | zero =>
    right
    obtain ⟨e, hl, hE⟩ := ends_has (he 0 hp)
    have := sumTo_lt (f := fun _ => 0) (g := fun n => (dec (EndsIn rows n 0)).toNat) (n := e) (N := rows.length) (fun _ _ => Nat.zero_le _) hl (by rw [dec_true (EndsIn.en hE)]; decide)
    unfold cntE
    omega
  | succ d ih =>
    by_cases h : ∀ n, n < rows.length → EndsIn rows n (d + 1)
    · exact .inl h
    · right
      have h' : ¬ ∀ n, n < rows.length → EndsIn rows n d := fun z => h fun n hn => (z n hn).up
      have c : d + 1 ≤ cntE rows d := ih.resolve_left h'
      obtain ⟨n, hn, hno⟩ : ∃ n, n < rows.length ∧ ¬ EndsIn rows n d := Classical.byContradiction fun z => h' fun n hn => Classical.byContradiction fun w => z ⟨n, hn, w⟩
      rcases ends_edge (P := fun n => EndsIn rows n d) (fun n e => .en e) (he n hn) with z | ⟨j, i, r, hr, hf, hi, hj⟩
      · exact absurd z hno
      · have := sumTo_lt (f := fun n => (dec (EndsIn rows n d)).toNat) (g := fun n => (dec (EndsIn rows n (d + 1))).toNat) (n := j) (N := rows.length) (fun k _ => dle fun w => EndsIn.up w) (List.getElem?_eq_some_iff.mp hr).1 (by rw [dec_false hj, dec_true (EndsIn.step hr hf hi)]; decide)
        unfold cntE at c ⊢
        omega
theorem ends_in {rows : List Row} (he : ∀ n, n < rows.length → Ends rows n) : ∀ n, n < rows.length → EndsIn rows n (rows.length - 1) := by
  intro n hn
  rcases cnt_grow he (by omega) (rows.length - 1) with z | z
  · exact z n hn
  · refine Classical.byContradiction fun w => ?_
    have := sumTo_lt (f := fun n => (dec (EndsIn rows n (rows.length - 1))).toNat) (g := fun _ => 1) (n := n) (N := rows.length) (fun k _ => by cases dec (EndsIn rows k (rows.length - 1)) <;> decide) hn (by rw [dec_false w]; decide)
    rw [sum_one] at this
    unfold cntE at z
    omega
structure FwI (rows : List Row) (G : Nat → Nat) (t : Nat) (Dn : Nat → Nat → Prop) : Prop where
  le : ∀ n, n < rows.length → G n ≤ rows.length
  wit : ∀ n, n < rows.length → G n < rows.length → rows[n]? = some .en ∨ ∃ (r : Row) (m : Nat), rows[n]? = some r ∧ (m : Int) ∈ fol n r ∧ G m + 1 ≤ G n
  bnd : ∀ n d, d ≤ t → EndsIn rows n d → G n ≤ d
  dn : ∀ n m, Dn n m → EndsIn rows m t → G n ≤ t + 1
def lessN (a b : Nat) : Nat := if b + 1 < a then b + 1 else a
theorem FwI.put {rows : List Row} {G : Nat → Nat} {t : Nat} {Dn Dn' : Nat → Nat → Prop} (h : FwI rows G t Dn) {n m : Nat} {r : Row} (hr : rows[n]? = some r) (hm : (m : Int) ∈ fol n r) (hd : ∀ i j, Dn' i j → Dn i j ∨ (i = n ∧ j = m)) : FwI rows (upG G n (lessN (G n) (G m))) t Dn' := by
  have mono : ∀ i, upG G n (lessN (G n) (G m)) i ≤ G i := fun i => by
    unfold upG lessN
    split
    · rename_i e; subst e; split <;> omega
    · exact Nat.le_refl _
  refine ⟨fun i hi => Nat.le_trans (mono i) (h.le i hi), fun i hi hl => ?_, fun i d hdt e => Nat.le_trans (mono i) (h.bnd i d hdt e), fun i j hij e => ?_⟩
  · by_cases c : i = n ∧ G m + 1 < G n
    · obtain ⟨rfl, c⟩ := c
      refine .inr ⟨r, m, hr, hm, ?_⟩
      have e1 : upG G i (lessN (G i) (G m)) i = G m + 1 := by unfold upG lessN; simp [c]
      rw [e1]
      have := mono m
      omega
    · have e1 : upG G n (lessN (G n) (G m)) i = G i := by
        unfold upG lessN
        split
        · rename_i e
          subst e
          rw [if_neg fun z => c ⟨rfl, z⟩]
        · rfl
      rw [e1] at hl ⊢
      rcases h.wit i hi hl with z | ⟨r', m', h1, h2, h3⟩
      · exact .inl z
      · exact .inr ⟨r', m', h1, h2, Nat.le_trans (Nat.add_le_add_right (mono m') 1) h3⟩
  · rcases hd i j hij with z | ⟨rfl, rfl⟩
    · exact Nat.le_trans (mono i) (h.dn i j z e)
    · have b := h.bnd j t (Nat.le_refl _) e
      unfold upG lessN
      rw [if_pos rfl]
      split <;> omega
theorem FwI.keep {rows : List Row} {G : Nat → Nat} {t : Nat} {Dn Dn' : Nat → Nat → Prop} (h : FwI rows G t Dn) (hd : ∀ i j, Dn' i j → Dn i j) : FwI rows G t Dn' := ⟨h.le, h.wit, h.bnd, fun n m z => h.dn n m (hd n m z)⟩
theorem FwI.next {rows : List Row} {G : Nat → Nat} {t : Nat} {Dn Dn' : Nat → Nat → Prop} (h : FwI rows G t Dn) (hd : ∀ (i j : Nat) (r : Row), rows[i]? = some r → (j : Int) ∈ fol i r → Dn i j) (hn : ∀ i j, ¬ Dn' i j) : FwI rows G (t + 1) Dn' := by
  refine ⟨h.le, h.wit, fun n d hdt e => ?_, fun i j z => absurd z (hn i j)⟩
  by_cases c : d ≤ t
  · exact h.bnd n d c e
  · obtain rfl : d = t + 1 := by omega
    cases e with
    | en e => exact Nat.le_trans (h.bnd n t (Nat.le_refl _) (.en e)) (by omega)
    | step hr hf e => exact h.dn _ _ (hd _ _ _ hr hf) e
noncomputable def G0 (rows : List Row) (n : Nat) : Nat := rows.length * (dec (rows[n]? ≠ some .en)).toNat
theorem FwI.start (rows : List Row) : FwI rows (G0 rows) 0 fun _ _ => False := by
  have g0 : ∀ n, (rows[n]? = some .en ∧ G0 rows n = 0) ∨ (rows[n]? ≠ some .en ∧ G0 rows n = rows.length) := fun n => by
    by_cases e : rows[n]? = some .en
    · exact .inl ⟨e, by unfold G0; rw [dec_false fun z => z e]; rfl⟩
    · exact .inr ⟨e, by unfold G0; rw [dec_true e]; simp⟩
  refine ⟨fun n _ => ?_, fun n _ hl => ?_, fun n d hd e => ?_, fun _ _ z => z.elim⟩
  · rcases g0 n with ⟨_, z⟩ | ⟨_, z⟩ <;> omega
  · rcases g0 n with ⟨z, _⟩ | ⟨_, z⟩
    · exact .inl z
    · omega
  · obtain rfl : d = 0 := by omega
    cases e with
    | en e =>
      rcases g0 n with ⟨_, z⟩ | ⟨z, _⟩
      · omega
      · exact absurd e z
structure FwF (rows : List Row) (G : Nat → Nat) : Prop where
  lt : ∀ n, n < rows.length → G n < rows.length
  wit : ∀ n, n < rows.length → rows[n]? = some .en ∨ ∃ (r : Row) (m : Nat), rows[n]? = some r ∧ (m : Int) ∈ fol n r ∧ G m + 1 ≤ G n
theorem FwI.fin {rows : List Row} {G : Nat → Nat} {Dn : Nat → Nat → Prop} (h : FwI rows G rows.length Dn) (he : ∀ n, n < rows.length → Ends rows n) : FwF rows G := by
  have lt : ∀ n, n < rows.length → G n < rows.length := fun n hn => by
    have := h.bnd n (rows.length - 1) (by omega) (ends_in he n hn)
    omega
  exact ⟨lt, fun n hn => h.wit n hn (lt n hn)⟩
end Lk34
set_option Elab.async false
set_option linter.all false
set_option maxHeartbeats 1000000
namespace Lk34
open Mi
theorem num_upG {N n v : Nat} (G : Nat → Nat) (hn : n < N) : (numD N fun i => .int ((G i : Nat) : Int)).set n (.int (v : Int)) = numD N fun i => .int ((upG G n v i : Nat) : Int) := by
  apply List.ext_getElem?
  intro k
  unfold numD
  rw [List.getElem?_set]
  by_cases hk : k < N
  · rw [List.getElem?_map, List.getElem?_map, List.getElem?_range hk]
    split
    · rename_i e; subst e; simp [hk, upG]
    · rename_i e
      have : ¬ k = n := fun z => e z.symm
      simp [upG, this]
  · rw [if_neg (by omega), List.getElem?_map, List.getElem?_map, List.getElem?_eq_none (by simpa using hk)]; rfl
theorem far_ok (P : Nat) (l : List Tx) (rows : List Row) (S : Store) (gd : Gd l rows) (he : ∀ n, n < rows.length → Ends rows n) (hl : rows.length ≤ 1000) (hP : S[P]? = some (.lst (rows.map Row.d))) : ∃ (G : Nat → Nat) (F : Nat) (S' : Store), m_law_far [.ref P] S = .ok (.ref F) S' ∧ Pre S S' ∧ S.length ≤ F ∧ S'[F]? = some (.lst (numD rows.length fun i => .int ((G i : Nat) : Int))) ∧ FwF rows G := by
  have fl : far (rows.length : Int) := by unfold far; omega
  have fr0 : ∀ r : Row, ∃ w, atI (r.ks.map kyD) 0 = some (.str w) ∧ (w = w_en ↔ r = .en) := fun r => by
    cases r <;> exact ⟨_, rfl, by simp⟩
  obtain ⟨S1, e1, p1, g1⟩ : ∃ S1, mLc [2] (iSeq (mVar 0)) (gName 2) (tYes) (e_law_far_1) [some (.ref P), none, none, none, none, none] S = .ok (.ref S.length) S1 ∧ Pre S S1 ∧ S1[S.length]? = some (.lst (numD rows.length fun i => .int ((G0 rows i : Nat) : Int))) := by
    obtain ⟨S1, q, p, g⟩ := lc_fil (vs := [2]) (g := gName 2) (t := tYes) (e := e_law_far_1) (fr := [some (.ref P), none, none, none, none, none]) (S := S) (l := rows.map Row.d) (hs := [(P, rows.map Row.d)]) (List.range rows.length) (fun i => ((rows[i]?).getD .en).d) (fun i => .int ((G0 rows i : Nat) : Int)) (fun _ => true) (by
        apply List.ext_getElem?
        intro k
        by_cases hk : k < rows.length
        · rw [List.getElem?_map, List.getElem?_map, List.getElem?_range hk, List.getElem?_eq_getElem hk]; simp [List.getElem?_eq_getElem hk]
        · rw [List.getElem?_eq_none (by simpa using hk), List.getElem?_eq_none (by simpa using hk)]) (stand_one (lst_of hP)) (by rw [List.length_range]; unfold LINE; omega) (fun i hi S' pr => by
        have hil := List.mem_range.mp hi
        have hr : rows[i]? = some rows[i] := List.getElem?_eq_getElem hil
        generalize rows[i] = r at hr
        obtain ⟨w, hw, hwe⟩ := fr0 r
        have hrd : r.d = .tup (r.ks.map kyD) := rfl
        refine ⟨_, S', rfl, rfl, Pre.refl _, fun _ => ⟨S', ?_, Pre.refl _⟩⟩
        unfold G0
        rw [hr]
        by_cases h : r = .en
        · have hw' := hwe.mpr h
          have mo : mulOk (rows.length : Int) 0 := mul_r (by decide)
          rw [dec_false (by rw [h]; exact fun z => z rfl)]
          simp [e_law_far_1, unset, pr.get hP, hrd, hw, hw', mo]
        · have hw' : ¬ w = w_en := fun z => h (hwe.mp z)
          have mo : mulOk (rows.length : Int) 1 := mul_r (by decide)
          rw [dec_true (fun z => h (Option.some.inj z))]
          simp [e_law_far_1, unset, pr.get hP, hrd, hw, hw', mo])
    refine ⟨S1, ?_, p, ?_⟩
    · rw [mLc_s, iSeq_s]
      simp [hP]
      exact q
    · rw [g, List.filter_eq_self.mpr fun _ _ => rfl]; rfl
  have inn : ∀ (t n : Nat) (r : Row) (x2 x3 : Option D) (x5 : Option D) (G : Nat → Nat) (S' : Store) (Dn : Nat → Nat → Prop), rows[n]? = some r → Pre S S' → S'[S.length]? = some (.lst (numD rows.length fun i => .int ((G i : Nat) : Int))) → FwI rows G t Dn →
      ∃ (y5 : Option D) (G' : Nat → Nat) (S2 : Store), l_law_far_3 [some (.ref P), some (.ref S.length), x2, x3, some (.int (n : Int)), x5] S' = .ok (.nx [some (.ref P), some (.ref S.length), x2, x3, some (.int (n : Int)), y5]) S2 ∧ Pre S S2 ∧ S2[S.length]? = some (.lst (numD rows.length fun i => .int ((G' i : Nat) : Int))) ∧ FwI rows G' t fun i j => Dn i j ∨ (i = n ∧ (j : Int) ∈ fol n r) := by
    intro t n r x2 x3 x5 G S' Dn hr pr g I
    have f := lfol_ok P n rows r S' (pr.get hP) hr
    have hlt := Pre.lt (S' := S') g
    have hnl := (List.getElem?_eq_some_iff.mp hr).1
    have key := loop_inv (hs := [(S'.length, (fol n r).map D.int)]) (turn := turnM (gName 5) l_law_far_2)
      (fun j fr S2 => ∃ (y5 : Option D) (G2 : Nat → Nat), fr = [some (.ref P), some (.ref S.length), x2, x3, some (.int (n : Int)), y5] ∧ Pre S S2 ∧ S2[S'.length]? = some (.lst ((fol n r).map .int)) ∧ S2[S.length]? = some (.lst (numD rows.length fun i => .int ((G2 i : Nat) : Int))) ∧ FwI rows G2 t fun a m => Dn a m ∨ (a = n ∧ (m : Int) ∈ (fol n r).take j))
      ((fol n r).map D.int) 0 [some (.ref P), some (.ref S.length), x2, x3, some (.int (n : Int)), x5] (S' ++ [.lst ((fol n r).map .int)])
      ⟨x5, G, rfl, pr.trans (Pre.app _ _), app_new _ _ _, app_get g, I.keep fun a m h => by
        rcases h with h | ⟨_, h⟩
        · exact h
        · cases h⟩
      (by
        rintro j fr S2 ⟨y5, G2, rfl, _, gl, _⟩
        exact stands_one (lst_of gl))
      (by
        rintro j d fr S2 hd2 ⟨y5, G2, rfl, pr2, gl, g2, I2⟩
        rw [List.getElem?_map] at hd2
        obtain ⟨m, hm, rfl⟩ := Option.map_eq_some_iff.mp hd2
        rw [show 0 + j = j by omega] at *
        have hmf := List.mem_of_getElem? hm
        have hin := gd.fol_in hr hmf
        obtain ⟨k, rfl⟩ : ∃ k : Nat, m = (k : Int) := ⟨m.toNat, by omega⟩
        have gn : atI (numD rows.length fun i => .int ((G2 i : Nat) : Int)) (n : Int) = some (.int ((G2 n : Nat) : Int)) := num_at hnl
        have gm : atI (numD rows.length fun i => .int ((G2 i : Nat) : Int)) (k : Int) = some (.int ((G2 k : Nat) : Int)) := num_at (by omega)
        have ix : ixN (numD rows.length fun i => .int ((G2 i : Nat) : Int)).length (n : Int) = some n := by
          rw [show (numD rows.length fun i => D.int ((G2 i : Nat) : Int)).length = rows.length by unfold numD; simp, ixN_of (by omega) (by omega)]; simp
        have pu := num_upG (v := lessN (G2 n) (G2 k)) G2 hnl
        have lv : (if (G2 k : Int) + 1 < (G2 n : Int) then (G2 k : Int) + 1 else (G2 n : Int)) = ((lessN (G2 n) (G2 k) : Nat) : Int) := by
          unfold lessN
          split <;> split <;> omega
        refine ⟨_, S2.set S.length (.lst (numD rows.length fun i => .int ((upG G2 n (lessN (G2 n) (G2 k)) i : Nat) : Int))), .inl ?_, some (.int (k : Int)), upG G2 n (lessN (G2 n) (G2 k)), rfl, pr2.set (Nat.le_refl _), by rw [set_ne (by omega)]; exact gl, set_get g2, I2.put hr hmf fun a q h => ?_⟩
        · rw [← pu]
          generalize numD rows.length (fun i => D.int ((G2 i : Nat) : Int)) = T at *
          simp [turnM_s, l_law_far_2, g2, gm, gn, ix, lv]
        · rcases h with h | ⟨h, z⟩
          · exact .inl (.inl h)
          · rw [tk_succ hm, List.mem_append, List.mem_singleton] at z
            rcases z with z | z
            · exact .inl (.inr ⟨h, z⟩)
            · exact .inr ⟨h, by omega⟩)
    obtain ⟨fr', S3, e3, y5, G3, rfl, p3, _, g3, I3⟩ := key
    rw [List.length_map, Nat.zero_add, List.take_length] at I3
    refine ⟨y5, G3, S3, ?_, p3, g3, I3⟩
    simp [l_law_far_3, f, get_len]
    rw [e3]
  have rnd : ∀ (t : Nat) (x2 x3 x4 x5 : Option D) (G : Nat → Nat) (S' : Store), Pre S S' → S'[S.length]? = some (.lst (numD rows.length fun i => .int ((G i : Nat) : Int))) → FwI rows G t (fun _ _ => False) →
      ∃ (y4 y5 : Option D) (G' : Nat → Nat) (S2 : Store), l_law_far_4 [some (.ref P), some (.ref S.length), x2, x3, x4, x5] S' = .ok (.nx [some (.ref P), some (.ref S.length), x2, x3, y4, y5]) S2 ∧ Pre S S2 ∧ S2[S.length]? = some (.lst (numD rows.length fun i => .int ((G' i : Nat) : Int))) ∧ FwI rows G' (t + 1) fun _ _ => False := by
    intro t x2 x3 x4 x5 G S' pr g I
    have key := loop_inv (hs := []) (turn := turnM (gName 4) l_law_far_3)
      (fun i fr S2 => ∃ (y4 y5 : Option D) (G2 : Nat → Nat), fr = [some (.ref P), some (.ref S.length), x2, x3, y4, y5] ∧ Pre S S2 ∧ S2[S.length]? = some (.lst (numD rows.length fun i => .int ((G2 i : Nat) : Int))) ∧ FwI rows G2 t fun a m => a < i ∧ ∀ r, rows[a]? = some r → (m : Int) ∈ fol a r)
      (rng 0 rows.length) 0 [some (.ref P), some (.ref S.length), x2, x3, x4, x5] S'
      ⟨x4, x5, G, rfl, pr, g, I.keep fun a m h => by omega⟩ (fun _ _ S _ => stands_nil S) (by
        rintro i d fr S2 hd ⟨y4, y5, G2, rfl, pr2, g2, I2⟩
        obtain ⟨hi, rfl⟩ := rng_at hd
        rw [show 0 + i = i by omega] at *
        have e0 : (0 : Int) + (i : Int) = (i : Int) := by omega
        have hi' : i < rows.length := by omega
        have hr : rows[i]? = some rows[i] := List.getElem?_eq_getElem hi'
        generalize rows[i] = r at hr
        obtain ⟨z5, G3, S3, e3, p3, g3, I3⟩ := inn t i r x2 x3 y5 G2 S2 _ hr pr2 g2 I2
        refine ⟨_, S3, .inl ?_, some (.int (i : Int)), z5, G3, rfl, p3, g3, I3.keep fun a m h => ?_⟩
        · simp [turnM_s, e0]
          exact e3
        · by_cases e : a = i
          · subst e
            exact .inr ⟨rfl, h.2 r hr⟩
          · exact .inl ⟨by omega, h.2⟩)
    obtain ⟨fr', S2, e, y4, y5, G2, rfl, p2, g2, I2⟩ := key
    rw [rng_len, Nat.zero_add] at I2
    refine ⟨y4, y5, G2, S2, ?_, p2, g2, I2.next (fun i j r hr hf => ⟨(List.getElem?_eq_some_iff.mp hr).1, fun r' hr' => ?_⟩) fun _ _ z => z⟩
    · simp [l_law_far_4, pr.get hP, fl]
      rw [e]
    · rw [hr] at hr'
      rw [← Option.some.inj hr']
      exact hf
  have key := loop_inv (hs := [(P, rows.map Row.d)]) (turn := turnM (gName 3) l_law_far_4)
    (fun i fr S2 => ∃ (y2 y3 y4 y5 : Option D) (G2 : Nat → Nat), fr = [some (.ref P), some (.ref S.length), y2, y3, y4, y5] ∧ Pre S S2 ∧ S2[S.length]? = some (.lst (numD rows.length fun i => .int ((G2 i : Nat) : Int))) ∧ FwI rows G2 i fun _ _ => False)
    (rows.map Row.d) 0 [some (.ref P), some (.ref S.length), none, none, none, none] S1
    ⟨none, none, none, none, G0 rows, rfl, p1, g1, FwI.start rows⟩
    (by
      rintro i fr S2 ⟨y2, y3, y4, y5, G2, rfl, pr, _⟩
      exact stands_one (lst_of (pr.get hP)))
    (by
      rintro i d fr S2 hd ⟨y2, y3, y4, y5, G2, rfl, pr, g, I⟩
      rw [show 0 + i = i by omega] at *
      obtain ⟨z4, z5, G3, S3, e3, p3, g3, I3⟩ := rnd i y2 (some d) y4 y5 G2 S2 pr g I
      exact ⟨_, S3, .inl (by simp [turnM_s]; exact e3), y2, some d, z4, z5, G3, rfl, p3, g3, I3⟩)
  obtain ⟨fr', S2, e, y2, y3, y4, y5, G2, rfl, pr, g, I⟩ := key
  rw [List.length_map, Nat.zero_add] at I
  refine ⟨G2, S.length, S2, ?_, pr, Nat.le_refl _, g, I.fin he⟩
  simp only [m_law_far, b_law_far]
  simp only [mLc_s, iSeq_s] at e1
  simp [hP] at e1 ⊢
  rw [e1]
  simp [p1.get hP]
  rw [e]
  simp
end Lk34
set_option Elab.async false
set_option linter.all false
set_option maxHeartbeats 1000000
namespace Lk34
open Mi
/-! ### the least by a list -/
theorem intsM_map : ∀ l : List Int, intsM (l.map D.int) = some l
  | [] => rfl
  | i :: r => by rw [List.map_cons, intsM, intsM_map r]; rfl
theorem keysM_map {N : Nat} {G : Nat → Nat} : ∀ {l : List Int}, (∀ x ∈ l, 0 ≤ x ∧ x < (N : Int)) → keysM (numD N fun i => .int ((G i : Nat) : Int)) l = some (l.map fun x => ((G x.toNat : Nat) : Int))
  | [], _ => rfl
  | x :: r, h => by
    obtain ⟨h0, h1⟩ := h x List.mem_cons_self
    have e : atI (numD N fun i => D.int ((G i : Nat) : Int)) x = some (.int ((G x.toNat : Nat) : Int)) := by
      have := num_at (n := N) (k := x.toNat) (f := fun i => D.int ((G i : Nat) : Int)) (by omega)
      rwa [Int.toNat_of_nonneg h0] at this
    rw [keysM, e]
    dsimp only
    rw [keysM_map fun y hy => h y (List.mem_cons_of_mem _ hy)]
    rfl
theorem pickM_ok : ∀ (r : List (Int × Int)) (n k : Int), ∃ j, (pickM n k r, j) ∈ (n, k) :: r ∧ ∀ p ∈ (n, k) :: r, j ≤ p.2
  | [], n, k => ⟨k, by rw [pickM]; simp, by simp⟩
  | (m, j) :: r, n, k => by
    rw [pickM]
    split
    · rename_i h
      obtain ⟨q, h1, h2⟩ := pickM_ok r m j
      refine ⟨q, List.mem_cons_of_mem _ h1, fun p hp => ?_⟩
      rcases List.mem_cons.mp hp with rfl | hp
      · have := h2 (m, j) List.mem_cons_self
        have : q ≤ j := this
        show q ≤ k
        omega
      · exact h2 p hp
    · rename_i h
      obtain ⟨q, h1, h2⟩ := pickM_ok r n k
      have hqk : q ≤ k := h2 (n, k) List.mem_cons_self
      refine ⟨q, ?_, fun p hp => ?_⟩
      · rcases List.mem_cons.mp h1 with z | z
        · rw [z]; exact List.mem_cons_self
        · exact List.mem_cons_of_mem _ (List.mem_cons_of_mem _ z)
      · rcases List.mem_cons.mp hp with rfl | hp
        · exact hqk
        · rcases List.mem_cons.mp hp with rfl | hp
          · show q ≤ j
            omega
          · exact h2 p (List.mem_cons_of_mem _ hp)
theorem zip_map {α β : Type} (g : α → β) : ∀ l : List α, l.zip (l.map g) = l.map fun x => (x, g x)
  | [] => rfl
  | x :: r => by rw [List.map_cons, List.zip_cons_cons, zip_map g r]; rfl
theorem minL_ok {N : Nat} {G : Nat → Nat} {l : List Int} (hl : l ≠ []) (h : ∀ x ∈ l, 0 ≤ x ∧ x < (N : Int)) (S : Store) : ∃ m ∈ l, minL (l.map D.int) (numD N fun i => .int ((G i : Nat) : Int)) S = .ok (.int m) S ∧ ∀ x ∈ l, G m.toNat ≤ G x.toNat := by
  cases l with
  | nil => exact absurd rfl hl
  | cons i r =>
    obtain ⟨j, h1, h2⟩ := pickM_ok (r.map fun x => (x, ((G x.toNat : Nat) : Int))) i ((G i.toNat : Nat) : Int)
    have hm : ((i, ((G i.toNat : Nat) : Int)) :: r.map fun x => (x, ((G x.toNat : Nat) : Int))) = (i :: r).map fun x => (x, ((G x.toNat : Nat) : Int)) := rfl
    rw [hm] at h1 h2
    obtain ⟨y, hy, e⟩ := List.mem_map.mp h1
    injection e with e1 e2
    refine ⟨_, e1 ▸ hy, ?_, fun x hx => ?_⟩
    · unfold minL
      rw [intsM_map]
      dsimp only
      rw [keysM_map h, List.map_cons]
      dsimp only
      rw [zip_map]
    · have := h2 (x, ((G x.toNat : Nat) : Int)) (List.mem_map.mpr ⟨x, hx, rfl⟩)
      have : j ≤ ((G x.toNat : Nat) : Int) := this
      rw [← e1]
      omega
/-! ### a whole way -/
structure WayC (rows : List Row) (w : List Nat) : Prop where
  z : w[0]? = some 0
  st : ∀ (i a b : Nat), w[i]? = some a → w[i + 1]? = some b → ∃ r, rows[a]? = some r ∧ (b : Int) ∈ fol a r
theorem WayC.snoc {rows : List Row} {q : List Nat} {n m : Nat} {r : Row} (h : WayC rows (q ++ [n])) (hr : rows[n]? = some r) (hf : (m : Int) ∈ fol n r) : WayC rows ((q ++ [n]) ++ [m]) := by
  refine ⟨by rw [List.getElem?_append_left (by simp)]; exact h.z, fun i a b ha hb => ?_⟩
  rcases get_snoc hb with z | ⟨z, rfl⟩
  · rw [List.getElem?_append_left (by have := (List.getElem?_eq_some_iff.mp z).1; omega)] at ha
    exact h.st i a b ha z
  · rw [List.length_append, List.length_singleton] at z
    have : i = q.length := by omega
    subst this
    rw [List.getElem?_append_left (by simp), List.getElem?_append_right (Nat.le_refl _), Nat.sub_self] at ha
    obtain rfl := Option.some.inj ha
    exact ⟨r, hr, hf⟩
def wD (w : List Nat) : List D := w.map fun k => .int ((k : Nat) : Int)
theorem wD_last (q : List Nat) (n : Nat) : atI (wD (q ++ [n])) (-1) = some (.int (n : Int)) := by
  unfold wD
  rw [at_m1 (by simp)]
  simp
theorem wD_len (w : List Nat) : (wD w).length = w.length := by unfold wD; simp
theorem fol_ne {n : Nat} {r : Row} (h : r ≠ .en) : fol n r ≠ [] := by
  cases r with
  | en => exact absurd rfl h
  | _ => simp [fol]
theorem way_turn {ns : List Int} (P F W : Nat) (l : List Tx) (rows : List Row) (G : Nat → Nat) (S0 : Store) (gd : Gd l rows) (fw : FwF rows G) (hl : rows.length ≤ 1000) (h0 : S0[0]? = some (.fls (ns.map .int))) (hP : S0[P]? = some (.lst (rows.map Row.d))) (hF : S0[F]? = some (.lst (numD rows.length fun i => .int ((G i : Nat) : Int)))) (hW : S0.length ≤ W)
    (q : List Nat) (n : Nat) (r : Row) (x3 : Int) (x5 x6 : Option D) (S : Store) (pr : Pre S0 S) (gW : S[W]? = some (.lst (wD (q ++ [n])))) (hr : rows[n]? = some r) (hne : r ≠ .en) (hq : q.length ≤ 2000) :
    ∃ (y3 : Int) (y5 y6 : Option D) (m : Nat) (S' : Store), (m : Int) ∈ fol n r ∧ (60 ≤ q.length → G m + 1 ≤ G n) ∧ l_law_way_1 [some (.ref P), some (.ref 0), some (.ref F), some (.int x3), some (.ref W), x5, x6] S = .ok (.nx [some (.ref P), some (.ref 0), some (.ref F), some (.int y3), some (.ref W), y5, y6]) S' ∧ Pre S0 S' ∧ S'[W]? = some (.lst (wD ((q ++ [n]) ++ [m]))) := by
  have f := lfol_ok P n rows r S (pr.get hP) hr
  have hne' := fol_ne (n := n) hne
  have hin := fun x (hx : x ∈ fol n r) => gd.fol_in hr hx
  obtain ⟨c, ec⟩ := cell_ok (app_get (G := [.lst ((fol n r).map .int)]) (pr.get h0)) (1 + (q ++ [n]).length)
  obtain ⟨o, eo, _⟩ := mixed_ok c ((q ++ [n]).length : Nat) (S ++ [.lst ((fol n r).map .int)])
  obtain ⟨b, eb⟩ := free_ok (app_get (G := [.lst ((fol n r).map .int)]) (pr.get h0))
  have d7 : divOk 7 := div_ok (by decide) (by decide)
  have hlp : 0 < (fol n r).length := List.length_pos_iff.mpr hne'
  have hll : (fol n r).length ≤ 2 := by cases r <;> simp [fol]
  have dl : divOk ((fol n r).length : Int) := div_ok (by omega) (by omega)
  have hlp' : (0 : Int) < ((fol n r).length : Int) := by omega
  have pick : ∀ t : Int, ∃ m : Nat, (m : Int) ∈ fol n r ∧ atI ((fol n r).map D.int) (t % ((fol n r).length : Int)) = some (.int (m : Int)) := fun t => by
    have h1 := Int.emod_nonneg t (b := ((fol n r).length : Int)) (by omega)
    have h2 := Int.emod_lt_of_pos t hlp'
    have e : (fol n r)[(t % ((fol n r).length : Int)).toNat]? = some ((fol n r)[(t % ((fol n r).length : Int)).toNat]'(by omega)) := List.getElem?_eq_getElem _
    have hm := List.mem_of_getElem? e
    generalize (fol n r)[(t % ((fol n r).length : Int)).toNat]'(by omega) = x at e hm
    have := hin x hm
    refine ⟨x.toNat, by rw [Int.toNat_of_nonneg this.1]; exact hm, at_nat h1 ?_⟩
    rw [List.getElem?_map, e, Int.toNat_of_nonneg this.1]; rfl
  have gW2 := app_get (G := [O.lst ((fol n r).map .int)]) gW
  have wl := wD_last q n
  have wlen : (wD (q ++ [n])).length = q.length + 1 := by rw [wD_len]; simp
  have hA : (S ++ [O.lst ((fol n r).map .int)])[S.length]? = some (.lst ((fol n r).map .int)) := app_new _ _ _
  have hF2 := app_get (G := [O.lst ((fol n r).map .int)]) (pr.get hF)
  have pA : Pre S0 (S ++ [O.lst ((fol n r).map .int)]) := pr.trans (Pre.app _ _)
  have ql : q.length + 1 < 16777216 := by omega
  have snocD : ∀ m : Nat, wD (q ++ [n]) ++ [D.int (m : Int)] = wD ((q ++ [n]) ++ [m]) := fun m => by unfold wD; simp
  have ec' : m_law_cell [.ref 0, .int (1 + ((q.length : Int) + 1))] (S ++ [.lst ((fol n r).map .int)]) = .ok (.int c) (S ++ [.lst ((fol n r).map .int)]) := by
    rw [show (1 : Int) + ((q.length : Int) + 1) = ((1 + (q ++ [n]).length : Nat) : Int) by rw [List.length_append, List.length_singleton]; omega]
    exact ec
  have eo' : m_law_mixed [.int c, .int ((q.length : Int) + 1)] (S ++ [.lst ((fol n r).map .int)]) = .ok (.int o) (S ++ [.lst ((fol n r).map .int)]) := by
    rw [show (q.length : Int) + 1 = ((q ++ [n]).length : Int) by rw [List.length_append, List.length_singleton]; omega]
    exact eo
  have fin : ∀ (y3 y6 : Int) (m : Nat), (m : Int) ∈ fol n r → (60 ≤ q.length → G m + 1 ≤ G n) → l_law_way_1 [some (.ref P), some (.ref 0), some (.ref F), some (.int x3), some (.ref W), x5, x6] S = .ok (.nx [some (.ref P), some (.ref 0), some (.ref F), some (.int y3), some (.ref W), some (.ref S.length), some (.int y6)]) ((S ++ [O.lst ((fol n r).map .int)]).set W (.lst (wD (q ++ [n]) ++ [D.int (m : Int)]))) → ∃ (y3 : Int) (y5 y6 : Option D) (m : Nat) (S' : Store), (m : Int) ∈ fol n r ∧ (60 ≤ q.length → G m + 1 ≤ G n) ∧ l_law_way_1 [some (.ref P), some (.ref 0), some (.ref F), some (.int x3), some (.ref W), x5, x6] S = .ok (.nx [some (.ref P), some (.ref 0), some (.ref F), some (.int y3), some (.ref W), y5, y6]) S' ∧ Pre S0 S' ∧ S'[W]? = some (.lst (wD ((q ++ [n]) ++ [m]))) := fun y3 y6 m h1 h2 e => ⟨y3, _, _, m, _, h1, h2, e, pA.set hW, by rw [set_get gW2, snocD]⟩
  by_cases hs : q.length < 60
  · have hs' : (q.length : Int) + 1 ≤ 60 := by omega
    cases b with
    | true =>
      obtain ⟨m, hm, em⟩ := pick x3
      refine fin (x3 / ((fol n r).length : Int)) (x3 % ((fol n r).length : Int)) m hm (fun z => by omega) ?_
      simp [l_law_way_1, pr.get hP, gW, wl, f]
      simp [gW2, wlen, ec', eo', eb, d7, dl, hlp, hlp', hs', em, LINE, ql]
    | false =>
      obtain ⟨m, hm, em⟩ := pick (o / 7)
      refine fin x3 (o / 7 % ((fol n r).length : Int)) m hm (fun z => by omega) ?_
      simp [l_law_way_1, pr.get hP, gW, wl, f]
      simp [gW2, wlen, ec', eo', eb, d7, dl, hlp, hlp', hs', em, LINE, ql]
  · have hs' : ¬ (q.length : Int) + 1 ≤ 60 := by omega
    obtain ⟨x, hx, em, hmin⟩ := minL_ok (G := G) (N := rows.length) hne' hin (S ++ [O.lst ((fol n r).map .int)])
    obtain ⟨hx0, hx1⟩ := hin x hx
    obtain ⟨m, rfl⟩ : ∃ m : Nat, x = (m : Int) := ⟨x.toNat, by omega⟩
    have hg : G m + 1 ≤ G n := by
      rcases fw.wit n (List.getElem?_eq_some_iff.mp hr).1 with z | ⟨r', k, h1, h2, h3⟩
      · rw [hr] at z; exact absurd (Option.some.inj z) hne
      · rw [hr] at h1
        obtain rfl := Option.some.inj h1
        have := hmin (k : Int) h2
        rw [Int.toNat_natCast, Int.toNat_natCast] at this
        omega
    cases b with
    | true =>
      refine fin (x3 / ((fol n r).length : Int)) (x3 % ((fol n r).length : Int)) m hx (fun _ => hg) ?_
      simp [l_law_way_1, pr.get hP, gW, wl, f]
      simp [gW2, wlen, ec', eo', eb, d7, dl, hlp, hlp', hs', mMinKey, minJ, minK, hF2, em, LINE, ql]
    | false =>
      refine fin x3 (o / 7 % ((fol n r).length : Int)) m hx (fun _ => hg) ?_
      simp [l_law_way_1, pr.get hP, gW, wl, f]
      simp [gW2, wlen, ec', eo', eb, d7, dl, hlp, hlp', hs', mMinKey, minJ, minK, hF2, em, LINE, ql]
theorem way_while {ns : List Int} (P F W : Nat) (l : List Tx) (rows : List Row) (G : Nat → Nat) (S0 : Store) (gd : Gd l rows) (fw : FwF rows G) (hl : rows.length ≤ 1000) (h0 : S0[0]? = some (.fls (ns.map .int))) (hP : S0[P]? = some (.lst (rows.map Row.d))) (hF : S0[F]? = some (.lst (numD rows.length fun i => .int ((G i : Nat) : Int)))) (hW : S0.length ≤ W) :
    ∀ (c : Nat) (q : List Nat) (n : Nat) (x3 : Int) (x5 x6 : Option D) (S : Store), Pre S0 S → S[W]? = some (.lst (wD (q ++ [n]))) → WayC rows (q ++ [n]) → n < rows.length → (q.length < 60 → 60 - q.length + rows.length ≤ c) → (60 ≤ q.length → G n ≤ c) → q.length + c ≤ 60 + rows.length →
    ∃ (w : List Nat) (e : Nat) (y3 y5 y6 : Option D) (S' : Store), sWhile c_law_way_2 l_law_way_1 [some (.ref P), some (.ref 0), some (.ref F), some (.int x3), some (.ref W), x5, x6] S = .ok (.nx [some (.ref P), some (.ref 0), some (.ref F), y3, some (.ref W), y5, y6]) S' ∧ Pre S0 S' ∧ S'[W]? = some (.lst (wD (w ++ [e]))) ∧ WayC rows (w ++ [e]) ∧ rows[e]? = some .en ∧ w.length ≤ 60 + rows.length := by
  have stop : ∀ (q : List Nat) (n : Nat) (x3 : Int) (x5 x6 : Option D) (S : Store), Pre S0 S → S[W]? = some (.lst (wD (q ++ [n]))) → rows[n]? = some .en → sWhile c_law_way_2 l_law_way_1 [some (.ref P), some (.ref 0), some (.ref F), some (.int x3), some (.ref W), x5, x6] S = .ok (.nx [some (.ref P), some (.ref 0), some (.ref F), some (.int x3), some (.ref W), x5, x6]) S := by
    intro q n x3 x5 x6 S pr g hr
    have ea : atI (rows.map Row.d) (n : Int) = some (Row.d .en) := at_of (by rw [List.getElem?_map, hr]; rfl)
    rw [while_s]
    simp [c_law_way_2, pr.get hP, g, wD_last, ea, d_en]
  have on : ∀ (q : List Nat) (n : Nat) (r : Row) (x3 : Int) (x5 x6 : Option D) (S : Store), Pre S0 S → S[W]? = some (.lst (wD (q ++ [n]))) → rows[n]? = some r → r ≠ .en → c_law_way_2 [some (.ref P), some (.ref 0), some (.ref F), some (.int x3), some (.ref W), x5, x6] S = .ok true S := by
    intro q n r x3 x5 x6 S pr g hr hne
    have ea : atI (rows.map Row.d) (n : Int) = some r.d := at_of (by rw [List.getElem?_map, hr]; rfl)
    cases r with
    | en => exact absurd rfl hne
    | _ => simp [c_law_way_2, pr.get hP, g, wD_last, ea, d_rk, d_cp, d_sy, d_go, d_pt]
  intro c
  induction c with
  | zero =>
    intro q n x3 x5 x6 S pr g wc hn c1 c2 c3
    have hr : rows[n]? = some rows[n] := List.getElem?_eq_getElem hn
    generalize rows[n] = r at hr
    have hen : r = .en := by
      rcases fw.wit n hn with z | ⟨r', k, h1, h2, h3⟩
      · rw [hr] at z; exact Option.some.inj z
      · by_cases hs : q.length < 60
        · have := c1 hs; omega
        · have := c2 (by omega); omega
    subst hen
    exact ⟨q, n, _, x5, x6, S, stop q n x3 x5 x6 S pr g hr, pr, g, wc, hr, by omega⟩
  | succ c ih =>
    intro q n x3 x5 x6 S pr g wc hn c1 c2 c3
    have hr : rows[n]? = some rows[n] := List.getElem?_eq_getElem hn
    generalize rows[n] = r at hr
    by_cases hen : r = .en
    · subst hen
      exact ⟨q, n, _, x5, x6, S, stop q n x3 x5 x6 S pr g hr, pr, g, wc, hr, by omega⟩
    · obtain ⟨y3, y5, y6, m, S', hm, hg, e, pr', g'⟩ := way_turn P F W l rows G S0 gd fw hl h0 hP hF hW q n r x3 x5 x6 S pr g hr hen (by omega)
      have hml : m < rows.length := by have := gd.fol_in hr hm; omega
      obtain ⟨w, e', z3, z5, z6, S2, e2, rest⟩ := ih (q ++ [n]) m y3 y5 y6 S' pr' g' (wc.snoc hr hm) hml (by rw [List.length_append, List.length_singleton]; intro z; have := c1 (by omega); omega) (by
        rw [List.length_append, List.length_singleton]
        intro z
        by_cases hs : 60 ≤ q.length
        · have := hg hs; have := c2 hs; omega
        · have := c1 (by omega); have := fw.lt m hml; omega) (by rw [List.length_append, List.length_singleton]; omega)
      refine ⟨w, e', z3, z5, z6, S2, ?_, rest⟩
      rw [while_s, on q n r x3 x5 x6 S pr g hr hen]
      simp [e]
      exact e2
theorem way_ok {ns : List Int} (P : Nat) (l : List Tx) (rows : List Row) (S : Store) (gd : Gd l rows) (he : ∀ n, n < rows.length → Ends rows n) (hl : rows.length ≤ 1000) (h0 : S[0]? = some (.fls (ns.map .int))) (hP : S[P]? = some (.lst (rows.map Row.d))) : ∃ (W : Nat) (w : List Nat) (e : Nat) (S' : Store), m_law_way [.ref P, .ref 0] S = .ok (.ref W) S' ∧ Pre S S' ∧ S.length ≤ W ∧ S'[W]? = some (.lst (wD (w ++ [e]))) ∧ WayC rows (w ++ [e]) ∧ rows[e]? = some .en ∧ w.length ≤ 60 + rows.length := by
  obtain ⟨G, F, S1, e1, p1, hF1, g1, fw⟩ := far_ok P l rows S gd he hl hP
  obtain ⟨v, ev⟩ := cell_ok (p1.get h0) 61
  have ev' : m_law_cell [.ref 0, .int 61] S1 = .ok (.int v) S1 := ev
  have g0 : (S1 ++ [O.lst [D.int 0]])[S1.length]? = some (.lst (wD ([] ++ [0]))) := app_new _ _ _
  obtain ⟨w, e, y3, y5, y6, S2, e2, p2, g2, wc, hen, hw⟩ := way_while P F S1.length l rows G S1 gd fw hl (p1.get h0) (p1.get hP) g1 (Nat.le_refl _) (60 + rows.length) [] 0 v none none (S1 ++ [.lst [.int 0]]) (Pre.app _ _) g0 ⟨rfl, fun i a b ha hb => by cases i <;> cases hb⟩ gd.pos (fun _ => by simp) (fun h => by simp at h) (by simp)
  refine ⟨S1.length, w, e, S2, ?_, p1.trans p2, p1.len, g2, wc, hen, hw⟩
  simp only [m_law_way, b_law_way]
  simp [e1, ev', LINE]
  rw [e2]
  simp
end Lk34
set_option Elab.async false
set_option linter.all false
set_option maxHeartbeats 1000000
namespace Lk34
open Mi
theorem Gd.rk {l : List Tx} {rows : List Row} (gd : Gd l rows) (hnm : ∀ t ∈ l, Nm t) : RowsK rows := fun r hr => RowN.k (gd.nm r hr) hnm
end Lk34
set_option Elab.async false
set_option linter.all false
set_option maxHeartbeats 1000000
namespace Lk34
open Mi
theorem want_iff {rows : List Row} {k n : Nat} {x : List Ky} (hx : (recs rows)[k]? = some x) : wantP rows n k = true ↔ ¬ Mis rows x n := by
  unfold wantP
  rw [hx]
  dsimp only
  by_cases h : Mis rows x n
  · rw [dec_true h]; simp [h]
  · rw [dec_false h]; simp [h]
theorem std_iff {rows : List Row} {k n : Nat} {x : List Ky} (hx : (recs rows)[k]? = some x) : standP rows n k = true ↔ ¬ Mst rows x n := by
  unfold standP
  rw [hx]
  dsimp only
  by_cases h : Mst rows x n
  · rw [dec_true h]; simp [h]
  · rw [dec_false h]; simp [h]
theorem want_at {rows : List Row} {p : Int × Int} (h : p ∈ plc rows) : dGet (wantsT rows) (pk p) = some (wantD rows p.2.toNat) := by
  unfold wantsT
  rw [dOf_get, if_pos h]
theorem stand_at {rows : List Row} {p : Int × Int} (h : p ∈ plc rows) : dGet (standsT rows) (pk p) = some (bD (mR rows) (stdB rows p)) := by
  unfold standsT
  rw [dOf_get, if_pos h]
theorem wD_at {w : List Nat} {i a : Nat} (h : w[i]? = some a) : atI (wD w) (i : Int) = some (.int (a : Int)) := at_of (by unfold wD; rw [List.getElem?_map, h]; rfl)
theorem WayC.row {rows : List Row} {w : List Nat} {e : Nat} (h : WayC rows (w ++ [e])) (he : rows[e]? = some .en) {i a : Nat} (ha : (w ++ [e])[i]? = some a) : ∃ r, rows[a]? = some r := by
  by_cases hi : i < w.length
  · have hb : (w ++ [e])[i + 1]? = some ((w ++ [e])[i + 1]'(by simp; omega)) := List.getElem?_eq_getElem _
    obtain ⟨r, hr, _⟩ := h.st i a _ ha hb
    exact ⟨r, hr⟩
  · have := (List.getElem?_eq_some_iff.mp ha).1
    rw [List.length_append, List.length_singleton] at this
    have : i = w.length := by omega
    subst this
    rw [List.getElem?_append_right (Nat.le_refl _), Nat.sub_self] at ha
    obtain rfl := Option.some.inj ha
    exact ⟨_, he⟩
theorem way_plc {rows : List Row} {w : List Nat} (h : WayC rows w) {i a b : Nat} (ha : w[i]? = some a) (hb : w[i + 1]? = some b) : ((a : Int), (b : Int)) ∈ plc rows := by
  obtain ⟨r, hr, hf⟩ := h.st i a b ha hb
  exact plc_mem.mpr (.inr ⟨a, r, hr, rfl, hf⟩)
/-- what is wanted on a way is reckoned behind -/
theorem ahead_right_ok (P Wd W k : Nat) (x : List Ky) (l : List Tx) (rows : List Row) (w : List Nat) (e : Nat) (S : Store) (gd : Gd l rows) (rk : RowsK rows) (hl : rows.length ≤ 500) (hx : (recs rows)[k]? = some x) (hP : S[P]? = some (.lst (rows.map Row.d))) (hW : S[Wd]? = some (.dT (wantsT rows))) (hw : S[W]? = some (.lst (wD (w ++ [e])))) (wc : WayC rows (w ++ [e])) (he : rows[e]? = some .en) (hwl : w.length ≤ 600) : m_law_ahead_right [.ref P, kt x, .int (k : Int), .ref Wd, .ref W] S = .ok (.bl true) S := by
  have rko := recs_ok rk (List.mem_of_getElem? hx)
  have hk : k < mR rows := (List.getElem?_eq_some_iff.mp hx).1
  have wl : (w ++ [e]).length = w.length + 1 := by simp
  have wDl : (wD (w ++ [e])).length = w.length + 1 := by rw [wD_len, wl]
  have key := loop_inv (hs := []) (turn := turnM (gName 6) l_law_ahead_right_1)
    (fun i fr S' => ∃ (b : Bool) (y6 y7 y8 : Option D), fr = [some (.ref P), some (kt x), some (.int (k : Int)), some (.ref Wd), some (.ref W), some (.bl b), y6, y7, y8] ∧ S' = S ∧ (b = false → ∀ m, (w ++ [e])[w.length + 1 - i]? = some m → Mis rows x m))
    ((List.range (w.length + 1)).map fun j => .int ((w.length : Int) - (j : Nat))) 0 [some (.ref P), some (kt x), some (.int (k : Int)), some (.ref Wd), some (.ref W), some (.bl false), none, none, none] S
    ⟨false, none, none, none, rfl, rfl, fun _ m hm => by rw [List.getElem?_eq_none (by simp)] at hm; cases hm⟩ (fun _ _ S _ => stands_nil S) (by
      rintro i d fr S' hd ⟨b, y6, y7, y8, rfl, rfl, hb⟩
      rw [List.getElem?_map] at hd
      obtain ⟨j, hj, rfl⟩ := Option.map_eq_some_iff.mp hd
      have hi : i < w.length + 1 := by have := (List.getElem?_eq_some_iff.mp hj).1; rw [List.length_range] at this; exact this
      rw [List.getElem?_range hi] at hj
      obtain rfl := Option.some.inj hj
      rw [show 0 + i = i by omega] at *
      obtain ⟨t, ht⟩ : ∃ t : Nat, w.length - i = t := ⟨_, rfl⟩
      have et : (w.length : Int) - (i : Nat) = (t : Int) := by omega
      rw [et]
      have ha : (w ++ [e])[t]? = some ((w ++ [e])[t]'(by omega)) := List.getElem?_eq_getElem _
      generalize (w ++ [e])[t]'(by omega) = a at ha
      obtain ⟨r, hr⟩ := wc.row he ha
      have ia := wD_at ha
      have ea : atI (rows.map Row.d) (a : Int) = some r.d := at_of (by rw [List.getElem?_map, hr]; rfl)
      have hh := law_has_ok r x (rk r (List.mem_of_getElem? hr)) rko S'
      have hc := law_changes_ok r x rko S'
      -- what is known here
      obtain ⟨b', hb', hbm⟩ : ∃ b' : Bool, b' = (if hasK r x = true then true else if chg r x = true then false else b) ∧ (b' = false → Mis rows x a) := by
        refine ⟨_, rfl, fun h => ?_⟩
        by_cases h1 : hasK r x = true
        · rw [if_pos h1] at h; cases h
        · rw [if_neg h1] at h
          have nr : r.rkg ≠ some x := fun z => h1 (dec_true z)
          by_cases h2 : chg r x = true
          · exact .out hr nr (.inl h2)
          · rw [if_neg h2] at h
            by_cases hen : r = .en
            · exact .out hr nr (.inr hen)
            · by_cases hlast : t = w.length
              · subst hlast
                rw [List.getElem?_append_right (Nat.le_refl _), Nat.sub_self] at ha
                obtain rfl := Option.some.inj ha
                rw [he] at hr
                exact absurd (Option.some.inj hr).symm hen
              · have hn : (w ++ [e])[t + 1]? = some ((w ++ [e])[t + 1]'(by omega)) := List.getElem?_eq_getElem _
                generalize (w ++ [e])[t + 1]'(by omega) = a2 at hn
                have mi := hb h a2 (by rw [show w.length + 1 - i = t + 1 by omega]; exact hn)
                obtain ⟨r', hr', hf⟩ := wc.st t a a2 ha hn
                rw [hr] at hr'
                obtain rfl := Option.some.inj hr'
                exact .step hr nr hf mi
      have s1 := bD_shr (mR rows) (wantP rows a) k S'
      have s2 := shD_and (mR rows) (wantP rows a) k hk S'
      have nb : wantP rows a k = true → b' = true := fun h => by
        cases b' with
        | true => rfl
        | false => exact absurd (hbm rfl) ((want_iff hx).mp h)
      have fin : ∀ m, (w ++ [e])[w.length + 1 - (i + 1)]? = some m → b' = false → Mis rows x m := fun m hm hbf => by
        rw [show w.length + 1 - (i + 1) = t by omega, ha] at hm
        rw [← Option.some.inj hm]
        exact hbm hbf
      have done : ∀ (sp : D), turnM (gName 6) l_law_ahead_right_1 (.int (t : Int)) [some (.ref P), some (kt x), some (.int (k : Int)), some (.ref Wd), some (.ref W), some (.bl b), y6, y7, y8] S' = .ok (.nx [some (.ref P), some (kt x), some (.int (k : Int)), some (.ref Wd), some (.ref W), some (.bl b'), some (.int (t : Int)), some r.d, some sp]) S' → ∃ (fr' : Fr) (S2 : Store), (turnM (gName 6) l_law_ahead_right_1 (.int (t : Int)) [some (.ref P), some (kt x), some (.int (k : Int)), some (.ref Wd), some (.ref W), some (.bl b), y6, y7, y8] S' = .ok (.nx fr') S2 ∨ turnM (gName 6) l_law_ahead_right_1 (.int (t : Int)) [some (.ref P), some (kt x), some (.int (k : Int)), some (.ref Wd), some (.ref W), some (.bl b), y6, y7, y8] S' = .ok (.ct fr') S2) ∧ ∃ (b : Bool) (y6 y7 y8 : Option D), fr' = [some (.ref P), some (kt x), some (.int (k : Int)), some (.ref Wd), some (.ref W), some (.bl b), y6, y7, y8] ∧ S2 = S' ∧ (b = false → ∀ m, (w ++ [e])[w.length + 1 - (i + 1)]? = some m → Mis rows x m) := fun sp q => ⟨_, S', .inl q, b', _, _, _, rfl, rfl, fun h m hm => fin m hm h⟩
      by_cases ht0 : t = 0
      · subst ht0
        have a0 : a = 0 := by
          have := wc.z
          rw [ha] at this
          exact Option.some.inj this
        have wa := want_at (rows := rows) (p := (-1, 0)) (plc_mem.mpr (.inl ⟨rfl, rfl⟩))
        rw [show (((-1 : Int), (0 : Int)) : Int × Int).2.toNat = a by rw [a0]; rfl] at wa
        unfold wantD at wa
        have kq : ktOf (.tup [.int (-1), .int 0]) = some (pk (-1, 0)) := ktOf_kt (pk (-1, 0))
        have ia0 : atI (wD (w ++ [e])) 0 = some (.int (a : Int)) := ia
        refine done (.tup [.int (-1), .int 0]) ?_
        cases h1 : hasK r x <;> cases h2 : chg r x <;> cases h3 : wantP rows a k <;> rw [h1] at hh hb' <;> rw [h2] at hc hb' <;> rw [h3] at s2 nb <;> simp at hb' nb <;> subst hb' <;> first | (exact absurd nb (by decide)) | (subst nb; simp [turnM_s, l_law_ahead_right_1, hP, hw, ia0, ea, hh, hc, hW, LINE, kq, wa, s1, s2]) | simp [turnM_s, l_law_ahead_right_1, hP, hw, ia0, ea, hh, hc, hW, LINE, kq, wa, s1, s2]
      · have hb1 : (w ++ [e])[t - 1]? = some ((w ++ [e])[t - 1]'(by omega)) := List.getElem?_eq_getElem _
        generalize (w ++ [e])[t - 1]'(by omega) = a1 at hb1
        have ib := wD_at hb1
        rw [show ((t - 1 : Nat) : Int) = (t : Int) - 1 by omega] at ib
        have wa := want_at (rows := rows) (p := ((a1 : Int), (a : Int))) (way_plc wc hb1 (by rw [show t - 1 + 1 = t by omega]; exact ha))
        rw [show (((a1 : Int), (a : Int)) : Int × Int).2.toNat = a from Int.toNat_natCast a] at wa
        unfold wantD at wa
        have kq : ktOf (.tup [.int (a1 : Int), .int (a : Int)]) = some (pk ((a1 : Int), (a : Int))) := ktOf_kt (pk ((a1 : Int), (a : Int)))
        have tp : 0 < t := by omega
        have tp2 : (0 : Int) < (t : Int) := by omega
        refine done (.tup [.int (a1 : Int), .int (a : Int)]) ?_
        cases h1 : hasK r x <;> cases h2 : chg r x <;> cases h3 : wantP rows a k <;> rw [h1] at hh hb' <;> rw [h2] at hc hb' <;> rw [h3] at s2 nb <;> simp at hb' nb <;> subst hb' <;> first | (exact absurd nb (by decide)) | (subst nb; simp [turnM_s, l_law_ahead_right_1, hP, hw, ia, ib, ea, hh, hc, hW, LINE, kq, wa, s1, s2, tp, tp2]) | simp [turnM_s, l_law_ahead_right_1, hP, hw, ia, ib, ea, hh, hc, hW, LINE, kq, wa, s1, s2, tp, tp2])
  obtain ⟨fr', S', q, b, y6, y7, y8, rfl, rfl, _⟩ := key
  have f1 : far (w.length : Int) := by unfold far; omega
  have f2 : far (-1) := by unfold far; omega
  have tn2 : ((w.length : Int) + 1).toNat = w.length + 1 := by omega
  simp only [m_law_ahead_right, b_law_ahead_right]
  simp [hw, wDl, f1, f2, tn2]
  rw [q]
  simp
/-- what is standing on a way was reckoned ahead -/
theorem behind_right_ok (P Sd W k : Nat) (x : List Ky) (l : List Tx) (rows : List Row) (w : List Nat) (e : Nat) (S : Store) (gd : Gd l rows) (rk : RowsK rows) (hl : rows.length ≤ 500) (hx : (recs rows)[k]? = some x) (hP : S[P]? = some (.lst (rows.map Row.d))) (hW : S[Sd]? = some (.dT (standsT rows))) (hw : S[W]? = some (.lst (wD (w ++ [e])))) (wc : WayC rows (w ++ [e])) (he : rows[e]? = some .en) (hwl : w.length ≤ 600) : m_law_behind_right [.ref P, kt x, .int (k : Int), .ref Sd, .ref W] S = .ok (.bl true) S := by
  have rko := recs_ok rk (List.mem_of_getElem? hx)
  have hk : k < mR rows := (List.getElem?_eq_some_iff.mp hx).1
  have wl : (w ++ [e]).length = w.length + 1 := by simp
  have wDl : (wD (w ++ [e])).length = w.length + 1 := by rw [wD_len, wl]
  have key := loop_inv (hs := []) (turn := turnM (gName 6) l_law_behind_right_1)
    (fun i fr S' => ∃ (b : Bool) (y6 y7 : Option D), fr = [some (.ref P), some (kt x), some (.int (k : Int)), some (.ref Sd), some (.ref W), some (.bl b), y6, y7] ∧ S' = S ∧ (b = false → i = 0 ∨ ∀ m, (w ++ [e])[i - 1]? = some m → Mst rows x m))
    (rng 1 w.length) 0 [some (.ref P), some (kt x), some (.int (k : Int)), some (.ref Sd), some (.ref W), some (.bl false), none, none] S
    ⟨false, none, none, rfl, rfl, fun _ => .inl rfl⟩ (fun _ _ S _ => stands_nil S) (by
      rintro i d fr S' hd ⟨b, y6, y7, rfl, rfl, hb⟩
      obtain ⟨hi, rfl⟩ := rng_at hd
      rw [show 0 + i = i by omega] at *
      have et : (1 : Int) + (i : Int) = ((i + 1 : Nat) : Int) := by omega
      rw [et]
      have ha : (w ++ [e])[i]? = some ((w ++ [e])[i]'(by omega)) := List.getElem?_eq_getElem _
      generalize (w ++ [e])[i]'(by omega) = a at ha
      have hn : (w ++ [e])[i + 1]? = some ((w ++ [e])[i + 1]'(by omega)) := List.getElem?_eq_getElem _
      generalize (w ++ [e])[i + 1]'(by omega) = a2 at hn
      obtain ⟨r, hr⟩ := wc.row he ha
      have ia := wD_at ha
      have ib := wD_at hn
      have ia' : atI (wD (w ++ [e])) (((i + 1 : Nat) : Int) - 1) = some (.int (a : Int)) := by rw [show ((i + 1 : Nat) : Int) - 1 = (i : Int) by omega]; exact ia
      generalize ((i + 1 : Nat) : Int) = t at ib ia'
      have ea : atI (rows.map Row.d) (a : Int) = some r.d := at_of (by rw [List.getElem?_map, hr]; rfl)
      have hh := law_has_ok r x (rk r (List.mem_of_getElem? hr)) rko S'
      have hc := law_changes_ok r x rko S'
      obtain ⟨b', hb', hbm⟩ : ∃ b' : Bool, b' = (if chg r x = true then false else if hasK r x = true then true else b) ∧ (b' = false → Mst rows x a) := by
        refine ⟨_, rfl, fun h => ?_⟩
        by_cases h2 : chg r x = true
        · exact .out hr h2
        · rw [if_neg h2] at h
          by_cases h1 : hasK r x = true
          · rw [if_pos h1] at h; cases h
          · rw [if_neg h1] at h
            have nr : r.rkg ≠ some x := fun z => h1 (dec_true z)
            by_cases i0 : i = 0
            · subst i0
              have := wc.z
              rw [ha] at this
              obtain rfl := Option.some.inj this
              exact .zero hr nr
            · have hp : (w ++ [e])[i - 1]? = some ((w ++ [e])[i - 1]'(by omega)) := List.getElem?_eq_getElem _
              generalize (w ++ [e])[i - 1]'(by omega) = a0 at hp
              have ms := (hb h).resolve_left i0 a0 hp
              obtain ⟨r', hr', hf⟩ := wc.st (i - 1) a0 a hp (by rw [show i - 1 + 1 = i by omega]; exact ha)
              exact .step hr nr hr' hf ms
      have s1 := bD_shr (mR rows) (standP rows a) k S'
      have s2 := shD_and (mR rows) (standP rows a) k hk S'
      have nb : standP rows a k = true → b' = true := fun h => by
        cases b' with
        | true => rfl
        | false => exact absurd (hbm rfl) ((std_iff hx).mp h)
      have wa := stand_at (rows := rows) (p := ((a : Int), (a2 : Int))) (way_plc wc ha hn)
      have sb : stdB rows ((a : Int), (a2 : Int)) = standP rows a := by unfold stdB; rw [if_neg (by simp), Int.toNat_natCast]
      rw [sb] at wa
      have kq : ktOf (.tup [.int (a : Int), .int (a2 : Int)]) = some (pk ((a : Int), (a2 : Int))) := ktOf_kt (pk ((a : Int), (a2 : Int)))
      have done : turnM (gName 6) l_law_behind_right_1 (.int t) [some (.ref P), some (kt x), some (.int (k : Int)), some (.ref Sd), some (.ref W), some (.bl b), y6, y7] S' = .ok (.nx [some (.ref P), some (kt x), some (.int (k : Int)), some (.ref Sd), some (.ref W), some (.bl b'), some (.int t), some r.d]) S' := by
        cases h1 : hasK r x <;> cases h2 : chg r x <;> cases h3 : standP rows a k <;> rw [h1] at hh hb' <;> rw [h2] at hc hb' <;> rw [h3] at s2 nb <;> simp at hb' nb <;> subst hb' <;> first | (exact absurd nb (by decide)) | (subst nb; simp [turnM_s, l_law_behind_right_1, hP, hw, ia', ib, ea, hh, hc, hW, LINE, kq, wa, s1, s2]) | simp [turnM_s, l_law_behind_right_1, hP, hw, ia', ib, ea, hh, hc, hW, LINE, kq, wa, s1, s2]
      exact ⟨_, S', .inl done, b', _, _, rfl, rfl, fun h => .inr fun m hm => by
        rw [Nat.add_sub_cancel, ha] at hm
        rw [← Option.some.inj hm]
        exact hbm h⟩)
  obtain ⟨fr', S', q, b, y6, y7, rfl, rfl, _⟩ := key
  have f1 : far ((w.length : Int) + 1) := by unfold far; omega
  have f2 : far 1 := by unfold far; omega
  have tn2 : ((w.length : Int) + 1 - 1).toNat = w.length := by omega
  have wa := stand_at (rows := rows) (p := (-1, 0)) (plc_mem.mpr (.inl ⟨rfl, rfl⟩))
  have kq : ktOf (.tup [.int (-1), .int 0]) = some (pk (-1, 0)) := ktOf_kt (pk (-1, 0))
  have s1 := bD_shr (mR rows) (stdB rows (-1, 0)) k S'
  have s2 := shD_and (mR rows) (stdB rows (-1, 0)) k hk S'
  rw [show stdB rows (-1, 0) k = false by unfold stdB; rw [if_pos rfl]] at s2
  simp only [m_law_behind_right, b_law_behind_right]
  simp [hw, wDl, f1, f2, tn2, hW, LINE, kq, wa, s1, s2]
  rw [q]
  simp
theorem law_pure (ns : List Int) (hn : ns.length ≤ 63) : ∃ S, m_law [.ref 0] [.fls (ns.map .int)] = .ok (.bl true) S := by
  obtain ⟨S0, e0⟩ : ∃ S : Store, S = [.fls (ns.map .int)] := ⟨_, rfl⟩
  have s00 : S0[0]? = some (.fls (ns.map .int)) := by rw [e0]; rfl
  rw [← e0]
  have cut_map : ∀ (a b : Option Int), cut (ns.map D.int) a b = (cut ns a b).map D.int := fun a b => by
    unfold cut
    rw [List.length_map, ← List.map_drop, ← List.map_take]
  have hcl : (cut ns (some 2) (some 22)).length ≤ 60 := by
    unfold cut
    rw [List.length_take]
    simp [sIx]
    omega
  generalize hcs : cut ns (some 2) (some 22) = cs at hcl
  obtain ⟨S1, e1⟩ : ∃ S : Store, S = S0 ++ [.lst (cs.map .int)] := ⟨_, rfl⟩
  have p1 : Pre S0 S1 := by rw [e1]; exact Pre.app _ _
  have g1 : S1[S0.length]? = some (.lst (cs.map .int)) := by rw [e1]; exact app_new _ _ _
  obtain ⟨l, rows, P, S2, e2, p2, hP, gP, gd, hrl, hnm, hends⟩ := program_ok S0.length cs S1 (p1.get s00) g1 hcl
  have rk := gd.rk hnm
  have e1' : S0 ++ [.lst (cs.map .int)] = S1 := e1.symm
  have em : m_law_made [.ref 0] S0 = .ok (.ref P) S2 := by
    simp [m_law_made, b_law_made, s00, cut_map, hcs, e1', e2]
  obtain ⟨W, w, e, S3, e3, p3, hW3, gW, wc, he, hwl⟩ := way_ok P l rows S2 gd hends (by omega) (p2.get (p1.get s00)) gP
  obtain ⟨Wd, S4, e4, p4, _, gWd⟩ := wanted_ok P l rows S3 gd rk (p3.get gP) (by omega)
  obtain ⟨Sd, S5, e5, p5, _, gSd⟩ := standing_ok P l rows S4 gd rk (p4.get (p3.get gP)) (by omega)
  obtain ⟨S6, e6, p6, g6⟩ := law_known_ok P rows S5 rk (p5.get (p4.get (p3.get gP))) (by omega)
  have gP6 := p6.get (p5.get (p4.get (p3.get gP)))
  have gW6 := p6.get (p5.get (p4.get gW))
  have gWd6 := p6.get (p5.get gWd)
  have gSd6 := p6.get gSd
  have key := loop_inv (hs := [(S5.length, (recs rows).map kt)]) (turn := turnM (gTup 2 (gCons (gName 5) (gCons (gName 6) gNil))) l_law_1)
    (fun i fr S' => ∃ (y5 y6 : Option D), fr = [some (.ref 0), some (.ref P), some (.ref W), some (.ref Wd), some (.ref Sd), y5, y6] ∧ S' = S6)
    (prs 0 ((recs rows).map kt)) 0 [some (.ref 0), some (.ref P), some (.ref W), some (.ref Wd), some (.ref Sd), none, none] S6
    ⟨none, none, rfl, rfl⟩
    (by
      rintro i fr S' ⟨y5, y6, rfl, rfl⟩
      exact stands_one (lst_of g6))
    (by
      rintro i d fr S' hd ⟨y5, y6, rfl, rfl⟩
      obtain ⟨x', hx', rfl⟩ := prs_at hd
      rw [List.getElem?_map] at hx'
      obtain ⟨x, hx, rfl⟩ := Option.map_eq_some_iff.mp hx'
      have a1 := ahead_right_ok P Wd W i x l rows w e S' gd rk (by omega) hx gP6 gWd6 gW6 wc he (by omega)
      have a2 := behind_right_ok P Sd W i x l rows w e S' gd rk (by omega) hx gP6 gSd6 gW6 wc he (by omega)
      exact ⟨_, S', .inl (by simp [turnM_s, l_law_1, a1, a2]; exact ⟨rfl, rfl⟩), _, _, rfl, rfl⟩)
  obtain ⟨fr2, S9, q2, z5, z6, rfl, rfl⟩ := key
  refine ⟨S9, ?_⟩
  simp [m_law, b_law, em, e3, e4, e5, e6, g6]
  rw [q2]
  simp
end Lk34
set_option Elab.async false
set_option linter.all false
set_option maxRecDepth 100000
set_option maxHeartbeats 4000000
/-! that the text is these steps (printed by gen.py) -/
namespace Lk34
open PySem PySem.Spec PyProof.Rows L2 Mi Sm
abbrev nmL : Str := ("_law_way" ++ ".<locals>.") ++ "<lambda>"
instance : Tbs := ⟨fun K => match PySem.W.tabIn K "_law_way" with | some (_, P) => [(P, nmL)] | none => []⟩
theorem tbs_of {K : PySem.W.Frag} {c P : Addr} (h : PySem.W.tabIn K "_law_way" = some (c, P)) : Tbs.T K = [(P, nmL)] := by
  show (match PySem.W.tabIn K "_law_way" with | some (_, P) => [(P, nmL)] | none => []) = _
  rw [h]
def topS (i : Nat) : Stmt := PySem.Challenge.pw_lazyhoist_k34_whole_on_any_way.main.body.getD i (.Pass ⟨0, 0, 0, 0⟩)
theorem q_reckon : ("reckon" : Str) = sOf t_reckon := by decide +kernel
theorem q_copy : ("copy" : Str) = sOf t_copy := by decide +kernel
theorem q_go : ("go" : Str) = sOf t_go := by decide +kernel
theorem q_part : ("part" : Str) = sOf t_part := by decide +kernel
theorem q_end : ("end" : Str) = sOf t_end := by decide +kernel
theorem q_x5_abcdefghijkl : ("abcdefghijklmnopqrstuvwxyz" : Str) = sOf t_x5_abcdefghijkl := by decide +kernel
theorem q_x6_ : ("" : Str) = sOf t_x6_ := by decide +kernel
theorem q_x7_0123456789 : ("0123456789" : Str) = sOf t_x7_0123456789 := by decide +kernel
theorem q_say : ("say" : Str) = sOf t_say := by decide +kernel
theorem q_x9_1 : ("1" : Str) = sOf t_x9_1 := by decide +kernel
theorem q_x10_ : ("+-*&|^<=" : Str) = sOf t_x10_ := by decide +kernel
abbrev s_law_changes : Stmt := topS 42
abbrev n_law_changes : List Str := ["_law_row_here", "_law_deed"]
theorem sc_law_changes : FnScope n_law_changes ["_law_row_here", "_law_deed"] (defScope s_law_changes) := ⟨rfl, rfl, rfl, by decide +kernel, rfl, by decide +kernel, by decide +kernel⟩
abbrev s_law_has : Stmt := topS 41
abbrev n_law_has : List Str := ["_law_row_here", "_law_deed"]
theorem sc_law_has : FnScope n_law_has ["_law_row_here", "_law_deed"] (defScope s_law_has) := ⟨rfl, rfl, rfl, by decide +kernel, rfl, by decide +kernel, by decide +kernel⟩
abbrev s_law_ahead_right : Stmt := topS 47
abbrev n_law_ahead_right : List Str := ["_law_program_here", "_law_deed", "_law_k", "_law_wants", "_law_way_here", "_law_comes", "_law_at", "_law_row_here", "_law_spot"]
theorem sc_law_ahead_right : FnScope n_law_ahead_right ["_law_program_here", "_law_deed", "_law_k", "_law_wants", "_law_way_here"] (defScope s_law_ahead_right) := ⟨rfl, rfl, rfl, by decide +kernel, rfl, by decide +kernel, by decide +kernel⟩
abbrev s_law_behind_right : Stmt := topS 48
abbrev n_law_behind_right : List Str := ["_law_program_here", "_law_deed", "_law_k", "_law_stood", "_law_way_here", "_law_came", "_law_at", "_law_row_here"]
theorem sc_law_behind_right : FnScope n_law_behind_right ["_law_program_here", "_law_deed", "_law_k", "_law_stood", "_law_way_here"] (defScope s_law_behind_right) := ⟨rfl, rfl, rfl, by decide +kernel, rfl, by decide +kernel, by decide +kernel⟩
abbrev s_law_known : Stmt := topS 43
abbrev n_law_known : List Str := ["_law_program_here", "_law_found", "_law_row_here"]
theorem sc_law_known : FnScope n_law_known ["_law_program_here"] (defScope s_law_known) := ⟨rfl, rfl, rfl, by decide +kernel, rfl, by decide +kernel, by decide +kernel⟩
abbrev s_law_operand : Stmt := topS 24
abbrev n_law_operand : List Str := ["_law_cell_here", "_law_names_here"]
theorem sc_law_operand : FnScope n_law_operand ["_law_cell_here", "_law_names_here"] (defScope s_law_operand) := ⟨rfl, rfl, rfl, by decide +kernel, rfl, by decide +kernel, by decide +kernel⟩
abbrev s_law_any_row : Stmt := topS 34
abbrev n_law_any_row : List Str := ["_law_cell_here", "_law_n", "_law_many", "_law_names_here", "_law_deeds_here", "_law_kind", "_law_rest", "_law_s", "_law_a", "_law_b"]
theorem sc_law_any_row : FnScope n_law_any_row ["_law_cell_here", "_law_n", "_law_many", "_law_names_here", "_law_deeds_here"] (defScope s_law_any_row) := ⟨rfl, rfl, rfl, by decide +kernel, rfl, by decide +kernel, by decide +kernel⟩
abbrev s_law_cell : Stmt := topS 20
abbrev n_law_cell : List Str := ["_law_script", "_law_k"]
theorem sc_law_cell : FnScope n_law_cell ["_law_script", "_law_k"] (defScope s_law_cell) := ⟨rfl, rfl, rfl, by decide +kernel, rfl, by decide +kernel, by decide +kernel⟩
abbrev s_law_is_free : Stmt := topS 22
abbrev n_law_is_free : List Str := ["_law_script"]
theorem sc_law_is_free : FnScope n_law_is_free ["_law_script"] (defScope s_law_is_free) := ⟨rfl, rfl, rfl, by decide +kernel, rfl, by decide +kernel, by decide +kernel⟩
abbrev s_law_mixed : Stmt := topS 21
abbrev n_law_mixed : List Str := ["_law_cell_here", "_law_k"]
theorem sc_law_mixed : FnScope n_law_mixed ["_law_cell_here", "_law_k"] (defScope s_law_mixed) := ⟨rfl, rfl, rfl, by decide +kernel, rfl, by decide +kernel, by decide +kernel⟩
abbrev s_law_deeds : Stmt := topS 25
abbrev n_law_deeds : List Str := ["_law_script", "_law_names_here", "_law_cell_here", "_law_many", "_law_rest", "_law_found", "_law_k", "_law_one", "_law_other", "_law_sign"]
theorem sc_law_deeds : FnScope n_law_deeds ["_law_script", "_law_names_here"] (defScope s_law_deeds) := ⟨rfl, rfl, rfl, by decide +kernel, rfl, by decide +kernel, by decide +kernel⟩
abbrev s_law_followers : Stmt := topS 39
abbrev n_law_followers : List Str := ["_law_program_here", "_law_n", "_law_row_here"]
theorem sc_law_followers : FnScope n_law_followers ["_law_program_here", "_law_n"] (defScope s_law_followers) := ⟨rfl, rfl, rfl, by decide +kernel, rfl, by decide +kernel, by decide +kernel⟩
abbrev s_law_comes_to : Stmt := topS 35
abbrev n_law_comes_to : List Str := ["_law_rows", "_law_ahead", "_law_seen", "_law_n", "_law_more", "_law_m", "_law_one", "_law_other"]
theorem sc_law_comes_to : FnScope n_law_comes_to ["_law_rows", "_law_ahead"] (defScope s_law_comes_to) := ⟨rfl, rfl, rfl, by decide +kernel, rfl, by decide +kernel, by decide +kernel⟩
abbrev s_law_mended : Stmt := topS 36
abbrev n_law_mended : List Str := ["_law_rows", "_law_last_here", "_law_turn", "_law_seen", "_law_near", "_law_lost", "_law_n", "_law_dead"]
theorem sc_law_mended : FnScope n_law_mended ["_law_rows"] (defScope s_law_mended) := ⟨rfl, rfl, rfl, by decide +kernel, rfl, by decide +kernel, by decide +kernel⟩
abbrev s_law_names : Stmt := topS 23
abbrev n_law_names : List Str := ["_law_cell_here", "_law_signs", "_law_size", "_law_at", "_law_names_here", "_law_k", "_law_name", "_law_j", "_law_step"]
theorem sc_law_names : FnScope n_law_names ["_law_cell_here"] (defScope s_law_names) := ⟨rfl, rfl, rfl, by decide +kernel, rfl, by decide +kernel, by decide +kernel⟩
abbrev s_law_any_program : Stmt := topS 37
abbrev n_law_any_program : List Str := ["_law_script", "_law_cells", "_law_names_here", "_law_deeds_here", "_law_many", "_law_rows", "_law_n"]
theorem sc_law_any_program : FnScope n_law_any_program ["_law_script", "_law_cells"] (defScope s_law_any_program) := ⟨rfl, rfl, rfl, by decide +kernel, rfl, by decide +kernel, by decide +kernel⟩
abbrev s_law_goal : Stmt := topS 30
abbrev n_law_goal : List Str := ["_law_rough_here", "_law_to"]
theorem sc_law_goal : FnScope n_law_goal ["_law_rough_here", "_law_to"] (defScope s_law_goal) := ⟨rfl, rfl, rfl, by decide +kernel, rfl, by decide +kernel, by decide +kernel⟩
abbrev s_law_number : Stmt := topS 29
abbrev n_law_number : List Str := ["_law_script", "_law_k"]
theorem sc_law_number : FnScope n_law_number ["_law_script", "_law_k"] (defScope s_law_number) := ⟨rfl, rfl, rfl, by decide +kernel, rfl, by decide +kernel, by decide +kernel⟩
abbrev s_law_last : Stmt := topS 27
abbrev n_law_last : List Str := ["_law_rows", "_law_number_here", "_law_ends", "_law_n"]
theorem sc_law_last : FnScope n_law_last ["_law_rows", "_law_number_here"] (defScope s_law_last) := ⟨rfl, rfl, rfl, by decide +kernel, rfl, by decide +kernel, by decide +kernel⟩
abbrev s_law_row : Stmt := topS 26
abbrev n_law_row : List Str := ["_law_cell_here", "_law_other", "_law_names_here", "_law_deeds_here", "_law_name", "_law_operand_here", "_law_s", "_law_a", "_law_b"]
theorem sc_law_row : FnScope n_law_row ["_law_cell_here", "_law_other", "_law_names_here", "_law_deeds_here"] (defScope s_law_row) := ⟨rfl, rfl, rfl, by decide +kernel, rfl, by decide +kernel, by decide +kernel⟩
abbrev s_law_rough : Stmt := topS 28
abbrev n_law_rough : List Str := ["_law_script", "_law_cells", "_law_names_here", "_law_deeds_here", "_law_rows", "_law_k", "_law_cell_here", "_law_other"]
theorem sc_law_rough : FnScope n_law_rough ["_law_script", "_law_cells"] (defScope s_law_rough) := ⟨rfl, rfl, rfl, by decide +kernel, rfl, by decide +kernel, by decide +kernel⟩
abbrev s_law_stairs : Stmt := topS 33
abbrev n_law_stairs : List Str := ["_law_script", "_law_many", "_law_names_here", "_law_deeds_here", "_law_rows", "_law_k", "_law_cell_here"]
theorem sc_law_stairs : FnScope n_law_stairs ["_law_script", "_law_many"] (defScope s_law_stairs) := ⟨rfl, rfl, rfl, by decide +kernel, rfl, by decide +kernel, by decide +kernel⟩
abbrev s_law_with_while : Stmt := topS 31
abbrev n_law_with_while : List Str := ["_law_rows", "_law_cell_here", "_law_flat", "_law_n", "_law_last_here"]
theorem sc_law_with_while : FnScope n_law_with_while ["_law_rows", "_law_cell_here"] (defScope s_law_with_while) := ⟨rfl, rfl, rfl, by decide +kernel, rfl, by decide +kernel, by decide +kernel⟩
abbrev s_law_with_else : Stmt := topS 32
abbrev n_law_with_else : List Str := ["_law_rows", "_law_cell_here", "_law_flat", "_law_n", "_law_first", "_law_later", "_law_last_here", "_law_to"]
theorem sc_law_with_else : FnScope n_law_with_else ["_law_rows", "_law_cell_here"] (defScope s_law_with_else) := ⟨rfl, rfl, rfl, by decide +kernel, rfl, by decide +kernel, by decide +kernel⟩
abbrev s_law_program : Stmt := topS 38
abbrev n_law_program : List Str := ["_law_script", "_law_cells", "_law_turn", "_law_rough_here", "_law_rows", "_law_n", "_law_row_here"]
theorem sc_law_program : FnScope n_law_program ["_law_script", "_law_cells"] (defScope s_law_program) := ⟨rfl, rfl, rfl, by decide +kernel, rfl, by decide +kernel, by decide +kernel⟩
abbrev s_law_made : Stmt := topS 44
abbrev n_law_made : List Str := ["_law_script"]
theorem sc_law_made : FnScope n_law_made ["_law_script"] (defScope s_law_made) := ⟨rfl, rfl, rfl, by decide +kernel, rfl, by decide +kernel, by decide +kernel⟩
abbrev s_law_far : Stmt := topS 45
abbrev n_law_far : List Str := ["_law_program_here", "_law_far_here", "_law_row_here", "_law_turn", "_law_n", "_law_m"]
theorem sc_law_far : FnScope n_law_far ["_law_program_here"] (defScope s_law_far) := ⟨rfl, rfl, rfl, by decide +kernel, rfl, by decide +kernel, by decide +kernel⟩
abbrev s_law_way : Stmt := topS 46
abbrev n_law_way : List Str := ["_law_program_here", "_law_script", "_law_far_here", "_law_rest", "_law_way_here", "_law_ahead", "_law_pick"]
theorem sc_law_way : FnScope n_law_way ["_law_program_here", "_law_script"] (defScope s_law_way) := ⟨rfl, rfl, rfl, by decide +kernel, rfl, by decide +kernel, by decide +kernel⟩
abbrev s_followers : Stmt := topS 5
abbrev n_followers : List Str := ["program", "n", "row"]
theorem sc_followers : FnScope n_followers ["program", "n"] (defScope s_followers) := ⟨rfl, rfl, rfl, by decide +kernel, rfl, by decide +kernel, by decide +kernel⟩
abbrev s_places : Stmt := topS 6
abbrev n_places : List Str := ["program", "found", "n", "m"]
theorem sc_places : FnScope n_places ["program"] (defScope s_places) := ⟨rfl, rfl, rfl, by decide +kernel, rfl, by decide +kernel, by decide +kernel⟩
abbrev s_ahead_of : Stmt := topS 16
abbrev n_ahead_of : List Str := ["program", "found", "row", "n", "m"]
theorem sc_ahead_of : FnScope n_ahead_of ["program"] (defScope s_ahead_of) := ⟨rfl, rfl, rfl, by decide +kernel, rfl, by decide +kernel, by decide +kernel⟩
abbrev s_reckoning_of : Stmt := topS 1
abbrev n_reckoning_of : List Str := ["row"]
theorem sc_reckoning_of : FnScope n_reckoning_of ["row"] (defScope s_reckoning_of) := ⟨rfl, rfl, rfl, by decide +kernel, rfl, by decide +kernel, by decide +kernel⟩
abbrev s_reckonings : Stmt := topS 7
abbrev n_reckonings : List Str := ["program", "found", "row", "reckoning"]
theorem sc_reckonings : FnScope n_reckonings ["program"] (defScope s_reckonings) := ⟨rfl, rfl, rfl, by decide +kernel, rfl, by decide +kernel, by decide +kernel⟩
abbrev s_all_bits : Stmt := topS 9
abbrev n_all_bits : List Str := ["program"]
theorem sc_all_bits : FnScope n_all_bits ["program"] (defScope s_all_bits) := ⟨rfl, rfl, rfl, by decide +kernel, rfl, by decide +kernel, by decide +kernel⟩
abbrev s_sets : Stmt := topS 2
abbrev n_sets : List Str := ["row"]
theorem sc_sets : FnScope n_sets ["row"] (defScope s_sets) := ⟨rfl, rfl, rfl, by decide +kernel, rfl, by decide +kernel, by decide +kernel⟩
abbrev s_changes : Stmt := topS 3
abbrev n_changes : List Str := ["row", "reckoning", "name"]
theorem sc_changes : FnScope n_changes ["row", "reckoning"] (defScope s_changes) := ⟨rfl, rfl, rfl, by decide +kernel, rfl, by decide +kernel, by decide +kernel⟩
abbrev s_lost_bits : Stmt := topS 11
abbrev n_lost_bits : List Str := ["program", "known", "found", "row", "bits", "k", "one"]
theorem sc_lost_bits : FnScope n_lost_bits ["program"] (defScope s_lost_bits) := ⟨rfl, rfl, rfl, by decide +kernel, rfl, by decide +kernel, by decide +kernel⟩
abbrev s_own_bits : Stmt := topS 10
abbrev n_own_bits : List Str := ["program", "numbers", "k", "one", "found", "row"]
theorem sc_own_bits : FnScope n_own_bits ["program"] (defScope s_own_bits) := ⟨rfl, rfl, rfl, by decide +kernel, rfl, by decide +kernel, by decide +kernel⟩
abbrev s_left_by : Stmt := topS 17
abbrev n_left_by : List Str := ["program", "whole", "own", "lost", "came", "found", "row", "more", "m", "ahead", "n", "bits"]
theorem sc_left_by : FnScope n_left_by ["program"] (defScope s_left_by) := ⟨rfl, rfl, rfl, by decide +kernel, rfl, by decide +kernel, by decide +kernel⟩
abbrev s_standing : Stmt := topS 18
abbrev n_standing : List Str := ["program", "behind", "found", "place"]
theorem sc_standing : FnScope n_standing ["program"] (defScope s_standing) := ⟨rfl, rfl, rfl, by decide +kernel, rfl, by decide +kernel, by decide +kernel⟩
abbrev s_asked_by : Stmt := topS 13
abbrev n_asked_by : List Str := ["program", "whole", "own", "lost", "found", "row", "more", "n", "behind", "m", "bits"]
theorem sc_asked_by : FnScope n_asked_by ["program"] (defScope s_asked_by) := ⟨rfl, rfl, rfl, by decide +kernel, rfl, by decide +kernel, by decide +kernel⟩
abbrev s_wanted : Stmt := topS 14
abbrev n_wanted : List Str := ["program", "asked", "found", "place"]
theorem sc_wanted : FnScope n_wanted ["program"] (defScope s_wanted) := ⟨rfl, rfl, rfl, by decide +kernel, rfl, by decide +kernel, by decide +kernel⟩
abbrev s_law : Stmt := topS 49
abbrev n_law : List Str := ["_law_script", "_law_program_here", "_law_way_here", "_law_wants", "_law_stood", "_law_k", "_law_deed"]
theorem sc_law : FnScope n_law ["_law_script"] (defScope s_law) := ⟨rfl, rfl, rfl, by decide +kernel, rfl, by decide +kernel, by decide +kernel⟩
theorem bo_int : bootBuiltins "int" = some (.type "int") := by decide +kernel
theorem bo_len : bootBuiltins "len" = some (.builtin "len") := by decide +kernel
theorem bo_list : bootBuiltins "list" = some (.type "list") := by decide +kernel
theorem bo_max : bootBuiltins "max" = some (.builtin "max") := by decide +kernel
theorem bo_min : bootBuiltins "min" = some (.builtin "min") := by decide +kernel
theorem bo_sum : bootBuiltins "sum" = some (.builtin "sum") := by decide +kernel
set_option genInjectivity false in
set_option genSizeOf false in
set_option genSizeOfSpec false in
structure Txt (K : PySem.W.Frag) (mg : Str → Option Value) where
  f_law_changes : Addr
  fd_law_changes : FuncData
  F_law_changes : Fun K "_law_changes" "_law_changes" s_law_changes f_law_changes fd_law_changes
  g_law_changes : mg "_law_changes" = some (.ref f_law_changes)
  b_law_changes : Binds K fd_law_changes ["_law_row_here", "_law_deed"] []
  f_law_has : Addr
  fd_law_has : FuncData
  F_law_has : Fun K "_law_has" "_law_has" s_law_has f_law_has fd_law_has
  g_law_has : mg "_law_has" = some (.ref f_law_has)
  b_law_has : Binds K fd_law_has ["_law_row_here", "_law_deed"] []
  f_law_ahead_right : Addr
  fd_law_ahead_right : FuncData
  F_law_ahead_right : Fun K "_law_ahead_right" "_law_ahead_right" s_law_ahead_right f_law_ahead_right fd_law_ahead_right
  g_law_ahead_right : mg "_law_ahead_right" = some (.ref f_law_ahead_right)
  b_law_ahead_right : Binds K fd_law_ahead_right ["_law_program_here", "_law_deed", "_law_k", "_law_wants", "_law_way_here"] []
  f_law_behind_right : Addr
  fd_law_behind_right : FuncData
  F_law_behind_right : Fun K "_law_behind_right" "_law_behind_right" s_law_behind_right f_law_behind_right fd_law_behind_right
  g_law_behind_right : mg "_law_behind_right" = some (.ref f_law_behind_right)
  b_law_behind_right : Binds K fd_law_behind_right ["_law_program_here", "_law_deed", "_law_k", "_law_stood", "_law_way_here"] []
  f_law_known : Addr
  fd_law_known : FuncData
  F_law_known : Fun K "_law_known" "_law_known" s_law_known f_law_known fd_law_known
  g_law_known : mg "_law_known" = some (.ref f_law_known)
  b_law_known : Binds K fd_law_known ["_law_program_here"] []
  f_law_operand : Addr
  fd_law_operand : FuncData
  F_law_operand : Fun K "_law_operand" "_law_operand" s_law_operand f_law_operand fd_law_operand
  g_law_operand : mg "_law_operand" = some (.ref f_law_operand)
  b_law_operand : Binds K fd_law_operand ["_law_cell_here", "_law_names_here"] []
  f_law_any_row : Addr
  fd_law_any_row : FuncData
  F_law_any_row : Fun K "_law_any_row" "_law_any_row" s_law_any_row f_law_any_row fd_law_any_row
  g_law_any_row : mg "_law_any_row" = some (.ref f_law_any_row)
  b_law_any_row : Binds K fd_law_any_row ["_law_cell_here", "_law_n", "_law_many", "_law_names_here", "_law_deeds_here"] []
  f_law_cell : Addr
  fd_law_cell : FuncData
  F_law_cell : Fun K "_law_cell" "_law_cell" s_law_cell f_law_cell fd_law_cell
  g_law_cell : mg "_law_cell" = some (.ref f_law_cell)
  b_law_cell : Binds K fd_law_cell ["_law_script", "_law_k"] []
  f_law_is_free : Addr
  fd_law_is_free : FuncData
  F_law_is_free : Fun K "_law_is_free" "_law_is_free" s_law_is_free f_law_is_free fd_law_is_free
  g_law_is_free : mg "_law_is_free" = some (.ref f_law_is_free)
  b_law_is_free : Binds K fd_law_is_free ["_law_script"] []
  f_law_mixed : Addr
  fd_law_mixed : FuncData
  F_law_mixed : Fun K "_law_mixed" "_law_mixed" s_law_mixed f_law_mixed fd_law_mixed
  g_law_mixed : mg "_law_mixed" = some (.ref f_law_mixed)
  b_law_mixed : Binds K fd_law_mixed ["_law_cell_here", "_law_k"] []
  f_law_deeds : Addr
  fd_law_deeds : FuncData
  F_law_deeds : Fun K "_law_deeds" "_law_deeds" s_law_deeds f_law_deeds fd_law_deeds
  g_law_deeds : mg "_law_deeds" = some (.ref f_law_deeds)
  b_law_deeds : Binds K fd_law_deeds ["_law_script", "_law_names_here"] []
  f_law_followers : Addr
  fd_law_followers : FuncData
  F_law_followers : Fun K "_law_followers" "_law_followers" s_law_followers f_law_followers fd_law_followers
  g_law_followers : mg "_law_followers" = some (.ref f_law_followers)
  b_law_followers : Binds K fd_law_followers ["_law_program_here", "_law_n"] []
  f_law_comes_to : Addr
  fd_law_comes_to : FuncData
  F_law_comes_to : Fun K "_law_comes_to" "_law_comes_to" s_law_comes_to f_law_comes_to fd_law_comes_to
  g_law_comes_to : mg "_law_comes_to" = some (.ref f_law_comes_to)
  b_law_comes_to : Binds K fd_law_comes_to ["_law_rows", "_law_ahead"] []
  f_law_mended : Addr
  fd_law_mended : FuncData
  F_law_mended : Fun K "_law_mended" "_law_mended" s_law_mended f_law_mended fd_law_mended
  g_law_mended : mg "_law_mended" = some (.ref f_law_mended)
  b_law_mended : Binds K fd_law_mended ["_law_rows"] []
  f_law_names : Addr
  fd_law_names : FuncData
  F_law_names : Fun K "_law_names" "_law_names" s_law_names f_law_names fd_law_names
  g_law_names : mg "_law_names" = some (.ref f_law_names)
  b_law_names : Binds K fd_law_names ["_law_cell_here"] []
  f_law_any_program : Addr
  fd_law_any_program : FuncData
  F_law_any_program : Fun K "_law_any_program" "_law_any_program" s_law_any_program f_law_any_program fd_law_any_program
  g_law_any_program : mg "_law_any_program" = some (.ref f_law_any_program)
  b_law_any_program : Binds K fd_law_any_program ["_law_script", "_law_cells"] []
  f_law_goal : Addr
  fd_law_goal : FuncData
  F_law_goal : Fun K "_law_goal" "_law_goal" s_law_goal f_law_goal fd_law_goal
  g_law_goal : mg "_law_goal" = some (.ref f_law_goal)
  b_law_goal : Binds K fd_law_goal ["_law_rough_here", "_law_to"] []
  f_law_number : Addr
  fd_law_number : FuncData
  F_law_number : Fun K "_law_number" "_law_number" s_law_number f_law_number fd_law_number
  g_law_number : mg "_law_number" = some (.ref f_law_number)
  b_law_number : Binds K fd_law_number ["_law_script", "_law_k"] []
  f_law_last : Addr
  fd_law_last : FuncData
  F_law_last : Fun K "_law_last" "_law_last" s_law_last f_law_last fd_law_last
  g_law_last : mg "_law_last" = some (.ref f_law_last)
  b_law_last : Binds K fd_law_last ["_law_rows", "_law_number_here"] []
  f_law_row : Addr
  fd_law_row : FuncData
  F_law_row : Fun K "_law_row" "_law_row" s_law_row f_law_row fd_law_row
  g_law_row : mg "_law_row" = some (.ref f_law_row)
  b_law_row : Binds K fd_law_row ["_law_cell_here", "_law_other", "_law_names_here", "_law_deeds_here"] []
  f_law_rough : Addr
  fd_law_rough : FuncData
  F_law_rough : Fun K "_law_rough" "_law_rough" s_law_rough f_law_rough fd_law_rough
  g_law_rough : mg "_law_rough" = some (.ref f_law_rough)
  b_law_rough : Binds K fd_law_rough ["_law_script", "_law_cells"] []
  f_law_stairs : Addr
  fd_law_stairs : FuncData
  F_law_stairs : Fun K "_law_stairs" "_law_stairs" s_law_stairs f_law_stairs fd_law_stairs
  g_law_stairs : mg "_law_stairs" = some (.ref f_law_stairs)
  b_law_stairs : Binds K fd_law_stairs ["_law_script", "_law_many"] []
  f_law_with_while : Addr
  fd_law_with_while : FuncData
  F_law_with_while : Fun K "_law_with_while" "_law_with_while" s_law_with_while f_law_with_while fd_law_with_while
  g_law_with_while : mg "_law_with_while" = some (.ref f_law_with_while)
  b_law_with_while : Binds K fd_law_with_while ["_law_rows", "_law_cell_here"] []
  f_law_with_else : Addr
  fd_law_with_else : FuncData
  F_law_with_else : Fun K "_law_with_else" "_law_with_else" s_law_with_else f_law_with_else fd_law_with_else
  g_law_with_else : mg "_law_with_else" = some (.ref f_law_with_else)
  b_law_with_else : Binds K fd_law_with_else ["_law_rows", "_law_cell_here"] []
  f_law_program : Addr
  fd_law_program : FuncData
  F_law_program : Fun K "_law_program" "_law_program" s_law_program f_law_program fd_law_program
  g_law_program : mg "_law_program" = some (.ref f_law_program)
  b_law_program : Binds K fd_law_program ["_law_script", "_law_cells"] []
  f_law_made : Addr
  fd_law_made : FuncData
  F_law_made : Fun K "_law_made" "_law_made" s_law_made f_law_made fd_law_made
  g_law_made : mg "_law_made" = some (.ref f_law_made)
  b_law_made : Binds K fd_law_made ["_law_script"] []
  f_law_far : Addr
  fd_law_far : FuncData
  F_law_far : Fun K "_law_far" "_law_far" s_law_far f_law_far fd_law_far
  g_law_far : mg "_law_far" = some (.ref f_law_far)
  b_law_far : Binds K fd_law_far ["_law_program_here"] []
  f_law_way : Addr
  fd_law_way : FuncData
  F_law_way : Fun K "_law_way" "_law_way" s_law_way f_law_way fd_law_way
  g_law_way : mg "_law_way" = some (.ref f_law_way)
  b_law_way : Binds K fd_law_way ["_law_program_here", "_law_script"] []
  f_followers : Addr
  fd_followers : FuncData
  F_followers : Fun K "followers" "followers" s_followers f_followers fd_followers
  g_followers : mg "followers" = some (.ref f_followers)
  b_followers : Binds K fd_followers ["program", "n"] []
  f_places : Addr
  fd_places : FuncData
  F_places : Fun K "places" "places" s_places f_places fd_places
  g_places : mg "places" = some (.ref f_places)
  b_places : Binds K fd_places ["program"] []
  f_ahead_of : Addr
  fd_ahead_of : FuncData
  F_ahead_of : Fun K "ahead_of" "ahead_of" s_ahead_of f_ahead_of fd_ahead_of
  g_ahead_of : mg "ahead_of" = some (.ref f_ahead_of)
  b_ahead_of : Binds K fd_ahead_of ["program"] []
  f_reckoning_of : Addr
  fd_reckoning_of : FuncData
  F_reckoning_of : Fun K "reckoning_of" "reckoning_of" s_reckoning_of f_reckoning_of fd_reckoning_of
  g_reckoning_of : mg "reckoning_of" = some (.ref f_reckoning_of)
  b_reckoning_of : Binds K fd_reckoning_of ["row"] []
  f_reckonings : Addr
  fd_reckonings : FuncData
  F_reckonings : Fun K "reckonings" "reckonings" s_reckonings f_reckonings fd_reckonings
  g_reckonings : mg "reckonings" = some (.ref f_reckonings)
  b_reckonings : Binds K fd_reckonings ["program"] []
  f_all_bits : Addr
  fd_all_bits : FuncData
  F_all_bits : Fun K "all_bits" "all_bits" s_all_bits f_all_bits fd_all_bits
  g_all_bits : mg "all_bits" = some (.ref f_all_bits)
  b_all_bits : Binds K fd_all_bits ["program"] []
  f_sets : Addr
  fd_sets : FuncData
  F_sets : Fun K "sets" "sets" s_sets f_sets fd_sets
  g_sets : mg "sets" = some (.ref f_sets)
  b_sets : Binds K fd_sets ["row"] []
  f_changes : Addr
  fd_changes : FuncData
  F_changes : Fun K "changes" "changes" s_changes f_changes fd_changes
  g_changes : mg "changes" = some (.ref f_changes)
  b_changes : Binds K fd_changes ["row", "reckoning"] []
  f_lost_bits : Addr
  fd_lost_bits : FuncData
  F_lost_bits : Fun K "lost_bits" "lost_bits" s_lost_bits f_lost_bits fd_lost_bits
  g_lost_bits : mg "lost_bits" = some (.ref f_lost_bits)
  b_lost_bits : Binds K fd_lost_bits ["program"] []
  f_own_bits : Addr
  fd_own_bits : FuncData
  F_own_bits : Fun K "own_bits" "own_bits" s_own_bits f_own_bits fd_own_bits
  g_own_bits : mg "own_bits" = some (.ref f_own_bits)
  b_own_bits : Binds K fd_own_bits ["program"] []
  f_left_by : Addr
  fd_left_by : FuncData
  F_left_by : Fun K "left_by" "left_by" s_left_by f_left_by fd_left_by
  g_left_by : mg "left_by" = some (.ref f_left_by)
  b_left_by : Binds K fd_left_by ["program"] []
  f_standing : Addr
  fd_standing : FuncData
  F_standing : Fun K "standing" "standing" s_standing f_standing fd_standing
  g_standing : mg "standing" = some (.ref f_standing)
  b_standing : Binds K fd_standing ["program"] []
  f_asked_by : Addr
  fd_asked_by : FuncData
  F_asked_by : Fun K "asked_by" "asked_by" s_asked_by f_asked_by fd_asked_by
  g_asked_by : mg "asked_by" = some (.ref f_asked_by)
  b_asked_by : Binds K fd_asked_by ["program"] []
  f_wanted : Addr
  fd_wanted : FuncData
  F_wanted : Fun K "wanted" "wanted" s_wanted f_wanted fd_wanted
  g_wanted : mg "wanted" = some (.ref f_wanted)
  b_wanted : Binds K fd_wanted ["program"] []
  f_law : Addr
  fd_law : FuncData
  F_law : Fun K "law" "law" s_law f_law fd_law
  g_law : mg "law" = some (.ref f_law)
  b_law : Binds K fd_law ["_law_script"] []
  z_enumerate : mg "enumerate" = none
  z_int : mg "int" = none
  z_len : mg "len" = none
  z_list : mg "list" = none
  z_max : mg "max" = none
  z_min : mg "min" = none
  z_range : mg "range" = none
  z_sum : mg "sum" = none
  tC : Addr
  tP : Addr
  hCd : fd_law_way.code = .ref tC
  hTb : Tbs.T K = [(tP, nmL)]
section
variable {P : Program} {w : World} {K : PySem.W.Frag} {mg : Str → Option Value} {base : Heap}
theorem ok_law_changes (T : Txt K mg) : FnOk P w K mg base CX0 1 T.f_law_changes T.fd_law_changes ["_law_row_here", "_law_deed"] (spM ⟨K, mg, P, w⟩ m_law_changes) :=
  fn_ok (N := n_law_changes) (b := b_law_changes) T.F_law_changes sc_law_changes fun cdv A outer s H E hr =>
    (sss_one (ss_ret (se_and (se_cmp (om_in (hu65 hr)) (se_ix (im_ix (hu65 hr)) (se_var 0) se_int (fun _ _ => rfl)) (se_tup (sa_cons (se_str q_reckon) (sa_cons (se_str q_copy) sa_nil))) rfl) (se_one (se_cmp (om_in (hu65 hr)) (se_ix (im_ix (hu65 hr)) (se_var 0) se_int (fun _ _ => rfl)) (se_sl slm (se_var 1) (so_some se_int) so_none) rfl)))))
theorem ok_law_has (T : Txt K mg) : FnOk P w K mg base CX0 1 T.f_law_has T.fd_law_has ["_law_row_here", "_law_deed"] (spM ⟨K, mg, P, w⟩ m_law_has) :=
  fn_ok (N := n_law_has) (b := b_law_has) T.F_law_has sc_law_has fun cdv A outer s H E hr =>
    (sss_one (ss_ret (se_and (se_cmp (om_eq (hu65 hr)) (se_ix (im_ix (hu65 hr)) (se_var 0) se_int (fun _ _ => rfl)) (se_str q_reckon) (nomark _)) (se_one (se_cmp (om_eq (hu65 hr)) (se_sl slm (se_var 0) (so_some se_int) so_none) (se_var 1) (nomark _))))))
theorem ok_law_ahead_right (T : Txt K mg) : FnOk P w K mg base CX0 2 T.f_law_ahead_right T.fd_law_ahead_right ["_law_program_here", "_law_deed", "_law_k", "_law_wants", "_law_way_here"] (spM ⟨K, mg, P, w⟩ m_law_ahead_right) :=
  fn_ok (N := n_law_ahead_right) (b := b_law_ahead_right) T.F_law_ahead_right sc_law_ahead_right fun cdv A outer s H E hr =>
    (sss_cons (ss_set (i := 5) sc_law_ahead_right.nd rfl (by first | exact Or.inl rfl | exact Or.inr rfl) se_bl) (sss_cons (ss_for PassesOwn.never rfl (si_rngD (by rfl) T.z_range (sa_cons (se_op om_sub (se_callB cm_len (by rfl) T.z_len bo_len (sa_cons (se_var 4) sa_nil)) se_int) (sa_cons (se_neg se_int) (sa_cons (se_neg se_int) sa_nil)))) (sg_name (i := 6) sc_law_ahead_right.nd rfl (by first | exact Or.inl rfl | exact Or.inr rfl)) (sss_cons (ss_set (i := 7) sc_law_ahead_right.nd rfl (by first | exact Or.inl rfl | exact Or.inr rfl) (se_ix (im_ix (hu65 hr)) (se_var 0) (se_ix (im_ix (hu65 hr)) (se_var 4) (se_var 6) (fun _ _ => rfl)) (fun _ _ => rfl))) (sss_cons (ss_if (st_tru (se_call (ok_law_has T) (hr.mono (by decide)) (by rfl) T.g_law_has T.F_law_has.kp T.b_law_has pass0 (sa_cons (se_var 7) (sa_cons (se_var 1) sa_nil)))) (sss_one (ss_set (i := 5) sc_law_ahead_right.nd rfl (by first | exact Or.inl rfl | exact Or.inr rfl) se_bl)) (sss_one (ss_if (st_tru (se_call (ok_law_changes T) (hr.mono (by decide)) (by rfl) T.g_law_changes T.F_law_changes.kp T.b_law_changes pass0 (sa_cons (se_var 7) (sa_cons (se_var 1) sa_nil)))) (sss_one (ss_set (i := 5) sc_law_ahead_right.nd rfl (by first | exact Or.inl rfl | exact Or.inr rfl) se_bl)) sss_nil))) (sss_cons (ss_set (i := 8) sc_law_ahead_right.nd rfl (by first | exact Or.inl rfl | exact Or.inr rfl) (se_tup (sa_cons (se_neg se_int) (sa_cons se_int sa_nil)))) (sss_cons (ss_if (st_cmp om_gt (se_var 6) se_int (nomark _)) (sss_one (ss_set (i := 8) sc_law_ahead_right.nd rfl (by first | exact Or.inl rfl | exact Or.inr rfl) (se_tup (sa_cons (se_ix (im_ix (hu65 hr)) (se_var 4) (se_op om_sub (se_var 6) se_int) (fun _ _ => rfl)) (sa_cons (se_ix (im_ix (hu65 hr)) (se_var 4) (se_var 6) (fun _ _ => rfl)) sa_nil))))) sss_nil) (sss_one (ss_if (st_w (sw_and (st_cmp (om_eq (hu65 hr)) (se_op om_and (se_op om_shr (se_ix (im_ix (hu65 hr)) (se_var 3) (se_var 8) (fun _ _ => rfl)) (se_var 2)) se_int) se_int (nomark _)) (sw_and1 (st_not (st_tru (se_var 5)))))) (sss_one (ss_ret se_bl)) sss_nil))))))) (sss_one (ss_ret se_bl))))
theorem ok_law_behind_right (T : Txt K mg) : FnOk P w K mg base CX0 2 T.f_law_behind_right T.fd_law_behind_right ["_law_program_here", "_law_deed", "_law_k", "_law_stood", "_law_way_here"] (spM ⟨K, mg, P, w⟩ m_law_behind_right) :=
  fn_ok (N := n_law_behind_right) (b := b_law_behind_right) T.F_law_behind_right sc_law_behind_right fun cdv A outer s H E hr =>
    (sss_cons (ss_set (i := 5) sc_law_behind_right.nd rfl (by first | exact Or.inl rfl | exact Or.inr rfl) se_bl) (sss_cons (ss_if (st_cmp (om_eq (hu65 hr)) (se_op om_and (se_op om_shr (se_ix (im_ix (hu65 hr)) (se_var 3) (se_tup (sa_cons (se_neg se_int) (sa_cons se_int sa_nil))) (fun _ _ => rfl)) (se_var 2)) se_int) se_int (nomark _)) (sss_one (ss_ret se_bl)) sss_nil) (sss_cons (ss_for PassesOwn.never rfl (si_rng2 (by rfl) T.z_range (sa_cons se_int (sa_cons (se_callB cm_len (by rfl) T.z_len bo_len (sa_cons (se_var 4) sa_nil)) sa_nil))) (sg_name (i := 6) sc_law_behind_right.nd rfl (by first | exact Or.inl rfl | exact Or.inr rfl)) (sss_cons (ss_set (i := 7) sc_law_behind_right.nd rfl (by first | exact Or.inl rfl | exact Or.inr rfl) (se_ix (im_ix (hu65 hr)) (se_var 0) (se_ix (im_ix (hu65 hr)) (se_var 4) (se_op om_sub (se_var 6) se_int) (fun _ _ => rfl)) (fun _ _ => rfl))) (sss_cons (ss_if (st_tru (se_call (ok_law_changes T) (hr.mono (by decide)) (by rfl) T.g_law_changes T.F_law_changes.kp T.b_law_changes pass0 (sa_cons (se_var 7) (sa_cons (se_var 1) sa_nil)))) (sss_one (ss_set (i := 5) sc_law_behind_right.nd rfl (by first | exact Or.inl rfl | exact Or.inr rfl) se_bl)) (sss_one (ss_if (st_tru (se_call (ok_law_has T) (hr.mono (by decide)) (by rfl) T.g_law_has T.F_law_has.kp T.b_law_has pass0 (sa_cons (se_var 7) (sa_cons (se_var 1) sa_nil)))) (sss_one (ss_set (i := 5) sc_law_behind_right.nd rfl (by first | exact Or.inl rfl | exact Or.inr rfl) se_bl)) sss_nil))) (sss_one (ss_if (st_w (sw_and (st_cmp (om_eq (hu65 hr)) (se_op om_and (se_op om_shr (se_ix (im_ix (hu65 hr)) (se_var 3) (se_tup (sa_cons (se_ix (im_ix (hu65 hr)) (se_var 4) (se_op om_sub (se_var 6) se_int) (fun _ _ => rfl)) (sa_cons (se_ix (im_ix (hu65 hr)) (se_var 4) (se_var 6) (fun _ _ => rfl)) sa_nil))) (fun _ _ => rfl)) (se_var 2)) se_int) se_int (nomark _)) (sw_and1 (st_not (st_tru (se_var 5)))))) (sss_one (ss_ret se_bl)) sss_nil))))) (sss_one (ss_ret se_bl)))))
theorem ok_law_known (T : Txt K mg) : FnOk P w K mg base CX0 1 T.f_law_known T.fd_law_known ["_law_program_here"] (spM ⟨K, mg, P, w⟩ m_law_known) :=
  fn_ok (N := n_law_known) (b := b_law_known) T.F_law_known sc_law_known fun cdv A outer s H E hr =>
    (sss_cons (ss_set (i := 1) sc_law_known.nd rfl (by first | exact Or.inl rfl | exact Or.inr rfl) (se_lst sa_nil)) (sss_cons (ss_for PassesOwn.never rfl (si_seq (se_var 0)) (sg_name (i := 2) sc_law_known.nd rfl (by first | exact Or.inl rfl | exact Or.inr rfl)) (sss_one (ss_if (st_w (sw_and (st_cmp (om_eq (hu65 hr)) (se_ix (im_ix (hu65 hr)) (se_var 2) se_int (fun _ _ => rfl)) (se_str q_reckon) (nomark _)) (sw_and1 (st_cmp (om_notin (hu65 hr)) (se_sl slm (se_var 2) (so_some se_int) so_none) (se_var 1) rfl)))) (sss_one (ss_expr (se_mt PySem.F.plainAttrs_list PySem.F.slot_list_append PySem.F.type_list_append mm_append ty_list (se_var 1) (sa_cons (se_sl slm (se_var 2) (so_some se_int) so_none) sa_nil)))) sss_nil))) (sss_one (ss_ret (se_var 1)))))
theorem ok_law_operand (T : Txt K mg) : FnOk P w K mg base CX0 1 T.f_law_operand T.fd_law_operand ["_law_cell_here", "_law_names_here"] (spM ⟨K, mg, P, w⟩ m_law_operand) :=
  fn_ok (N := n_law_operand) (b := b_law_operand) T.F_law_operand sc_law_operand fun cdv A outer s H E hr =>
    (sss_cons (ss_if (st_cmp (om_eq (hu65 hr)) (se_op om_mod (se_var 0) se_int) se_int (nomark _)) (sss_one (ss_ret (se_ix (im_ix (hu65 hr)) (se_lst (sa_cons se_int (sa_cons se_int (sa_cons (se_op om_sub (se_op om_pow se_int se_int) se_int) (sa_cons (se_op om_mod (se_op om_mul (se_op om_div (se_var 0) se_int) se_int) (se_op om_pow se_int se_int)) sa_nil))))) (se_op om_mod (se_op om_div (se_var 0) se_int) se_int) (fun _ _ => rfl)))) sss_nil) (sss_one (ss_ret (se_ix (im_ix (hu65 hr)) (se_var 1) (se_op om_mod (se_op om_div (se_var 0) se_int) (se_callB cm_len (by rfl) T.z_len bo_len (sa_cons (se_var 1) sa_nil))) (fun _ _ => rfl)))))
theorem ok_law_any_row (T : Txt K mg) : FnOk P w K mg base CX0 2 T.f_law_any_row T.fd_law_any_row ["_law_cell_here", "_law_n", "_law_many", "_law_names_here", "_law_deeds_here"] (spM ⟨K, mg, P, w⟩ m_law_any_row) :=
  fn_ok (N := n_law_any_row) (b := b_law_any_row) T.F_law_any_row sc_law_any_row fun cdv A outer s H E hr =>
    (sss_cons (ss_set (i := 5) sc_law_any_row.nd rfl (by first | exact Or.inl rfl | exact Or.inr rfl) (se_op om_mod (se_var 0) se_int)) (sss_cons (ss_set (i := 6) sc_law_any_row.nd rfl (by first | exact Or.inl rfl | exact Or.inr rfl) (se_op om_div (se_var 0) se_int)) (sss_cons (ss_if (st_cmp om_lt (se_var 5) se_int (nomark _)) (sss_cons (ss_asg (se_ix (im_ix (hu65 hr)) (se_var 4) (se_op om_mod (se_op om_div (se_var 6) (se_callB cm_len (by rfl) T.z_len bo_len (sa_cons (se_var 3) sa_nil))) (se_callB cm_len (by rfl) T.z_len bo_len (sa_cons (se_var 4) sa_nil))) (fun _ _ => rfl)) (sg_tup rfl (sgs_cons (sg_name (i := 7) sc_law_any_row.nd rfl (by first | exact Or.inl rfl | exact Or.inr rfl)) (sgs_cons (sg_name (i := 8) sc_law_any_row.nd rfl (by first | exact Or.inl rfl | exact Or.inr rfl)) (sgs_cons (sg_name (i := 9) sc_law_any_row.nd rfl (by first | exact Or.inl rfl | exact Or.inr rfl)) sgs_nil))))) (sss_one (ss_ret (se_tup (sa_cons (se_str q_reckon) (sa_cons (se_ix (im_ix (hu65 hr)) (se_var 3) (se_op om_mod (se_var 6) (se_callB cm_len (by rfl) T.z_len bo_len (sa_cons (se_var 3) sa_nil))) (fun _ _ => rfl)) (sa_cons (se_var 7) (sa_cons (se_var 8) (sa_cons (se_var 9) sa_nil))))))))) sss_nil) (sss_cons (ss_if (st_cmp om_lt (se_var 5) se_int (nomark _)) (sss_one (ss_ret (se_tup (sa_cons (se_str q_copy) (sa_cons (se_ix (im_ix (hu65 hr)) (se_var 3) (se_op om_mod (se_var 6) (se_callB cm_len (by rfl) T.z_len bo_len (sa_cons (se_var 3) sa_nil))) (fun _ _ => rfl)) (sa_cons (se_call (ok_law_operand T) (hr.mono (by decide)) (by rfl) T.g_law_operand T.F_law_operand.kp T.b_law_operand pass0 (sa_cons (se_op om_div (se_var 6) (se_callB cm_len (by rfl) T.z_len bo_len (sa_cons (se_var 3) sa_nil))) (sa_cons (se_var 3) sa_nil))) sa_nil)))))) sss_nil) (sss_cons (ss_if (st_cmp om_lt (se_var 5) se_int (nomark _)) (sss_one (ss_ret (se_tup (sa_cons (se_str q_say) (sa_cons (se_call (ok_law_operand T) (hr.mono (by decide)) (by rfl) T.g_law_operand T.F_law_operand.kp T.b_law_operand pass0 (sa_cons (se_var 6) (sa_cons (se_var 3) sa_nil))) sa_nil))))) sss_nil) (sss_cons (ss_if (st_w (sw_and (st_cmp om_lt (se_var 5) se_int (nomark _)) (sw_and1 (st_cmp om_gt (se_var 2) se_int (nomark _))))) (sss_one (ss_ret (se_tup (sa_cons (se_str q_part) (sa_cons (se_call (ok_law_operand T) (hr.mono (by decide)) (by rfl) T.g_law_operand T.F_law_operand.kp T.b_law_operand pass0 (sa_cons (se_op om_div (se_var 6) (se_op om_sub (se_var 2) se_int)) (sa_cons (se_var 3) sa_nil))) (sa_cons (se_op om_mod (se_op om_add (se_op om_add (se_var 1) se_int) (se_op om_mod (se_var 6) (se_op om_sub (se_var 2) se_int))) (se_var 2)) sa_nil)))))) sss_nil) (sss_cons (ss_if (st_cmp (om_eq (hu65 hr)) (se_var 5) se_int (nomark _)) (sss_one (ss_ret (se_tup (sa_cons (se_str q_go) (sa_cons (se_op om_mod (se_var 6) (se_var 2)) sa_nil))))) sss_nil) (sss_one (ss_ret (se_tup (sa_cons (se_str q_end) sa_nil)))))))))))
theorem ok_law_cell (T : Txt K mg) : FnOk P w K mg base CX0 1 T.f_law_cell T.fd_law_cell ["_law_script", "_law_k"] (spM ⟨K, mg, P, w⟩ m_law_cell) :=
  fn_ok (N := n_law_cell) (b := b_law_cell) T.F_law_cell sc_law_cell fun cdv A outer s H E hr =>
    (sss_cons (ss_if (st_cmp om_lt (se_var 1) (se_callB cm_len (by rfl) T.z_len bo_len (sa_cons (se_var 0) sa_nil)) (nomark _)) (sss_one (ss_ret (se_ix (im_ix (hu65 hr)) (se_var 0) (se_var 1) (fun _ _ => rfl)))) sss_nil) (sss_one (ss_ret (se_op om_add (se_op om_mul (se_var 1) se_int) se_int))))
theorem ok_law_is_free (T : Txt K mg) : FnOk P w K mg base CX0 2 T.f_law_is_free T.fd_law_is_free ["_law_script"] (spM ⟨K, mg, P, w⟩ m_law_is_free) :=
  fn_ok (N := n_law_is_free) (b := b_law_is_free) T.F_law_is_free sc_law_is_free fun cdv A outer s H E hr =>
    (sss_one (ss_ret (se_cmp (om_eq (hu65 hr)) (se_op om_mod (se_call (ok_law_cell T) (hr.mono (by decide)) (by rfl) T.g_law_cell T.F_law_cell.kp T.b_law_cell pass0 (sa_cons (se_var 0) (sa_cons se_int sa_nil))) se_int) se_int (nomark _))))
theorem ok_law_mixed (T : Txt K mg) : FnOk P w K mg base CX0 1 T.f_law_mixed T.fd_law_mixed ["_law_cell_here", "_law_k"] (spM ⟨K, mg, P, w⟩ m_law_mixed) :=
  fn_ok (N := n_law_mixed) (b := b_law_mixed) T.F_law_mixed sc_law_mixed fun cdv A outer s H E hr =>
    (sss_one (ss_ret (se_op om_mod (se_op om_mul (se_op om_add (se_op om_add (se_var 0) (se_op om_mul se_int (se_var 1))) se_int) se_int) se_int)))
theorem ok_law_deeds (T : Txt K mg) : FnOk P w K mg base CX0 3 T.f_law_deeds T.fd_law_deeds ["_law_script", "_law_names_here"] (spM ⟨K, mg, P, w⟩ m_law_deeds) :=
  fn_ok (N := n_law_deeds) (b := b_law_deeds) T.F_law_deeds sc_law_deeds fun cdv A outer s H E hr =>
    (sss_cons (ss_set (i := 2) sc_law_deeds.nd rfl (by first | exact Or.inl rfl | exact Or.inr rfl) (se_call (ok_law_cell T) (hr.mono (by decide)) (by rfl) T.g_law_cell T.F_law_cell.kp T.b_law_cell pass0 (sa_cons (se_var 0) (sa_cons se_int sa_nil)))) (sss_cons (ss_set (i := 3) sc_law_deeds.nd rfl (by first | exact Or.inl rfl | exact Or.inr rfl) (se_op om_add se_int (se_op om_mod (se_var 2) se_int))) (sss_cons (ss_if (st_cmp (om_eq (hu65 hr)) (se_op om_mod (se_op om_div (se_var 2) se_int) se_int) se_int (nomark _)) (sss_one (ss_set (i := 3) sc_law_deeds.nd rfl (by first | exact Or.inl rfl | exact Or.inr rfl) se_int)) sss_nil) (sss_cons (ss_set (i := 4) sc_law_deeds.nd rfl (by first | exact Or.inl rfl | exact Or.inr rfl) (se_op om_div (se_var 2) se_int)) (sss_cons (ss_set (i := 5) sc_law_deeds.nd rfl (by first | exact Or.inl rfl | exact Or.inr rfl) (se_lst sa_nil)) (sss_cons (ss_for PassesOwn.never rfl (si_rng1 (by rfl) T.z_range (sa_cons (se_var 3) sa_nil)) (sg_name (i := 6) sc_law_deeds.nd rfl (by first | exact Or.inl rfl | exact Or.inr rfl)) (sss_cons (ss_set (i := 7) sc_law_deeds.nd rfl (by first | exact Or.inl rfl | exact Or.inr rfl) (se_call (ok_law_mixed T) (hr.mono (by decide)) (by rfl) T.g_law_mixed T.F_law_mixed.kp T.b_law_mixed pass0 (sa_cons (se_var 4) (sa_cons (se_var 6) sa_nil)))) (sss_cons (ss_set (i := 8) sc_law_deeds.nd rfl (by first | exact Or.inl rfl | exact Or.inr rfl) (se_call (ok_law_mixed T) (hr.mono (by decide)) (by rfl) T.g_law_mixed T.F_law_mixed.kp T.b_law_mixed pass0 (sa_cons (se_var 4) (sa_cons (se_op om_add (se_var 6) se_int) sa_nil)))) (sss_cons (ss_set (i := 9) sc_law_deeds.nd rfl (by first | exact Or.inl rfl | exact Or.inr rfl) (se_op om_mod (se_call (ok_law_mixed T) (hr.mono (by decide)) (by rfl) T.g_law_mixed T.F_law_mixed.kp T.b_law_mixed pass0 (sa_cons (se_var 4) (sa_cons (se_op om_add (se_var 6) se_int) sa_nil))) se_int)) (sss_cons (ss_if (st_tru (se_call (ok_law_is_free T) (hr.mono (by decide)) (by rfl) T.g_law_is_free T.F_law_is_free.kp T.b_law_is_free pass0 (sa_cons (se_var 0) sa_nil))) (sss_cons (ss_set (i := 7) sc_law_deeds.nd rfl (by first | exact Or.inl rfl | exact Or.inr rfl) (se_op om_mod (se_var 4) (se_op om_pow se_int se_int))) (sss_cons (ss_set (i := 8) sc_law_deeds.nd rfl (by first | exact Or.inl rfl | exact Or.inr rfl) (se_op om_mod (se_op om_div (se_var 4) (se_op om_pow se_int se_int)) (se_op om_pow se_int se_int))) (sss_cons (ss_set (i := 9) sc_law_deeds.nd rfl (by first | exact Or.inl rfl | exact Or.inr rfl) (se_op om_mod (se_op om_div (se_var 4) (se_op om_pow se_int se_int)) se_int)) (sss_one (ss_set (i := 4) sc_law_deeds.nd rfl (by first | exact Or.inl rfl | exact Or.inr rfl) (se_op om_div (se_var 4) (se_op om_mul se_int (se_op om_pow se_int se_int)))))))) sss_nil) (sss_one (ss_expr (se_mt PySem.F.plainAttrs_list PySem.F.slot_list_append PySem.F.type_list_append mm_append ty_list (se_var 5) (sa_cons (se_tup (sa_cons (se_ix (im_ix (hu65 hr)) (se_str q_x10_) (se_var 9) (fun _ _ => rfl)) (sa_cons (se_call (ok_law_operand T) (hr.mono (by decide)) (by rfl) T.g_law_operand T.F_law_operand.kp T.b_law_operand pass0 (sa_cons (se_var 7) (sa_cons (se_var 1) sa_nil))) (sa_cons (se_call (ok_law_operand T) (hr.mono (by decide)) (by rfl) T.g_law_operand T.F_law_operand.kp T.b_law_operand pass0 (sa_cons (se_var 8) (sa_cons (se_var 1) sa_nil))) sa_nil)))) sa_nil))))))))) (sss_cons (ss_if (st_w (sw_and (st_cmp (om_eq (hu65 hr)) (se_callB cm_len (by rfl) T.z_len bo_len (sa_cons (se_var 5) sa_nil)) se_int (nomark _)) (sw_and1 (st_cmp (om_eq (hu65 hr)) (se_op om_mod (se_op om_div (se_var 2) se_int) se_int) se_int (nomark _))))) (sss_one (ss_asg (se_tup (sa_cons (se_ix (im_ix (hu65 hr)) (se_ix (im_ix (hu65 hr)) (se_var 5) se_int (fun _ _ => rfl)) se_int (fun _ _ => rfl)) (sa_cons (se_ix (im_ix (hu65 hr)) (se_ix (im_ix (hu65 hr)) (se_var 5) se_int (fun _ _ => rfl)) se_int (fun _ _ => rfl)) (sa_cons (se_ix (im_ix (hu65 hr)) (se_ix (im_ix (hu65 hr)) (se_var 5) se_int (fun _ _ => rfl)) se_int (fun _ _ => rfl)) sa_nil)))) (sg_sub (hu65 hr) (se_var 5) se_int))) sss_nil) (sss_one (ss_ret (se_var 5))))))))))
theorem ok_law_followers (T : Txt K mg) : FnOk P w K mg base CX0 1 T.f_law_followers T.fd_law_followers ["_law_program_here", "_law_n"] (spM ⟨K, mg, P, w⟩ m_law_followers) :=
  fn_ok (N := n_law_followers) (b := b_law_followers) T.F_law_followers sc_law_followers fun cdv A outer s H E hr =>
    (sss_cons (ss_set (i := 2) sc_law_followers.nd rfl (by first | exact Or.inl rfl | exact Or.inr rfl) (se_ix (im_ix (hu65 hr)) (se_var 0) (se_var 1) (fun _ _ => rfl))) (sss_cons (ss_if (st_cmp (om_eq (hu65 hr)) (se_ix (im_ix (hu65 hr)) (se_var 2) se_int (fun _ _ => rfl)) (se_str q_end) (nomark _)) (sss_one (ss_ret (se_lst sa_nil))) sss_nil) (sss_cons (ss_if (st_cmp (om_eq (hu65 hr)) (se_ix (im_ix (hu65 hr)) (se_var 2) se_int (fun _ _ => rfl)) (se_str q_go) (nomark _)) (sss_one (ss_ret (se_lst (sa_cons (se_ix (im_ix (hu65 hr)) (se_var 2) se_int (fun _ _ => rfl)) sa_nil)))) sss_nil) (sss_cons (ss_if (st_cmp (om_eq (hu65 hr)) (se_ix (im_ix (hu65 hr)) (se_var 2) se_int (fun _ _ => rfl)) (se_str q_part) (nomark _)) (sss_one (ss_ret (se_lst (sa_cons (se_op om_add (se_var 1) se_int) (sa_cons (se_ix (im_ix (hu65 hr)) (se_var 2) se_int (fun _ _ => rfl)) sa_nil))))) sss_nil) (sss_one (ss_ret (se_lst (sa_cons (se_op om_add (se_var 1) se_int) sa_nil))))))))
theorem ok_law_comes_to (T : Txt K mg) : FnOk P w K mg base CX0 2 T.f_law_comes_to T.fd_law_comes_to ["_law_rows", "_law_ahead"] (spM ⟨K, mg, P, w⟩ m_law_comes_to) :=
  fn_ok (N := n_law_comes_to) (b := b_law_comes_to) T.F_law_comes_to sc_law_comes_to fun cdv A outer s H E hr =>
    (sss_cons (ss_set (i := 2) sc_law_comes_to.nd rfl (by first | exact Or.inl rfl | exact Or.inr rfl) (se_dis (sps_cons se_int se_bl sps_nil) rfl rfl (List.cons_ne_nil _ _) (by decide))) (sss_cons (ss_if (st_not (st_tru (se_var 1))) (sss_cons (ss_set (i := 2) sc_law_comes_to.nd rfl (by first | exact Or.inl rfl | exact Or.inr rfl) se_newK) (sss_one (ss_for PassesOwn.never rfl (si_rng1 (by rfl) T.z_range (sa_cons (se_callB cm_len (by rfl) T.z_len bo_len (sa_cons (se_var 0) sa_nil)) sa_nil)) (sg_name (i := 3) sc_law_comes_to.nd rfl (by first | exact Or.inl rfl | exact Or.inr rfl)) (sss_one (ss_if (st_cmp (om_eq (hu65 hr)) (se_ix (im_ix (hu65 hr)) (se_ix (im_ix (hu65 hr)) (se_var 0) (se_var 3) (fun _ _ => rfl)) se_int (fun _ _ => rfl)) (se_str q_end) (nomark _)) (sss_one (ss_asg se_bl (sg_sub (hu65 hr) (se_var 2) (se_var 3)))) sss_nil))))) sss_nil) (sss_cons (ss_set (i := 4) sc_law_comes_to.nd rfl (by first | exact Or.inl rfl | exact Or.inr rfl) se_bl) (sss_cons (ss_while PassesOwn.never (st_tru (se_var 4)) (sss_cons (ss_set (i := 4) sc_law_comes_to.nd rfl (by first | exact Or.inl rfl | exact Or.inr rfl) se_bl) (sss_one (ss_for PassesOwn.never rfl (si_rng1 (by rfl) T.z_range (sa_cons (se_callB cm_len (by rfl) T.z_len bo_len (sa_cons (se_var 0) sa_nil)) sa_nil)) (sg_name (i := 3) sc_law_comes_to.nd rfl (by first | exact Or.inl rfl | exact Or.inr rfl)) (sss_one (ss_for PassesOwn.never rfl (si_seq (se_call (ok_law_followers T) (hr.mono (by decide)) (by rfl) T.g_law_followers T.F_law_followers.kp T.b_law_followers pass0 (sa_cons (se_var 0) (sa_cons (se_var 3) sa_nil)))) (sg_name (i := 5) sc_law_comes_to.nd rfl (by first | exact Or.inl rfl | exact Or.inr rfl)) (sss_cons (ss_asg (se_ix (im_ix (hu65 hr)) (se_lst (sa_cons (se_tup (sa_cons (se_var 5) (sa_cons (se_var 3) sa_nil))) (sa_cons (se_tup (sa_cons (se_var 3) (sa_cons (se_var 5) sa_nil))) sa_nil))) (se_callTy cm_int (by rfl) T.z_int bo_int (sa_cons (se_var 1) sa_nil)) (fun _ _ => rfl)) (sg_tup rfl (sgs_cons (sg_name (i := 6) sc_law_comes_to.nd rfl (by first | exact Or.inl rfl | exact Or.inr rfl)) (sgs_cons (sg_name (i := 7) sc_law_comes_to.nd rfl (by first | exact Or.inl rfl | exact Or.inr rfl)) sgs_nil)))) (sss_one (ss_if (st_w (sw_and (st_cmp (om_in (hu65 hr)) (se_var 6) (se_var 2) rfl) (sw_and1 (st_cmp (om_notin (hu65 hr)) (se_var 7) (se_var 2) rfl)))) (sss_cons (ss_asg se_bl (sg_sub (hu65 hr) (se_var 2) (se_var 7))) (sss_one (ss_set (i := 4) sc_law_comes_to.nd rfl (by first | exact Or.inl rfl | exact Or.inr rfl) se_bl))) sss_nil))))))))) (sss_one (ss_ret (se_var 2)))))))
theorem ok_law_mended (T : Txt K mg) : FnOk P w K mg base CX0 3 T.f_law_mended T.fd_law_mended ["_law_rows"] (spM ⟨K, mg, P, w⟩ m_law_mended) :=
  fn_ok (N := n_law_mended) (b := b_law_mended) T.F_law_mended sc_law_mended fun cdv A outer s H E hr =>
    (sss_cons (ss_set (i := 1) sc_law_mended.nd rfl (by first | exact Or.inl rfl | exact Or.inr rfl) (se_op om_sub (se_callB cm_len (by rfl) T.z_len bo_len (sa_cons (se_var 0) sa_nil)) se_int)) (sss_cons (ss_if (st_cmp (om_ne (hu65 hr)) (se_ix (im_ix (hu65 hr)) (se_ix (im_ix (hu65 hr)) (se_var 0) (se_var 1) (fun _ _ => rfl)) se_int (fun _ _ => rfl)) (se_str q_go) (nomark _)) (sss_one (ss_asg (se_tup (sa_cons (se_str q_end) sa_nil)) (sg_sub (hu65 hr) (se_var 0) (se_var 1)))) sss_nil) (sss_cons (ss_for PassesOwn.never rfl (si_rng1 (by rfl) T.z_range (sa_cons (se_op om_mul se_int (se_callB cm_len (by rfl) T.z_len bo_len (sa_cons (se_var 0) sa_nil))) sa_nil)) (sg_name (i := 2) sc_law_mended.nd rfl (by first | exact Or.inl rfl | exact Or.inr rfl)) (sss_cons (ss_set (i := 3) sc_law_mended.nd rfl (by first | exact Or.inl rfl | exact Or.inr rfl) (se_call (ok_law_comes_to T) (hr.mono (by decide)) (by rfl) T.g_law_comes_to T.F_law_comes_to.kp T.b_law_comes_to pass0 (sa_cons (se_var 0) (sa_cons se_bl sa_nil)))) (sss_cons (ss_set (i := 4) sc_law_mended.nd rfl (by first | exact Or.inl rfl | exact Or.inr rfl) (se_call (ok_law_comes_to T) (hr.mono (by decide)) (by rfl) T.g_law_comes_to T.F_law_comes_to.kp T.b_law_comes_to pass0 (sa_cons (se_var 0) (sa_cons se_bl sa_nil)))) (sss_cons (ss_setLc (i := 5) (own := [("_law_n", 6)]) rfl sc_law_mended.nd rfl rfl (sw_true rfl rfl rfl (by decide +kernel)) (si_rng1 (by rfl) T.z_range (sa_cons (se_callB cm_len (by rfl) T.z_len bo_len (sa_cons (se_var 0) sa_nil)) sa_nil)) (blkOk_by (own := [("_law_n", 6)]) (N := n_law_mended) (sc := defScope s_law_mended) (by decide +kernel)) (gonly_name (by decide)) (fun _ _ _ _ _ => pg_name (i := 6) sc_law_mended.nd rfl (by first | exact Or.inl rfl | exact Or.inr rfl)) (fun _ _ _ _ _ => sts_one (st_cmp (om_notin (hu65 hr)) (se_var 6) (se_var 3) rfl)) (fun _ _ _ _ _ => (se_var 6))) (sss_cons (ss_setLc (i := 7) (own := [("_law_n", 6)]) rfl sc_law_mended.nd rfl rfl (sw_true rfl rfl rfl (by decide +kernel)) (si_rng1 (by rfl) T.z_range (sa_cons (se_callB cm_len (by rfl) T.z_len bo_len (sa_cons (se_var 0) sa_nil)) sa_nil)) (blkOk_by (own := [("_law_n", 6)]) (N := n_law_mended) (sc := defScope s_law_mended) (by decide +kernel)) (gonly_name (by decide)) (fun _ _ _ _ _ => pg_name (i := 6) sc_law_mended.nd rfl (by first | exact Or.inl rfl | exact Or.inr rfl)) (fun _ _ _ _ _ => sts_one (st_cmp (om_notin (hu65 hr)) (se_var 6) (se_var 4) rfl)) (fun _ _ _ _ _ => (se_var 6))) (sss_one (ss_if (st_cmp (om_ne (hu65 hr)) (se_var 5) (se_lst sa_nil) (nomark _)) (sss_one (ss_asg (se_tup (sa_cons (se_str q_say) (sa_cons (se_var 2) sa_nil))) (sg_sub (hu65 hr) (se_var 0) (se_op om_sub (se_ix (im_ix (hu65 hr)) (se_var 5) se_int (fun _ _ => rfl)) se_int)))) (sss_one (ss_if (st_w (sw_and (st_cmp (om_ne (hu65 hr)) (se_var 7) (se_lst sa_nil) (nomark _)) (sw_and1 (st_cmp (om_eq (hu65 hr)) (se_ix (im_ix (hu65 hr)) (se_var 7) (se_neg se_int) (fun _ _ => rfl)) (se_var 1) (nomark _))))) (sss_one (ss_asg (se_tup (sa_cons (se_str q_end) sa_nil)) (sg_sub (hu65 hr) (se_var 0) (se_var 1)))) (sss_one (ss_if (st_cmp (om_ne (hu65 hr)) (se_var 7) (se_lst sa_nil) (nomark _)) (sss_one (ss_asg (se_tup (sa_cons (se_str q_say) (sa_cons (se_var 2) sa_nil))) (sg_sub (hu65 hr) (se_var 0) (se_ix (im_ix (hu65 hr)) (se_var 7) (se_neg se_int) (fun _ _ => rfl))))) (sss_one (ss_ret (se_var 0)))))))))))))) (sss_one (ss_ret (se_var 0))))))
theorem ok_law_names (T : Txt K mg) : FnOk P w K mg base CX0 2 T.f_law_names T.fd_law_names ["_law_cell_here"] (spM ⟨K, mg, P, w⟩ m_law_names) :=
  fn_ok (N := n_law_names) (b := b_law_names) T.F_law_names sc_law_names fun cdv A outer s H E hr =>
    (sss_cons (ss_set (i := 1) sc_law_names.nd rfl (by first | exact Or.inl rfl | exact Or.inr rfl) (se_str q_x5_abcdefghijkl)) (sss_cons (ss_set (i := 0) sc_law_names.nd rfl (by first | exact Or.inl rfl | exact Or.inr rfl) (se_call (ok_law_mixed T) (hr.mono (by decide)) (by rfl) T.g_law_mixed T.F_law_mixed.kp T.b_law_mixed pass0 (sa_cons (se_var 0) (sa_cons se_int sa_nil)))) (sss_cons (ss_set (i := 2) sc_law_names.nd rfl (by first | exact Or.inl rfl | exact Or.inr rfl) (se_op om_add se_int (se_op om_mod (se_var 0) se_int))) (sss_cons (ss_set (i := 3) sc_law_names.nd rfl (by first | exact Or.inl rfl | exact Or.inr rfl) (se_op om_mod (se_op om_div (se_var 0) se_int) (se_var 2))) (sss_cons (ss_set (i := 4) sc_law_names.nd rfl (by first | exact Or.inl rfl | exact Or.inr rfl) (se_lst sa_nil)) (sss_cons (ss_for PassesOwn.never rfl (si_rng1 (by rfl) T.z_range (sa_cons (se_op om_add se_int (se_op om_mod (se_op om_div (se_var 0) se_int) se_int)) sa_nil)) (sg_name (i := 5) sc_law_names.nd rfl (by first | exact Or.inl rfl | exact Or.inr rfl)) (sss_cons (ss_set (i := 6) sc_law_names.nd rfl (by first | exact Or.inl rfl | exact Or.inr rfl) (se_str q_x6_)) (sss_cons (ss_for PassesOwn.never rfl (si_rng1 (by rfl) T.z_range (sa_cons (se_var 2) sa_nil)) (sg_name (i := 7) sc_law_names.nd rfl (by first | exact Or.inl rfl | exact Or.inr rfl)) (sss_cons (ss_set (i := 8) sc_law_names.nd rfl (by first | exact Or.inl rfl | exact Or.inr rfl) (se_op om_add (se_op om_div (se_op om_div (se_var 0) se_int) (se_op om_add (se_var 7) se_int)) (se_op om_mul se_int (se_var 7)))) (sss_one (ss_if (st_w (sw_or (st_cmp (om_eq (hu65 hr)) (se_var 7) (se_var 3) (nomark _)) (sw_or1 (st_cmp (om_eq (hu65 hr)) (se_var 7) se_int (nomark _))))) (sss_one (ss_set (i := 6) sc_law_names.nd rfl (by first | exact Or.inl rfl | exact Or.inr rfl) (se_op om_add (se_var 6) (se_ix (im_ix (hu65 hr)) (se_var 1) (se_op om_mod (se_op om_add (se_var 8) (se_op om_mul (se_var 5) (se_callTy cm_int (by rfl) T.z_int bo_int (sa_cons (se_cmp (om_eq (hu65 hr)) (se_var 7) (se_var 3) (nomark _)) sa_nil)))) se_int) (fun _ _ => rfl))))) (sss_one (ss_set (i := 6) sc_law_names.nd rfl (by first | exact Or.inl rfl | exact Or.inr rfl) (se_op om_add (se_var 6) (se_ix (im_ix (hu65 hr)) (se_op om_add (se_var 1) (se_str q_x7_0123456789)) (se_op om_mod (se_var 8) se_int) (fun _ _ => rfl))))))))) (sss_cons (ss_if (st_cmp (om_in (hu65 hr)) (se_var 6) (se_tup (sa_cons (se_str q_say) (sa_cons (se_str q_go) (sa_cons (se_str q_part) (sa_cons (se_str q_end) sa_nil))))) rfl) (sss_one (ss_set (i := 6) sc_law_names.nd rfl (by first | exact Or.inl rfl | exact Or.inr rfl) (se_op om_add (se_var 6) (se_str q_x9_1)))) sss_nil) (sss_one (ss_expr (se_mt PySem.F.plainAttrs_list PySem.F.slot_list_append PySem.F.type_list_append mm_append ty_list (se_var 4) (sa_cons (se_var 6) sa_nil)))))))) (sss_one (ss_ret (se_var 4)))))))))
theorem ok_law_any_program (T : Txt K mg) : FnOk P w K mg base CX0 4 T.f_law_any_program T.fd_law_any_program ["_law_script", "_law_cells"] (spM ⟨K, mg, P, w⟩ m_law_any_program) :=
  fn_ok (N := n_law_any_program) (b := b_law_any_program) T.F_law_any_program sc_law_any_program fun cdv A outer s H E hr =>
    (sss_cons (ss_set (i := 2) sc_law_any_program.nd rfl (by first | exact Or.inl rfl | exact Or.inr rfl) (se_call (ok_law_names T) (hr.mono (by decide)) (by rfl) T.g_law_names T.F_law_names.kp T.b_law_names pass0 (sa_cons (se_call (ok_law_cell T) (hr.mono (by decide)) (by rfl) T.g_law_cell T.F_law_cell.kp T.b_law_cell pass0 (sa_cons (se_var 0) (sa_cons se_int sa_nil))) sa_nil))) (sss_cons (ss_set (i := 3) sc_law_any_program.nd rfl (by first | exact Or.inl rfl | exact Or.inr rfl) (se_call (ok_law_deeds T) (hr.mono (by decide)) (by rfl) T.g_law_deeds T.F_law_deeds.kp T.b_law_deeds pass0 (sa_cons (se_var 0) (sa_cons (se_var 2) sa_nil)))) (sss_cons (ss_set (i := 4) sc_law_any_program.nd rfl (by first | exact Or.inl rfl | exact Or.inr rfl) (se_callB (cm_max rfl) (by rfl) T.z_max bo_max (sa_cons se_int (sa_cons (se_callB cm_len (by rfl) T.z_len bo_len (sa_cons (se_var 1) sa_nil)) sa_nil)))) (sss_cons (ss_set (i := 5) sc_law_any_program.nd rfl (by first | exact Or.inl rfl | exact Or.inr rfl) (se_lst (sa_cons (se_tup (sa_cons (se_str q_end) sa_nil)) sa_nil))) (sss_cons (ss_if (st_cmp om_gt (se_callB cm_len (by rfl) T.z_len bo_len (sa_cons (se_var 1) sa_nil)) se_int (nomark _)) (sss_one (ss_setLc (i := 5) (own := [("_law_n", 6)]) rfl sc_law_any_program.nd rfl rfl (sw_true rfl rfl rfl (by decide +kernel)) (si_rng1 (by rfl) T.z_range (sa_cons (se_var 4) sa_nil)) (blkOk_by (own := [("_law_n", 6)]) (N := n_law_any_program) (sc := defScope s_law_any_program) (by decide +kernel)) (gonly_name (by decide)) (fun _ _ _ _ _ => pg_name (i := 6) sc_law_any_program.nd rfl (by first | exact Or.inl rfl | exact Or.inr rfl)) (fun _ _ _ _ _ => sts_nil) (fun _ _ _ _ _ => (se_call (ok_law_any_row T) (hr.mono (by decide)) (by rfl) T.g_law_any_row T.F_law_any_row.kp T.b_law_any_row pass0 (sa_cons (se_ix (im_ix (hu65 hr)) (se_var 1) (se_var 6) (fun _ _ => rfl)) (sa_cons (se_var 6) (sa_cons (se_var 4) (sa_cons (se_var 2) (sa_cons (se_var 3) sa_nil))))))))) sss_nil) (sss_one (ss_ret (se_call (ok_law_mended T) (hr.mono (by decide)) (by rfl) T.g_law_mended T.F_law_mended.kp T.b_law_mended pass0 (sa_cons (se_var 5) sa_nil)))))))))
theorem ok_law_goal (T : Txt K mg) : FnOk P w K mg base CX0 1 T.f_law_goal T.fd_law_goal ["_law_rough_here", "_law_to"] (spM ⟨K, mg, P, w⟩ m_law_goal) :=
  fn_ok (N := n_law_goal) (b := b_law_goal) T.F_law_goal sc_law_goal fun cdv A outer s H E hr =>
    (sss_cons (ss_set (i := 1) sc_law_goal.nd rfl (by first | exact Or.inl rfl | exact Or.inr rfl) (se_op om_mod (se_var 1) (se_callB cm_len (by rfl) T.z_len bo_len (sa_cons (se_var 0) sa_nil)))) (sss_cons (ss_while PassesOwn.never (st_cmp (om_eq (hu65 hr)) (se_ix (im_ix (hu65 hr)) (se_ix (im_ix (hu65 hr)) (se_var 0) (se_var 1) (fun _ _ => rfl)) se_int (fun _ _ => rfl)) (se_str q_go) (nomark _)) (sss_one (ss_set (i := 1) sc_law_goal.nd rfl (by first | exact Or.inl rfl | exact Or.inr rfl) (se_op om_sub (se_var 1) se_int)))) (sss_one (ss_ret (se_var 1)))))
theorem ok_law_number (T : Txt K mg) : FnOk P w K mg base CX0 3 T.f_law_number T.fd_law_number ["_law_script", "_law_k"] (spM ⟨K, mg, P, w⟩ m_law_number) :=
  fn_ok (N := n_law_number) (b := b_law_number) T.F_law_number sc_law_number fun cdv A outer s H E hr =>
    (sss_cons (ss_if (st_tru (se_call (ok_law_is_free T) (hr.mono (by decide)) (by rfl) T.g_law_is_free T.F_law_is_free.kp T.b_law_is_free pass0 (sa_cons (se_var 0) sa_nil))) (sss_one (ss_ret (se_call (ok_law_cell T) (hr.mono (by decide)) (by rfl) T.g_law_cell T.F_law_cell.kp T.b_law_cell pass0 (sa_cons (se_var 0) (sa_cons (se_var 1) sa_nil))))) sss_nil) (sss_one (ss_ret (se_call (ok_law_mixed T) (hr.mono (by decide)) (by rfl) T.g_law_mixed T.F_law_mixed.kp T.b_law_mixed pass0 (sa_cons (se_callB (cm_sum rfl) (by rfl) T.z_sum bo_sum (sa_cons (se_sl slm (se_var 0) so_none (so_some se_int)) sa_nil)) (sa_cons (se_var 1) sa_nil))))))
theorem ok_law_last (T : Txt K mg) : FnOk P w K mg base CX0 1 T.f_law_last T.fd_law_last ["_law_rows", "_law_number_here"] (spM ⟨K, mg, P, w⟩ m_law_last) :=
  fn_ok (N := n_law_last) (b := b_law_last) T.F_law_last sc_law_last fun cdv A outer s H E hr =>
    (sss_cons (ss_setLc (i := 2) (own := [("_law_n", 3)]) rfl sc_law_last.nd rfl rfl (sw_true rfl rfl rfl (by decide +kernel)) (si_rng1 (by rfl) T.z_range (sa_cons (se_callB cm_len (by rfl) T.z_len bo_len (sa_cons (se_var 0) sa_nil)) sa_nil)) (blkOk_by (own := [("_law_n", 3)]) (N := n_law_last) (sc := defScope s_law_last) (by decide +kernel)) (gonly_name (by decide)) (fun _ _ _ _ _ => pg_name (i := 3) sc_law_last.nd rfl (by first | exact Or.inl rfl | exact Or.inr rfl)) (fun _ _ _ _ _ => sts_one (st_cmp (om_eq (hu65 hr)) (se_ix (im_ix (hu65 hr)) (se_ix (im_ix (hu65 hr)) (se_var 0) (se_var 3) (fun _ _ => rfl)) se_int (fun _ _ => rfl)) (se_str q_end) (nomark _))) (fun _ _ _ _ _ => (se_var 3))) (sss_cons (ss_if (st_w (sw_or (st_cmp (om_eq (hu65 hr)) (se_var 2) (se_lst sa_nil) (nomark _)) (sw_or1 (st_cmp om_gt (se_op om_mod (se_var 1) se_int) se_int (nomark _))))) (sss_one (ss_ret (se_tup (sa_cons (se_str q_end) sa_nil)))) sss_nil) (sss_one (ss_ret (se_tup (sa_cons (se_str q_go) (sa_cons (se_op om_mod (se_op om_div (se_var 1) se_int) (se_ix (im_ix (hu65 hr)) (se_var 2) se_int (fun _ _ => rfl))) sa_nil)))))))
theorem ok_law_row (T : Txt K mg) : FnOk P w K mg base CX0 2 T.f_law_row T.fd_law_row ["_law_cell_here", "_law_other", "_law_names_here", "_law_deeds_here"] (spM ⟨K, mg, P, w⟩ m_law_row) :=
  fn_ok (N := n_law_row) (b := b_law_row) T.F_law_row sc_law_row fun cdv A outer s H E hr =>
    (sss_cons (ss_set (i := 4) sc_law_row.nd rfl (by first | exact Or.inl rfl | exact Or.inr rfl) (se_ix (im_ix (hu65 hr)) (se_var 2) (se_op om_mod (se_op om_mod (se_var 1) se_int) (se_callB cm_len (by rfl) T.z_len bo_len (sa_cons (se_var 2) sa_nil))) (fun _ _ => rfl))) (sss_cons (ss_set (i := 5) sc_law_row.nd rfl (by first | exact Or.inl rfl | exact Or.inr rfl) (se_call (ok_law_operand T) (hr.mono (by decide)) (by rfl) T.g_law_operand T.F_law_operand.kp T.b_law_operand pass0 (sa_cons (se_op om_div (se_var 1) se_int) (sa_cons (se_var 2) sa_nil)))) (sss_cons (ss_if (st_cmp om_lt (se_op om_mod (se_var 0) se_int) se_int (nomark _)) (sss_cons (ss_asg (se_ix (im_ix (hu65 hr)) (se_var 3) (se_op om_mod (se_op om_mod (se_op om_div (se_var 1) se_int) se_int) (se_callB cm_len (by rfl) T.z_len bo_len (sa_cons (se_var 3) sa_nil))) (fun _ _ => rfl)) (sg_tup rfl (sgs_cons (sg_name (i := 6) sc_law_row.nd rfl (by first | exact Or.inl rfl | exact Or.inr rfl)) (sgs_cons (sg_name (i := 7) sc_law_row.nd rfl (by first | exact Or.inl rfl | exact Or.inr rfl)) (sgs_cons (sg_name (i := 8) sc_law_row.nd rfl (by first | exact Or.inl rfl | exact Or.inr rfl)) sgs_nil))))) (sss_one (ss_ret (se_tup (sa_cons (se_str q_reckon) (sa_cons (se_var 4) (sa_cons (se_var 6) (sa_cons (se_var 7) (sa_cons (se_var 8) sa_nil))))))))) sss_nil) (sss_cons (ss_if (st_cmp (om_eq (hu65 hr)) (se_op om_mod (se_var 0) se_int) se_int (nomark _)) (sss_one (ss_ret (se_tup (sa_cons (se_str q_copy) (sa_cons (se_var 4) (sa_cons (se_var 5) sa_nil)))))) sss_nil) (sss_cons (ss_if (st_cmp (om_eq (hu65 hr)) (se_op om_mod (se_var 0) se_int) se_int (nomark _)) (sss_one (ss_ret (se_tup (sa_cons (se_str q_say) (sa_cons (se_var 5) sa_nil))))) sss_nil) (sss_cons (ss_if (st_cmp om_lt (se_op om_mod (se_var 0) se_int) se_int (nomark _)) (sss_one (ss_ret (se_tup (sa_cons (se_str q_part) (sa_cons (se_var 5) (sa_cons (se_op om_mod (se_op om_div (se_var 1) se_int) se_int) sa_nil)))))) sss_nil) (sss_one (ss_ret (se_tup (sa_cons (se_str q_part) (sa_cons (se_var 5) (sa_cons (se_neg se_int) sa_nil))))))))))))
theorem ok_law_rough (T : Txt K mg) : FnOk P w K mg base CX0 4 T.f_law_rough T.fd_law_rough ["_law_script", "_law_cells"] (spM ⟨K, mg, P, w⟩ m_law_rough) :=
  fn_ok (N := n_law_rough) (b := b_law_rough) T.F_law_rough sc_law_rough fun cdv A outer s H E hr =>
    (sss_cons (ss_set (i := 2) sc_law_rough.nd rfl (by first | exact Or.inl rfl | exact Or.inr rfl) (se_call (ok_law_names T) (hr.mono (by decide)) (by rfl) T.g_law_names T.F_law_names.kp T.b_law_names pass0 (sa_cons (se_call (ok_law_cell T) (hr.mono (by decide)) (by rfl) T.g_law_cell T.F_law_cell.kp T.b_law_cell pass0 (sa_cons (se_var 0) (sa_cons se_int sa_nil))) sa_nil))) (sss_cons (ss_set (i := 3) sc_law_rough.nd rfl (by first | exact Or.inl rfl | exact Or.inr rfl) (se_call (ok_law_deeds T) (hr.mono (by decide)) (by rfl) T.g_law_deeds T.F_law_deeds.kp T.b_law_deeds pass0 (sa_cons (se_var 0) (sa_cons (se_var 2) sa_nil)))) (sss_cons (ss_set (i := 4) sc_law_rough.nd rfl (by first | exact Or.inl rfl | exact Or.inr rfl) (se_lst sa_nil)) (sss_cons (ss_for PassesOwn.never rfl (si_enum (by rfl) T.z_enumerate (sa_cons (se_var 1) sa_nil)) (sg_tup rfl (sgs_cons (sg_name (i := 5) sc_law_rough.nd rfl (by first | exact Or.inl rfl | exact Or.inr rfl)) (sgs_cons (sg_name (i := 6) sc_law_rough.nd rfl (by first | exact Or.inl rfl | exact Or.inr rfl)) sgs_nil))) (sss_cons (ss_set (i := 7) sc_law_rough.nd rfl (by first | exact Or.inl rfl | exact Or.inr rfl) (se_call (ok_law_mixed T) (hr.mono (by decide)) (by rfl) T.g_law_mixed T.F_law_mixed.kp T.b_law_mixed pass0 (sa_cons (se_var 6) (sa_cons (se_var 5) sa_nil)))) (sss_cons (ss_expr (se_mt PySem.F.plainAttrs_list PySem.F.slot_list_append PySem.F.type_list_append mm_append ty_list (se_var 4) (sa_cons (se_call (ok_law_row T) (hr.mono (by decide)) (by rfl) T.g_law_row T.F_law_row.kp T.b_law_row pass0 (sa_cons (se_var 6) (sa_cons (se_var 7) (sa_cons (se_var 2) (sa_cons (se_var 3) sa_nil))))) sa_nil))) (sss_cons (ss_if (st_cmp (om_eq (hu65 hr)) (se_op om_mod (se_var 6) se_int) se_int (nomark _)) (sss_one (ss_expr (se_mt PySem.F.plainAttrs_list PySem.F.slot_list_append PySem.F.type_list_append mm_append ty_list (se_var 4) (sa_cons (se_tup (sa_cons (se_str q_end) sa_nil)) sa_nil)))) sss_nil) (sss_one (ss_if (st_cmp (om_eq (hu65 hr)) (se_op om_mod (se_var 6) se_int) se_int (nomark _)) (sss_one (ss_expr (se_mt PySem.F.plainAttrs_list PySem.F.slot_list_append PySem.F.type_list_append mm_append ty_list (se_var 4) (sa_cons (se_tup (sa_cons (se_str q_go) (sa_cons (se_op om_mod (se_op om_div (se_var 7) se_int) se_int) sa_nil))) sa_nil)))) sss_nil)))))) (sss_one (ss_ret (se_op om_add (se_var 4) (se_lst (sa_cons (se_call (ok_law_last T) (hr.mono (by decide)) (by rfl) T.g_law_last T.F_law_last.kp T.b_law_last pass0 (sa_cons (se_var 4) (sa_cons (se_call (ok_law_number T) (hr.mono (by decide)) (by rfl) T.g_law_number T.F_law_number.kp T.b_law_number pass0 (sa_cons (se_var 0) (sa_cons se_int sa_nil))) sa_nil))) sa_nil)))))))))
theorem ok_law_stairs (T : Txt K mg) : FnOk P w K mg base CX0 4 T.f_law_stairs T.fd_law_stairs ["_law_script", "_law_many"] (spM ⟨K, mg, P, w⟩ m_law_stairs) :=
  fn_ok (N := n_law_stairs) (b := b_law_stairs) T.F_law_stairs sc_law_stairs fun cdv A outer s H E hr =>
    (sss_cons (ss_set (i := 2) sc_law_stairs.nd rfl (by first | exact Or.inl rfl | exact Or.inr rfl) (se_call (ok_law_names T) (hr.mono (by decide)) (by rfl) T.g_law_names T.F_law_names.kp T.b_law_names pass0 (sa_cons (se_call (ok_law_cell T) (hr.mono (by decide)) (by rfl) T.g_law_cell T.F_law_cell.kp T.b_law_cell pass0 (sa_cons (se_var 0) (sa_cons se_int sa_nil))) sa_nil))) (sss_cons (ss_set (i := 3) sc_law_stairs.nd rfl (by first | exact Or.inl rfl | exact Or.inr rfl) (se_call (ok_law_deeds T) (hr.mono (by decide)) (by rfl) T.g_law_deeds T.F_law_deeds.kp T.b_law_deeds pass0 (sa_cons (se_var 0) (sa_cons (se_var 2) sa_nil)))) (sss_cons (ss_set (i := 4) sc_law_stairs.nd rfl (by first | exact Or.inl rfl | exact Or.inr rfl) (se_lst (sa_cons (se_tup (sa_cons (se_str q_go) (sa_cons (se_op om_sub (se_op om_mul se_int (se_var 1)) se_int) sa_nil))) sa_nil))) (sss_cons (ss_for PassesOwn.never rfl (si_rng1 (by rfl) T.z_range (sa_cons (se_var 1) sa_nil)) (sg_name (i := 5) sc_law_stairs.nd rfl (by first | exact Or.inl rfl | exact Or.inr rfl)) (sss_cons (ss_set (i := 6) sc_law_stairs.nd rfl (by first | exact Or.inl rfl | exact Or.inr rfl) (se_call (ok_law_cell T) (hr.mono (by decide)) (by rfl) T.g_law_cell T.F_law_cell.kp T.b_law_cell pass0 (sa_cons (se_var 0) (sa_cons (se_op om_add se_int (se_var 5)) sa_nil)))) (sss_cons (ss_expr (se_mt PySem.F.plainAttrs_list PySem.F.slot_list_append PySem.F.type_list_append mm_append ty_list (se_var 4) (sa_cons (se_call (ok_law_row T) (hr.mono (by decide)) (by rfl) T.g_law_row T.F_law_row.kp T.b_law_row pass0 (sa_cons (se_op om_add (se_op om_mul (se_op om_div (se_var 6) se_int) se_int) (se_op om_mod (se_var 6) se_int)) (sa_cons (se_call (ok_law_mixed T) (hr.mono (by decide)) (by rfl) T.g_law_mixed T.F_law_mixed.kp T.b_law_mixed pass0 (sa_cons (se_var 6) (sa_cons (se_var 5) sa_nil))) (sa_cons (se_var 2) (sa_cons (se_var 3) sa_nil))))) sa_nil))) (sss_one (ss_expr (se_mt PySem.F.plainAttrs_list PySem.F.slot_list_append PySem.F.type_list_append mm_append ty_list (se_var 4) (sa_cons (se_tup (sa_cons (se_str q_go) (sa_cons (se_op om_sub (se_op om_mul se_int (se_var 5)) se_int) sa_nil))) sa_nil))))))) (sss_cons (ss_asg (se_tup (sa_cons (se_str q_go) (sa_cons (se_op om_add (se_op om_mul se_int (se_var 1)) se_int) sa_nil))) (sg_sub (hu65 hr) (se_var 4) se_int)) (sss_one (ss_ret (se_op om_add (se_var 4) (se_lst (sa_cons (se_tup (sa_cons (se_str q_end) sa_nil)) sa_nil))))))))))
theorem ok_law_with_while (T : Txt K mg) : FnOk P w K mg base CX0 1 T.f_law_with_while T.fd_law_with_while ["_law_rows", "_law_cell_here"] (spM ⟨K, mg, P, w⟩ m_law_with_while) :=
  fn_ok (N := n_law_with_while) (b := b_law_with_while) T.F_law_with_while sc_law_with_while fun cdv A outer s H E hr =>
    (sss_cons (ss_setLc (i := 2) (own := [("_law_n", 3)]) rfl sc_law_with_while.nd rfl rfl (sw_true rfl rfl rfl (by decide +kernel)) (si_rng2 (by rfl) T.z_range (sa_cons se_int (sa_cons (se_callB cm_len (by rfl) T.z_len bo_len (sa_cons (se_var 0) sa_nil)) sa_nil))) (blkOk_by (own := [("_law_n", 3)]) (N := n_law_with_while) (sc := defScope s_law_with_while) (by decide +kernel)) (gonly_name (by decide)) (fun _ _ _ _ _ => pg_name (i := 3) sc_law_with_while.nd rfl (by first | exact Or.inl rfl | exact Or.inr rfl)) (fun _ _ _ _ _ => sts_one (st_cmp (om_in (hu65 hr)) (se_ix (im_ix (hu65 hr)) (se_ix (im_ix (hu65 hr)) (se_var 0) (se_var 3) (fun _ _ => rfl)) se_int (fun _ _ => rfl)) (se_tup (sa_cons (se_str q_reckon) (sa_cons (se_str q_copy) (sa_cons (se_str q_say) sa_nil)))) rfl)) (fun _ _ _ _ _ => (se_var 3))) (sss_cons (ss_if (st_w (sw_or (st_cmp (om_eq (hu65 hr)) (se_var 2) (se_lst sa_nil) (nomark _)) (sw_or1 (st_cmp (om_notin (hu65 hr)) (se_ix (im_ix (hu65 hr)) (se_ix (im_ix (hu65 hr)) (se_var 0) se_int (fun _ _ => rfl)) se_int (fun _ _ => rfl)) (se_tup (sa_cons (se_str q_reckon) (sa_cons (se_str q_copy) (sa_cons (se_str q_say) sa_nil)))) rfl)))) (sss_one (ss_ret (se_var 0))) sss_nil) (sss_cons (ss_set (i := 4) sc_law_with_while.nd rfl (by first | exact Or.inl rfl | exact Or.inr rfl) (se_ix (im_ix (hu65 hr)) (se_var 2) (se_op om_mod (se_op om_div (se_var 1) se_int) (se_callB cm_len (by rfl) T.z_len bo_len (sa_cons (se_var 2) sa_nil))) (fun _ _ => rfl))) (sss_cons (ss_asg (se_tup (sa_cons (se_str q_part) (sa_cons (se_ix (im_ix (hu65 hr)) (se_ix (im_ix (hu65 hr)) (se_var 0) (se_var 4) (fun _ _ => rfl)) se_int (fun _ _ => rfl)) (sa_cons se_int sa_nil)))) (sg_sub (hu65 hr) (se_var 0) (se_var 4))) (sss_cons (ss_asg (se_tup (sa_cons (se_str q_go) (sa_cons (se_var 4) sa_nil))) (sg_sub (hu65 hr) (se_var 0) se_int)) (sss_one (ss_ret (se_var 0))))))))
theorem ok_law_with_else (T : Txt K mg) : FnOk P w K mg base CX0 2 T.f_law_with_else T.fd_law_with_else ["_law_rows", "_law_cell_here"] (spM ⟨K, mg, P, w⟩ m_law_with_else) :=
  fn_ok (N := n_law_with_else) (b := b_law_with_else) T.F_law_with_else sc_law_with_else fun cdv A outer s H E hr =>
    (sss_cons (ss_setLc (i := 2) (own := [("_law_n", 3)]) rfl sc_law_with_else.nd rfl rfl (sw_true rfl rfl rfl (by decide +kernel)) (si_rng1 (by rfl) T.z_range (sa_cons (se_callB cm_len (by rfl) T.z_len bo_len (sa_cons (se_var 0) sa_nil)) sa_nil)) (blkOk_by (own := [("_law_n", 3)]) (N := n_law_with_else) (sc := defScope s_law_with_else) (by decide +kernel)) (gonly_name (by decide)) (fun _ _ _ _ _ => pg_name (i := 3) sc_law_with_else.nd rfl (by first | exact Or.inl rfl | exact Or.inr rfl)) (fun _ _ _ _ _ => sts_one (st_cmp (om_in (hu65 hr)) (se_ix (im_ix (hu65 hr)) (se_ix (im_ix (hu65 hr)) (se_var 0) (se_var 3) (fun _ _ => rfl)) se_int (fun _ _ => rfl)) (se_tup (sa_cons (se_str q_reckon) (sa_cons (se_str q_copy) (sa_cons (se_str q_say) sa_nil)))) rfl)) (fun _ _ _ _ _ => (se_var 3))) (sss_cons (ss_if (st_cmp (om_eq (hu65 hr)) (se_op om_mod (se_var 1) se_int) se_int (nomark _)) (sss_one (ss_ret (se_call (ok_law_with_while T) (hr.mono (by decide)) (by rfl) T.g_law_with_while T.F_law_with_while.kp T.b_law_with_while pass0 (sa_cons (se_var 0) (sa_cons (se_var 1) sa_nil))))) sss_nil) (sss_cons (ss_if (st_w (sw_or (st_cmp om_lt (se_callB cm_len (by rfl) T.z_len bo_len (sa_cons (se_var 2) sa_nil)) se_int (nomark _)) (sw_or1 (st_cmp (om_eq (hu65 hr)) (se_op om_mod (se_var 1) se_int) se_int (nomark _))))) (sss_one (ss_ret (se_var 0))) sss_nil) (sss_cons (ss_set (i := 4) sc_law_with_else.nd rfl (by first | exact Or.inl rfl | exact Or.inr rfl) (se_ix (im_ix (hu65 hr)) (se_var 2) (se_op om_mod (se_op om_div (se_var 1) se_int) (se_op om_sub (se_callB cm_len (by rfl) T.z_len bo_len (sa_cons (se_var 2) sa_nil)) se_int)) (fun _ _ => rfl))) (sss_cons (ss_setLc (i := 5) (own := [("_law_n", 3)]) rfl sc_law_with_else.nd rfl rfl (sw_true rfl rfl rfl (by decide +kernel)) (si_seq (se_var 2)) (blkOk_by (own := [("_law_n", 3)]) (N := n_law_with_else) (sc := defScope s_law_with_else) (by decide +kernel)) (gonly_name (by decide)) (fun _ _ _ _ _ => pg_name (i := 3) sc_law_with_else.nd rfl (by first | exact Or.inl rfl | exact Or.inr rfl)) (fun _ _ _ _ _ => sts_one (st_cmp om_gt (se_var 3) (se_var 4) (nomark _))) (fun _ _ _ _ _ => (se_var 3))) (sss_cons (ss_set (i := 6) sc_law_with_else.nd rfl (by first | exact Or.inl rfl | exact Or.inr rfl) (se_ix (im_ix (hu65 hr)) (se_var 5) (se_op om_mod (se_op om_div (se_var 1) se_int) (se_callB cm_len (by rfl) T.z_len bo_len (sa_cons (se_var 5) sa_nil))) (fun _ _ => rfl))) (sss_cons (ss_set (i := 7) sc_law_with_else.nd rfl (by first | exact Or.inl rfl | exact Or.inr rfl) (se_op om_mod (se_op om_div (se_var 1) se_int) (se_callB cm_len (by rfl) T.z_len bo_len (sa_cons (se_var 0) sa_nil)))) (sss_cons (ss_if (st_cmp (om_eq (hu65 hr)) (se_ix (im_ix (hu65 hr)) (se_ix (im_ix (hu65 hr)) (se_var 0) (se_neg se_int) (fun _ _ => rfl)) se_int (fun _ _ => rfl)) (se_str q_go) (nomark _)) (sss_one (ss_set (i := 7) sc_law_with_else.nd rfl (by first | exact Or.inl rfl | exact Or.inr rfl) (se_op om_mod (se_var 7) (se_op om_add (se_var 4) se_int)))) sss_nil) (sss_cons (ss_if (st_chain om_lt om_le (se_var 4) (se_var 7) (se_var 6)) (sss_one (ss_set (i := 7) sc_law_with_else.nd rfl (by first | exact Or.inl rfl | exact Or.inr rfl) (se_op om_add (se_var 6) se_int))) sss_nil) (sss_cons (ss_if (st_cmp (om_eq (hu65 hr)) (se_ix (im_ix (hu65 hr)) (se_ix (im_ix (hu65 hr)) (se_var 0) (se_var 7) (fun _ _ => rfl)) se_int (fun _ _ => rfl)) (se_str q_go) (nomark _)) (sss_one (ss_set (i := 7) sc_law_with_else.nd rfl (by first | exact Or.inl rfl | exact Or.inr rfl) se_int)) sss_nil) (sss_cons (ss_asg (se_tup (sa_cons (se_str q_part) (sa_cons (se_ix (im_ix (hu65 hr)) (se_ix (im_ix (hu65 hr)) (se_var 0) (se_var 4) (fun _ _ => rfl)) se_int (fun _ _ => rfl)) (sa_cons (se_op om_add (se_var 6) se_int) sa_nil)))) (sg_sub (hu65 hr) (se_var 0) (se_var 4))) (sss_cons (ss_asg (se_tup (sa_cons (se_str q_go) (sa_cons (se_var 7) sa_nil))) (sg_sub (hu65 hr) (se_var 0) (se_var 6))) (sss_one (ss_ret (se_var 0)))))))))))))))
theorem ok_law_program (T : Txt K mg) : FnOk P w K mg base CX0 5 T.f_law_program T.fd_law_program ["_law_script", "_law_cells"] (spM ⟨K, mg, P, w⟩ m_law_program) :=
  fn_ok (N := n_law_program) (b := b_law_program) T.F_law_program sc_law_program fun cdv A outer s H E hr =>
    (sss_cons (ss_if (st_tru (se_call (ok_law_is_free T) (hr.mono (by decide)) (by rfl) T.g_law_is_free T.F_law_is_free.kp T.b_law_is_free pass0 (sa_cons (se_var 0) sa_nil))) (sss_one (ss_ret (se_call (ok_law_any_program T) (hr.mono (by decide)) (by rfl) T.g_law_any_program T.F_law_any_program.kp T.b_law_any_program pass0 (sa_cons (se_var 0) (sa_cons (se_var 1) sa_nil))))) sss_nil) (sss_cons (ss_set (i := 2) sc_law_program.nd rfl (by first | exact Or.inl rfl | exact Or.inr rfl) (se_call (ok_law_number T) (hr.mono (by decide)) (by rfl) T.g_law_number T.F_law_number.kp T.b_law_number pass0 (sa_cons (se_var 0) (sa_cons se_int sa_nil)))) (sss_cons (ss_if (st_cmp (om_eq (hu65 hr)) (se_op om_mod (se_var 2) se_int) se_int (nomark _)) (sss_one (ss_ret (se_call (ok_law_stairs T) (hr.mono (by decide)) (by rfl) T.g_law_stairs T.F_law_stairs.kp T.b_law_stairs pass0 (sa_cons (se_var 0) (sa_cons (se_op om_add se_int (se_op om_mod (se_op om_div (se_var 2) se_int) se_int)) sa_nil))))) sss_nil) (sss_cons (ss_set (i := 3) sc_law_program.nd rfl (by first | exact Or.inl rfl | exact Or.inr rfl) (se_call (ok_law_rough T) (hr.mono (by decide)) (by rfl) T.g_law_rough T.F_law_rough.kp T.b_law_rough pass0 (sa_cons (se_var 0) (sa_cons (se_var 1) sa_nil)))) (sss_cons (ss_set (i := 4) sc_law_program.nd rfl (by first | exact Or.inl rfl | exact Or.inr rfl) (se_lst sa_nil)) (sss_cons (ss_for PassesOwn.never rfl (si_enum (by rfl) T.z_enumerate (sa_cons (se_var 3) sa_nil)) (sg_tup rfl (sgs_cons (sg_name (i := 5) sc_law_program.nd rfl (by first | exact Or.inl rfl | exact Or.inr rfl)) (sgs_cons (sg_name (i := 6) sc_law_program.nd rfl (by first | exact Or.inl rfl | exact Or.inr rfl)) sgs_nil))) (sss_cons (ss_if (st_w (sw_and (st_cmp (om_eq (hu65 hr)) (se_ix (im_ix (hu65 hr)) (se_var 6) se_int (fun _ _ => rfl)) (se_str q_part) (nomark _)) (sw_and1 (st_cmp (om_eq (hu65 hr)) (se_ix (im_ix (hu65 hr)) (se_var 6) se_int (fun _ _ => rfl)) (se_neg se_int) (nomark _))))) (sss_one (ss_set (i := 6) sc_law_program.nd rfl (by first | exact Or.inl rfl | exact Or.inr rfl) (se_tup (sa_cons (se_str q_part) (sa_cons (se_ix (im_ix (hu65 hr)) (se_var 6) se_int (fun _ _ => rfl)) (sa_cons (se_op om_add (se_var 5) se_int) sa_nil)))))) (sss_one (ss_if (st_w (sw_and (st_cmp (om_eq (hu65 hr)) (se_ix (im_ix (hu65 hr)) (se_var 6) se_int (fun _ _ => rfl)) (se_str q_part) (nomark _)) (sw_and1 (st_cmp (om_eq (hu65 hr)) (se_op om_mod (se_ix (im_ix (hu65 hr)) (se_var 6) se_int (fun _ _ => rfl)) (se_callB cm_len (by rfl) T.z_len bo_len (sa_cons (se_var 3) sa_nil))) (se_op om_add (se_var 5) se_int) (nomark _))))) (sss_one (ss_set (i := 6) sc_law_program.nd rfl (by first | exact Or.inl rfl | exact Or.inr rfl) (se_tup (sa_cons (se_str q_part) (sa_cons (se_ix (im_ix (hu65 hr)) (se_var 6) se_int (fun _ _ => rfl)) (sa_cons (se_var 5) sa_nil)))))) (sss_one (ss_if (st_cmp (om_eq (hu65 hr)) (se_ix (im_ix (hu65 hr)) (se_var 6) se_int (fun _ _ => rfl)) (se_str q_part) (nomark _)) (sss_one (ss_set (i := 6) sc_law_program.nd rfl (by first | exact Or.inl rfl | exact Or.inr rfl) (se_tup (sa_cons (se_str q_part) (sa_cons (se_ix (im_ix (hu65 hr)) (se_var 6) se_int (fun _ _ => rfl)) (sa_cons (se_op om_mod (se_ix (im_ix (hu65 hr)) (se_var 6) se_int (fun _ _ => rfl)) (se_callB cm_len (by rfl) T.z_len bo_len (sa_cons (se_var 3) sa_nil))) sa_nil)))))) (sss_one (ss_if (st_cmp (om_eq (hu65 hr)) (se_ix (im_ix (hu65 hr)) (se_var 6) se_int (fun _ _ => rfl)) (se_str q_go) (nomark _)) (sss_one (ss_set (i := 6) sc_law_program.nd rfl (by first | exact Or.inl rfl | exact Or.inr rfl) (se_tup (sa_cons (se_str q_go) (sa_cons (se_call (ok_law_goal T) (hr.mono (by decide)) (by rfl) T.g_law_goal T.F_law_goal.kp T.b_law_goal pass0 (sa_cons (se_var 3) (sa_cons (se_ix (im_ix (hu65 hr)) (se_var 6) se_int (fun _ _ => rfl)) sa_nil))) sa_nil))))) sss_nil))))))) (sss_one (ss_expr (se_mt PySem.F.plainAttrs_list PySem.F.slot_list_append PySem.F.type_list_append mm_append ty_list (se_var 4) (sa_cons (se_var 6) sa_nil)))))) (sss_one (ss_ret (se_call (ok_law_with_else T) (hr.mono (by decide)) (by rfl) T.g_law_with_else T.F_law_with_else.kp T.b_law_with_else pass0 (sa_cons (se_var 4) (sa_cons (se_call (ok_law_number T) (hr.mono (by decide)) (by rfl) T.g_law_number T.F_law_number.kp T.b_law_number pass0 (sa_cons (se_var 0) (sa_cons se_int sa_nil))) sa_nil)))))))))))
theorem ok_law_made (T : Txt K mg) : FnOk P w K mg base CX0 6 T.f_law_made T.fd_law_made ["_law_script"] (spM ⟨K, mg, P, w⟩ m_law_made) :=
  fn_ok (N := n_law_made) (b := b_law_made) T.F_law_made sc_law_made fun cdv A outer s H E hr =>
    (sss_one (ss_ret (se_call (ok_law_program T) (hr.mono (by decide)) (by rfl) T.g_law_program T.F_law_program.kp T.b_law_program pass0 (sa_cons (se_var 0) (sa_cons (se_sl slm (se_var 0) (so_some se_int) (so_some se_int)) sa_nil)))))
theorem ok_law_far (T : Txt K mg) : FnOk P w K mg base CX0 2 T.f_law_far T.fd_law_far ["_law_program_here"] (spM ⟨K, mg, P, w⟩ m_law_far) :=
  fn_ok (N := n_law_far) (b := b_law_far) T.F_law_far sc_law_far fun cdv A outer s H E hr =>
    (sss_cons (ss_setLc (i := 1) (own := [("_law_row_here", 2)]) rfl sc_law_far.nd rfl rfl (sw_true rfl rfl rfl (by decide +kernel)) (si_seq (se_var 0)) (blkOk_by (own := [("_law_row_here", 2)]) (N := n_law_far) (sc := defScope s_law_far) (by decide +kernel)) (gonly_name (by decide)) (fun _ _ _ _ _ => pg_name (i := 2) sc_law_far.nd rfl (by first | exact Or.inl rfl | exact Or.inr rfl)) (fun _ _ _ _ _ => sts_nil) (fun _ _ _ _ _ => (se_op om_mul (se_callB cm_len (by rfl) T.z_len bo_len (sa_cons (se_var 0) sa_nil)) (se_callTy cm_int (by rfl) T.z_int bo_int (sa_cons (se_cmp (om_ne (hu65 hr)) (se_ix (im_ix (hu65 hr)) (se_var 2) se_int (fun _ _ => rfl)) (se_str q_end) (nomark _)) sa_nil))))) (sss_cons (ss_for PassesOwn.never rfl (si_seq (se_var 0)) (sg_name (i := 3) sc_law_far.nd rfl (by first | exact Or.inl rfl | exact Or.inr rfl)) (sss_one (ss_for PassesOwn.never rfl (si_rng1 (by rfl) T.z_range (sa_cons (se_callB cm_len (by rfl) T.z_len bo_len (sa_cons (se_var 0) sa_nil)) sa_nil)) (sg_name (i := 4) sc_law_far.nd rfl (by first | exact Or.inl rfl | exact Or.inr rfl)) (sss_one (ss_for PassesOwn.never rfl (si_seq (se_call (ok_law_followers T) (hr.mono (by decide)) (by rfl) T.g_law_followers T.F_law_followers.kp T.b_law_followers pass0 (sa_cons (se_var 0) (sa_cons (se_var 4) sa_nil)))) (sg_name (i := 5) sc_law_far.nd rfl (by first | exact Or.inl rfl | exact Or.inr rfl)) (sss_one (ss_asg (se_callB (cm_min rfl) (by rfl) T.z_min bo_min (sa_cons (se_ix (im_ix (hu65 hr)) (se_var 1) (se_var 4) (fun _ _ => rfl)) (sa_cons (se_op om_add (se_ix (im_ix (hu65 hr)) (se_var 1) (se_var 5) (fun _ _ => rfl)) se_int) sa_nil))) (sg_sub (hu65 hr) (se_var 1) (se_var 4))))))))) (sss_one (ss_ret (se_var 1)))))
theorem ok_law_way (T : Txt K mg) (TB : LamX.TabB base mg T.tC T.tP) : FnOk P w K mg base CX0 3 T.f_law_way T.fd_law_way ["_law_program_here", "_law_script"] (spM ⟨K, mg, P, w⟩ m_law_way) :=
  fn_okL (N := n_law_way) (b := b_law_way) T.F_law_way sc_law_way fun cdv A outer s H E hcd hr =>
    (sss_cons (ss_set (i := 2) sc_law_way.nd rfl (by first | exact Or.inl rfl | exact Or.inr rfl) (se_call (ok_law_far T) (hr.mono (by decide)) (by rfl) T.g_law_far T.F_law_far.kp T.b_law_far pass0 (sa_cons (se_var 0) sa_nil))) (sss_cons (ss_set (i := 3) sc_law_way.nd rfl (by first | exact Or.inl rfl | exact Or.inr rfl) (se_call (ok_law_cell T) (hr.mono (by decide)) (by rfl) T.g_law_cell T.F_law_cell.kp T.b_law_cell pass0 (sa_cons (se_var 1) (sa_cons se_int sa_nil)))) (sss_cons (ss_set (i := 4) sc_law_way.nd rfl (by first | exact Or.inl rfl | exact Or.inr rfl) (se_lst (sa_cons se_int sa_nil))) (sss_cons (ss_while PassesOwn.never (st_cmp (om_ne (hu65 hr)) (se_ix (im_ix (hu65 hr)) (se_ix (im_ix (hu65 hr)) (se_var 0) (se_ix (im_ix (hu65 hr)) (se_var 4) (se_neg se_int) (fun _ _ => rfl)) (fun _ _ => rfl)) se_int (fun _ _ => rfl)) (se_str q_end) (nomark _)) (sss_cons (ss_set (i := 5) sc_law_way.nd rfl (by first | exact Or.inl rfl | exact Or.inr rfl) (se_call (ok_law_followers T) (hr.mono (by decide)) (by rfl) T.g_law_followers T.F_law_followers.kp T.b_law_followers pass0 (sa_cons (se_var 0) (sa_cons (se_ix (im_ix (hu65 hr)) (se_var 4) (se_neg se_int) (fun _ _ => rfl)) sa_nil)))) (sss_cons (ss_set (i := 6) sc_law_way.nd rfl (by first | exact Or.inl rfl | exact Or.inr rfl) (se_op om_mod (se_op om_div (se_call (ok_law_mixed T) (hr.mono (by decide)) (by rfl) T.g_law_mixed T.F_law_mixed.kp T.b_law_mixed pass0 (sa_cons (se_call (ok_law_cell T) (hr.mono (by decide)) (by rfl) T.g_law_cell T.F_law_cell.kp T.b_law_cell pass0 (sa_cons (se_var 1) (sa_cons (se_op om_add se_int (se_callB cm_len (by rfl) T.z_len bo_len (sa_cons (se_var 4) sa_nil))) sa_nil))) (sa_cons (se_callB cm_len (by rfl) T.z_len bo_len (sa_cons (se_var 4) sa_nil)) sa_nil))) se_int) (se_callB cm_len (by rfl) T.z_len bo_len (sa_cons (se_var 5) sa_nil)))) (sss_cons (ss_if (st_tru (se_call (ok_law_is_free T) (hr.mono (by decide)) (by rfl) T.g_law_is_free T.F_law_is_free.kp T.b_law_is_free pass0 (sa_cons (se_var 1) sa_nil))) (sss_cons (ss_set (i := 6) sc_law_way.nd rfl (by first | exact Or.inl rfl | exact Or.inr rfl) (se_op om_mod (se_var 3) (se_callB cm_len (by rfl) T.z_len bo_len (sa_cons (se_var 5) sa_nil)))) (sss_one (ss_set (i := 3) sc_law_way.nd rfl (by first | exact Or.inl rfl | exact Or.inr rfl) (se_op om_div (se_var 3) (se_callB cm_len (by rfl) T.z_len bo_len (sa_cons (se_var 5) sa_nil)))))) sss_nil) (sss_one (ss_if (st_cmp om_le (se_callB cm_len (by rfl) T.z_len bo_len (sa_cons (se_var 4) sa_nil)) se_int (nomark _)) (sss_one (ss_expr (se_mt PySem.F.plainAttrs_list PySem.F.slot_list_append PySem.F.type_list_append mm_append ty_list (se_var 4) (sa_cons (se_ix (im_ix (hu65 hr)) (se_var 5) (se_var 6) (fun _ _ => rfl)) sa_nil)))) (sss_one (ss_expr (se_mt PySem.F.plainAttrs_list PySem.F.slot_list_append PySem.F.type_list_append mm_append ty_list (se_var 4) (sa_cons (se_minKey (se_var 5) (by rfl) T.z_min bo_min ⟨rfl, rfl, rfl, rfl, by decide, rfl⟩ TB (hcd.trans T.hCd) T.hTb (by rfl) (fun _ _ _ _ _ _ _ => rfl) (by rfl) hr) sa_nil)))))))))) (sss_one (ss_ret (se_var 4)))))))
theorem ok_followers (T : Txt K mg) : FnOk P w K mg base CX0 1 T.f_followers T.fd_followers ["program", "n"] (spM ⟨K, mg, P, w⟩ m_followers) :=
  fn_ok (N := n_followers) (b := b_followers) T.F_followers sc_followers fun cdv A outer s H E hr =>
    (sss_cons (ss_set (i := 2) sc_followers.nd rfl (by first | exact Or.inl rfl | exact Or.inr rfl) (se_ix (im_ix (hu65 hr)) (se_var 0) (se_var 1) (fun _ _ => rfl))) (sss_cons (ss_if (st_cmp (om_eq (hu65 hr)) (se_ix (im_ix (hu65 hr)) (se_var 2) se_int (fun _ _ => rfl)) (se_str q_go) (nomark _)) (sss_one (ss_ret (se_lst (sa_cons (se_ix (im_ix (hu65 hr)) (se_var 2) se_int (fun _ _ => rfl)) sa_nil)))) sss_nil) (sss_cons (ss_if (st_cmp (om_eq (hu65 hr)) (se_ix (im_ix (hu65 hr)) (se_var 2) se_int (fun _ _ => rfl)) (se_str q_part) (nomark _)) (sss_one (ss_ret (se_lst (sa_cons (se_op om_add (se_var 1) se_int) (sa_cons (se_ix (im_ix (hu65 hr)) (se_var 2) se_int (fun _ _ => rfl)) sa_nil))))) sss_nil) (sss_cons (ss_if (st_cmp (om_eq (hu65 hr)) (se_ix (im_ix (hu65 hr)) (se_var 2) se_int (fun _ _ => rfl)) (se_str q_end) (nomark _)) (sss_one (ss_ret (se_lst sa_nil))) sss_nil) (sss_one (ss_ret (se_lst (sa_cons (se_op om_add (se_var 1) se_int) sa_nil))))))))
theorem ok_places (T : Txt K mg) : FnOk P w K mg base CX0 2 T.f_places T.fd_places ["program"] (spM ⟨K, mg, P, w⟩ m_places) :=
  fn_ok (N := n_places) (b := b_places) T.F_places sc_places fun cdv A outer s H E hr =>
    (sss_cons (ss_set (i := 1) sc_places.nd rfl (by first | exact Or.inl rfl | exact Or.inr rfl) (se_lst (sa_cons (se_tup (sa_cons (se_neg se_int) (sa_cons se_int sa_nil))) sa_nil))) (sss_cons (ss_for PassesOwn.never rfl (si_rng1 (by rfl) T.z_range (sa_cons (se_callB cm_len (by rfl) T.z_len bo_len (sa_cons (se_var 0) sa_nil)) sa_nil)) (sg_name (i := 2) sc_places.nd rfl (by first | exact Or.inl rfl | exact Or.inr rfl)) (sss_one (ss_for PassesOwn.never rfl (si_seq (se_call (ok_followers T) (hr.mono (by decide)) (by rfl) T.g_followers T.F_followers.kp T.b_followers pass0 (sa_cons (se_var 0) (sa_cons (se_var 2) sa_nil)))) (sg_name (i := 3) sc_places.nd rfl (by first | exact Or.inl rfl | exact Or.inr rfl)) (sss_one (ss_expr (se_mt PySem.F.plainAttrs_list PySem.F.slot_list_append PySem.F.type_list_append mm_append ty_list (se_var 1) (sa_cons (se_tup (sa_cons (se_var 2) (sa_cons (se_var 3) sa_nil))) sa_nil))))))) (sss_one (ss_ret (se_var 1)))))
theorem ok_ahead_of (T : Txt K mg) : FnOk P w K mg base CX0 3 T.f_ahead_of T.fd_ahead_of ["program"] (spM ⟨K, mg, P, w⟩ m_ahead_of) :=
  fn_ok (N := n_ahead_of) (b := b_ahead_of) T.F_ahead_of sc_ahead_of fun cdv A outer s H E hr =>
    (sss_cons (ss_setLc (i := 1) (own := [("row", 2)]) rfl sc_ahead_of.nd rfl rfl (sw_true rfl rfl rfl (by decide +kernel)) (si_seq (se_var 0)) (blkOk_by (own := [("row", 2)]) (N := n_ahead_of) (sc := defScope s_ahead_of) (by decide +kernel)) (gonly_name (by decide)) (fun _ _ _ _ _ => pg_name (i := 2) sc_ahead_of.nd rfl (by first | exact Or.inl rfl | exact Or.inr rfl)) (fun _ _ _ _ _ => sts_nil) (fun _ _ _ _ _ => (se_lst sa_nil))) (sss_cons (ss_for PassesOwn.never rfl (si_seq (se_call (ok_places T) (hr.mono (by decide)) (by rfl) T.g_places T.F_places.kp T.b_places pass0 (sa_cons (se_var 0) sa_nil))) (sg_tup rfl (sgs_cons (sg_name (i := 3) sc_ahead_of.nd rfl (by first | exact Or.inl rfl | exact Or.inr rfl)) (sgs_cons (sg_name (i := 4) sc_ahead_of.nd rfl (by first | exact Or.inl rfl | exact Or.inr rfl)) sgs_nil))) (sss_one (ss_if (st_cmp (om_ne (hu65 hr)) (se_var 3) (se_neg se_int) (nomark _)) (sss_one (ss_expr (se_mt PySem.F.plainAttrs_list PySem.F.slot_list_append PySem.F.type_list_append mm_append ty_list (se_ix (im_ix (hu65 hr)) (se_var 1) (se_var 4) (fun _ _ => rfl)) (sa_cons (se_var 3) sa_nil)))) sss_nil))) (sss_one (ss_ret (se_var 1)))))
theorem ok_reckoning_of (T : Txt K mg) : FnOk P w K mg base CX0 1 T.f_reckoning_of T.fd_reckoning_of ["row"] (spM ⟨K, mg, P, w⟩ m_reckoning_of) :=
  fn_ok (N := n_reckoning_of) (b := b_reckoning_of) T.F_reckoning_of sc_reckoning_of fun cdv A outer s H E hr =>
    (sss_cons (ss_if (st_cmp (om_eq (hu65 hr)) (se_ix (im_ix (hu65 hr)) (se_var 0) se_int (fun _ _ => rfl)) (se_str q_reckon) (nomark _)) (sss_one (ss_ret (se_tup (sa_cons (se_ix (im_ix (hu65 hr)) (se_var 0) se_int (fun _ _ => rfl)) (sa_cons (se_ix (im_ix (hu65 hr)) (se_var 0) se_int (fun _ _ => rfl)) (sa_cons (se_ix (im_ix (hu65 hr)) (se_var 0) se_int (fun _ _ => rfl)) sa_nil)))))) sss_nil) (sss_one (ss_ret se_non)))
theorem ok_reckonings (T : Txt K mg) : FnOk P w K mg base CX0 2 T.f_reckonings T.fd_reckonings ["program"] (spM ⟨K, mg, P, w⟩ m_reckonings) :=
  fn_ok (N := n_reckonings) (b := b_reckonings) T.F_reckonings sc_reckonings fun cdv A outer s H E hr =>
    (sss_cons (ss_set (i := 1) sc_reckonings.nd rfl (by first | exact Or.inl rfl | exact Or.inr rfl) se_newT) (sss_cons (ss_for PassesOwn.never rfl (si_seq (se_var 0)) (sg_name (i := 2) sc_reckonings.nd rfl (by first | exact Or.inl rfl | exact Or.inr rfl)) (sss_cons (ss_set (i := 3) sc_reckonings.nd rfl (by first | exact Or.inl rfl | exact Or.inr rfl) (se_call (ok_reckoning_of T) (hr.mono (by decide)) (by rfl) T.g_reckoning_of T.F_reckoning_of.kp T.b_reckoning_of pass0 (sa_cons (se_var 2) sa_nil))) (sss_one (ss_if (st_cmp om_isnot (se_var 3) se_non (nomark _)) (sss_one (ss_asg se_bl (sg_sub (hu65 hr) (se_var 1) (se_var 3)))) sss_nil)))) (sss_one (ss_ret (se_callTy (cm_list rfl) (by rfl) T.z_list bo_list (sa_cons (se_var 1) sa_nil))))))
theorem ok_all_bits (T : Txt K mg) : FnOk P w K mg base CX0 3 T.f_all_bits T.fd_all_bits ["program"] (spM ⟨K, mg, P, w⟩ m_all_bits) :=
  fn_ok (N := n_all_bits) (b := b_all_bits) T.F_all_bits sc_all_bits fun cdv A outer s H E hr =>
    (sss_one (ss_ret (se_op om_sub (se_op om_shl se_int (se_callB cm_len (by rfl) T.z_len bo_len (sa_cons (se_call (ok_reckonings T) (hr.mono (by decide)) (by rfl) T.g_reckonings T.F_reckonings.kp T.b_reckonings pass0 (sa_cons (se_var 0) sa_nil)) sa_nil))) se_int)))
theorem ok_sets (T : Txt K mg) : FnOk P w K mg base CX0 1 T.f_sets T.fd_sets ["row"] (spM ⟨K, mg, P, w⟩ m_sets) :=
  fn_ok (N := n_sets) (b := b_sets) T.F_sets sc_sets fun cdv A outer s H E hr =>
    (sss_cons (ss_if (st_w (sw_or (st_cmp (om_eq (hu65 hr)) (se_ix (im_ix (hu65 hr)) (se_var 0) se_int (fun _ _ => rfl)) (se_str q_reckon) (nomark _)) (sw_or1 (st_cmp (om_eq (hu65 hr)) (se_ix (im_ix (hu65 hr)) (se_var 0) se_int (fun _ _ => rfl)) (se_str q_copy) (nomark _))))) (sss_one (ss_ret (se_ix (im_ix (hu65 hr)) (se_var 0) se_int (fun _ _ => rfl)))) sss_nil) (sss_one (ss_ret se_non)))
theorem ok_changes (T : Txt K mg) : FnOk P w K mg base CX0 2 T.f_changes T.fd_changes ["row", "reckoning"] (spM ⟨K, mg, P, w⟩ m_changes) :=
  fn_ok (N := n_changes) (b := b_changes) T.F_changes sc_changes fun cdv A outer s H E hr =>
    (sss_cons (ss_set (i := 2) sc_changes.nd rfl (by first | exact Or.inl rfl | exact Or.inr rfl) (se_call (ok_sets T) (hr.mono (by decide)) (by rfl) T.g_sets T.F_sets.kp T.b_sets pass0 (sa_cons (se_var 0) sa_nil))) (sss_one (ss_ret (se_and (se_cmp om_isnot (se_var 2) se_non (nomark _)) (se_one (se_cmp (om_in (hu65 hr)) (se_var 2) (se_sl slm (se_var 1) (so_some se_int) so_none) rfl))))))
theorem ok_lost_bits (T : Txt K mg) : FnOk P w K mg base CX0 3 T.f_lost_bits T.fd_lost_bits ["program"] (spM ⟨K, mg, P, w⟩ m_lost_bits) :=
  fn_ok (N := n_lost_bits) (b := b_lost_bits) T.F_lost_bits sc_lost_bits fun cdv A outer s H E hr =>
    (sss_cons (ss_set (i := 1) sc_lost_bits.nd rfl (by first | exact Or.inl rfl | exact Or.inr rfl) (se_call (ok_reckonings T) (hr.mono (by decide)) (by rfl) T.g_reckonings T.F_reckonings.kp T.b_reckonings pass0 (sa_cons (se_var 0) sa_nil))) (sss_cons (ss_set (i := 2) sc_lost_bits.nd rfl (by first | exact Or.inl rfl | exact Or.inr rfl) (se_lst sa_nil)) (sss_cons (ss_for PassesOwn.never rfl (si_seq (se_var 0)) (sg_name (i := 3) sc_lost_bits.nd rfl (by first | exact Or.inl rfl | exact Or.inr rfl)) (sss_cons (ss_set (i := 4) sc_lost_bits.nd rfl (by first | exact Or.inl rfl | exact Or.inr rfl) se_int) (sss_cons (ss_for PassesOwn.never rfl (si_enum (by rfl) T.z_enumerate (sa_cons (se_var 1) sa_nil)) (sg_tup rfl (sgs_cons (sg_name (i := 5) sc_lost_bits.nd rfl (by first | exact Or.inl rfl | exact Or.inr rfl)) (sgs_cons (sg_name (i := 6) sc_lost_bits.nd rfl (by first | exact Or.inl rfl | exact Or.inr rfl)) sgs_nil))) (sss_one (ss_if (st_tru (se_call (ok_changes T) (hr.mono (by decide)) (by rfl) T.g_changes T.F_changes.kp T.b_changes pass0 (sa_cons (se_var 3) (sa_cons (se_var 6) sa_nil)))) (sss_one (ss_set (i := 4) sc_lost_bits.nd rfl (by first | exact Or.inl rfl | exact Or.inr rfl) (se_op om_or (se_var 4) (se_op om_shl se_int (se_var 5))))) sss_nil))) (sss_one (ss_expr (se_mt PySem.F.plainAttrs_list PySem.F.slot_list_append PySem.F.type_list_append mm_append ty_list (se_var 2) (sa_cons (se_var 4) sa_nil))))))) (sss_one (ss_ret (se_var 2))))))
theorem ok_own_bits (T : Txt K mg) : FnOk P w K mg base CX0 3 T.f_own_bits T.fd_own_bits ["program"] (spM ⟨K, mg, P, w⟩ m_own_bits) :=
  fn_ok (N := n_own_bits) (b := b_own_bits) T.F_own_bits sc_own_bits fun cdv A outer s H E hr =>
    (sss_cons (ss_set (i := 1) sc_own_bits.nd rfl (by first | exact Or.inl rfl | exact Or.inr rfl) se_newT) (sss_cons (ss_for PassesOwn.never rfl (si_enum (by rfl) T.z_enumerate (sa_cons (se_call (ok_reckonings T) (hr.mono (by decide)) (by rfl) T.g_reckonings T.F_reckonings.kp T.b_reckonings pass0 (sa_cons (se_var 0) sa_nil)) sa_nil)) (sg_tup rfl (sgs_cons (sg_name (i := 2) sc_own_bits.nd rfl (by first | exact Or.inl rfl | exact Or.inr rfl)) (sgs_cons (sg_name (i := 3) sc_own_bits.nd rfl (by first | exact Or.inl rfl | exact Or.inr rfl)) sgs_nil))) (sss_one (ss_asg (se_var 2) (sg_sub (hu65 hr) (se_var 1) (se_var 3))))) (sss_cons (ss_set (i := 4) sc_own_bits.nd rfl (by first | exact Or.inl rfl | exact Or.inr rfl) (se_lst sa_nil)) (sss_cons (ss_for PassesOwn.never rfl (si_seq (se_var 0)) (sg_name (i := 5) sc_own_bits.nd rfl (by first | exact Or.inl rfl | exact Or.inr rfl)) (sss_cons (ss_set (i := 3) sc_own_bits.nd rfl (by first | exact Or.inl rfl | exact Or.inr rfl) (se_call (ok_reckoning_of T) (hr.mono (by decide)) (by rfl) T.g_reckoning_of T.F_reckoning_of.kp T.b_reckoning_of pass0 (sa_cons (se_var 5) sa_nil))) (sss_one (ss_if (st_cmp om_is (se_var 3) se_non (nomark _)) (sss_one (ss_expr (se_mt PySem.F.plainAttrs_list PySem.F.slot_list_append PySem.F.type_list_append mm_append ty_list (se_var 4) (sa_cons se_int sa_nil)))) (sss_one (ss_expr (se_mt PySem.F.plainAttrs_list PySem.F.slot_list_append PySem.F.type_list_append mm_append ty_list (se_var 4) (sa_cons (se_op om_shl se_int (se_ix (im_ix (hu65 hr)) (se_var 1) (se_var 3) (fun _ _ => rfl))) sa_nil)))))))) (sss_one (ss_ret (se_var 4)))))))
theorem ok_left_by (T : Txt K mg) : FnOk P w K mg base CX0 4 T.f_left_by T.fd_left_by ["program"] (spM ⟨K, mg, P, w⟩ m_left_by) :=
  fn_ok (N := n_left_by) (b := b_left_by) T.F_left_by sc_left_by fun cdv A outer s H E hr =>
    (sss_cons (ss_set (i := 1) sc_left_by.nd rfl (by first | exact Or.inl rfl | exact Or.inr rfl) (se_call (ok_all_bits T) (hr.mono (by decide)) (by rfl) T.g_all_bits T.F_all_bits.kp T.b_all_bits pass0 (sa_cons (se_var 0) sa_nil))) (sss_cons (ss_set (i := 2) sc_left_by.nd rfl (by first | exact Or.inl rfl | exact Or.inr rfl) (se_call (ok_own_bits T) (hr.mono (by decide)) (by rfl) T.g_own_bits T.F_own_bits.kp T.b_own_bits pass0 (sa_cons (se_var 0) sa_nil))) (sss_cons (ss_set (i := 3) sc_left_by.nd rfl (by first | exact Or.inl rfl | exact Or.inr rfl) (se_call (ok_lost_bits T) (hr.mono (by decide)) (by rfl) T.g_lost_bits T.F_lost_bits.kp T.b_lost_bits pass0 (sa_cons (se_var 0) sa_nil))) (sss_cons (ss_set (i := 4) sc_left_by.nd rfl (by first | exact Or.inl rfl | exact Or.inr rfl) (se_call (ok_ahead_of T) (hr.mono (by decide)) (by rfl) T.g_ahead_of T.F_ahead_of.kp T.b_ahead_of pass0 (sa_cons (se_var 0) sa_nil))) (sss_cons (ss_setLc (i := 5) (own := [("row", 6)]) rfl sc_left_by.nd rfl rfl (sw_true rfl rfl rfl (by decide +kernel)) (si_seq (se_var 0)) (blkOk_by (own := [("row", 6)]) (N := n_left_by) (sc := defScope s_left_by) (by decide +kernel)) (gonly_name (by decide)) (fun _ _ _ _ _ => pg_name (i := 6) sc_left_by.nd rfl (by first | exact Or.inl rfl | exact Or.inr rfl)) (fun _ _ _ _ _ => sts_nil) (fun _ _ _ _ _ => (se_var 1))) (sss_cons (ss_set (i := 7) sc_left_by.nd rfl (by first | exact Or.inl rfl | exact Or.inr rfl) se_bl) (sss_cons (ss_while PassesOwn.never (st_tru (se_var 7)) (sss_cons (ss_set (i := 7) sc_left_by.nd rfl (by first | exact Or.inl rfl | exact Or.inr rfl) se_bl) (sss_one (ss_for PassesOwn.never rfl (si_rng1 (by rfl) T.z_range (sa_cons (se_callB cm_len (by rfl) T.z_len bo_len (sa_cons (se_var 0) sa_nil)) sa_nil)) (sg_name (i := 8) sc_left_by.nd rfl (by first | exact Or.inl rfl | exact Or.inr rfl)) (sss_cons (ss_set (i := 9) sc_left_by.nd rfl (by first | exact Or.inl rfl | exact Or.inr rfl) (se_var 1)) (sss_cons (ss_if (st_cmp (om_eq (hu65 hr)) (se_var 8) se_int (nomark _)) (sss_one (ss_set (i := 9) sc_left_by.nd rfl (by first | exact Or.inl rfl | exact Or.inr rfl) se_int)) sss_nil) (sss_cons (ss_for PassesOwn.never rfl (si_seq (se_ix (im_ix (hu65 hr)) (se_var 4) (se_var 8) (fun _ _ => rfl))) (sg_name (i := 10) sc_left_by.nd rfl (by first | exact Or.inl rfl | exact Or.inr rfl)) (sss_one (ss_set (i := 9) sc_left_by.nd rfl (by first | exact Or.inl rfl | exact Or.inr rfl) (se_op om_and (se_var 9) (se_ix (im_ix (hu65 hr)) (se_var 5) (se_var 10) (fun _ _ => rfl)))))) (sss_cons (ss_set (i := 11) sc_left_by.nd rfl (by first | exact Or.inl rfl | exact Or.inr rfl) (se_op om_and (se_op om_or (se_ix (im_ix (hu65 hr)) (se_var 2) (se_var 8) (fun _ _ => rfl)) (se_var 9)) (se_op om_xor (se_var 1) (se_ix (im_ix (hu65 hr)) (se_var 3) (se_var 8) (fun _ _ => rfl))))) (sss_one (ss_if (st_cmp (om_ne (hu65 hr)) (se_var 11) (se_ix (im_ix (hu65 hr)) (se_var 5) (se_var 8) (fun _ _ => rfl)) (nomark _)) (sss_cons (ss_asg (se_var 11) (sg_sub (hu65 hr) (se_var 5) (se_var 8))) (sss_one (ss_set (i := 7) sc_left_by.nd rfl (by first | exact Or.inl rfl | exact Or.inr rfl) se_bl))) sss_nil)))))))))) (sss_one (ss_ret (se_var 5))))))))))
theorem ok_standing (T : Txt K mg) : FnOk P w K mg base CX0 5 T.f_standing T.fd_standing ["program"] (spM ⟨K, mg, P, w⟩ m_standing) :=
  fn_ok (N := n_standing) (b := b_standing) T.F_standing sc_standing fun cdv A outer s H E hr =>
    (sss_cons (ss_set (i := 1) sc_standing.nd rfl (by first | exact Or.inl rfl | exact Or.inr rfl) (se_call (ok_left_by T) (hr.mono (by decide)) (by rfl) T.g_left_by T.F_left_by.kp T.b_left_by pass0 (sa_cons (se_var 0) sa_nil))) (sss_cons (ss_set (i := 2) sc_standing.nd rfl (by first | exact Or.inl rfl | exact Or.inr rfl) se_newT) (sss_cons (ss_for PassesOwn.never rfl (si_seq (se_call (ok_places T) (hr.mono (by decide)) (by rfl) T.g_places T.F_places.kp T.b_places pass0 (sa_cons (se_var 0) sa_nil))) (sg_name (i := 3) sc_standing.nd rfl (by first | exact Or.inl rfl | exact Or.inr rfl)) (sss_one (ss_if (st_cmp (om_eq (hu65 hr)) (se_ix (im_ix (hu65 hr)) (se_var 3) se_int (fun _ _ => rfl)) (se_neg se_int) (nomark _)) (sss_one (ss_asg se_int (sg_sub (hu65 hr) (se_var 2) (se_var 3)))) (sss_one (ss_asg (se_ix (im_ix (hu65 hr)) (se_var 1) (se_ix (im_ix (hu65 hr)) (se_var 3) se_int (fun _ _ => rfl)) (fun _ _ => rfl)) (sg_sub (hu65 hr) (se_var 2) (se_var 3))))))) (sss_one (ss_ret (se_var 2))))))
theorem ok_asked_by (T : Txt K mg) : FnOk P w K mg base CX0 4 T.f_asked_by T.fd_asked_by ["program"] (spM ⟨K, mg, P, w⟩ m_asked_by) :=
  fn_ok (N := n_asked_by) (b := b_asked_by) T.F_asked_by sc_asked_by fun cdv A outer s H E hr =>
    (sss_cons (ss_set (i := 1) sc_asked_by.nd rfl (by first | exact Or.inl rfl | exact Or.inr rfl) (se_call (ok_all_bits T) (hr.mono (by decide)) (by rfl) T.g_all_bits T.F_all_bits.kp T.b_all_bits pass0 (sa_cons (se_var 0) sa_nil))) (sss_cons (ss_set (i := 2) sc_asked_by.nd rfl (by first | exact Or.inl rfl | exact Or.inr rfl) (se_call (ok_own_bits T) (hr.mono (by decide)) (by rfl) T.g_own_bits T.F_own_bits.kp T.b_own_bits pass0 (sa_cons (se_var 0) sa_nil))) (sss_cons (ss_set (i := 3) sc_asked_by.nd rfl (by first | exact Or.inl rfl | exact Or.inr rfl) (se_call (ok_lost_bits T) (hr.mono (by decide)) (by rfl) T.g_lost_bits T.F_lost_bits.kp T.b_lost_bits pass0 (sa_cons (se_var 0) sa_nil))) (sss_cons (ss_setLc (i := 4) (own := [("row", 5)]) rfl sc_asked_by.nd rfl rfl (sw_true rfl rfl rfl (by decide +kernel)) (si_seq (se_var 0)) (blkOk_by (own := [("row", 5)]) (N := n_asked_by) (sc := defScope s_asked_by) (by decide +kernel)) (gonly_name (by decide)) (fun _ _ _ _ _ => pg_name (i := 5) sc_asked_by.nd rfl (by first | exact Or.inl rfl | exact Or.inr rfl)) (fun _ _ _ _ _ => sts_nil) (fun _ _ _ _ _ => (se_var 1))) (sss_cons (ss_set (i := 6) sc_asked_by.nd rfl (by first | exact Or.inl rfl | exact Or.inr rfl) se_bl) (sss_cons (ss_while PassesOwn.never (st_tru (se_var 6)) (sss_cons (ss_set (i := 6) sc_asked_by.nd rfl (by first | exact Or.inl rfl | exact Or.inr rfl) se_bl) (sss_one (ss_for PassesOwn.never rfl (si_rngD (by rfl) T.z_range (sa_cons (se_op om_sub (se_callB cm_len (by rfl) T.z_len bo_len (sa_cons (se_var 0) sa_nil)) se_int) (sa_cons (se_neg se_int) (sa_cons (se_neg se_int) sa_nil)))) (sg_name (i := 7) sc_asked_by.nd rfl (by first | exact Or.inl rfl | exact Or.inr rfl)) (sss_cons (ss_set (i := 8) sc_asked_by.nd rfl (by first | exact Or.inl rfl | exact Or.inr rfl) (se_var 1)) (sss_cons (ss_if (st_cmp (om_eq (hu65 hr)) (se_ix (im_ix (hu65 hr)) (se_ix (im_ix (hu65 hr)) (se_var 0) (se_var 7) (fun _ _ => rfl)) se_int (fun _ _ => rfl)) (se_str q_end) (nomark _)) (sss_one (ss_set (i := 8) sc_asked_by.nd rfl (by first | exact Or.inl rfl | exact Or.inr rfl) se_int)) sss_nil) (sss_cons (ss_for PassesOwn.never rfl (si_seq (se_call (ok_followers T) (hr.mono (by decide)) (by rfl) T.g_followers T.F_followers.kp T.b_followers pass0 (sa_cons (se_var 0) (sa_cons (se_var 7) sa_nil)))) (sg_name (i := 9) sc_asked_by.nd rfl (by first | exact Or.inl rfl | exact Or.inr rfl)) (sss_one (ss_set (i := 8) sc_asked_by.nd rfl (by first | exact Or.inl rfl | exact Or.inr rfl) (se_op om_and (se_var 8) (se_ix (im_ix (hu65 hr)) (se_var 4) (se_var 9) (fun _ _ => rfl)))))) (sss_cons (ss_set (i := 10) sc_asked_by.nd rfl (by first | exact Or.inl rfl | exact Or.inr rfl) (se_op om_or (se_ix (im_ix (hu65 hr)) (se_var 2) (se_var 7) (fun _ _ => rfl)) (se_op om_and (se_var 8) (se_op om_xor (se_var 1) (se_ix (im_ix (hu65 hr)) (se_var 3) (se_var 7) (fun _ _ => rfl)))))) (sss_one (ss_if (st_cmp (om_ne (hu65 hr)) (se_var 10) (se_ix (im_ix (hu65 hr)) (se_var 4) (se_var 7) (fun _ _ => rfl)) (nomark _)) (sss_cons (ss_asg (se_var 10) (sg_sub (hu65 hr) (se_var 4) (se_var 7))) (sss_one (ss_set (i := 6) sc_asked_by.nd rfl (by first | exact Or.inl rfl | exact Or.inr rfl) se_bl))) sss_nil)))))))))) (sss_one (ss_ret (se_var 4)))))))))
theorem ok_wanted (T : Txt K mg) : FnOk P w K mg base CX0 5 T.f_wanted T.fd_wanted ["program"] (spM ⟨K, mg, P, w⟩ m_wanted) :=
  fn_ok (N := n_wanted) (b := b_wanted) T.F_wanted sc_wanted fun cdv A outer s H E hr =>
    (sss_cons (ss_set (i := 1) sc_wanted.nd rfl (by first | exact Or.inl rfl | exact Or.inr rfl) (se_call (ok_asked_by T) (hr.mono (by decide)) (by rfl) T.g_asked_by T.F_asked_by.kp T.b_asked_by pass0 (sa_cons (se_var 0) sa_nil))) (sss_cons (ss_set (i := 2) sc_wanted.nd rfl (by first | exact Or.inl rfl | exact Or.inr rfl) se_newT) (sss_cons (ss_for PassesOwn.never rfl (si_seq (se_call (ok_places T) (hr.mono (by decide)) (by rfl) T.g_places T.F_places.kp T.b_places pass0 (sa_cons (se_var 0) sa_nil))) (sg_name (i := 3) sc_wanted.nd rfl (by first | exact Or.inl rfl | exact Or.inr rfl)) (sss_one (ss_asg (se_ix (im_ix (hu65 hr)) (se_var 1) (se_ix (im_ix (hu65 hr)) (se_var 3) se_int (fun _ _ => rfl)) (fun _ _ => rfl)) (sg_sub (hu65 hr) (se_var 2) (se_var 3))))) (sss_one (ss_ret (se_var 2))))))
theorem ok_law (T : Txt K mg) (TB : LamX.TabB base mg T.tC T.tP) : FnOk P w K mg base CX0 7 T.f_law T.fd_law ["_law_script"] (spM ⟨K, mg, P, w⟩ m_law) :=
  fn_ok (N := n_law) (b := b_law) T.F_law sc_law fun cdv A outer s H E hr =>
    (sss_cons (ss_set (i := 1) sc_law.nd rfl (by first | exact Or.inl rfl | exact Or.inr rfl) (se_call (ok_law_made T) (hr.mono (by decide)) (by rfl) T.g_law_made T.F_law_made.kp T.b_law_made pass0 (sa_cons (se_var 0) sa_nil))) (sss_cons (ss_set (i := 2) sc_law.nd rfl (by first | exact Or.inl rfl | exact Or.inr rfl) (se_call (ok_law_way T TB) (hr.mono (by decide)) (by rfl) T.g_law_way T.F_law_way.kp T.b_law_way pass0 (sa_cons (se_var 1) (sa_cons (se_var 0) sa_nil)))) (sss_cons (ss_set (i := 3) sc_law.nd rfl (by first | exact Or.inl rfl | exact Or.inr rfl) (se_call (ok_wanted T) (hr.mono (by decide)) (by rfl) T.g_wanted T.F_wanted.kp T.b_wanted pass0 (sa_cons (se_var 1) sa_nil))) (sss_cons (ss_set (i := 4) sc_law.nd rfl (by first | exact Or.inl rfl | exact Or.inr rfl) (se_call (ok_standing T) (hr.mono (by decide)) (by rfl) T.g_standing T.F_standing.kp T.b_standing pass0 (sa_cons (se_var 1) sa_nil))) (sss_cons (ss_for PassesOwn.never rfl (si_enum (by rfl) T.z_enumerate (sa_cons (se_call (ok_law_known T) (hr.mono (by decide)) (by rfl) T.g_law_known T.F_law_known.kp T.b_law_known pass0 (sa_cons (se_var 1) sa_nil)) sa_nil)) (sg_tup rfl (sgs_cons (sg_name (i := 5) sc_law.nd rfl (by first | exact Or.inl rfl | exact Or.inr rfl)) (sgs_cons (sg_name (i := 6) sc_law.nd rfl (by first | exact Or.inl rfl | exact Or.inr rfl)) sgs_nil))) (sss_cons (ss_if (st_not (st_tru (se_call (ok_law_ahead_right T) (hr.mono (by decide)) (by rfl) T.g_law_ahead_right T.F_law_ahead_right.kp T.b_law_ahead_right pass0 (sa_cons (se_var 1) (sa_cons (se_var 6) (sa_cons (se_var 5) (sa_cons (se_var 3) (sa_cons (se_var 2) sa_nil)))))))) (sss_one (ss_ret se_bl)) sss_nil) (sss_one (ss_if (st_not (st_tru (se_call (ok_law_behind_right T) (hr.mono (by decide)) (by rfl) T.g_law_behind_right T.F_law_behind_right.kp T.b_law_behind_right pass0 (sa_cons (se_var 1) (sa_cons (se_var 6) (sa_cons (se_var 5) (sa_cons (se_var 4) (sa_cons (se_var 2) sa_nil)))))))) (sss_one (ss_ret se_bl)) sss_nil)))) (sss_one (ss_ret se_bl)))))))
end
theorem all_mk {P : Program} {w : World} {K : PySem.W.Frag} {h : Heap} {mg : Str → Option Value} {fa : Addr} (X : K.In h) (G : h.Ns mainGlobals mg) (hfa : mg "law" = some (.ref fa))
    {cT pT : Addr} {tcc : Value} {tdd : Option Addr} {tvs : Array Value} {tsl : Array (Option Value)}
    {od1 an1 : Option Addr} {sl1 : Array (Option Value)} {oc1 kV1 dc1 pm1 cd1 ct1 : Value} {f1 : Addr}
    {od2 an2 : Option Addr} {sl2 : Array (Option Value)} {oc2 kV2 dc2 pm2 cd2 ct2 : Value} {f2 : Addr}
    {od3 an3 : Option Addr} {sl3 : Array (Option Value)} {oc3 kV3 dc3 pm3 cd3 ct3 : Value} {f3 : Addr}
    {od4 an4 : Option Addr} {sl4 : Array (Option Value)} {oc4 kV4 dc4 pm4 cd4 ct4 : Value} {f4 : Addr}
    {od5 an5 : Option Addr} {sl5 : Array (Option Value)} {oc5 kV5 dc5 pm5 cd5 ct5 : Value} {f5 : Addr}
    {od6 an6 : Option Addr} {sl6 : Array (Option Value)} {oc6 kV6 dc6 pm6 cd6 ct6 : Value} {f6 : Addr}
    {od7 an7 : Option Addr} {sl7 : Array (Option Value)} {oc7 kV7 dc7 pm7 cd7 ct7 : Value} {f7 : Addr}
    {od8 an8 : Option Addr} {sl8 : Array (Option Value)} {oc8 kV8 dc8 pm8 cd8 ct8 : Value} {f8 : Addr}
    {od9 an9 : Option Addr} {sl9 : Array (Option Value)} {oc9 kV9 dc9 pm9 cd9 ct9 : Value} {f9 : Addr}
    {od10 an10 : Option Addr} {sl10 : Array (Option Value)} {oc10 kV10 dc10 pm10 cd10 ct10 : Value} {f10 : Addr}
    {od11 an11 : Option Addr} {sl11 : Array (Option Value)} {oc11 kV11 dc11 pm11 cd11 ct11 : Value} {f11 : Addr}
    {od12 an12 : Option Addr} {sl12 : Array (Option Value)} {oc12 kV12 dc12 pm12 cd12 ct12 : Value} {f12 : Addr}
    {od13 an13 : Option Addr} {sl13 : Array (Option Value)} {oc13 kV13 dc13 pm13 cd13 ct13 : Value} {f13 : Addr}
    {od14 an14 : Option Addr} {sl14 : Array (Option Value)} {oc14 kV14 dc14 pm14 cd14 ct14 : Value} {f14 : Addr}
    {od15 an15 : Option Addr} {sl15 : Array (Option Value)} {oc15 kV15 dc15 pm15 cd15 ct15 : Value} {f15 : Addr}
    {od16 an16 : Option Addr} {sl16 : Array (Option Value)} {oc16 kV16 dc16 pm16 cd16 ct16 : Value} {f16 : Addr}
    {od17 an17 : Option Addr} {sl17 : Array (Option Value)} {oc17 kV17 dc17 pm17 cd17 ct17 : Value} {f17 : Addr}
    {od18 an18 : Option Addr} {sl18 : Array (Option Value)} {oc18 kV18 dc18 pm18 cd18 ct18 : Value} {f18 : Addr}
    {od19 an19 : Option Addr} {sl19 : Array (Option Value)} {oc19 kV19 dc19 pm19 cd19 ct19 : Value} {f19 : Addr}
    {od20 an20 : Option Addr} {sl20 : Array (Option Value)} {oc20 kV20 dc20 pm20 cd20 ct20 : Value} {f20 : Addr}
    {od21 an21 : Option Addr} {sl21 : Array (Option Value)} {oc21 kV21 dc21 pm21 cd21 ct21 : Value} {f21 : Addr}
    {od22 an22 : Option Addr} {sl22 : Array (Option Value)} {oc22 kV22 dc22 pm22 cd22 ct22 : Value} {f22 : Addr}
    {od23 an23 : Option Addr} {sl23 : Array (Option Value)} {oc23 kV23 dc23 pm23 cd23 ct23 : Value} {f23 : Addr}
    {od24 an24 : Option Addr} {sl24 : Array (Option Value)} {oc24 kV24 dc24 pm24 cd24 ct24 : Value} {f24 : Addr}
    {od25 an25 : Option Addr} {sl25 : Array (Option Value)} {oc25 kV25 dc25 pm25 cd25 ct25 : Value} {f25 : Addr}
    {od26 an26 : Option Addr} {sl26 : Array (Option Value)} {oc26 kV26 dc26 pm26 cd26 ct26 : Value} {f26 : Addr}
    {od27 an27 : Option Addr} {sl27 : Array (Option Value)} {oc27 kV27 dc27 pm27 cd27 ct27 : Value} {f27 : Addr}
    {od28 an28 : Option Addr} {sl28 : Array (Option Value)} {oc28 kV28 dc28 pm28 ct28 : Value} {f28 : Addr}
    {od29 an29 : Option Addr} {sl29 : Array (Option Value)} {oc29 kV29 dc29 pm29 cd29 ct29 : Value} {f29 : Addr}
    {od30 an30 : Option Addr} {sl30 : Array (Option Value)} {oc30 kV30 dc30 pm30 cd30 ct30 : Value} {f30 : Addr}
    {od31 an31 : Option Addr} {sl31 : Array (Option Value)} {oc31 kV31 dc31 pm31 cd31 ct31 : Value} {f31 : Addr}
    {od32 an32 : Option Addr} {sl32 : Array (Option Value)} {oc32 kV32 dc32 pm32 cd32 ct32 : Value} {f32 : Addr}
    {od33 an33 : Option Addr} {sl33 : Array (Option Value)} {oc33 kV33 dc33 pm33 cd33 ct33 : Value} {f33 : Addr}
    {od34 an34 : Option Addr} {sl34 : Array (Option Value)} {oc34 kV34 dc34 pm34 cd34 ct34 : Value} {f34 : Addr}
    {od35 an35 : Option Addr} {sl35 : Array (Option Value)} {oc35 kV35 dc35 pm35 cd35 ct35 : Value} {f35 : Addr}
    {od36 an36 : Option Addr} {sl36 : Array (Option Value)} {oc36 kV36 dc36 pm36 cd36 ct36 : Value} {f36 : Addr}
    {od37 an37 : Option Addr} {sl37 : Array (Option Value)} {oc37 kV37 dc37 pm37 cd37 ct37 : Value} {f37 : Addr}
    {od38 an38 : Option Addr} {sl38 : Array (Option Value)} {oc38 kV38 dc38 pm38 cd38 ct38 : Value} {f38 : Addr}
    {od39 an39 : Option Addr} {sl39 : Array (Option Value)} {oc39 kV39 dc39 pm39 cd39 ct39 : Value} {f39 : Addr}
    {od40 an40 : Option Addr} {sl40 : Array (Option Value)} {oc40 kV40 dc40 pm40 cd40 ct40 : Value} {f40 : Addr}
    {od41 an41 : Option Addr} {sl41 : Array (Option Value)} {oc41 kV41 dc41 pm41 cd41 ct41 : Value} {f41 : Addr}
    {od42 an42 : Option Addr} {sl42 : Array (Option Value)} {oc42 kV42 dc42 pm42 cd42 ct42 : Value} {f42 : Addr}
    {od43 an43 : Option Addr} {sl43 : Array (Option Value)} {oc43 kV43 dc43 pm43 cd43 ct43 : Value} {f43 : Addr}
    (a1 : PySem.W.nsIn K mainGlobals "_law_changes" = some (some (.ref f1))) (l1 : K.lookup f1 = some ⟨oc1, od1, .func (PySem.W.fnOf "_law_changes" "_law_changes" (defArgs s_law_changes) (defBody s_law_changes) (defScope s_law_changes) .none kV1 dc1 pm1 an1 cd1 ct1), sl1⟩) (c1 : PySem.W.codeIn K cd1 "_law_changes" = true) (k1 : PySem.W.keepIn K (.ref f1) = true)
    (a2 : PySem.W.nsIn K mainGlobals "_law_has" = some (some (.ref f2))) (l2 : K.lookup f2 = some ⟨oc2, od2, .func (PySem.W.fnOf "_law_has" "_law_has" (defArgs s_law_has) (defBody s_law_has) (defScope s_law_has) .none kV2 dc2 pm2 an2 cd2 ct2), sl2⟩) (c2 : PySem.W.codeIn K cd2 "_law_has" = true) (k2 : PySem.W.keepIn K (.ref f2) = true)
    (a3 : PySem.W.nsIn K mainGlobals "_law_ahead_right" = some (some (.ref f3))) (l3 : K.lookup f3 = some ⟨oc3, od3, .func (PySem.W.fnOf "_law_ahead_right" "_law_ahead_right" (defArgs s_law_ahead_right) (defBody s_law_ahead_right) (defScope s_law_ahead_right) .none kV3 dc3 pm3 an3 cd3 ct3), sl3⟩) (c3 : PySem.W.codeIn K cd3 "_law_ahead_right" = true) (k3 : PySem.W.keepIn K (.ref f3) = true)
    (a4 : PySem.W.nsIn K mainGlobals "_law_behind_right" = some (some (.ref f4))) (l4 : K.lookup f4 = some ⟨oc4, od4, .func (PySem.W.fnOf "_law_behind_right" "_law_behind_right" (defArgs s_law_behind_right) (defBody s_law_behind_right) (defScope s_law_behind_right) .none kV4 dc4 pm4 an4 cd4 ct4), sl4⟩) (c4 : PySem.W.codeIn K cd4 "_law_behind_right" = true) (k4 : PySem.W.keepIn K (.ref f4) = true)
    (a5 : PySem.W.nsIn K mainGlobals "_law_known" = some (some (.ref f5))) (l5 : K.lookup f5 = some ⟨oc5, od5, .func (PySem.W.fnOf "_law_known" "_law_known" (defArgs s_law_known) (defBody s_law_known) (defScope s_law_known) .none kV5 dc5 pm5 an5 cd5 ct5), sl5⟩) (c5 : PySem.W.codeIn K cd5 "_law_known" = true) (k5 : PySem.W.keepIn K (.ref f5) = true)
    (a6 : PySem.W.nsIn K mainGlobals "_law_operand" = some (some (.ref f6))) (l6 : K.lookup f6 = some ⟨oc6, od6, .func (PySem.W.fnOf "_law_operand" "_law_operand" (defArgs s_law_operand) (defBody s_law_operand) (defScope s_law_operand) .none kV6 dc6 pm6 an6 cd6 ct6), sl6⟩) (c6 : PySem.W.codeIn K cd6 "_law_operand" = true) (k6 : PySem.W.keepIn K (.ref f6) = true)
    (a7 : PySem.W.nsIn K mainGlobals "_law_any_row" = some (some (.ref f7))) (l7 : K.lookup f7 = some ⟨oc7, od7, .func (PySem.W.fnOf "_law_any_row" "_law_any_row" (defArgs s_law_any_row) (defBody s_law_any_row) (defScope s_law_any_row) .none kV7 dc7 pm7 an7 cd7 ct7), sl7⟩) (c7 : PySem.W.codeIn K cd7 "_law_any_row" = true) (k7 : PySem.W.keepIn K (.ref f7) = true)
    (a8 : PySem.W.nsIn K mainGlobals "_law_cell" = some (some (.ref f8))) (l8 : K.lookup f8 = some ⟨oc8, od8, .func (PySem.W.fnOf "_law_cell" "_law_cell" (defArgs s_law_cell) (defBody s_law_cell) (defScope s_law_cell) .none kV8 dc8 pm8 an8 cd8 ct8), sl8⟩) (c8 : PySem.W.codeIn K cd8 "_law_cell" = true) (k8 : PySem.W.keepIn K (.ref f8) = true)
    (a9 : PySem.W.nsIn K mainGlobals "_law_is_free" = some (some (.ref f9))) (l9 : K.lookup f9 = some ⟨oc9, od9, .func (PySem.W.fnOf "_law_is_free" "_law_is_free" (defArgs s_law_is_free) (defBody s_law_is_free) (defScope s_law_is_free) .none kV9 dc9 pm9 an9 cd9 ct9), sl9⟩) (c9 : PySem.W.codeIn K cd9 "_law_is_free" = true) (k9 : PySem.W.keepIn K (.ref f9) = true)
    (a10 : PySem.W.nsIn K mainGlobals "_law_mixed" = some (some (.ref f10))) (l10 : K.lookup f10 = some ⟨oc10, od10, .func (PySem.W.fnOf "_law_mixed" "_law_mixed" (defArgs s_law_mixed) (defBody s_law_mixed) (defScope s_law_mixed) .none kV10 dc10 pm10 an10 cd10 ct10), sl10⟩) (c10 : PySem.W.codeIn K cd10 "_law_mixed" = true) (k10 : PySem.W.keepIn K (.ref f10) = true)
    (a11 : PySem.W.nsIn K mainGlobals "_law_deeds" = some (some (.ref f11))) (l11 : K.lookup f11 = some ⟨oc11, od11, .func (PySem.W.fnOf "_law_deeds" "_law_deeds" (defArgs s_law_deeds) (defBody s_law_deeds) (defScope s_law_deeds) .none kV11 dc11 pm11 an11 cd11 ct11), sl11⟩) (c11 : PySem.W.codeIn K cd11 "_law_deeds" = true) (k11 : PySem.W.keepIn K (.ref f11) = true)
    (a12 : PySem.W.nsIn K mainGlobals "_law_followers" = some (some (.ref f12))) (l12 : K.lookup f12 = some ⟨oc12, od12, .func (PySem.W.fnOf "_law_followers" "_law_followers" (defArgs s_law_followers) (defBody s_law_followers) (defScope s_law_followers) .none kV12 dc12 pm12 an12 cd12 ct12), sl12⟩) (c12 : PySem.W.codeIn K cd12 "_law_followers" = true) (k12 : PySem.W.keepIn K (.ref f12) = true)
    (a13 : PySem.W.nsIn K mainGlobals "_law_comes_to" = some (some (.ref f13))) (l13 : K.lookup f13 = some ⟨oc13, od13, .func (PySem.W.fnOf "_law_comes_to" "_law_comes_to" (defArgs s_law_comes_to) (defBody s_law_comes_to) (defScope s_law_comes_to) .none kV13 dc13 pm13 an13 cd13 ct13), sl13⟩) (c13 : PySem.W.codeIn K cd13 "_law_comes_to" = true) (k13 : PySem.W.keepIn K (.ref f13) = true)
    (a14 : PySem.W.nsIn K mainGlobals "_law_mended" = some (some (.ref f14))) (l14 : K.lookup f14 = some ⟨oc14, od14, .func (PySem.W.fnOf "_law_mended" "_law_mended" (defArgs s_law_mended) (defBody s_law_mended) (defScope s_law_mended) .none kV14 dc14 pm14 an14 cd14 ct14), sl14⟩) (c14 : PySem.W.codeIn K cd14 "_law_mended" = true) (k14 : PySem.W.keepIn K (.ref f14) = true)
    (a15 : PySem.W.nsIn K mainGlobals "_law_names" = some (some (.ref f15))) (l15 : K.lookup f15 = some ⟨oc15, od15, .func (PySem.W.fnOf "_law_names" "_law_names" (defArgs s_law_names) (defBody s_law_names) (defScope s_law_names) .none kV15 dc15 pm15 an15 cd15 ct15), sl15⟩) (c15 : PySem.W.codeIn K cd15 "_law_names" = true) (k15 : PySem.W.keepIn K (.ref f15) = true)
    (a16 : PySem.W.nsIn K mainGlobals "_law_any_program" = some (some (.ref f16))) (l16 : K.lookup f16 = some ⟨oc16, od16, .func (PySem.W.fnOf "_law_any_program" "_law_any_program" (defArgs s_law_any_program) (defBody s_law_any_program) (defScope s_law_any_program) .none kV16 dc16 pm16 an16 cd16 ct16), sl16⟩) (c16 : PySem.W.codeIn K cd16 "_law_any_program" = true) (k16 : PySem.W.keepIn K (.ref f16) = true)
    (a17 : PySem.W.nsIn K mainGlobals "_law_goal" = some (some (.ref f17))) (l17 : K.lookup f17 = some ⟨oc17, od17, .func (PySem.W.fnOf "_law_goal" "_law_goal" (defArgs s_law_goal) (defBody s_law_goal) (defScope s_law_goal) .none kV17 dc17 pm17 an17 cd17 ct17), sl17⟩) (c17 : PySem.W.codeIn K cd17 "_law_goal" = true) (k17 : PySem.W.keepIn K (.ref f17) = true)
    (a18 : PySem.W.nsIn K mainGlobals "_law_number" = some (some (.ref f18))) (l18 : K.lookup f18 = some ⟨oc18, od18, .func (PySem.W.fnOf "_law_number" "_law_number" (defArgs s_law_number) (defBody s_law_number) (defScope s_law_number) .none kV18 dc18 pm18 an18 cd18 ct18), sl18⟩) (c18 : PySem.W.codeIn K cd18 "_law_number" = true) (k18 : PySem.W.keepIn K (.ref f18) = true)
    (a19 : PySem.W.nsIn K mainGlobals "_law_last" = some (some (.ref f19))) (l19 : K.lookup f19 = some ⟨oc19, od19, .func (PySem.W.fnOf "_law_last" "_law_last" (defArgs s_law_last) (defBody s_law_last) (defScope s_law_last) .none kV19 dc19 pm19 an19 cd19 ct19), sl19⟩) (c19 : PySem.W.codeIn K cd19 "_law_last" = true) (k19 : PySem.W.keepIn K (.ref f19) = true)
    (a20 : PySem.W.nsIn K mainGlobals "_law_row" = some (some (.ref f20))) (l20 : K.lookup f20 = some ⟨oc20, od20, .func (PySem.W.fnOf "_law_row" "_law_row" (defArgs s_law_row) (defBody s_law_row) (defScope s_law_row) .none kV20 dc20 pm20 an20 cd20 ct20), sl20⟩) (c20 : PySem.W.codeIn K cd20 "_law_row" = true) (k20 : PySem.W.keepIn K (.ref f20) = true)
    (a21 : PySem.W.nsIn K mainGlobals "_law_rough" = some (some (.ref f21))) (l21 : K.lookup f21 = some ⟨oc21, od21, .func (PySem.W.fnOf "_law_rough" "_law_rough" (defArgs s_law_rough) (defBody s_law_rough) (defScope s_law_rough) .none kV21 dc21 pm21 an21 cd21 ct21), sl21⟩) (c21 : PySem.W.codeIn K cd21 "_law_rough" = true) (k21 : PySem.W.keepIn K (.ref f21) = true)
    (a22 : PySem.W.nsIn K mainGlobals "_law_stairs" = some (some (.ref f22))) (l22 : K.lookup f22 = some ⟨oc22, od22, .func (PySem.W.fnOf "_law_stairs" "_law_stairs" (defArgs s_law_stairs) (defBody s_law_stairs) (defScope s_law_stairs) .none kV22 dc22 pm22 an22 cd22 ct22), sl22⟩) (c22 : PySem.W.codeIn K cd22 "_law_stairs" = true) (k22 : PySem.W.keepIn K (.ref f22) = true)
    (a23 : PySem.W.nsIn K mainGlobals "_law_with_while" = some (some (.ref f23))) (l23 : K.lookup f23 = some ⟨oc23, od23, .func (PySem.W.fnOf "_law_with_while" "_law_with_while" (defArgs s_law_with_while) (defBody s_law_with_while) (defScope s_law_with_while) .none kV23 dc23 pm23 an23 cd23 ct23), sl23⟩) (c23 : PySem.W.codeIn K cd23 "_law_with_while" = true) (k23 : PySem.W.keepIn K (.ref f23) = true)
    (a24 : PySem.W.nsIn K mainGlobals "_law_with_else" = some (some (.ref f24))) (l24 : K.lookup f24 = some ⟨oc24, od24, .func (PySem.W.fnOf "_law_with_else" "_law_with_else" (defArgs s_law_with_else) (defBody s_law_with_else) (defScope s_law_with_else) .none kV24 dc24 pm24 an24 cd24 ct24), sl24⟩) (c24 : PySem.W.codeIn K cd24 "_law_with_else" = true) (k24 : PySem.W.keepIn K (.ref f24) = true)
    (a25 : PySem.W.nsIn K mainGlobals "_law_program" = some (some (.ref f25))) (l25 : K.lookup f25 = some ⟨oc25, od25, .func (PySem.W.fnOf "_law_program" "_law_program" (defArgs s_law_program) (defBody s_law_program) (defScope s_law_program) .none kV25 dc25 pm25 an25 cd25 ct25), sl25⟩) (c25 : PySem.W.codeIn K cd25 "_law_program" = true) (k25 : PySem.W.keepIn K (.ref f25) = true)
    (a26 : PySem.W.nsIn K mainGlobals "_law_made" = some (some (.ref f26))) (l26 : K.lookup f26 = some ⟨oc26, od26, .func (PySem.W.fnOf "_law_made" "_law_made" (defArgs s_law_made) (defBody s_law_made) (defScope s_law_made) .none kV26 dc26 pm26 an26 cd26 ct26), sl26⟩) (c26 : PySem.W.codeIn K cd26 "_law_made" = true) (k26 : PySem.W.keepIn K (.ref f26) = true)
    (a27 : PySem.W.nsIn K mainGlobals "_law_far" = some (some (.ref f27))) (l27 : K.lookup f27 = some ⟨oc27, od27, .func (PySem.W.fnOf "_law_far" "_law_far" (defArgs s_law_far) (defBody s_law_far) (defScope s_law_far) .none kV27 dc27 pm27 an27 cd27 ct27), sl27⟩) (c27 : PySem.W.codeIn K cd27 "_law_far" = true) (k27 : PySem.W.keepIn K (.ref f27) = true)
    (a28 : PySem.W.nsIn K mainGlobals "_law_way" = some (some (.ref f28))) (l28 : K.lookup f28 = some ⟨oc28, od28, .func (PySem.W.fnOf "_law_way" "_law_way" (defArgs s_law_way) (defBody s_law_way) (defScope s_law_way) .none kV28 dc28 pm28 an28 (.ref cT) ct28), sl28⟩) (c28 : PySem.W.codeIn K (.ref cT) "_law_way" = true) (k28 : PySem.W.keepIn K (.ref f28) = true)
    (a29 : PySem.W.nsIn K mainGlobals "followers" = some (some (.ref f29))) (l29 : K.lookup f29 = some ⟨oc29, od29, .func (PySem.W.fnOf "followers" "followers" (defArgs s_followers) (defBody s_followers) (defScope s_followers) .none kV29 dc29 pm29 an29 cd29 ct29), sl29⟩) (c29 : PySem.W.codeIn K cd29 "followers" = true) (k29 : PySem.W.keepIn K (.ref f29) = true)
    (a30 : PySem.W.nsIn K mainGlobals "places" = some (some (.ref f30))) (l30 : K.lookup f30 = some ⟨oc30, od30, .func (PySem.W.fnOf "places" "places" (defArgs s_places) (defBody s_places) (defScope s_places) .none kV30 dc30 pm30 an30 cd30 ct30), sl30⟩) (c30 : PySem.W.codeIn K cd30 "places" = true) (k30 : PySem.W.keepIn K (.ref f30) = true)
    (a31 : PySem.W.nsIn K mainGlobals "ahead_of" = some (some (.ref f31))) (l31 : K.lookup f31 = some ⟨oc31, od31, .func (PySem.W.fnOf "ahead_of" "ahead_of" (defArgs s_ahead_of) (defBody s_ahead_of) (defScope s_ahead_of) .none kV31 dc31 pm31 an31 cd31 ct31), sl31⟩) (c31 : PySem.W.codeIn K cd31 "ahead_of" = true) (k31 : PySem.W.keepIn K (.ref f31) = true)
    (a32 : PySem.W.nsIn K mainGlobals "reckoning_of" = some (some (.ref f32))) (l32 : K.lookup f32 = some ⟨oc32, od32, .func (PySem.W.fnOf "reckoning_of" "reckoning_of" (defArgs s_reckoning_of) (defBody s_reckoning_of) (defScope s_reckoning_of) .none kV32 dc32 pm32 an32 cd32 ct32), sl32⟩) (c32 : PySem.W.codeIn K cd32 "reckoning_of" = true) (k32 : PySem.W.keepIn K (.ref f32) = true)
    (a33 : PySem.W.nsIn K mainGlobals "reckonings" = some (some (.ref f33))) (l33 : K.lookup f33 = some ⟨oc33, od33, .func (PySem.W.fnOf "reckonings" "reckonings" (defArgs s_reckonings) (defBody s_reckonings) (defScope s_reckonings) .none kV33 dc33 pm33 an33 cd33 ct33), sl33⟩) (c33 : PySem.W.codeIn K cd33 "reckonings" = true) (k33 : PySem.W.keepIn K (.ref f33) = true)
    (a34 : PySem.W.nsIn K mainGlobals "all_bits" = some (some (.ref f34))) (l34 : K.lookup f34 = some ⟨oc34, od34, .func (PySem.W.fnOf "all_bits" "all_bits" (defArgs s_all_bits) (defBody s_all_bits) (defScope s_all_bits) .none kV34 dc34 pm34 an34 cd34 ct34), sl34⟩) (c34 : PySem.W.codeIn K cd34 "all_bits" = true) (k34 : PySem.W.keepIn K (.ref f34) = true)
    (a35 : PySem.W.nsIn K mainGlobals "sets" = some (some (.ref f35))) (l35 : K.lookup f35 = some ⟨oc35, od35, .func (PySem.W.fnOf "sets" "sets" (defArgs s_sets) (defBody s_sets) (defScope s_sets) .none kV35 dc35 pm35 an35 cd35 ct35), sl35⟩) (c35 : PySem.W.codeIn K cd35 "sets" = true) (k35 : PySem.W.keepIn K (.ref f35) = true)
    (a36 : PySem.W.nsIn K mainGlobals "changes" = some (some (.ref f36))) (l36 : K.lookup f36 = some ⟨oc36, od36, .func (PySem.W.fnOf "changes" "changes" (defArgs s_changes) (defBody s_changes) (defScope s_changes) .none kV36 dc36 pm36 an36 cd36 ct36), sl36⟩) (c36 : PySem.W.codeIn K cd36 "changes" = true) (k36 : PySem.W.keepIn K (.ref f36) = true)
    (a37 : PySem.W.nsIn K mainGlobals "lost_bits" = some (some (.ref f37))) (l37 : K.lookup f37 = some ⟨oc37, od37, .func (PySem.W.fnOf "lost_bits" "lost_bits" (defArgs s_lost_bits) (defBody s_lost_bits) (defScope s_lost_bits) .none kV37 dc37 pm37 an37 cd37 ct37), sl37⟩) (c37 : PySem.W.codeIn K cd37 "lost_bits" = true) (k37 : PySem.W.keepIn K (.ref f37) = true)
    (a38 : PySem.W.nsIn K mainGlobals "own_bits" = some (some (.ref f38))) (l38 : K.lookup f38 = some ⟨oc38, od38, .func (PySem.W.fnOf "own_bits" "own_bits" (defArgs s_own_bits) (defBody s_own_bits) (defScope s_own_bits) .none kV38 dc38 pm38 an38 cd38 ct38), sl38⟩) (c38 : PySem.W.codeIn K cd38 "own_bits" = true) (k38 : PySem.W.keepIn K (.ref f38) = true)
    (a39 : PySem.W.nsIn K mainGlobals "left_by" = some (some (.ref f39))) (l39 : K.lookup f39 = some ⟨oc39, od39, .func (PySem.W.fnOf "left_by" "left_by" (defArgs s_left_by) (defBody s_left_by) (defScope s_left_by) .none kV39 dc39 pm39 an39 cd39 ct39), sl39⟩) (c39 : PySem.W.codeIn K cd39 "left_by" = true) (k39 : PySem.W.keepIn K (.ref f39) = true)
    (a40 : PySem.W.nsIn K mainGlobals "standing" = some (some (.ref f40))) (l40 : K.lookup f40 = some ⟨oc40, od40, .func (PySem.W.fnOf "standing" "standing" (defArgs s_standing) (defBody s_standing) (defScope s_standing) .none kV40 dc40 pm40 an40 cd40 ct40), sl40⟩) (c40 : PySem.W.codeIn K cd40 "standing" = true) (k40 : PySem.W.keepIn K (.ref f40) = true)
    (a41 : PySem.W.nsIn K mainGlobals "asked_by" = some (some (.ref f41))) (l41 : K.lookup f41 = some ⟨oc41, od41, .func (PySem.W.fnOf "asked_by" "asked_by" (defArgs s_asked_by) (defBody s_asked_by) (defScope s_asked_by) .none kV41 dc41 pm41 an41 cd41 ct41), sl41⟩) (c41 : PySem.W.codeIn K cd41 "asked_by" = true) (k41 : PySem.W.keepIn K (.ref f41) = true)
    (a42 : PySem.W.nsIn K mainGlobals "wanted" = some (some (.ref f42))) (l42 : K.lookup f42 = some ⟨oc42, od42, .func (PySem.W.fnOf "wanted" "wanted" (defArgs s_wanted) (defBody s_wanted) (defScope s_wanted) .none kV42 dc42 pm42 an42 cd42 ct42), sl42⟩) (c42 : PySem.W.codeIn K cd42 "wanted" = true) (k42 : PySem.W.keepIn K (.ref f42) = true)
    (a43 : PySem.W.nsIn K mainGlobals "law" = some (some (.ref f43))) (l43 : K.lookup f43 = some ⟨oc43, od43, .func (PySem.W.fnOf "law" "law" (defArgs s_law) (defBody s_law) (defScope s_law) .none kV43 dc43 pm43 an43 cd43 ct43), sl43⟩) (c43 : PySem.W.codeIn K cd43 "law" = true) (k43 : PySem.W.keepIn K (.ref f43) = true)
    (z1 : PySem.W.nsIn K mainGlobals "enumerate" = some none)
    (z2 : PySem.W.nsIn K mainGlobals "int" = some none)
    (z3 : PySem.W.nsIn K mainGlobals "len" = some none)
    (z4 : PySem.W.nsIn K mainGlobals "list" = some none)
    (z5 : PySem.W.nsIn K mainGlobals "max" = some none)
    (z6 : PySem.W.nsIn K mainGlobals "min" = some none)
    (z7 : PySem.W.nsIn K mainGlobals "range" = some none)
    (z8 : PySem.W.nsIn K mainGlobals "sum" = some none)
    (tl : K.lookup cT = some ⟨tcc, tdd, .fields tvs, tsl⟩) (tv : tvs[11]? = some (.ref pT)) (tn : K.lookup pT = none)
    (pure : ∀ ns : List Int, ns.length ≤ 63 → ∃ S, m_law [.ref 0] [.fls (ns.map .int)] = .ok (.bl true) S) :
    ∃ (c Pt : Addr) (fd : FuncData), PySem.W.tabIn K "_law_way" = some (c, Pt) ∧ K.lookup Pt = none ∧ Tbs.T K = [(Pt, nmL)] ∧ (∀ (s : Shared) (v : Value), BindsTo s fd ⟨[v], []⟩ [("_law_script", v)]) ∧ ∀ base : Heap, K.In base → base.Ns mainGlobals mg → LamX.TabB base mg c Pt → FnOk P w K mg base CX0 7 fa fd ["_law_script"] (spLaw K) := by
  have e := hfa.symm.trans (PySem.W.mg_of X G a43)
  cases e
  have F1 := fun_mk (st := s_law_changes) l1 c1 k1
  have F2 := fun_mk (st := s_law_has) l2 c2 k2
  have F3 := fun_mk (st := s_law_ahead_right) l3 c3 k3
  have F4 := fun_mk (st := s_law_behind_right) l4 c4 k4
  have F5 := fun_mk (st := s_law_known) l5 c5 k5
  have F6 := fun_mk (st := s_law_operand) l6 c6 k6
  have F7 := fun_mk (st := s_law_any_row) l7 c7 k7
  have F8 := fun_mk (st := s_law_cell) l8 c8 k8
  have F9 := fun_mk (st := s_law_is_free) l9 c9 k9
  have F10 := fun_mk (st := s_law_mixed) l10 c10 k10
  have F11 := fun_mk (st := s_law_deeds) l11 c11 k11
  have F12 := fun_mk (st := s_law_followers) l12 c12 k12
  have F13 := fun_mk (st := s_law_comes_to) l13 c13 k13
  have F14 := fun_mk (st := s_law_mended) l14 c14 k14
  have F15 := fun_mk (st := s_law_names) l15 c15 k15
  have F16 := fun_mk (st := s_law_any_program) l16 c16 k16
  have F17 := fun_mk (st := s_law_goal) l17 c17 k17
  have F18 := fun_mk (st := s_law_number) l18 c18 k18
  have F19 := fun_mk (st := s_law_last) l19 c19 k19
  have F20 := fun_mk (st := s_law_row) l20 c20 k20
  have F21 := fun_mk (st := s_law_rough) l21 c21 k21
  have F22 := fun_mk (st := s_law_stairs) l22 c22 k22
  have F23 := fun_mk (st := s_law_with_while) l23 c23 k23
  have F24 := fun_mk (st := s_law_with_else) l24 c24 k24
  have F25 := fun_mk (st := s_law_program) l25 c25 k25
  have F26 := fun_mk (st := s_law_made) l26 c26 k26
  have F27 := fun_mk (st := s_law_far) l27 c27 k27
  have F28 := fun_mk (st := s_law_way) l28 c28 k28
  have F29 := fun_mk (st := s_followers) l29 c29 k29
  have F30 := fun_mk (st := s_places) l30 c30 k30
  have F31 := fun_mk (st := s_ahead_of) l31 c31 k31
  have F32 := fun_mk (st := s_reckoning_of) l32 c32 k32
  have F33 := fun_mk (st := s_reckonings) l33 c33 k33
  have F34 := fun_mk (st := s_all_bits) l34 c34 k34
  have F35 := fun_mk (st := s_sets) l35 c35 k35
  have F36 := fun_mk (st := s_changes) l36 c36 k36
  have F37 := fun_mk (st := s_lost_bits) l37 c37 k37
  have F38 := fun_mk (st := s_own_bits) l38 c38 k38
  have F39 := fun_mk (st := s_left_by) l39 c39 k39
  have F40 := fun_mk (st := s_standing) l40 c40 k40
  have F41 := fun_mk (st := s_asked_by) l41 c41 k41
  have F42 := fun_mk (st := s_wanted) l42 c42 k42
  have F43 := fun_mk (st := s_law) l43 c43 k43
  let T : Txt K mg := {
    f_law_changes := f1, fd_law_changes := _, F_law_changes := F1, g_law_changes := PySem.W.mg_of X G a1, b_law_changes := F1.binds (ps := ["_law_row_here", "_law_deed"]) fun _ _ _ _ _ _ us hl => match us, hl with | [_, _], _ => rfl,
    f_law_has := f2, fd_law_has := _, F_law_has := F2, g_law_has := PySem.W.mg_of X G a2, b_law_has := F2.binds (ps := ["_law_row_here", "_law_deed"]) fun _ _ _ _ _ _ us hl => match us, hl with | [_, _], _ => rfl,
    f_law_ahead_right := f3, fd_law_ahead_right := _, F_law_ahead_right := F3, g_law_ahead_right := PySem.W.mg_of X G a3, b_law_ahead_right := F3.binds (ps := ["_law_program_here", "_law_deed", "_law_k", "_law_wants", "_law_way_here"]) fun _ _ _ _ _ _ us hl => match us, hl with | [_, _, _, _, _], _ => rfl,
    f_law_behind_right := f4, fd_law_behind_right := _, F_law_behind_right := F4, g_law_behind_right := PySem.W.mg_of X G a4, b_law_behind_right := F4.binds (ps := ["_law_program_here", "_law_deed", "_law_k", "_law_stood", "_law_way_here"]) fun _ _ _ _ _ _ us hl => match us, hl with | [_, _, _, _, _], _ => rfl,
    f_law_known := f5, fd_law_known := _, F_law_known := F5, g_law_known := PySem.W.mg_of X G a5, b_law_known := F5.binds (ps := ["_law_program_here"]) fun _ _ _ _ _ _ us hl => match us, hl with | [_], _ => rfl,
    f_law_operand := f6, fd_law_operand := _, F_law_operand := F6, g_law_operand := PySem.W.mg_of X G a6, b_law_operand := F6.binds (ps := ["_law_cell_here", "_law_names_here"]) fun _ _ _ _ _ _ us hl => match us, hl with | [_, _], _ => rfl,
    f_law_any_row := f7, fd_law_any_row := _, F_law_any_row := F7, g_law_any_row := PySem.W.mg_of X G a7, b_law_any_row := F7.binds (ps := ["_law_cell_here", "_law_n", "_law_many", "_law_names_here", "_law_deeds_here"]) fun _ _ _ _ _ _ us hl => match us, hl with | [_, _, _, _, _], _ => rfl,
    f_law_cell := f8, fd_law_cell := _, F_law_cell := F8, g_law_cell := PySem.W.mg_of X G a8, b_law_cell := F8.binds (ps := ["_law_script", "_law_k"]) fun _ _ _ _ _ _ us hl => match us, hl with | [_, _], _ => rfl,
    f_law_is_free := f9, fd_law_is_free := _, F_law_is_free := F9, g_law_is_free := PySem.W.mg_of X G a9, b_law_is_free := F9.binds (ps := ["_law_script"]) fun _ _ _ _ _ _ us hl => match us, hl with | [_], _ => rfl,
    f_law_mixed := f10, fd_law_mixed := _, F_law_mixed := F10, g_law_mixed := PySem.W.mg_of X G a10, b_law_mixed := F10.binds (ps := ["_law_cell_here", "_law_k"]) fun _ _ _ _ _ _ us hl => match us, hl with | [_, _], _ => rfl,
    f_law_deeds := f11, fd_law_deeds := _, F_law_deeds := F11, g_law_deeds := PySem.W.mg_of X G a11, b_law_deeds := F11.binds (ps := ["_law_script", "_law_names_here"]) fun _ _ _ _ _ _ us hl => match us, hl with | [_, _], _ => rfl,
    f_law_followers := f12, fd_law_followers := _, F_law_followers := F12, g_law_followers := PySem.W.mg_of X G a12, b_law_followers := F12.binds (ps := ["_law_program_here", "_law_n"]) fun _ _ _ _ _ _ us hl => match us, hl with | [_, _], _ => rfl,
    f_law_comes_to := f13, fd_law_comes_to := _, F_law_comes_to := F13, g_law_comes_to := PySem.W.mg_of X G a13, b_law_comes_to := F13.binds (ps := ["_law_rows", "_law_ahead"]) fun _ _ _ _ _ _ us hl => match us, hl with | [_, _], _ => rfl,
    f_law_mended := f14, fd_law_mended := _, F_law_mended := F14, g_law_mended := PySem.W.mg_of X G a14, b_law_mended := F14.binds (ps := ["_law_rows"]) fun _ _ _ _ _ _ us hl => match us, hl with | [_], _ => rfl,
    f_law_names := f15, fd_law_names := _, F_law_names := F15, g_law_names := PySem.W.mg_of X G a15, b_law_names := F15.binds (ps := ["_law_cell_here"]) fun _ _ _ _ _ _ us hl => match us, hl with | [_], _ => rfl,
    f_law_any_program := f16, fd_law_any_program := _, F_law_any_program := F16, g_law_any_program := PySem.W.mg_of X G a16, b_law_any_program := F16.binds (ps := ["_law_script", "_law_cells"]) fun _ _ _ _ _ _ us hl => match us, hl with | [_, _], _ => rfl,
    f_law_goal := f17, fd_law_goal := _, F_law_goal := F17, g_law_goal := PySem.W.mg_of X G a17, b_law_goal := F17.binds (ps := ["_law_rough_here", "_law_to"]) fun _ _ _ _ _ _ us hl => match us, hl with | [_, _], _ => rfl,
    f_law_number := f18, fd_law_number := _, F_law_number := F18, g_law_number := PySem.W.mg_of X G a18, b_law_number := F18.binds (ps := ["_law_script", "_law_k"]) fun _ _ _ _ _ _ us hl => match us, hl with | [_, _], _ => rfl,
    f_law_last := f19, fd_law_last := _, F_law_last := F19, g_law_last := PySem.W.mg_of X G a19, b_law_last := F19.binds (ps := ["_law_rows", "_law_number_here"]) fun _ _ _ _ _ _ us hl => match us, hl with | [_, _], _ => rfl,
    f_law_row := f20, fd_law_row := _, F_law_row := F20, g_law_row := PySem.W.mg_of X G a20, b_law_row := F20.binds (ps := ["_law_cell_here", "_law_other", "_law_names_here", "_law_deeds_here"]) fun _ _ _ _ _ _ us hl => match us, hl with | [_, _, _, _], _ => rfl,
    f_law_rough := f21, fd_law_rough := _, F_law_rough := F21, g_law_rough := PySem.W.mg_of X G a21, b_law_rough := F21.binds (ps := ["_law_script", "_law_cells"]) fun _ _ _ _ _ _ us hl => match us, hl with | [_, _], _ => rfl,
    f_law_stairs := f22, fd_law_stairs := _, F_law_stairs := F22, g_law_stairs := PySem.W.mg_of X G a22, b_law_stairs := F22.binds (ps := ["_law_script", "_law_many"]) fun _ _ _ _ _ _ us hl => match us, hl with | [_, _], _ => rfl,
    f_law_with_while := f23, fd_law_with_while := _, F_law_with_while := F23, g_law_with_while := PySem.W.mg_of X G a23, b_law_with_while := F23.binds (ps := ["_law_rows", "_law_cell_here"]) fun _ _ _ _ _ _ us hl => match us, hl with | [_, _], _ => rfl,
    f_law_with_else := f24, fd_law_with_else := _, F_law_with_else := F24, g_law_with_else := PySem.W.mg_of X G a24, b_law_with_else := F24.binds (ps := ["_law_rows", "_law_cell_here"]) fun _ _ _ _ _ _ us hl => match us, hl with | [_, _], _ => rfl,
    f_law_program := f25, fd_law_program := _, F_law_program := F25, g_law_program := PySem.W.mg_of X G a25, b_law_program := F25.binds (ps := ["_law_script", "_law_cells"]) fun _ _ _ _ _ _ us hl => match us, hl with | [_, _], _ => rfl,
    f_law_made := f26, fd_law_made := _, F_law_made := F26, g_law_made := PySem.W.mg_of X G a26, b_law_made := F26.binds (ps := ["_law_script"]) fun _ _ _ _ _ _ us hl => match us, hl with | [_], _ => rfl,
    f_law_far := f27, fd_law_far := _, F_law_far := F27, g_law_far := PySem.W.mg_of X G a27, b_law_far := F27.binds (ps := ["_law_program_here"]) fun _ _ _ _ _ _ us hl => match us, hl with | [_], _ => rfl,
    f_law_way := f28, fd_law_way := _, F_law_way := F28, g_law_way := PySem.W.mg_of X G a28, b_law_way := F28.binds (ps := ["_law_program_here", "_law_script"]) fun _ _ _ _ _ _ us hl => match us, hl with | [_, _], _ => rfl,
    f_followers := f29, fd_followers := _, F_followers := F29, g_followers := PySem.W.mg_of X G a29, b_followers := F29.binds (ps := ["program", "n"]) fun _ _ _ _ _ _ us hl => match us, hl with | [_, _], _ => rfl,
    f_places := f30, fd_places := _, F_places := F30, g_places := PySem.W.mg_of X G a30, b_places := F30.binds (ps := ["program"]) fun _ _ _ _ _ _ us hl => match us, hl with | [_], _ => rfl,
    f_ahead_of := f31, fd_ahead_of := _, F_ahead_of := F31, g_ahead_of := PySem.W.mg_of X G a31, b_ahead_of := F31.binds (ps := ["program"]) fun _ _ _ _ _ _ us hl => match us, hl with | [_], _ => rfl,
    f_reckoning_of := f32, fd_reckoning_of := _, F_reckoning_of := F32, g_reckoning_of := PySem.W.mg_of X G a32, b_reckoning_of := F32.binds (ps := ["row"]) fun _ _ _ _ _ _ us hl => match us, hl with | [_], _ => rfl,
    f_reckonings := f33, fd_reckonings := _, F_reckonings := F33, g_reckonings := PySem.W.mg_of X G a33, b_reckonings := F33.binds (ps := ["program"]) fun _ _ _ _ _ _ us hl => match us, hl with | [_], _ => rfl,
    f_all_bits := f34, fd_all_bits := _, F_all_bits := F34, g_all_bits := PySem.W.mg_of X G a34, b_all_bits := F34.binds (ps := ["program"]) fun _ _ _ _ _ _ us hl => match us, hl with | [_], _ => rfl,
    f_sets := f35, fd_sets := _, F_sets := F35, g_sets := PySem.W.mg_of X G a35, b_sets := F35.binds (ps := ["row"]) fun _ _ _ _ _ _ us hl => match us, hl with | [_], _ => rfl,
    f_changes := f36, fd_changes := _, F_changes := F36, g_changes := PySem.W.mg_of X G a36, b_changes := F36.binds (ps := ["row", "reckoning"]) fun _ _ _ _ _ _ us hl => match us, hl with | [_, _], _ => rfl,
    f_lost_bits := f37, fd_lost_bits := _, F_lost_bits := F37, g_lost_bits := PySem.W.mg_of X G a37, b_lost_bits := F37.binds (ps := ["program"]) fun _ _ _ _ _ _ us hl => match us, hl with | [_], _ => rfl,
    f_own_bits := f38, fd_own_bits := _, F_own_bits := F38, g_own_bits := PySem.W.mg_of X G a38, b_own_bits := F38.binds (ps := ["program"]) fun _ _ _ _ _ _ us hl => match us, hl with | [_], _ => rfl,
    f_left_by := f39, fd_left_by := _, F_left_by := F39, g_left_by := PySem.W.mg_of X G a39, b_left_by := F39.binds (ps := ["program"]) fun _ _ _ _ _ _ us hl => match us, hl with | [_], _ => rfl,
    f_standing := f40, fd_standing := _, F_standing := F40, g_standing := PySem.W.mg_of X G a40, b_standing := F40.binds (ps := ["program"]) fun _ _ _ _ _ _ us hl => match us, hl with | [_], _ => rfl,
    f_asked_by := f41, fd_asked_by := _, F_asked_by := F41, g_asked_by := PySem.W.mg_of X G a41, b_asked_by := F41.binds (ps := ["program"]) fun _ _ _ _ _ _ us hl => match us, hl with | [_], _ => rfl,
    f_wanted := f42, fd_wanted := _, F_wanted := F42, g_wanted := PySem.W.mg_of X G a42, b_wanted := F42.binds (ps := ["program"]) fun _ _ _ _ _ _ us hl => match us, hl with | [_], _ => rfl,
    f_law := fa, fd_law := _, F_law := F43, g_law := PySem.W.mg_of X G a43, b_law := F43.binds (ps := ["_law_script"]) fun _ _ _ _ _ _ us hl => match us, hl with | [_], _ => rfl,
    z_enumerate := PySem.W.mg_none_of X G z1,
    z_int := PySem.W.mg_none_of X G z2,
    z_len := PySem.W.mg_none_of X G z3,
    z_list := PySem.W.mg_none_of X G z4,
    z_max := PySem.W.mg_none_of X G z5,
    z_min := PySem.W.mg_none_of X G z6,
    z_range := PySem.W.mg_none_of X G z7,
    z_sum := PySem.W.mg_none_of X G z8,
    tC := cT, tP := pT, hCd := rfl, hTb := tbs_of (tab_mk a28 l28 rfl tl tv) }
  exact ⟨cT, pT, T.fd_law, tab_mk a28 l28 rfl tl tv, tn, T.hTb, fun s v => .of_eq rfl, fun base _ _ TB => (ok_law T TB).imp (law_sp pure)⟩
end Lk34
open PySem PySem.W PyProof.Rows
set_option maxRecDepth 100000 in
set_option maxHeartbeats 0 in
theorem PySem.Challenge.cw_lazyhoist_k34_whole_on_any_way_holds : PySem.Challenge.rw_lazyhoist_k34_whole_on_any_way.Holds := by
  w_on; o_law; k_head; (case hw => w_witness2)
  k_fill
  refine Sm.walk_lam (l := PySem.Challenge.rw_lazyhoist_k34_whole_on_any_way) (k := 7) (x := "_law_script") (y := "_law_way") (nm := Lk34.nmL) rfl rfl ⟨rfl, by decide, by decide⟩ (by decide +kernel) (fun w h Y => PySem.W.km_in_of Y) ?F
  case F =>
    intro w mg fa h _ KX G hmg
    refine' Lk34.all_mk KX G hmg ?a1 ?l1 ?c1 ?k1 ?a2 ?l2 ?c2 ?k2 ?a3 ?l3 ?c3 ?k3 ?a4 ?l4 ?c4 ?k4 ?a5 ?l5 ?c5 ?k5 ?a6 ?l6 ?c6 ?k6 ?a7 ?l7 ?c7 ?k7 ?a8 ?l8 ?c8 ?k8 ?a9 ?l9 ?c9 ?k9 ?a10 ?l10 ?c10 ?k10 ?a11 ?l11 ?c11 ?k11 ?a12 ?l12 ?c12 ?k12 ?a13 ?l13 ?c13 ?k13 ?a14 ?l14 ?c14 ?k14 ?a15 ?l15 ?c15 ?k15 ?a16 ?l16 ?c16 ?k16 ?a17 ?l17 ?c17 ?k17 ?a18 ?l18 ?c18 ?k18 ?a19 ?l19 ?c19 ?k19 ?a20 ?l20 ?c20 ?k20 ?a21 ?l21 ?c21 ?k21 ?a22 ?l22 ?c22 ?k22 ?a23 ?l23 ?c23 ?k23 ?a24 ?l24 ?c24 ?k24 ?a25 ?l25 ?c25 ?k25 ?a26 ?l26 ?c26 ?k26 ?a27 ?l27 ?c27 ?k27 ?a28 ?l28 ?c28 ?k28 ?a29 ?l29 ?c29 ?k29 ?a30 ?l30 ?c30 ?k30 ?a31 ?l31 ?c31 ?k31 ?a32 ?l32 ?c32 ?k32 ?a33 ?l33 ?c33 ?k33 ?a34 ?l34 ?c34 ?k34 ?a35 ?l35 ?c35 ?k35 ?a36 ?l36 ?c36 ?k36 ?a37 ?l37 ?c37 ?k37 ?a38 ?l38 ?c38 ?k38 ?a39 ?l39 ?c39 ?k39 ?a40 ?l40 ?c40 ?k40 ?a41 ?l41 ?c41 ?k41 ?a42 ?l42 ?c42 ?k42 ?a43 ?l43 ?c43 ?k43 ?z1 ?z2 ?z3 ?z4 ?z5 ?z6 ?z7 ?z8 ?tl ?tv ?tn ?pure
    (case a1 => k_is); (case l1 => k_is); (case c1 => k_is); (case k1 => k_is); (case a2 => k_is); (case l2 => k_is); (case c2 => k_is); (case k2 => k_is)
    (case a3 => k_is); (case l3 => k_is); (case c3 => k_is); (case k3 => k_is); (case a4 => k_is); (case l4 => k_is); (case c4 => k_is); (case k4 => k_is)
    (case a5 => k_is); (case l5 => k_is); (case c5 => k_is); (case k5 => k_is); (case a6 => k_is); (case l6 => k_is); (case c6 => k_is); (case k6 => k_is)
    (case a7 => k_is); (case l7 => k_is); (case c7 => k_is); (case k7 => k_is); (case a8 => k_is); (case l8 => k_is); (case c8 => k_is); (case k8 => k_is)
    (case a9 => k_is); (case l9 => k_is); (case c9 => k_is); (case k9 => k_is); (case a10 => k_is); (case l10 => k_is); (case c10 => k_is); (case k10 => k_is)
    (case a11 => k_is); (case l11 => k_is); (case c11 => k_is); (case k11 => k_is); (case a12 => k_is); (case l12 => k_is); (case c12 => k_is); (case k12 => k_is)
    (case a13 => k_is); (case l13 => k_is); (case c13 => k_is); (case k13 => k_is); (case a14 => k_is); (case l14 => k_is); (case c14 => k_is); (case k14 => k_is)
    (case a15 => k_is); (case l15 => k_is); (case c15 => k_is); (case k15 => k_is); (case a16 => k_is); (case l16 => k_is); (case c16 => k_is); (case k16 => k_is)
    (case a17 => k_is); (case l17 => k_is); (case c17 => k_is); (case k17 => k_is); (case a18 => k_is); (case l18 => k_is); (case c18 => k_is); (case k18 => k_is)
    (case a19 => k_is); (case l19 => k_is); (case c19 => k_is); (case k19 => k_is); (case a20 => k_is); (case l20 => k_is); (case c20 => k_is); (case k20 => k_is)
    (case a21 => k_is); (case l21 => k_is); (case c21 => k_is); (case k21 => k_is); (case a22 => k_is); (case l22 => k_is); (case c22 => k_is); (case k22 => k_is)
    (case a23 => k_is); (case l23 => k_is); (case c23 => k_is); (case k23 => k_is); (case a24 => k_is); (case l24 => k_is); (case c24 => k_is); (case k24 => k_is)
    (case a25 => k_is); (case l25 => k_is); (case c25 => k_is); (case k25 => k_is); (case a26 => k_is); (case l26 => k_is); (case c26 => k_is); (case k26 => k_is)
    (case a27 => k_is); (case l27 => k_is); (case c27 => k_is); (case k27 => k_is); (case a28 => k_is); (case l28 => k_is); (case c28 => k_is); (case k28 => k_is)
    (case a29 => k_is); (case l29 => k_is); (case c29 => k_is); (case k29 => k_is); (case a30 => k_is); (case l30 => k_is); (case c30 => k_is); (case k30 => k_is)
    (case a31 => k_is); (case l31 => k_is); (case c31 => k_is); (case k31 => k_is); (case a32 => k_is); (case l32 => k_is); (case c32 => k_is); (case k32 => k_is)
    (case a33 => k_is); (case l33 => k_is); (case c33 => k_is); (case k33 => k_is); (case a34 => k_is); (case l34 => k_is); (case c34 => k_is); (case k34 => k_is)
    (case a35 => k_is); (case l35 => k_is); (case c35 => k_is); (case k35 => k_is); (case a36 => k_is); (case l36 => k_is); (case c36 => k_is); (case k36 => k_is)
    (case a37 => k_is); (case l37 => k_is); (case c37 => k_is); (case k37 => k_is); (case a38 => k_is); (case l38 => k_is); (case c38 => k_is); (case k38 => k_is)
    (case a39 => k_is); (case l39 => k_is); (case c39 => k_is); (case k39 => k_is); (case a40 => k_is); (case l40 => k_is); (case c40 => k_is); (case k40 => k_is)
    (case a41 => k_is); (case l41 => k_is); (case c41 => k_is); (case k41 => k_is); (case a42 => k_is); (case l42 => k_is); (case c42 => k_is); (case k42 => k_is)
    (case a43 => k_is); (case l43 => k_is); (case c43 => k_is); (case k43 => k_is); (case z1 => k_is); (case z2 => k_is); (case z3 => k_is); (case z4 => k_is)
    (case z5 => k_is); (case z6 => k_is); (case z7 => k_is); (case z8 => k_is); (case tl => k_is); (case tv => rfl); (case tn => rfl)
    (case pure => exact Lk34.law_pure)
