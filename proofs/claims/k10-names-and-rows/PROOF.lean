import PyProof.Rows.All
import PyProof.EqLayable
import PySem.Builtin.Str.Common
import Wide.All
import OpenK.AllK
import Wide.FinOn
import HandS.ForMost
import HandS.Wide
import HandS.Deep
import HandS.IsInst
import HandS.Walk
import HandS.TupLen
import HandS.Replace
import HandS.Conv
import HandS.More
import HandS.NoneIn
import HandS.RevRange
import HandS.Text
import HandS.FStr
import HandS.RaiseMore
import KE.KxIndex
import HandS.TupAny
import PyProof.EqAt
import PyProof.EqKinds
import PySem.Challenge.RW_lazyhoist_k10_names_and_rows
set_option Elab.async false
set_option linter.all false
/-! Mi: a small language of values, stores and steps, in plain Lean. -/
namespace Mi
abbrev Tx := List Nat
inductive D where
  | non | bl (b : Bool) | int (i : Int) | str (s : Tx) | tup (l : List D) | wtp (l : List D) | ref (n : Nat)
abbrev Ky := Sum Int Tx
inductive O where
  | lst (l : List D) | fls (l : List D) | dK (k : List (Ky × D)) | dT (k : List (List Ky × D)) | ins (C : String) (f : List (Tx × D))
abbrev Store := List O
structure Exn where
  cls : String
  fs : List (Tx × D)
inductive Res (α : Type) where
  | ok (a : α) (S : Store) | exc (x : Exn) (S : Store) | bad
def Res.bind {α β : Type} : Res α → (α → Store → Res β) → Res β
  | .ok a S, f => f a S
  | .exc x S, _ => .exc x S
  | .bad, _ => .bad
@[simp] theorem bind_ok {α β : Type} (a : α) (S : Store) (f : α → Store → Res β) : (Res.ok a S).bind f = f a S := rfl
@[simp] theorem bind_exc {α β : Type} (x : Exn) (S : Store) (f : α → Store → Res β) : (Res.exc x S).bind f = .exc x S := rfl
@[simp] theorem bind_bad {α β : Type} (f : α → Store → Res β) : (Res.bad : Res α).bind f = .bad := rfl
abbrev Fr := List (Option D)
abbrev EM := Fr → Store → Res D
abbrev TM := Fr → Store → Res Bool
abbrev AM := Fr → Store → Res (List D)
inductive Out where
  | nx (fr : Fr) | rt (d : D) | bk (fr : Fr) | ct (fr : Fr)
abbrev SM := Fr → Store → Res Out
abbrev Op2 := D → D → Store → Res D
abbrev Fn := List D → Store → Res D
abbrev LINE : Nat := 16777216

/-! ### data -/
mutual
def toP (rd : Nat → Option PySem.PyData) : D → Option PySem.PyData
  | .non => some .none
  | .bl b => some (.bool b)
  | .int i => some (.int i)
  | .str s => some (.str ⟨s.toArray⟩)
  | .tup l => (toPs rd l).map .tuple
  | .wtp l => (toPs rd l).map .tuple
  | .ref n => rd n
def toPs (rd : Nat → Option PySem.PyData) : List D → Option (List PySem.PyData)
  | [] => some []
  | d :: l => (toP rd d).bind fun p => (toPs rd l).map fun r => p :: r
end
def lookP : Nat → Store → Nat → Option PySem.PyData
  | 0, _, _ => none
  | k + 1, S, n => match S[n]? with
    | some (.lst l) => (toPs (lookP k S) l).map .list
    | some (.fls l) => (toPs (lookP k S) l).map .list
    | _ => none
def pd (S : Store) (d : D) : Option PySem.PyData := toP (lookP 8 S) d
def shp (p : PySem.PyData) : Bool := PySem.SeqAt.shaped p
/-- == of scalars -/
def scq : D → D → Option Bool
  | .non, .non => some true
  | .non, .int _ => some false | .int _, .non => some false
  | .non, .bl _ => some false | .bl _, .non => some false
  | .non, .str _ => some false | .str _, .non => some false
  | .int i, .int j => some (decide (i = j))
  | .bl a, .bl b => some (decide (a = b))
  | .str a, .str b => some (decide (a = b))
  | .int _, .str _ => some false | .str _, .int _ => some false
  | .bl _, .str _ => some false | .str _, .bl _ => some false
  | _, _ => none
def pyEq (x y : D) (S : Store) : Option Bool := match scq x y with
  | some b => some b
  | none => match pd S x, pd S y with
    | some p, some q => if shp p = true ∧ shp q = true then some (PySem.PyData.eqv p q) else none
    | _, _ => none
def oEq : Op2 := fun x y S => match pyEq x y S with
  | some b => .ok (.bl b) S
  | none => .bad
def oNe : Op2 := fun x y S => match pyEq x y S with
  | some b => .ok (.bl (!b)) S
  | none => .bad
def isN : D → Bool
  | .non => true
  | _ => false
def oIs : Op2 := fun x y S => if isN y then .ok (.bl (isN x)) S else .bad
def oIsNot : Op2 := fun x y S => if isN y then .ok (.bl (!isN x)) S else .bad

/-! ### keys -/
def kyOf : D → Option Ky
  | .int i => some (.inl i)
  | .str s => some (.inr s)
  | _ => none
def kyD : Ky → D
  | .inl i => .int i
  | .inr s => .str s
def kysOf : List D → Option (List Ky)
  | [] => some []
  | d :: l => (kyOf d).bind fun k => (kysOf l).map fun r => k :: r
def ktOf : D → Option (List Ky)
  | .tup l => kysOf l
  | _ => none
def dGet {κ α : Type} [DecidableEq κ] (kvs : List (κ × α)) (k : κ) : Option α := (kvs.find? fun kv => decide (kv.1 = k)).map (·.2)
def dPut {κ α : Type} [DecidableEq κ] (kvs : List (κ × α)) (k : κ) (v : α) : List (κ × α) :=
  if (kvs.any fun kv => decide (kv.1 = k)) = true then kvs.map fun kv => if kv.1 = k then (kv.1, v) else kv else kvs ++ [(k, v)]
/-- what a dict holds at a key: none where it is no dict or no key -/
def dLook (S : Store) (n : Nat) (k : D) : Option (Option D) := match S[n]? with
  | some (.dK kvs) => (kyOf k).map (dGet kvs)
  | some (.dT kvs) => (ktOf k).map (dGet kvs)
  | _ => none

/-! ### lists and tuples -/
def lstOf (S : Store) (n : Nat) : Option (List D) := match S[n]? with
  | some (.lst l) => some l
  | some (.fls l) => some l
  | _ => none
def seqOf (S : Store) : D → Option (List D)
  | .tup l => some l
  | .wtp l => some l
  | .ref n => lstOf S n
  | _ => none
def ixN (n : Nat) (i : Int) : Option Nat := if 0 ≤ i then (if i < n then some i.toNat else none) else if -(n : Int) ≤ i then some (i + n).toNat else none
def atI {α : Type} (xs : List α) (i : Int) : Option α := (ixN xs.length i).bind fun j => xs[j]?
def sIx (n d : Nat) : Option Int → Nat
  | none => d
  | some v => if v < 0 then (v + (n : Int)).toNat else min v.toNat n
def cut {α : Type} (xs : List α) (lo hi : Option Int) : List α := (xs.drop (sIx xs.length 0 lo)).take (sIx xs.length xs.length hi - sIx xs.length 0 lo)
def new (o : O) (S : Store) : Res D := .ok (.ref S.length) (S ++ [o])

/-! ### operators -/
def small (i : Int) : Prop := -(2 ^ 64) < i ∧ i < 2 ^ 64
instance (i : Int) : Decidable (small i) := by unfold small; infer_instance
def mulOk (i j : Int) : Prop := small i ∨ small j ∨ i.natAbs.log2 + j.natAbs.log2 < 1000000
instance (i j : Int) : Decidable (mulOk i j) := by unfold mulOk; infer_instance
def oAdd : Op2
  | .int i, .int j, S => .ok (.int (i + j)) S
  | .str a, .str b, S => if a.length + b.length ≤ LINE then .ok (.str (a ++ b)) S else .bad
  | .tup a, .tup b, S => if a ≠ [] ∧ a.length + b.length ≤ LINE then .ok (.tup (a ++ b)) S else .bad
  | .ref m, .ref n, S => match S[m]?, S[n]? with
    | some (.lst a), some (.lst b) => if a.length + b.length ≤ LINE then new (.lst (a ++ b)) S else .bad
    | _, _ => .bad
  | _, _, _ => .bad
def oSub : Op2
  | .int i, .int j, S => .ok (.int (i - j)) S
  | _, _, _ => .bad
def oMul : Op2
  | .int i, .int j, S => if mulOk i j then .ok (.int (i * j)) S else .bad
  | .ref m, .int k, S => match S[m]? with
    | some (.lst a) => if -(2 ^ 63) ≤ k ∧ k < 2 ^ 63 ∧ a.length * k.toNat ≤ LINE then new (.lst (List.replicate k.toNat a).flatten) S else .bad
    | _ => .bad
  | _, _, _ => .bad
def divOk (j : Int) : Prop := 0 < j ∧ j.natAbs.log2 < 9000
instance (j : Int) : Decidable (divOk j) := by unfold divOk; infer_instance
def oDiv : Op2
  | .int i, .int j, S => if divOk j then .ok (.int (i / j)) S else .bad
  | _, _, _ => .bad
def oMod : Op2
  | .int i, .int j, S => if 0 < j then .ok (.int (i % j)) S else .bad
  | _, _, _ => .bad
def powOk (i j : Int) : Prop := 0 ≤ j ∧ j ≤ 1000000 ∧ i.natAbs < 2 ^ 64
instance (i j : Int) : Decidable (powOk i j) := by unfold powOk; infer_instance
def oPow : Op2
  | .int i, .int j, S => if powOk i j then .ok (.int (i ^ j.toNat)) S else .bad
  | _, _, _ => .bad
def oShl : Op2
  | .int i, .int j, S => if powOk i j then .ok (.int (i * 2 ^ j.toNat)) S else .bad
  | _, _, _ => .bad
def oShr : Op2
  | .int i, .int j, S => if 0 ≤ j then .ok (.int (i / 2 ^ j.toNat)) S else .bad
  | _, _, _ => .bad
def oBit (f : Nat → Nat → Nat) : Op2
  | .int i, .int j, S => if 0 ≤ i ∧ 0 ≤ j then .ok (.int (f i.toNat j.toNat : Nat)) S else .bad
  | _, _, _ => .bad
def oAnd : Op2 := oBit fun a b => a &&& b
def oOr : Op2 := oBit fun a b => a ||| b
def oXor : Op2 := oBit fun a b => a ^^^ b
def oCmp (p : Int → Int → Bool) : Op2
  | .int i, .int j, S => .ok (.bl (p i j)) S
  | _, _, _ => .bad
def oLt : Op2 := oCmp fun i j => decide (i < j)
def oLe : Op2 := oCmp fun i j => decide (i ≤ j)
def oGt : Op2 := oCmp fun i j => decide (j < i)
def oGe : Op2 := oCmp fun i j => decide (j ≤ i)
/-- x in y: a list or a tuple, a dict, a text (one sign) -/
def flatD : D → Bool
  | .non => true
  | .bl _ => true
  | .int _ => true
  | .str _ => true
  | _ => false
def eqF : D → D → Bool
  | .non, .non => true
  | .bl a, .bl b => a == b
  | .bl a, .int b => (if a then 1 else 0) == b
  | .int a, .bl b => a == (if b then 1 else 0)
  | .int a, .int b => a == b
  | .str a, .str b => a == b
  | _, _ => false
def inSeq (x : D) (l : List D) (S : Store) : Option Bool :=
  if flatD x = true ∧ l.all flatD = true then some (l.any fun y => eqF y x) else
  match pd S x, toPs (lookP 8 S) l with
    | some p, some q => if shp p = true ∧ shp (.list q) = true then some (q.any fun z => PySem.PyData.eqv z p) else none
    | _, _ => none
def isIn (x y : D) (S : Store) : Option Bool := match y with
  | .str z => match x with
    | .str [c] => some (decide (c ∈ z))
    | _ => none
  | .tup l => inSeq x l S
  | .wtp l => inSeq x l S
  | .ref n => match S[n]? with
    | some (.lst l) => inSeq x l S
    | some (.fls l) => inSeq x l S
    | some (.dK kvs) => (kyOf x).map fun k => (dGet kvs k).isSome
    | some (.dT kvs) => (ktOf x).map fun k => (dGet kvs k).isSome
    | _ => none
  | _ => none
def oIn : Op2 := fun x y S => match isIn x y S with
  | some b => .ok (.bl b) S
  | none => .bad
def oNotIn : Op2 := fun x y S => match isIn x y S with
  | some b => .ok (.bl (!b)) S
  | none => .bad
/-- x[y] -/
def oIx : Op2 := fun x y S => match x, y with
  | .str z, .int i => if z.length ≤ LINE then (match atI z i with
    | some c => .ok (.str [c]) S
    | none => .bad) else .bad
  | .tup l, .int i => match atI l i with
    | some v => .ok v S
    | none => .bad
  | .wtp l, .int i => match atI l i with
    | some v => .ok v S
    | none => .bad
  | .ref n, k => match S[n]? with
    | some (.lst l) => (match k with
      | .int i => (match atI l i with
        | some v => .ok v S
        | none => .bad)
      | _ => .bad)
    | some (.fls l) => (match k with
      | .int i => (match atI l i with
        | some v => .ok v S
        | none => .bad)
      | _ => .bad)
    | _ => match dLook S n k with
      | some (some v) => .ok v S
      | _ => .bad
  | _, _ => .bad
/-- x[lo:hi] -/
def oSl (x : D) (lo hi : Option Int) (S : Store) : Res D := match x with
  | .str z => if z.length ≤ LINE then .ok (.str (cut z lo hi)) S else .bad
  | .tup l => if (cut l lo hi).length < l.length then .ok (.tup (cut l lo hi)) S else .bad
  | .ref n => match lstOf S n with
    | some l => new (.lst (cut l lo hi)) S
    | none => .bad
  | _ => .bad
/-- -x -/
def uNeg : D → Store → Res D
  | .int i, S => .ok (.int (-i)) S
  | _, _ => .bad
/-- truth -/
def truth (d : D) (S : Store) : Option Bool := match d with
  | .non => some false
  | .bl b => some b
  | .int i => some (i != 0)
  | .str s => if s.length ≤ LINE then some (s.length != 0) else none
  | .tup l => some (!l.isEmpty)
  | .ref n => match lstOf S n with
    | some l => some (!l.isEmpty)
    | none => none
  | _ => none
end Mi

set_option Elab.async false
set_option linter.all false
/-! Mi: steps. -/
namespace Mi
/-- a decision on any statement -/
noncomputable def dec (p : Prop) : Bool := @decide p (Classical.propDecidable p)
theorem dec_true {p : Prop} (h : p) : dec p = true := @decide_eq_true p (Classical.propDecidable p) h
theorem of_dec {p : Prop} (h : dec p = true) : p := @of_decide_eq_true p (Classical.propDecidable p) h

/-! ### expressions -/
def mVar (i : Nat) : EM := fun fr S => match fr[i]? with
  | some (some d) => .ok d S
  | _ => .bad
def mC (d : D) : EM := fun _ S => .ok d S
def mOp (g : Op2) (a b : EM) : EM := fun fr S => (a fr S).bind fun x S1 => (b fr S1).bind fun y S2 => g x y S2
def mUn (g : D → Store → Res D) (a : EM) : EM := fun fr S => (a fr S).bind fun x S1 => g x S1
def toB (d : D) (S : Store) : Res Bool := match d with
  | .bl b => .ok b S
  | _ => .bad
def mNot (a : EM) : EM := fun fr S => (a fr S).bind fun x S1 => (toB x S1).bind fun b S2 => .ok (.bl (!b)) S2
def mAnd (a b : EM) : EM := fun fr S => (a fr S).bind fun x S1 => (toB x S1).bind fun c S2 => if c then b fr S2 else .ok (.bl false) S2
def mOr (a b : EM) : EM := fun fr S => (a fr S).bind fun x S1 => (toB x S1).bind fun c S2 => if c then .ok (.bl true) S2 else b fr S2
def tTru (a : EM) : TM := fun fr S => (a fr S).bind fun x S1 => match truth x S1 with
  | some b => .ok b S1
  | none => .bad
def tBl (a : EM) : TM := fun fr S => (a fr S).bind fun x S1 => toB x S1
def tAnd (a b : TM) : TM := fun fr S => (a fr S).bind fun c S1 => if c then b fr S1 else .ok false S1
def tOr (a b : TM) : TM := fun fr S => (a fr S).bind fun c S1 => if c then .ok true S1 else b fr S1
def tNot (a : TM) : TM := fun fr S => (a fr S).bind fun c S1 => .ok (!c) S1
def mIfE (t : TM) (a b : EM) : EM := fun fr S => (t fr S).bind fun c S1 => if c then a fr S1 else b fr S1
/-- a < b < c -/
def mChain (g h : Op2) (a b c : EM) : EM := fun fr S => (a fr S).bind fun x S1 => (b fr S1).bind fun y S2 => (g x y S2).bind fun z S3 => (toB z S3).bind fun k S4 =>
  if k then (c fr S4).bind fun w S5 => h y w S5 else .ok (.bl false) S4
def aNil : AM := fun _ S => .ok [] S
def aCons (a : EM) (r : AM) : AM := fun fr S => (a fr S).bind fun x S1 => (r fr S1).bind fun xs S2 => .ok (x :: xs) S2
def mTup (a : AM) : EM := fun fr S => (a fr S).bind fun xs S1 => if xs.length ≤ LINE then .ok (.tup xs) S1 else .bad
def mLst (a : AM) : EM := fun fr S => (a fr S).bind fun xs S1 => if xs.length ≤ LINE then new (.lst xs) S1 else .bad
def mCall (f : Fn) (a : AM) : EM := fun fr S => (a fr S).bind f
/-- o.m(..) of a built-in type: first the type, then the arguments -/
def mMt (T : D → Store → Bool) (f : D → Fn) (o : EM) (a : AM) : EM := fun fr S => (o fr S).bind fun x S1 => if T x S1 then (a fr S1).bind (f x) else .bad
def mNewK : EM := fun _ S => new (.dK []) S
def mNewT : EM := fun _ S => new (.dT []) S
/-- a slice's part -/
abbrev PM := Fr → Store → Res (Option Int)
def pNo : PM := fun _ S => .ok none S
def pSome (a : EM) : PM := fun fr S => (a fr S).bind fun x S1 => match x with
  | .int i => .ok (some i) S1
  | _ => .bad
def mSl (a : EM) (lo hi : PM) : EM := fun fr S => (a fr S).bind fun x S1 => (lo fr S1).bind fun l S2 => (hi fr S2).bind fun h S3 => oSl x l h S3

/-! ### targets -/
abbrev GM := D → Fr → Store → Res Fr
abbrev GMs := List D → Fr → Store → Res Fr
def gName (i : Nat) : GM := fun d fr S => .ok (fr.set i (some d)) S
def gNil : GMs := fun ds fr S => match ds with
  | [] => .ok fr S
  | _ => .bad
def gCons (g : GM) (gs : GMs) : GMs := fun ds fr S => match ds with
  | d :: r => (g d fr S).bind fun fr' S' => gs r fr' S'
  | [] => .bad
/-- a, b, ..: of a tuple of that size -/
def gTup (n : Nat) (g : GMs) : GM := fun d fr S => match seqOf S d with
  | some l => if l.length = n then g l fr S else .bad
  | none => .bad
/-- o[i] = v: a list, a dict -/
def setIx (o i v : D) (S : Store) : Res Unit := match o with
  | .ref n => match S[n]? with
    | some (.lst l) => match i with
      | .int k => match ixN l.length k with
        | some j => .ok () (S.set n (.lst (l.set j v)))
        | none => .bad
      | _ => .bad
    | some (.dK kvs) => match kyOf i with
      | some k => if kvs.length < LINE then .ok () (S.set n (.dK (dPut kvs k v))) else .bad
      | none => .bad
    | some (.dT kvs) => match ktOf i with
      | some k => if kvs.length < LINE then .ok () (S.set n (.dT (dPut kvs k v))) else .bad
      | none => .bad
    | _ => .bad
  | _ => .bad
def gSub (o i : EM) : GM := fun v fr S => (o fr S).bind fun x S1 => (i fr S1).bind fun y S2 => (setIx x y v S2).bind fun _ S3 => .ok fr S3

/-! ### statements -/
def sNx : SM := fun fr S => .ok (.nx fr) S
def sSeq (a b : SM) : SM := fun fr S => (a fr S).bind fun o S1 => match o with
  | .nx fr' => b fr' S1
  | o => .ok o S1
def sAsg (e : EM) (g : GM) : SM := fun fr S => (e fr S).bind fun x S1 => (g x fr S1).bind fun fr' S2 => .ok (.nx fr') S2
def sPar (i j : Nat) (a : AM) : SM := fun fr S => (a fr S).bind fun ds S1 => match ds with
  | [x, y] => .ok (.nx ((fr.set i (some x)).set j (some y))) S1
  | _ => .bad
def oAddI : Op2 := fun x y S => match x, y with
  | .int a, .int b => .ok (.int (a + b)) S
  | _, _ => .bad
def sAug (i : Nat) (g : Op2) (e : EM) : SM := fun fr S => match fr[i]? with
  | some (some x) => (e fr S).bind fun y S1 => (g x y S1).bind fun z S2 => .ok (.nx (fr.set i (some z))) S2
  | _ => .bad
def sExp (e : EM) : SM := fun fr S => (e fr S).bind fun _ S1 => .ok (.nx fr) S1
def sRet (e : EM) : SM := fun fr S => (e fr S).bind fun x S1 => .ok (.rt x) S1
def sRetN : SM := fun _ S => .ok (.rt .non) S
def sBrk : SM := fun fr S => .ok (.bk fr) S
def sCnt : SM := fun fr S => .ok (.ct fr) S
def sBad : SM := fun _ _ => .bad
def sIf (t : TM) (a b : SM) : SM := fun fr S => (t fr S).bind fun c S1 => if c then a fr S1 else b fr S1

/-! ### what is walked -/
structure Its where
  items : List D
  hs : List (Nat × List D)
abbrev IM := Fr → Store → Res Its
def stands (hs : List (Nat × List D)) (S : Store) : Prop := ∀ p, p ∈ hs → lstOf S p.1 = some p.2
def iSeq (e : EM) : IM := fun fr S => (e fr S).bind fun x S1 => match x with
  | .tup l => .ok ⟨l, []⟩ S1
  | .wtp l => .ok ⟨l, []⟩ S1
  | .ref n => match lstOf S1 n with
    | some l => .ok ⟨l, [(n, l)]⟩ S1
    | none => .bad
  | _ => .bad
def iStr (e : EM) : IM := fun fr S => (e fr S).bind fun x S1 => match x with
  | .str z => .ok ⟨z.map fun c => .str [c], []⟩ S1
  | _ => .bad
def rng (lo : Int) (n : Nat) : List D := (List.range n).map fun k => .int (lo + (k : Nat))
def far (i : Int) : Prop := -(2 ^ 62) ≤ i ∧ i < 2 ^ 62
instance (i : Int) : Decidable (far i) := by unfold far; infer_instance
def iRng1 (a : AM) : IM := fun fr S => (a fr S).bind fun ds S1 => match ds with
  | [.int j] => if far j then .ok ⟨rng 0 j.toNat, []⟩ S1 else .bad
  | _ => .bad
def iRng2 (a : AM) : IM := fun fr S => (a fr S).bind fun ds S1 => match ds with
  | [.int i, .int j] => if far i ∧ far j then .ok ⟨rng i (j - i).toNat, []⟩ S1 else .bad
  | _ => .bad
/-- range(a, b, -1) -/
def iRngD (a : AM) : IM := fun fr S => (a fr S).bind fun ds S1 => match ds with
  | [.int i, .int j, .int c] => if far i ∧ far j ∧ c = -1 then .ok ⟨(List.range (i - j).toNat).map fun k => .int (i - (k : Nat)), []⟩ S1 else .bad
  | _ => .bad
/-- enumerate(list): the pairs -/
def prs (i : Nat) : List D → List D
  | [] => []
  | d :: l => .tup [.int (i : Nat), d] :: prs (i + 1) l
def iEnum (a : AM) : IM := fun fr S => (a fr S).bind fun ds S1 => match ds with
  | [.ref n] => match lstOf S1 n with
    | some l => .ok ⟨prs 0 l, [(n, l)]⟩ S1
    | none => .bad
  | _ => .bad
def iZip (a : AM) : IM := fun fr S => (a fr S).bind fun ds S1 => match ds with
  | [.ref m, .ref n] => match lstOf S1 m, lstOf S1 n with
    | some l, some r => .ok ⟨List.zipWith (fun x y => .tup [x, y]) l r, [(m, l), (n, r)]⟩ S1
    | _, _ => .bad
  | _ => .bad
def iRev (a : AM) : IM := fun fr S => (a fr S).bind fun ds S1 => match ds with
  | [.ref n] => match lstOf S1 n with
    | some l => .ok ⟨l.reverse, [(n, l)]⟩ S1
    | none => .bad
  | _ => .bad
/-- behind a turn -/
def goOn (k : SM) : Out → Store → Res Out
  | .nx fr, S => k fr S
  | .ct fr, S => k fr S
  | .bk fr, S => .ok (.nx fr) S
  | .rt x, S => .ok (.rt x) S
noncomputable def loopM (hs : List (Nat × List D)) (turn : D → SM) : List D → SM
  | [], fr, S => if dec (stands hs S) = true then .ok (.nx fr) S else .bad
  | d :: ds, fr, S => if dec (stands hs S) = true then (turn d fr S).bind (goOn (loopM hs turn ds)) else .bad
noncomputable def sFor (i : IM) (g : GM) (b : SM) : SM := fun fr S => (i fr S).bind fun I S1 => loopM I.hs (fun d fr S => (g d fr S).bind fun fr' S' => b fr' S') I.items fr S1
def whileN (t : TM) (b : SM) : Nat → SM
  | 0, _, _ => .bad
  | n + 1, fr, S => (t fr S).bind fun c S1 => if c then (b fr S1).bind (goOn (whileN t b n)) else .ok (.nx fr) S1
open Classical in
noncomputable def sWhile (t : TM) (b : SM) : SM := fun fr S => if h : ∃ n, whileN t b n fr S ≠ .bad then whileN t b (Classical.choose h) fr S else .bad

/-! ### comprehensions -/
def unset : List Nat → Fr → Fr
  | [], fr => fr
  | i :: r, fr => (unset r fr).set i none
noncomputable def lcLoop (hs : List (Nat × List D)) (n : Nat) (g : GM) (t : TM) (e : EM) (fr : Fr) : List D → Store → Res D
  | [], S => if dec (stands hs S) = true then .ok (.ref n) S else .bad
  | d :: ds, S => if dec (stands hs S) = true then (g d fr S).bind fun fr' S1 => (t fr' S1).bind fun c S2 =>
      if c then (e fr' S2).bind fun x S3 => match S3[n]? with
        | some (.lst acc) => if acc.length < LINE then lcLoop hs n g t e fr ds (S3.set n (.lst (acc ++ [x]))) else .bad
        | _ => .bad
      else lcLoop hs n g t e fr ds S2
    else .bad
def tYes : TM := fun _ S => .ok true S
/-- no refusal within -/
def quiet {α : Type} : Res α → Res α
  | .ok a S => .ok a S
  | _ => .bad
noncomputable def mLc (vs : List Nat) (i : IM) (g : GM) (t : TM) (e : EM) : EM := fun fr S => (i fr S).bind fun I S1 =>
  lcLoop I.hs S1.length g (fun fr S => quiet (t fr S)) (fun fr S => quiet (e fr S)) (unset vs fr) I.items (S1 ++ [.lst []])

/-! ### a def -/
def startF (n : Nat) (ds : List D) : Fr := ds.map some ++ List.replicate (n - ds.length) none
def mDefX (np n : Nat) (b : SM) : Fn := fun ds S => if ds.length = np then (b (startF n ds) S).bind fun o S1 => match o with
  | .rt x => .ok x S1
  | .nx _ => .ok .non S1
  | _ => .bad
  else .bad
/-- a def that refuses nothing -/
def mDef (np n : Nat) (b : SM) : Fn := fun ds S => quiet (mDefX np n b ds S)

/-! ### built-ins -/
def bLen : Fn := fun ds S => match ds with
  | [.str s] => if s.length ≤ LINE then .ok (.int (s.length : Nat)) S else .bad
  | [.tup l] => .ok (.int (l.length : Nat)) S
  | [.wtp l] => .ok (.int (l.length : Nat)) S
  | [.ref n] => match S[n]? with
    | some (.lst l) => .ok (.int (l.length : Nat)) S
    | some (.fls l) => .ok (.int (l.length : Nat)) S
    | some (.dK k) => .ok (.int (k.length : Nat)) S
    | some (.dT k) => .ok (.int (k.length : Nat)) S
    | _ => .bad
  | _ => .bad
def bAbs : Fn := fun ds S => match ds with
  | [.int i] => .ok (.int (if i < 0 then -i else i)) S
  | _ => .bad
def bInt : Fn := fun ds S => match ds with
  | [.int i] => .ok (.int i) S
  | [.bl b] => .ok (.int (if b then 1 else 0)) S
  | _ => .bad
def bMax : Fn := fun ds S => match ds with
  | [.int i, .int j] => .ok (.int (if j > i then j else i)) S
  | _ => .bad
def bMin : Fn := fun ds S => match ds with
  | [.int i, .int j] => .ok (.int (if j < i then j else i)) S
  | _ => .bad
def bList : Fn := fun ds S => match ds with
  | [x] => match seqOf S x with
    | some l => new (.lst l) S
    | none => match x with
      | .ref n => match S[n]? with
        | some (.dK k) => new (.lst (k.map fun p => kyD p.1)) S
        | some (.dT k) => new (.lst (k.map fun p => .tup (p.1.map kyD))) S
        | _ => .bad
      | _ => .bad
  | _ => .bad
def bTuple : Fn := fun ds S => match ds with
  | [.tup l] => .ok (.tup l) S
  | [.ref n] => match lstOf S n with
    | some l => .ok (.tup l) S
    | none => .bad
  | _ => .bad
def intsOf : List D → Option (List Int)
  | [] => some []
  | .int i :: r => (intsOf r).map fun l => i :: l
  | _ => none
def bSum : Fn := fun ds S => match ds with
  | [.ref n] => match (lstOf S n).bind intsOf with
    | some l => .ok (.int l.sum) S
    | none => .bad
  | _ => .bad
def blsOf : List D → Option (List Bool)
  | [] => some []
  | .bl i :: r => (blsOf r).map fun l => i :: l
  | _ => none
def bAny : Fn := fun ds S => match ds with
  | [.ref n] => match (lstOf S n).bind blsOf with
    | some l => .ok (.bl (l.any id)) S
    | none => .bad
  | _ => .bad
def bAll : Fn := fun ds S => match ds with
  | [.ref n] => match (lstOf S n).bind blsOf with
    | some l => .ok (.bl (l.all id)) S
    | none => .bad
  | _ => .bad
/-- isinstance(x, T), T one of the built-in types by name -/
inductive Ty where
  | int | bool | str | list | tuple | dict
  deriving DecidableEq
def tyOf (S : Store) : D → Option Ty
  | .bl _ => some .bool
  | .int _ => some .int
  | .str _ => some .str
  | .tup _ => some .tuple
  | .wtp _ => none
  | .non => none
  | .ref n => match S[n]? with
    | some (.lst _) => some .list
    | some (.fls _) => some .list
    | some (.dK _) => some .dict
    | some (.dT _) => some .dict
    | _ => none
def isI (T : Ty) (x : D) (S : Store) : Option Bool := match x with
  | .non => some false
  | x => (tyOf S x).map fun U => decide (U = T) || (decide (U = .bool) && decide (T = .int))
def bIsI (T : Ty) : D → Store → Res D := fun x S => match isI T x S with
  | some b => .ok (.bl b) S
  | none => .bad

/-! ### methods -/
def isLst (d : D) (S : Store) : Bool := match d with
  | .ref n => (lstOf S n).isSome
  | _ => false
def isDct (d : D) (S : Store) : Bool := match d with
  | .ref n => match S[n]? with
    | some (.dK _) => true
    | some (.dT _) => true
    | _ => false
  | _ => false
def isStr (d : D) (_ : Store) : Bool := match d with
  | .str _ => true
  | _ => false
def mutL (d : D) (S : Store) (f : Nat → List D → Res D) : Res D := match d with
  | .ref n => match S[n]? with
    | some (.lst l) => f n l
    | _ => .bad
  | _ => .bad
def lAppend (o : D) : Fn := fun ds S => match ds with
  | [x] => mutL o S fun n l => if l.length < LINE then .ok .non (S.set n (.lst (l ++ [x]))) else .bad
  | _ => .bad
def lPop (o : D) : Fn := fun ds S => match ds with
  | [] => mutL o S fun n l => match l[l.length - 1]? with
    | some y => .ok y (S.set n (.lst l.dropLast))
    | none => .bad
  | [.int i] => mutL o S fun n l => if -(2 ^ 63) ≤ i ∧ i < 2 ^ 63 then (match (ixN l.length i) with
    | some k => (match l[k]? with
      | some y => .ok y (S.set n (.lst (l.eraseIdx k)))
      | none => .bad)
    | none => .bad) else .bad
  | _ => .bad
def lReverse (o : D) : Fn := fun ds S => match ds with
  | [] => mutL o S fun n l => .ok .non (S.set n (.lst l.reverse))
  | _ => .bad
def lClear (o : D) : Fn := fun ds S => match ds with
  | [] => mutL o S fun n l => .ok .non (S.set n (.lst []))
  | _ => .bad
def lExtend (o : D) : Fn := fun ds S => match ds with
  | [.ref m] => mutL o S fun n l => match S[m]? with
    | some (.lst r) => if l.length + r.length ≤ LINE then .ok .non (S.set n (.lst (l ++ r))) else .bad
    | _ => .bad
  | _ => .bad
/-- l.insert(i, x), i from 0 on -/
def lInsert (o : D) : Fn := fun ds S => match ds with
  | [.int i, x] => mutL o S fun n l => if l.length < LINE ∧ 0 ≤ i ∧ i < 2 ^ 63 then .ok .non (S.set n (.lst (l.take i.toNat ++ [x] ++ l.drop i.toNat))) else .bad
  | _ => .bad
/-- where the first equal one stands -/
def firstAt (p : D → Bool) : List D → Nat → Option Nat
  | [], _ => none
  | d :: l, k => if p d then some k else firstAt p l (k + 1)
def lIndexF (o : D) : Fn := fun ds S => match ds with
  | [x] => match o with
    | .ref n => match lstOf S n with
      | some l => if flatD x = true ∧ l.all flatD = true then (match firstAt (fun y => eqF y x) l 0 with
        | some k => .ok (.int (k : Nat)) S
        | none => .bad) else .bad
      | none => .bad
    | _ => .bad
  | _ => .bad
def dGetM (o : D) : Fn := fun ds S => match o with
  | .ref n => match ds with
    | [k] => match dLook S n k with
      | some r => .ok (r.getD .non) S
      | none => .bad
    | [k, x] => match dLook S n k with
      | some r => .ok (r.getD x) S
      | none => .bad
    | _ => .bad
  | _ => .bad
/-- texts of a list -/
def txsOf : List D → Option (List Tx)
  | [] => some []
  | .str s :: r => (txsOf r).map fun l => s :: l
  | _ => none
def joinT (sep : Tx) : List Tx → Tx
  | [] => []
  | [x] => x
  | x :: y :: r => x ++ sep ++ joinT sep (y :: r)
def sJoin (o : D) : Fn := fun ds S => match o with
  | .str a => match ds with
    | [d] => match (seqOf S d).bind txsOf with
      | some ys => if (ys.map List.length).sum + ys.length * a.length ≤ LINE then .ok (.str (joinT a ys)) S else .bad
      | none => .bad
    | _ => .bad
  | _ => .bad
def sIndex (o : D) : Fn := fun ds S => match o with
  | .str a => match ds with
    | [.str b] => match PySem.Builtin.Str.occurrences ⟨a.toArray⟩ ⟨b.toArray⟩ 0 (PySem.Str.mk a.toArray).length 1 with
      | i :: _ => .ok (.int (i : Nat)) S
      | [] => .bad
    | _ => .bad
  | _ => .bad
/-- reversed(range(n)) -/
def iRevR (a : EM) : IM := fun fr S => (a fr S).bind fun x S1 => match x with
  | .int j => if far j then .ok ⟨(List.range j.toNat).map fun k => .int ((j.toNat : Int) - 1 - (k : Nat)), []⟩ S1 else .bad
  | _ => .bad
/-- the i-th place of a sign in a text -/
def findC (c : Nat) : Tx → Nat → Option Nat
  | [], _ => none
  | d :: l, k => if d = c then some k else findC c l (k + 1)
end Mi

set_option Elab.async false
set_option linter.all false
/-! Mi: more steps. -/
namespace Mi
theorem Res.bind_assoc {α β γ : Type} (r : Res α) (f : α → Store → Res β) (g : β → Store → Res γ) : (r.bind f).bind g = r.bind fun a S => (f a S).bind g := by
  cases r <;> rfl
/-- the pairs of a display -/
def mPairs : List (EM × EM) → Fr → Store → Res (List (D × D))
  | [], _, S => .ok [] S
  | (a, b) :: r, fr, S => (a fr S).bind fun x S1 => (b fr S1).bind fun y S2 => (mPairs r fr S2).bind fun ps S3 => .ok ((x, y) :: ps) S3
def kvsM : List (D × D) → Option (List (Ky × D))
  | [] => some []
  | (k, v) :: r => (kyOf k).bind fun q => (kvsM r).map fun l => (q, v) :: l
def putM (l : List (Ky × D)) : List (Ky × D) := l.foldl (fun acc kv => dPut acc kv.1 kv.2) []
def disK (n : Nat) (S : Store) : Option (List (Ky × D)) → Option O → Res D
  | some kvs, some (.dK []) => if kvs.length ≤ 15 then .ok (.ref n) (S.set n (.dK (putM kvs))) else .bad
  | _, _ => .bad
/-- {k: v, ..} -/
def mDis (ps : List (EM × EM)) : EM := fun fr S => (mPairs ps fr (S ++ [.dK []])).bind fun xs S1 => disK S.length S1 (kvsM xs) S1[S.length]?
/-! ### texts -/
/-- cut at each c -/
def spC (c : Nat) : Tx → Tx → List Tx
  | acc, [] => [acc]
  | acc, d :: r => if d = c then acc :: spC c [] r else spC c (acc ++ [d]) r
/-- what stands before the first c, and behind it -/
def paC (c : Nat) : Tx → Tx → Option (Tx × Tx)
  | _, [] => none
  | acc, d :: r => if d = c then some (acc, r) else paC c (acc ++ [d]) r
def sSplit (o : D) : Fn := fun ds S => match o with
  | .str a => match ds with
    | [.str [c]] => if c < 256 ∧ a.length + 2 ≤ LINE then new (.lst ((spC c [] a).map .str)) S else .bad
    | _ => .bad
  | _ => .bad
def sPartition (o : D) : Fn := fun ds S => match o with
  | .str a => match ds with
    | [.str [c]] => if a.length ≤ LINE then (match paC c [] a with
      | some (x, y) => .ok (.tup [.str x, .str [c], .str y]) S
      | none => .ok (.tup [.str a, .str [], .str []]) S) else .bad
    | _ => .bad
  | _ => .bad
/-- a whole number's figures -/
def numT (n : Nat) : Tx := (Nat.toDigits 10 n).map Char.toNat
def bStr : Fn := fun ds S => match ds with
  | [.int i] => if 0 ≤ i ∧ i.natAbs.log2 < 1920 then .ok (.str (numT i.toNat)) S else .bad
  | [.str s] => .ok (.str s) S
  | _ => .bad
def digV (s : Tx) : Nat := s.foldl (fun acc c => acc * 10 + (c - 48)) 0
def isDig (c : Nat) : Bool := decide (48 ≤ c) && decide (c ≤ 57)
/-- int(text) -/
def bIntS : Fn := fun ds S => match ds with
  | [.str s] => if s.all isDig = true ∧ s ≠ [] ∧ s.length ≤ 640 then .ok (.int (digV s : Nat)) S else .bad
  | _ => .bad
def oMulS : Op2 := fun x y S => match x, y with
  | .str a, .int k => if a.length ≤ 16 ∧ 0 ≤ k ∧ k ≤ 1048576 then .ok (.str (List.replicate k.toNat a).flatten) S else .bad
  | _, _ => .bad
/-- {x} -/
def fmtD : D → Store → Res D := fun x S => match x with
  | .str s => if s.length ≤ LINE then .ok (.str s) S else .bad
  | .int i => if 0 ≤ i ∧ i.natAbs.log2 < 1920 then .ok (.str (numT i.toNat)) S else .bad
  | _ => .bad
def mJs : List EM → Tx → EM
  | [], acc, _, S => .ok (.str acc) S
  | e :: r, acc, fr, S => (e fr S).bind fun x S1 => match x with
    | .str y => if (acc ++ y).length ≤ LINE then mJs r (acc ++ y) fr S1 else .bad
    | _ => .bad
/-- f'..' -/
def mFst (l : List EM) : EM := mJs l []
end Mi

set_option Elab.async false
set_option linter.all false
/-! Mi: == where a dict may stand, upper of the six words -/
namespace Mi
def oEqX : Op2 := fun x y S => match x, y with
  | .ref n, .str _ => (match S[n]? with
    | some (.dK _) => .ok (.bl false) S
    | _ => oEq x y S)
  | _, _ => oEq x y S
def sixW : List Tx := [[114, 101, 99, 107, 111, 110], [99, 111, 112, 121], [115, 97, 121], [103, 111], [112, 97, 114, 116], [101, 110, 100]]
def sUpper (o : D) : Fn := fun ds S => match o with
  | .str s => match ds with
    | [] => if s ∈ sixW then .ok (.str (s.map fun c => c - 32)) S else .bad
    | _ => .bad
  | _ => .bad
/-- x + y, tuples of any size -/
def oAddA : Op2 := fun x y S => match x, y with
  | .tup a, .tup b => if a.length + b.length ≤ LINE then .ok (.tup (a ++ b)) S else .bad
  | _, _ => oAdd x y S
/-- x[lo:hi], tuples of any size -/
def oSlA (x : D) (lo hi : Option Int) (S : Store) : Res D := match x with
  | .tup l => .ok (.tup (cut l lo hi)) S
  | _ => oSl x lo hi S
def mSlA (a : EM) (lo hi : PM) : EM := fun fr S => (a fr S).bind fun x S1 => (lo fr S1).bind fun l S2 => (hi fr S2).bind fun h S3 => oSlA x l h S3
end Mi

set_option Elab.async false
set_option linter.all false
set_option maxRecDepth 100000
set_option maxHeartbeats 2000000
/-! the small language against the layer -/
namespace Sm
open PySem PySem.Spec PyProof.Rows L2 Mi

/-- what the written part is, what the module's names stand for -/
structure Ct where
  K : PySem.W.Frag
  mg : Str → Option Value
def sOf (s : Tx) : Str := ⟨s.toArray⟩
theorem sOf_inj {a b : Tx} (h : sOf a = sOf b) : a = b := by
  have e : a.toArray = b.toArray := congrArg Str.cps h
  simpa using e
theorem sOf_eq {a b : Tx} : decide (sOf a = sOf b) = decide (a = b) := by
  by_cases h : a = b
  · subst h; simp
  · have q : ¬ sOf a = sOf b := fun z => h (sOf_inj z)
    rw [decide_eq_false h, decide_eq_false q]
theorem sOf_len (a : Tx) : (sOf a).length = a.length := by
  show a.toArray.size = a.length
  simp
def H0 : Hp := fun _ => none
mutual
inductive RelD (K : PySem.W.Frag) (H : Hp) (m : List Addr) : D → V → Prop
  | non : RelD K H m .non .non
  | bl (b : Bool) : RelD K H m (.bl b) (.bl b)
  | int (i : Int) : RelD K H m (.int i) (.int i)
  | str (s : Tx) : RelD K H m (.str s) (.str (sOf s))
  | tup {l : List D} {a : Addr} {xs : List V} (h : H a = some (.tup xs)) (r : RelL K H m l xs) : RelD K H m (.tup l) (.ref a)
  | wtp {l : List D} {a : Addr} {xs : List V} (h : SqT K H0 a xs) (r : RelL K H m l xs) : RelD K H m (.wtp l) (.ref a)
  | ref {n : Nat} {a : Addr} (h : m[n]? = some a) : RelD K H m (.ref n) (.ref a)
inductive RelL (K : PySem.W.Frag) (H : Hp) (m : List Addr) : List D → List V → Prop
  | nil : RelL K H m [] []
  | cons {d : D} {l : List D} {v : V} {r : List V} (h : RelD K H m d v) (t : RelL K H m l r) : RelL K H m (d :: l) (v :: r)
end
def TStay (H H' : Hp) : Prop := ∀ a xs, H a = some (.tup xs) → H' a = some (.tup xs)
def MExt (m m' : List Addr) : Prop := ∀ (n : Nat) (a : Addr), m[n]? = some a → m'[n]? = some a
structure Ext (m : List Addr) (H : Hp) (m' : List Addr) (H' : Hp) : Prop where
  mx : MExt m m'
  ts : TStay H H'
theorem Ext.refl (m : List Addr) (H : Hp) : Ext m H m H := ⟨fun _ _ h => h, fun _ _ h => h⟩
theorem Ext.trans {m m1 m2 : List Addr} {H H1 H2 : Hp} (a : Ext m H m1 H1) (b : Ext m1 H1 m2 H2) : Ext m H m2 H2 :=
  ⟨fun n x h => b.mx n x (a.mx n x h), fun x xs h => b.ts x xs (a.ts x xs h)⟩
section
variable {K : PySem.W.Frag} {H H' : Hp} {m m' : List Addr}
mutual
theorem RelD.mono (e : Ext m H m' H') : ∀ {d : D} {v : V}, RelD K H m d v → RelD K H' m' d v
  | _, _, .non => .non
  | _, _, .bl b => .bl b
  | _, _, .int i => .int i
  | _, _, .str s => .str s
  | _, _, .tup h r => .tup (e.ts _ _ h) (RelL.mono e r)
  | _, _, .wtp h r => .wtp h (RelL.mono e r)
  | _, _, .ref h => .ref (e.mx _ _ h)
theorem RelL.mono (e : Ext m H m' H') : ∀ {d : List D} {v : List V}, RelL K H m d v → RelL K H' m' d v
  | _, _, .nil => .nil
  | _, _, .cons h t => .cons (RelD.mono e h) (RelL.mono e t)
end
theorem RelL.len : ∀ {l : List D} {xs : List V}, RelL K H m l xs → l.length = xs.length
  | _, _, .nil => rfl
  | _, _, .cons _ t => by rw [List.length_cons, List.length_cons, RelL.len t]
theorem RelL.ix : ∀ {l : List D} {xs : List V} {i : Nat} {d : D}, RelL K H m l xs → l[i]? = some d → ∃ v, xs[i]? = some v ∧ RelD K H m d v
  | _, _, 0, _, .cons h _, e => by
    have e' := Option.some.inj e
    subst e'
    exact ⟨_, rfl, h⟩
  | _, _, i + 1, _, .cons _ t, e => RelL.ix (i := i) t e
  | _, _, _, _, .nil, e => by cases e
theorem RelL.back : ∀ {l : List D} {xs : List V} {i : Nat} {v : V}, RelL K H m l xs → xs[i]? = some v → ∃ d, l[i]? = some d ∧ RelD K H m d v
  | _, _, 0, _, .cons h _, e => by
    have e' := Option.some.inj e
    subst e'
    exact ⟨_, rfl, h⟩
  | _, _, i + 1, _, .cons _ t, e => RelL.back (i := i) t e
  | _, _, _, _, .nil, e => by cases e
theorem RelL.app : ∀ {l r : List D} {xs ys : List V}, RelL K H m l xs → RelL K H m r ys → RelL K H m (l ++ r) (xs ++ ys)
  | _, _, _, _, .nil, h => h
  | _, _, _, _, .cons h t, h2 => .cons h (RelL.app t h2)
theorem RelL.one {d : D} {v : V} (h : RelD K H m d v) : RelL K H m [d] [v] := .cons h .nil
theorem RelL.take : ∀ {l : List D} {xs : List V} (n : Nat), RelL K H m l xs → RelL K H m (l.take n) (xs.take n)
  | _, _, 0, _ => .nil
  | _, _, _ + 1, .nil => .nil
  | _, _, n + 1, .cons h t => .cons h (RelL.take n t)
theorem RelL.drop : ∀ {l : List D} {xs : List V} (n : Nat), RelL K H m l xs → RelL K H m (l.drop n) (xs.drop n)
  | _, _, 0, h => h
  | _, _, _ + 1, .nil => .nil
  | _, _, n + 1, .cons _ t => RelL.drop n t
theorem RelL.set {d : D} {v : V} (h : RelD K H m d v) : ∀ {l : List D} {xs : List V} (i : Nat), RelL K H m l xs → RelL K H m (l.set i d) (xs.set i v)
  | _, _, _, .nil => .nil
  | _, _, 0, .cons _ t => .cons h t
  | _, _, i + 1, .cons q t => .cons q (RelL.set h i t)
theorem RelL.rev {l : List D} {xs : List V} (h : RelL K H m l xs) : RelL K H m l.reverse xs.reverse := by
  induction h using RelL.rec (motive_1 := fun _ _ _ => True) with
  | nil => exact .nil
  | cons h t _ ih =>
    rw [List.reverse_cons, List.reverse_cons]
    exact ih.app (.one h)
  | _ => trivial
theorem RelL.erase : ∀ {l : List D} {xs : List V} (i : Nat), RelL K H m l xs → RelL K H m (l.eraseIdx i) (xs.eraseIdx i)
  | _, _, _, .nil => .nil
  | _, _, 0, .cons _ t => t
  | _, _, i + 1, .cons q t => .cons q (RelL.erase i t)
theorem RelL.dropLast {l : List D} {xs : List V} (h : RelL K H m l xs) : RelL K H m l.dropLast xs.dropLast := by
  rw [List.dropLast_eq_take, List.dropLast_eq_take, h.len]
  exact h.take _
end
/-! ### keys -/
def kyK : Ky → Key
  | .inl i => .inl i
  | .inr s => .inr (sOf s)
theorem kyK_inj {a b : Ky} (h : kyK a = kyK b) : a = b := by
  cases a with
  | inl i => cases b with
    | inl j => cases (Sum.inl.inj h); rfl
    | inr s => cases h
  | inr s => cases b with
    | inl j => cases h
    | inr t => rw [sOf_inj (Sum.inr.inj h)]
theorem kysK_inj {a b : List Ky} (h : a.map kyK = b.map kyK) : a = b := by
  induction a generalizing b with
  | nil => cases b with
    | nil => rfl
    | cons => cases h
  | cons x a ih => cases b with
    | nil => cases h
    | cons y b =>
      rw [List.map_cons, List.map_cons] at h
      obtain ⟨h1, h2⟩ := List.cons.inj h
      rw [kyK_inj h1, ih h2]
section
variable {K : PySem.W.Frag} {H H' : Hp} {m m' : List Addr}
abbrev RelK (K : PySem.W.Frag) (H : Hp) (m : List Addr) {κ κ' : Type} (f : κ → κ') : List (κ × D) → List (κ' × V) → Prop := Paired fun p q => f p.1 = q.1 ∧ RelD K H m p.2 q.2
theorem RelK.mono {κ κ' : Type} {f : κ → κ'} (e : Ext m H m' H') {k : List (κ × D)} {kv : List (κ' × V)} (h : RelK K H m f k kv) : RelK K H' m' f k kv := Paired.mapP h fun _ _ z => ⟨z.1, z.2.mono e⟩
end
/-- what stands at an address -/
def RelO (c : Ct) (H : Hp) (m : List Addr) (a : Addr) : O → Prop
  | .lst l => ∃ xs, H a = some (.lst xs) ∧ RelL c.K H m l xs
  | .fls l => ∃ xs, ((∃ o, H a = some (.frz o (.lst xs))) ∨ SqL c.K H0 a xs) ∧ RelL c.K H m l xs
  | .dK k => ∃ kv, H a = some (.dK kv) ∧ RelK c.K H m kyK k kv
  | .dT k => ∃ kv, H a = some (.dT kv) ∧ RelK c.K H m (fun x => x.map kyK) k kv
  | .ins C f => ∃ Ca dx fs, c.mg (C : Str) = some (.ref Ca) ∧ H a = some (.ins Ca dx fs) ∧ RelK c.K H m sOf f fs
def liv : O → Prop
  | .fls _ => False
  | _ => True
structure RS (c : Ct) (m : List Addr) (S : Store) (H : Hp) : Prop where
  len : m.length = S.length
  ob : ∀ (n : Nat) (a : Addr) (o : O), m[n]? = some a → S[n]? = some o → RelO c H m a o
  inj : ∀ (n n' : Nat) (a : Addr) (o o' : O), m[n]? = some a → m[n']? = some a → S[n]? = some o → S[n']? = some o' → liv o → liv o' → n = n'
structure RF (K : PySem.W.Frag) (H : Hp) (m : List Addr) (fr : Fr) (σ : L2.St) : Prop where
  len : fr.length = σ.length
  get : ∀ (i : Nat) (d : D), fr[i]? = some (some d) → ∃ v, σ[i]? = some (some v) ∧ RelD K H m d v
section
variable {c : Ct} {H H' : Hp} {m m' : List Addr} {S : Store}
theorem RF.mono {fr : Fr} {σ : L2.St} (e : Ext m H m' H') (h : RF c.K H m fr σ) : RF c.K H' m' fr σ := ⟨h.len, fun i d q => let ⟨v, h1, h2⟩ := h.get i d q; ⟨v, h1, h2.mono e⟩⟩
theorem RF.set {fr : Fr} {σ : L2.St} {d : D} {v : V} (h : RF c.K H m fr σ) (r : RelD c.K H m d v) (i : Nat) : RF c.K H m (fr.set i (some d)) (σ.set i (some v)) := by
  refine ⟨by rw [List.length_set, List.length_set]; exact h.len, fun j d' q => ?_⟩
  by_cases e : i = j
  · subst e
    have hi : i < fr.length := by
      have := (List.getElem?_eq_some_iff.mp q).1
      rwa [List.length_set] at this
    rw [List.getElem?_set_self hi] at q
    cases q
    exact ⟨v, by rw [List.getElem?_set_self (by rw [← h.len]; exact hi)], r⟩
  · rw [List.getElem?_set_ne e] at q
    rw [List.getElem?_set_ne e]
    exact h.get j d' q
theorem RF.none {fr : Fr} {σ : L2.St} (h : RF c.K H m fr σ) (i : Nat) : RF c.K H m (fr.set i none) (σ.set i none) := by
  refine ⟨by rw [List.length_set, List.length_set]; exact h.len, fun j d' q => ?_⟩
  by_cases e : i = j
  · subst e
    have hi : i < fr.length := by
      have := (List.getElem?_eq_some_iff.mp q).1
      rwa [List.length_set] at this
    rw [List.getElem?_set_self hi] at q
    cases q
  · rw [List.getElem?_set_ne e] at q
    rw [List.getElem?_set_ne e]
    exact h.get j d' q
theorem RF.unset {fr : Fr} {σ : L2.St} (h : RF c.K H m fr σ) : ∀ vs : List Nat, RF c.K H m (unset vs fr) (wipe σ vs)
  | [] => h
  | i :: r => (RF.unset h r).none i
theorem RelO.mono {a : Addr} {o : O} (e : Ext m H m' H') (hk : liv o → ∀ u, H a = some u → H' a = some u) (hf : ∀ ob u, H a = some (.frz ob u) → H' a = some (.frz ob u)) (h : RelO c H m a o) : RelO c H' m' a o := by
  cases o with
  | lst l => obtain ⟨xs, h1, h2⟩ := h; exact ⟨xs, hk trivial _ h1, h2.mono e⟩
  | fls l =>
    obtain ⟨xs, h1, h2⟩ := h
    refine ⟨xs, ?_, h2.mono e⟩
    rcases h1 with ⟨ob, h1⟩ | h1
    · exact .inl ⟨ob, hf _ _ h1⟩
    · exact .inr h1
  | dK k => obtain ⟨xs, h1, h2⟩ := h; exact ⟨xs, hk trivial _ h1, RelK.mono e h2⟩
  | dT k => obtain ⟨xs, h1, h2⟩ := h; exact ⟨xs, hk trivial _ h1, RelK.mono e h2⟩
  | ins C f => obtain ⟨Ca, dx, fs, h0, h1, h2⟩ := h; exact ⟨Ca, dx, fs, h0, hk trivial _ h1, RelK.mono e h2⟩
/-- a live object is tracked, and may be changed -/
theorem RelO.mut {a : Addr} {o : O} (h : RelO c H m a o) (l : liv o) : Mut (H a) := by
  cases o with
  | lst l => obtain ⟨xs, h1, _⟩ := h; rw [h1]; trivial
  | fls l => exact l.elim
  | dK k => obtain ⟨xs, h1, _⟩ := h; rw [h1]; trivial
  | dT k => obtain ⟨xs, h1, _⟩ := h; rw [h1]; trivial
  | ins C f => obtain ⟨Ca, dx, fs, h0, h1, _⟩ := h; rw [h1]; trivial
theorem tstay_new {p : Addr} {o : HO} (h : H p = none) : TStay H (upd H p o) := fun a xs e => by rw [upd_ne (ne_of_none e h)]; exact e
theorem tstay_mut {p : Addr} {o : HO} (h : Mut (H p)) : TStay H (upd H p o) := fun a xs e => by
  have ne : a ≠ p := fun z => by subst z; rw [e] at h; exact h
  rw [upd_ne ne]; exact e
theorem mext_push (m : List Addr) (p : Addr) : MExt m (m ++ [p]) := fun n a h => by
  rw [List.getElem?_append_left (List.getElem?_eq_some_iff.mp h).1]; exact h
/-- a new object -/
theorem RS.push {p : Addr} {o : O} {u : HO} (r : RS c m S H) (h : H p = none) (ho : RelO c (upd H p u) (m ++ [p]) p o) : RS c (m ++ [p]) (S ++ [o]) (upd H p u) ∧ Ext m H (m ++ [p]) (upd H p u) := by
  have e : Ext m H (m ++ [p]) (upd H p u) := ⟨mext_push m p, tstay_new h⟩
  have old : ∀ (n : Nat) (a : Addr), n < m.length → (m ++ [p])[n]? = some a → m[n]? = some a := fun n a hn q => by rwa [List.getElem?_append_left hn] at q
  have oldS : ∀ (n : Nat) (x : O), n < m.length → (S ++ [o])[n]? = some x → S[n]? = some x := fun n x hn q => by rwa [List.getElem?_append_left (by rw [← r.len]; exact hn)] at q
  have last : ∀ (n : Nat) (a : Addr), ¬ n < m.length → (m ++ [p])[n]? = some a → n = m.length ∧ a = p := fun n a hn q => by
    have h1 := (List.getElem?_eq_some_iff.mp q).1
    rw [List.length_append] at h1
    have h2 : n = m.length := by simp at h1; omega
    subst h2
    rw [List.getElem?_append_right (Nat.le_refl _), Nat.sub_self] at q
    exact ⟨rfl, (Option.some.inj q).symm⟩
  have lastS : ∀ (n : Nat) (x : O), n = m.length → (S ++ [o])[n]? = some x → x = o := fun n x hn q => by
    rw [hn, r.len, List.getElem?_append_right (Nat.le_refl _), Nat.sub_self] at q
    exact (Option.some.inj q).symm
  refine ⟨⟨by rw [List.length_append, List.length_append, r.len] <;> rfl, fun n a x q1 q2 => ?_, fun n n' a x x' q1 q2 q3 q4 l1 l2 => ?_⟩, e⟩
  · by_cases hn : n < m.length
    · have k1 := old n a hn q1
      have k2 := r.ob n a x k1 (oldS n x hn q2)
      exact k2.mono e (fun _ u' z => by rw [upd_ne (ne_of_none z h)]; exact z) fun ob u' z => by rw [upd_ne (ne_of_none z h)]; exact z
    · obtain ⟨e1, e2⟩ := last n a hn q1
      have e3 := lastS n x e1 q2
      subst e2 e3
      exact ho
  · have nl : ∀ (n : Nat) (a : Addr) (x : O), n < m.length → (m ++ [p])[n]? = some a → (S ++ [o])[n]? = some x → liv x → a ≠ p := fun n a x hn q1 q3 l => by
      have k := (r.ob n a x (old n a hn q1) (oldS n x hn q3)).mut l
      intro z
      subst z
      rw [h] at k
      exact k
    by_cases hn : n < m.length
    · by_cases hn' : n' < m.length
      · exact r.inj n n' a x x' (old n a hn q1) (old n' a hn' q2) (oldS n x hn q3) (oldS n' x' hn' q4) l1 l2
      · exact absurd (last n' a hn' q2).2 (nl n a x hn q1 q3 l1)
    · by_cases hn' : n' < m.length
      · exact absurd (last n a hn q1).2 (nl n' a x' hn' q2 q4 l2)
      · rw [(last n a hn q1).1, (last n' a hn' q2).1]
/-- a fresh thing that is not in the store -/
theorem RS.fresh {p : Addr} {u : HO} (r : RS c m S H) (h : H p = none) : RS c m S (upd H p u) := by
  have e : Ext m H m (upd H p u) := ⟨fun _ _ z => z, tstay_new h⟩
  exact ⟨r.len, fun n a x q1 q2 => (r.ob n a x q1 q2).mono e (fun _ u' z => by rw [upd_ne (ne_of_none z h)]; exact z) fun ob u' z => by rw [upd_ne (ne_of_none z h)]; exact z, r.inj⟩
/-- an object changed -/
theorem RS.set {n : Nat} {a : Addr} {o o' : O} {u : HO} (r : RS c m S H) (ha : m[n]? = some a) (hs : S[n]? = some o) (l : liv o) (l' : liv o') (ho : Ext m H m (upd H a u) → RelO c (upd H a u) m a o') : RS c m (S.set n o') (upd H a u) ∧ Ext m H m (upd H a u) := by
  have mu := (r.ob n a o ha hs).mut l
  have e : Ext m H m (upd H a u) := ⟨fun _ _ z => z, tstay_mut mu⟩
  refine ⟨⟨by rw [List.length_set]; exact r.len, fun k b x q1 q2 => ?_, fun k k' b x x' q1 q2 q3 q4 l1 l2 => ?_⟩, e⟩
  · by_cases hk : n = k
    · subst hk
      rw [ha] at q1
      cases q1
      have hn := (List.getElem?_eq_some_iff.mp hs).1
      rw [List.getElem?_set_self hn] at q2
      cases q2
      exact ho e
    · rw [List.getElem?_set_ne hk] at q2
      have k2 := r.ob k b x q1 q2
      refine k2.mono e (fun lx u' z => ?_) fun ob u' z => ?_
      · have ne : b ≠ a := fun w => hk (r.inj n k a o x ha (by rw [← w]; exact q1) hs q2 l lx)
        rw [upd_ne ne]; exact z
      · have ne : b ≠ a := fun w => by subst w; rw [z] at mu; exact mu
        rw [upd_ne ne]; exact z
  · have at_ : ∀ (k : Nat) (x : O), (S.set n o')[k]? = some x → liv x → ∃ x0, S[k]? = some x0 ∧ liv x0 := fun k x q lx => by
      by_cases hk : n = k
      · subst hk; exact ⟨o, hs, l⟩
      · rw [List.getElem?_set_ne hk] at q; exact ⟨x, q, lx⟩
    obtain ⟨y, z1, z2⟩ := at_ k x q3 l1
    obtain ⟨y', z1', z2'⟩ := at_ k' x' q4 l2
    exact r.inj k k' b y y' q1 q2 z1 z1' z2 z2'
theorem RS.get {n : Nat} {a : Addr} (r : RS c m S H) (h : m[n]? = some a) : ∃ o, S[n]? = some o := by
  have h1 := (List.getElem?_eq_some_iff.mp h).1
  rw [r.len] at h1
  exact ⟨S[n], List.getElem?_eq_getElem h1⟩
theorem RS.adr {n : Nat} {o : O} (r : RS c m S H) (h : S[n]? = some o) : ∃ a, m[n]? = some a := by
  have h1 := (List.getElem?_eq_some_iff.mp h).1
  rw [← r.len] at h1
  exact ⟨m[n], List.getElem?_eq_getElem h1⟩
/-- a list may be read -/
theorem sql0 {K : PySem.W.Frag} {H : Hp} {a : Addr} {xs : List V} (h : SqL K H0 a xs) : SqL K H a xs := by
  rcases h with h | h
  · rcases h with h | ⟨o, h⟩ <;> cases h
  · exact .inr h
theorem sqt0 {K : PySem.W.Frag} {H : Hp} {a : Addr} {xs : List V} (h : SqT K H0 a xs) : SqT K H a xs := by
  rcases h with h | h
  · rcases h with h | ⟨o, h⟩ <;> cases h
  · exact .inr h
theorem RS.lst {n : Nat} {a : Addr} {l : List D} (r : RS c m S H) (ha : m[n]? = some a) (hl : lstOf S n = some l) : ∃ xs, SqL c.K H a xs ∧ RelL c.K H m l xs := by
  unfold lstOf at hl
  split at hl
  · rename_i l' e
    cases hl
    obtain ⟨xs, h1, h2⟩ := r.ob n a _ ha e
    exact ⟨xs, .inl (.inl h1), h2⟩
  · rename_i l' e
    cases hl
    obtain ⟨xs, h1, h2⟩ := r.ob n a _ ha e
    refine ⟨xs, ?_, h2⟩
    rcases h1 with ⟨ob, h1⟩ | h1
    · exact .inl (.inr ⟨ob, h1⟩)
    · exact sql0 h1
  · cases hl
end
end Sm

set_option Elab.async false
set_option linter.all false
set_option maxRecDepth 100000
set_option maxHeartbeats 2000000
/-! readings by the small language: expressions -/
namespace Sm
open PySem PySem.Spec PyProof.Rows L2 Mi

/-- an exception as the layer bears it -/
def RelX (c : Ct) (H : Hp) (m : List Addr) (x : Exn) (cls : Value) (da : Option Addr) : Prop :=
  ∃ C : Addr, c.mg (x.cls : Str) = some (.ref C) ∧ cls = .ref C ∧ ∃ d fs, da = some d ∧ H d = some (.xd fs) ∧ RelK c.K H m sOf x.fs fs
def Post {α : Type} (c : Ct) (E : XK) (m : List Addr) (H : Hp) (r : Res α) (k : α → Store → List Addr → Hp → Prop) : Prop := match r with
  | .ok a S => ∀ m' H', Ext m H m' H' → RS c m' S H' → k a S m' H'
  | .exc x S => ∀ m' H', Ext m H m' H' → RS c m' S H' → ∀ cls da, RelX c H' m' x cls da → E cls da H'
  | .bad => False
section
variable {α β : Type} {c : Ct} {E : XK} {m m' : List Addr} {H H' : Hp} {r : Res α} {k k' : α → Store → List Addr → Hp → Prop}
theorem Post.ext (p : Post c E m H r k) (e : Ext m H m' H') : Post c E m' H' r k := by
  cases r with
  | ok a S => exact fun m2 H2 e2 r2 => p m2 H2 (e.trans e2) r2
  | exc x S => exact fun m2 H2 e2 r2 => p m2 H2 (e.trans e2) r2
  | bad => exact p
theorem Post.imp (p : Post c E m H r k) (f : ∀ a S m' H', Ext m H m' H' → RS c m' S H' → k a S m' H' → k' a S m' H') : Post c E m H r k' := by
  cases r with
  | ok a S => exact fun m2 H2 e2 r2 => f a S m2 H2 e2 r2 (p m2 H2 e2 r2)
  | exc x S => exact p
  | bad => exact p
theorem post_bind {f : α → Store → Res β} {k : β → Store → List Addr → Hp → Prop} (p : Post c E m H (r.bind f) k) : Post c E m H r fun a S m1 H1 => Post c E m1 H1 (f a S) k := by
  cases r with
  | ok a S => exact fun m2 H2 e2 _ => Post.ext (r := f a S) p e2
  | exc x S => exact p
  | bad => exact p
theorem post_quiet {E' : XK} (p : Post c E m H (quiet r) k) : Post c E' m H r k := by
  cases r with
  | ok a S => exact p
  | exc x S => exact p.elim
  | bad => exact p
theorem Post.here {a : α} {S : Store} (p : Post c E m H (.ok a S) k) (r : RS c m S H) : k a S m H := p m H (Ext.refl m H) r
end

/-! ### readings -/
abbrev cx (X : Cx) : Ct := ⟨X.K, X.mg⟩
abbrev kE (c : Ct) (Q : VK) : D → Store → List Addr → Hp → Prop := fun d _ m H => ∀ v, RelD c.K H m d v → Q v H
def rdE (c : Ct) (E : XK) (f : EM) : TE := fun σ H Q => ∃ fr S m, RF c.K H m fr σ ∧ RS c m S H ∧ Post c E m H (f fr S) (kE c Q)
def rdT (c : Ct) (E : XK) (f : TM) : TT := fun σ H Q => ∃ fr S m, RF c.K H m fr σ ∧ RS c m S H ∧ Post c E m H (f fr S) fun b _ _ H => Q b H
def rdA (c : Ct) (E : XK) (f : AM) : TA := fun σ H Q => ∃ fr S m, RF c.K H m fr σ ∧ RS c m S H ∧ Post c E m H (f fr S) fun ds _ m H => ∀ vs, RelL c.K H m ds vs → Q vs H
def rdP (c : Ct) (E : XK) (f : PM) : TO := fun σ H Q => ∃ fr S m, RF c.K H m fr σ ∧ RS c m S H ∧ Post c E m H (f fr S) fun o _ _ H => Q o H
def rdG (c : Ct) (E : XK) (g : GM) : TG := fun v σ H Q => ∃ d fr S m, RelD c.K H m d v ∧ RF c.K H m fr σ ∧ RS c m S H ∧ Post c E m H (g d fr S) fun fr' _ m H => ∀ σ', RF c.K H m fr' σ' → Q σ' H
def rdGs (c : Ct) (E : XK) (g : GMs) : TGs := fun vs σ H Q => ∃ ds fr S m, RelL c.K H m ds vs ∧ RF c.K H m fr σ ∧ RS c m S H ∧ Post c E m H (g ds fr S) fun fr' _ m H => ∀ σ', RF c.K H m fr' σ' → Q σ' H
def kS (c : Ct) (D : Ends) : Out → Store → List Addr → Hp → Prop := fun o _ m H => match o with
  | .nx fr => ∀ σ, RF c.K H m fr σ → D.nx σ H
  | .rt d => ∀ v, RelD c.K H m d v → D.rt v H
  | .bk fr => ∀ σ, RF c.K H m fr σ → D.bk σ H
  | .ct fr => ∀ σ, RF c.K H m fr σ → D.ct σ H
def rdS (c : Ct) (E : XK) (g : SM) : TS := fun D σ H => ∃ fr S m, RF c.K H m fr σ ∧ RS c m S H ∧ Post c E m H (g fr S) (kS c D)
abbrev SE (X : Cx) (E : XK) (e : Expr) (f : EM) : Prop := PE X e (rdE (cx X) E f)
abbrev STt (X : Cx) (E : XK) (e : Expr) (f : TM) : Prop := PT X e (rdT (cx X) E f)
abbrev SW (X : Cx) (E : XK) (e : Expr) (f : TM) : Prop := PW X e (rdT (cx X) E f)
abbrev SA (X : Cx) (E : XK) (es : List Expr) (f : AM) : Prop := PA X es (rdA (cx X) E f)
abbrev SO (X : Cx) (E : XK) (e : Option Expr) (f : PM) : Prop := PO X e (rdP (cx X) E f)
abbrev SG (X : Cx) (E : XK) (e : Expr) (g : GM) : Prop := PG X e (rdG (cx X) E g)
abbrev SGs (X : Cx) (E : XK) (e : List Expr) (g : GMs) : Prop := PGs X e (rdGs (cx X) E g)
abbrev SS (X : Cx) (E : XK) (st : Stmt) (g : SM) : Prop := PS X st (rdS (cx X) E g)
abbrev SSs (X : Cx) (E : XK) (st : List Stmt) (g : SM) : Prop := PSs X st (rdS (cx X) E g)
section
variable {X : Cx}
theorem PE.mono {e : Expr} {t t' : TE} (h : PE X e t) (f : ∀ σ H Q, t' σ H Q → t σ H Q) : PE X e t' := ⟨fun pins s σ H Q I q => h.run pins s σ H Q I (f σ H Q q)⟩
theorem PT.mono {e : Expr} {t t' : TT} (h : PT X e t) (f : ∀ σ H Q, t' σ H Q → t σ H Q) : PT X e t' := ⟨fun pins s σ H Q I q => h.run pins s σ H Q I (f σ H Q q)⟩
theorem PW.mono {e : Expr} {t t' : TT} (h : PW X e t) (f : ∀ σ H Q, t' σ H Q → t σ H Q) : PW X e t' := ⟨fun wh pins s σ H Q I q => h.run wh pins s σ H Q I (f σ H Q q)⟩
theorem PA.mono {e : List Expr} {t t' : TA} (h : PA X e t) (f : ∀ σ H Q, t' σ H Q → t σ H Q) : PA X e t' := ⟨fun pos pins s σ H Q I q => h.run pos pins s σ H Q I (f σ H Q q)⟩
theorem PS.mono {e : Stmt} {t t' : TS} (h : PS X e t) (f : ∀ D σ H, t' D σ H → t D σ H) : PS X e t' := ⟨fun pins s σ H D I q => h.run pins s σ H D I (f D σ H q)⟩
theorem PSs.mono {e : List Stmt} {t t' : TS} (h : PSs X e t) (f : ∀ D σ H, t' D σ H → t D σ H) : PSs X e t' := ⟨fun pins s σ H D I q => h.run pins s σ H D I (f D σ H q)⟩
end
section
variable {X : Cx} {E : XK} {a b e : Expr} {fa fb : EM} {pos : Pos}
/-- the reading of a part, from a bind -/
theorem rd_bind {f : EM} {fr : Fr} {S : Store} {m : List Addr} {σ : L2.St} {H : Hp} {Q : VK} {c : Ct} {α : Type} {h : D → Store → Res α} {kk : α → Store → List Addr → Hp → Prop}
    (rf : RF c.K H m fr σ) (rs : RS c m S H) (p : Post c E m H ((f fr S).bind h) kk)
    (n : ∀ d S1 m1 H1, Ext m H m1 H1 → RF c.K H1 m1 fr σ → RS c m1 S1 H1 → Post c E m1 H1 (h d S1) kk → ∀ v, RelD c.K H1 m1 d v → Q v H1) : rdE c E f σ H Q :=
  ⟨fr, S, m, rf, rs, (post_bind p).imp fun d S1 m1 H1 e1 rs1 p1 => n d S1 m1 H1 e1 (rf.mono e1) rs1 p1⟩
theorem rdT_bind {f : TM} {fr : Fr} {S : Store} {m : List Addr} {σ : L2.St} {H : Hp} {Q : Bool → Hp → Prop} {c : Ct} {α : Type} {h : Bool → Store → Res α} {kk : α → Store → List Addr → Hp → Prop}
    (rf : RF c.K H m fr σ) (rs : RS c m S H) (p : Post c E m H ((f fr S).bind h) kk)
    (n : ∀ d S1 m1 H1, Ext m H m1 H1 → RF c.K H1 m1 fr σ → RS c m1 S1 H1 → Post c E m1 H1 (h d S1) kk → Q d H1) : rdT c E f σ H Q :=
  ⟨fr, S, m, rf, rs, (post_bind p).imp fun d S1 m1 H1 e1 rs1 p1 => n d S1 m1 H1 e1 (rf.mono e1) rs1 p1⟩
theorem rdA_bind {f : AM} {fr : Fr} {S : Store} {m : List Addr} {σ : L2.St} {H : Hp} {Q : List V → Hp → Prop} {c : Ct} {α : Type} {h : List D → Store → Res α} {kk : α → Store → List Addr → Hp → Prop}
    (rf : RF c.K H m fr σ) (rs : RS c m S H) (p : Post c E m H ((f fr S).bind h) kk)
    (n : ∀ d S1 m1 H1, Ext m H m1 H1 → RF c.K H1 m1 fr σ → RS c m1 S1 H1 → Post c E m1 H1 (h d S1) kk → ∀ v, RelL c.K H1 m1 d v → Q v H1) : rdA c E f σ H Q :=
  ⟨fr, S, m, rf, rs, (post_bind p).imp fun d S1 m1 H1 e1 rs1 p1 => n d S1 m1 H1 e1 (rf.mono e1) rs1 p1⟩
theorem rdP_bind {f : PM} {fr : Fr} {S : Store} {m : List Addr} {σ : L2.St} {H : Hp} {Q : Option Int → Hp → Prop} {c : Ct} {α : Type} {h : Option Int → Store → Res α} {kk : α → Store → List Addr → Hp → Prop}
    (rf : RF c.K H m fr σ) (rs : RS c m S H) (p : Post c E m H ((f fr S).bind h) kk)
    (n : ∀ d S1 m1 H1, Ext m H m1 H1 → RF c.K H1 m1 fr σ → RS c m1 S1 H1 → Post c E m1 H1 (h d S1) kk → Q d H1) : rdP c E f σ H Q :=
  ⟨fr, S, m, rf, rs, (post_bind p).imp fun d S1 m1 H1 e1 rs1 p1 => n d S1 m1 H1 e1 (rf.mono e1) rs1 p1⟩

/-! ### names and constants -/
theorem se_var (i : Nat) {x : Str} {pos : Pos} (hN : X.N[i]? = some x := by rfl) (hv : Vis X.env.scope x := by first | exact Or.inl rfl | exact Or.inr (Or.inl rfl) | exact Or.inr (Or.inr rfl)) (hd : (x == ("__debug__" : Str)) = false := by decide)
    (hcd : (x == ("__classdict__" : Str)) = false := by decide) : SE X E (.Name x pos) (mVar i) := by
  refine PE.mono (pe_var hN hv hd hcd) fun σ H Q ⟨fr, S, m, rf, rs, p⟩ => ?_
  unfold mVar at p
  split at p
  · rename_i d e
    obtain ⟨v, h1, h2⟩ := rf.get i d e
    exact ⟨v, h1, p.here rs v h2⟩
  · exact p.elim
theorem se_c {d : D} {v : V} {e : Expr} (h : PE X e (tC v)) (r : ∀ H m, RelD X.K H m d v) : SE X E e (mC d) :=
  PE.mono h fun σ H Q ⟨fr, S, m, rf, rs, p⟩ => p.here rs v (r H m)
theorem se_int {i : Int} {j pos} : SE X E (.Constant (.int i) j pos) (mC (.int i)) := se_c pe_int fun _ _ => .int i
theorem se_bl {i : Bool} {j pos} : SE X E (.Constant (.bool i) j pos) (mC (.bl i)) := se_c pe_bl fun _ _ => .bl i
theorem se_non {j pos} : SE X E (.Constant .none j pos) (mC .non) := se_c pe_non fun _ _ => .non
theorem se_str {x : Str} {s : Tx} {j pos} (h : x = sOf s) : SE X E (.Constant (.str x) j pos) (mC (.str s)) := by
  subst h
  exact se_c pe_str fun _ _ => .str s
/-- a number of the module's top -/
theorem se_gint {x : Str} {i : Int} {t : Tok} {pos : Pos} (hg : Gl X x) (hm : X.mg x = some (.int i t)) (hd : (x == ("__debug__" : Str)) = false := by decide) : SE X E (.Name x pos) (mC (.int i)) := se_c (pe_glob hg hm (v := .int i) ⟨t, rfl⟩ hd) fun _ _ => .int i
theorem se_gstr {x : Str} {y : Str} {s : Tx} {t : Tok} {pos : Pos} (hg : Gl X x) (hm : X.mg x = some (.str y t)) (h : y = sOf s) (hd : (x == ("__debug__" : Str)) = false := by decide) : SE X E (.Name x pos) (mC (.str s)) := by
  subst h
  exact se_c (pe_glob hg hm (v := .str (sOf s)) ⟨t, rfl⟩ hd) fun _ _ => .str s
/-- a tuple of the module's top -/
theorem se_gtup {x : Str} {l : List D} {a : Addr} {xs : List V} {pos : Pos} (hg : Gl X x) (hm : X.mg x = some (.ref a)) (h : SqT X.K H0 a xs) (r : RelL X.K H0 [] l xs) (hd : (x == ("__debug__" : Str)) = false := by decide) : SE X E (.Name x pos) (mC (.wtp l)) :=
  se_c (pe_glob hg hm (v := .ref a) rfl hd) fun H m => .wtp h (r.mono ⟨fun _ _ z => by simp at z, fun _ _ z => by cases z⟩)

/-! ### operators -/
def OpM (X : Cx) (E : XK) (f : Value → Value → Sem Value) (g : Op2) : Prop := ∃ r : R2, OpR X f r ∧
  ∀ x y v w S m H Q, RS (cx X) m S H → RelD X.K H m x v → RelD X.K H m y w → Post (cx X) E m H (g x y S) (kE (cx X) Q) → r v w H Q
theorem opr_or {f : Value → Value → Sem Value} {r r' : R2} (h : OpR X f r) (h' : OpR X f r') : OpR X f fun x y H Q => r x y H Q ∨ r' x y H Q := by
  intro pins s σ H x y v u Q I rx ry q
  rcases q with q | q
  · exact h pins s σ H x y v u Q I rx ry q
  · exact h' pins s σ H x y v u Q I rx ry q
theorem se_op {op : Operator} {g : Op2} (o : OpM X E (binaryOp op) g) (ha : SE X E a fa) (hb : SE X E b fb) : SE X E (.BinOp a op b pos) (mOp g fa fb) := by
  obtain ⟨r, ho, hr⟩ := o
  refine PE.mono (pe_op ho ha hb) fun σ H Q ⟨fr, S, m, rf, rs, p⟩ => ?_
  refine rd_bind rf rs p fun x S1 m1 H1 e1 rf1 rs1 p1 v hv => ?_
  refine rd_bind rf1 rs1 p1 fun y S2 m2 H2 e2 rf2 rs2 p2 w hw => ?_
  exact hr x y v w S2 m2 H2 Q rs2 (hv.mono e2) hw p2
theorem se_cmp {op : CmpOp} {g : Op2} (o : OpM X E (compareOp op) g) (ha : SE X E a fa) (hb : SE X E b fb) (hm : behindInMarks op b = false) : SE X E (.Compare a [op] [b] pos) (mOp g fa fb) := by
  obtain ⟨r, ho, hr⟩ := o
  refine PE.mono (pe_cmpR ho ha hb hm) fun σ H Q ⟨fr, S, m, rf, rs, p⟩ => ?_
  refine rd_bind rf rs p fun x S1 m1 H1 e1 rf1 rs1 p1 v hv => ?_
  refine rd_bind rf1 rs1 p1 fun y S2 m2 H2 e2 rf2 rs2 p2 w hw => ?_
  exact hr x y v w S2 m2 H2 Q rs2 (hv.mono e2) hw p2
/-- a Bool of a value -/
theorem of_toB {c : Ct} {x : D} {S : Store} {m : List Addr} {H : Hp} {k : Bool → Store → List Addr → Hp → Prop} {v : V} (rs : RS c m S H) (hv : RelD c.K H m x v) (p : Post c E m H (toB x S) k) : ∃ b, v = .bl b ∧ k b S m H := by
  cases hv with
  | bl b => exact ⟨b, rfl, p.here rs⟩
  | _ => exact p.elim
theorem st_cmp {op : CmpOp} {g : Op2} (o : OpM X E (compareOp op) g) (ha : SE X E a fa) (hb : SE X E b fb) (hm : behindInMarks op b = false) : STt X E (.Compare a [op] [b] pos) (tBl (mOp g fa fb)) := by
  obtain ⟨r, ho, hr⟩ := o
  refine PT.mono (pt_cmpR ho ha hb hm) fun σ H Q ⟨fr, S, m, rf, rs, p⟩ => ?_
  have p' := post_bind p
  refine rd_bind rf rs p' fun x S1 m1 H1 e1 rf1 rs1 p1 v hv => ?_
  refine rd_bind rf1 rs1 p1 fun y S2 m2 H2 e2 rf2 rs2 p2 w hw => ?_
  refine hr x y v w S2 m2 H2 _ rs2 (hv.mono e2) hw (p2.imp fun d S3 m3 H3 e3 rs3 p3 z hz => ?_)
  exact of_toB rs3 hz p3
/-- a < b < c -/
theorem se_chain {op op' : CmpOp} {g h : Op2} {d : Expr} {fd : EM} (o : OpM X E (compareOp op) g) (o' : OpM X E (compareOp op') h) (ha : SE X E a fa) (hb : SE X E b fb) (hd : SE X E d fd)
    (hm : lastMarks [op, op'] [b, d] = false := by with_unfolding_all rfl) : SE X E (.Compare a [op, op'] [b, d] pos) (mChain g h fa fb fd) := by
  obtain ⟨r, ho, hr⟩ := o
  obtain ⟨r', ho', hr'⟩ := o'
  refine PE.mono (pe_chain ho ho' ha hb hd hm) fun σ H Q ⟨fr, S, m, rf, rs, p⟩ => ?_
  refine rd_bind rf rs p fun x S1 m1 H1 e1 rf1 rs1 p1 v hv => ?_
  refine rd_bind rf1 rs1 p1 fun y S2 m2 H2 e2 rf2 rs2 p2 w hw => ?_
  refine hr x y v w S2 m2 H2 _ rs2 (hv.mono e2) hw ((post_bind p2).imp fun z S3 m3 H3 e3 rs3 p3 zv hz => ?_)
  obtain ⟨k, ek, q⟩ := of_toB rs3 hz (post_bind p3)
  refine ⟨k, ek, ?_⟩
  cases k with
  | true =>
    refine rd_bind (rf2.mono e3) rs3 q fun u S4 m4 H4 e4 rf4 rs4 p4 uv hu => ?_
    exact hr' y u w uv S4 m4 H4 Q rs4 ((hw.mono e3).mono e4) hu p4
  | false => exact q.here rs3 _ (.bl _)
theorem st_chain {op op' : CmpOp} {g h : Op2} {d : Expr} {fd : EM} (o : OpM X E (compareOp op) g) (o' : OpM X E (compareOp op') h) (ha : SE X E a fa) (hb : SE X E b fb) (hd : SE X E d fd)
    (hm : lastMarks [op, op'] [b, d] = false := by with_unfolding_all rfl) : STt X E (.Compare a [op, op'] [b, d] pos) (tBl (mChain g h fa fb fd)) := by
  obtain ⟨r, ho, hr⟩ := o
  obtain ⟨r', ho', hr'⟩ := o'
  refine PT.mono (pt_chain ho ho' ha hb hd hm) fun σ H Q ⟨fr, S, m, rf, rs, p⟩ => ?_
  refine rd_bind rf rs (post_bind p) fun x S1 m1 H1 e1 rf1 rs1 p1 v hv => ?_
  refine rd_bind rf1 rs1 p1 fun y S2 m2 H2 e2 rf2 rs2 p2 w hw => ?_
  refine hr x y v w S2 m2 H2 _ rs2 (hv.mono e2) hw ((post_bind p2).imp fun z S3 m3 H3 e3 rs3 p3 zv hz => ?_)
  obtain ⟨k, ek, q⟩ := of_toB rs3 hz (post_bind p3)
  refine ⟨k, ek, ?_⟩
  cases k with
  | true =>
    refine rd_bind (rf2.mono e3) rs3 q fun u S4 m4 H4 e4 rf4 rs4 p4 uv hu => ?_
    exact hr' y u w uv S4 m4 H4 _ rs4 ((hw.mono e3).mono e4) hu (p4.imp fun d S5 m5 H5 e5 rs5 p5 z5 hz5 => of_toB rs5 hz5 p5)
  | false => exact ⟨false, rfl, (q.here rs3).here rs3⟩
theorem st_val (h : SE X E e fa) (he : ∀ whole, isTrue e X.env whole = (do let v ← whole; standAt e.pos; holding [v] (truthy v)) := by intro _; rfl) : STt X E e (tBl fa) := by
  refine PT.mono (pt_val h he) fun σ H Q ⟨fr, S, m, rf, rs, p⟩ => ?_
  exact rd_bind rf rs p fun x S1 m1 H1 e1 rf1 rs1 p1 v hv => of_toB rs1 hv p1
theorem st_tru (h : SE X E e fa) (he : ∀ whole, isTrue e X.env whole = (do let v ← whole; standAt e.pos; holding [v] (truthy v)) := by intro _; rfl) : STt X E e (tTru fa) := by
  refine PT.mono (pt_truth h he) fun σ H Q ⟨fr, S, m, rf, rs, p⟩ => ?_
  refine rd_bind rf rs p fun x S1 m1 H1 e1 rf1 rs1 p1 v hv => ?_
  split at p1
  · rename_i b hb
    refine ⟨b, ?_, p1.here rs1⟩
    cases hv with
    | non => cases hb; exact rfl
    | bl k => cases hb; exact rfl
    | int i => cases hb; exact rfl
    | str s =>
      unfold truth at hb
      dsimp only at hb
      split at hb
      · rename_i hl
        cases hb
        refine ⟨by rw [sOf_len, sizeLine_eq]; exact hl, ?_⟩
        rw [sOf_len]
        cases s with
        | nil => rfl
        | cons => simp; omega
      · cases hb
    | @tup l a xs ha r =>
      cases hb
      refine .inr (.inl ⟨xs, .inl (.inl ha), ?_⟩)
      have := r.len
      cases r <;> rfl
    | wtp => cases hb
    | @ref n ad ha =>
      unfold truth at hb
      dsimp only at hb
      split at hb
      · rename_i l hl
        cases hb
        obtain ⟨xs, h1, h2⟩ := rs1.lst ha hl
        refine .inl ⟨xs, h1, ?_⟩
        cases h2 <;> rfl
      · cases hb
  · exact p1.elim
theorem se_not (ha : SE X E a fa) : SE X E (.UnaryOp .Not a pos) (mNot fa) := by
  refine PE.mono (pe_not ha) fun σ H Q ⟨fr, S, m, rf, rs, p⟩ => ?_
  refine rd_bind rf rs p fun x S1 m1 H1 e1 rf1 rs1 p1 v hv => ?_
  obtain ⟨k, e, q⟩ := of_toB rs1 hv (post_bind p1)
  exact ⟨k, e, q.here rs1 _ (.bl _)⟩
theorem se_one {op} (h : SE X E a fa) : SE X E (.BoolOp op [a] pos) fa := pe_one h
theorem se_and {rest : List Expr} (ha : SE X E a fa) (hb : SE X E (.BoolOp .And (b :: rest) pos) fb) : SE X E (.BoolOp .And (a :: b :: rest) pos) (mAnd fa fb) := by
  refine PE.mono (pe_and ha hb) fun σ H Q ⟨fr, S, m, rf, rs, p⟩ => ?_
  refine rd_bind rf rs p fun x S1 m1 H1 e1 rf1 rs1 p1 v hv => ?_
  obtain ⟨k, e, q⟩ := of_toB rs1 hv (post_bind p1)
  refine ⟨k, e, ?_⟩
  cases k with
  | true => exact ⟨fr, S1, m1, rf1, rs1, q⟩
  | false => exact q.here rs1 _ (.bl _)
theorem se_or {rest : List Expr} (ha : SE X E a fa) (hb : SE X E (.BoolOp .Or (b :: rest) pos) fb) : SE X E (.BoolOp .Or (a :: b :: rest) pos) (mOr fa fb) := by
  refine PE.mono (pe_or ha hb) fun σ H Q ⟨fr, S, m, rf, rs, p⟩ => ?_
  refine rd_bind rf rs p fun x S1 m1 H1 e1 rf1 rs1 p1 v hv => ?_
  obtain ⟨k, e, q⟩ := of_toB rs1 hv (post_bind p1)
  refine ⟨k, e, ?_⟩
  cases k with
  | true => exact q.here rs1 _ (.bl _)
  | false => exact ⟨fr, S1, m1, rf1, rs1, q⟩
/-- tests -/
theorem sw_and1 {ft : TM} (ha : STt X E a ft) : SW X E (.BoolOp .And [a] pos) ft := pw_and1 ha
theorem sw_or1 {ft : TM} (ha : STt X E a ft) : SW X E (.BoolOp .Or [a] pos) ft := pw_or1 ha
theorem sw_and {rest : List Expr} {ft fu : TM} (ha : STt X E a ft) (hb : SW X E (.BoolOp .And (b :: rest) pos) fu) : SW X E (.BoolOp .And (a :: b :: rest) pos) (tAnd ft fu) := by
  refine PW.mono (pw_and ha hb) fun σ H Q ⟨fr, S, m, rf, rs, p⟩ => ?_
  refine rdT_bind rf rs p fun k S1 m1 H1 e1 rf1 rs1 p1 => ?_
  cases k with
  | true => exact ⟨fr, S1, m1, rf1, rs1, p1⟩
  | false => exact p1.here rs1
theorem sw_or {rest : List Expr} {ft fu : TM} (ha : STt X E a ft) (hb : SW X E (.BoolOp .Or (b :: rest) pos) fu) : SW X E (.BoolOp .Or (a :: b :: rest) pos) (tOr ft fu) := by
  refine PW.mono (pw_or ha hb) fun σ H Q ⟨fr, S, m, rf, rs, p⟩ => ?_
  refine rdT_bind rf rs p fun k S1 m1 H1 e1 rf1 rs1 p1 => ?_
  cases k with
  | true => exact p1.here rs1
  | false => exact ⟨fr, S1, m1, rf1, rs1, p1⟩
theorem st_w {ft : TM} (h : SW X E e ft) : STt X E e ft := PW.pt h
theorem st_not {ft : TM} (ha : STt X E a ft) : STt X E (.UnaryOp .Not a pos) (tNot ft) := by
  refine PT.mono (pt_not ha) fun σ H Q ⟨fr, S, m, rf, rs, p⟩ => ?_
  exact rdT_bind rf rs p fun k S1 m1 H1 e1 rf1 rs1 p1 => p1.here rs1
theorem se_ife {ft : TM} {t : Expr} (ht : STt X E t ft) (ha : SE X E a fa) (hb : SE X E b fb) : SE X E (.IfExp t a b pos) (mIfE ft fa fb) := by
  refine PE.mono (pe_ifExp ht ha hb) fun σ H Q ⟨fr, S, m, rf, rs, p⟩ => ?_
  refine rdT_bind rf rs p fun k S1 m1 H1 e1 rf1 rs1 p1 => ?_
  cases k with
  | true => exact ⟨fr, S1, m1, rf1, rs1, p1⟩
  | false => exact ⟨fr, S1, m1, rf1, rs1, p1⟩

/-! ### arguments, displays -/
theorem sa_nil : SA X E [] aNil := PA.mono pa_nil fun σ H Q ⟨fr, S, m, rf, rs, p⟩ => p.here rs [] .nil
theorem sa_cons {es : List Expr} {fs : AM} (ha : SE X E e fa) (hr : SA X E es fs) (hs : starEach (e :: es) X.env = (false, eval e X.env) :: starEach es X.env := by rfl) : SA X E (e :: es) (aCons fa fs) := by
  refine PA.mono (pa_cons ha hr hs) fun σ H Q ⟨fr, S, m, rf, rs, p⟩ => ?_
  refine rd_bind rf rs p fun x S1 m1 H1 e1 rf1 rs1 p1 v hv => ?_
  refine rdA_bind rf1 rs1 p1 fun xs S2 m2 H2 e2 rf2 rs2 p2 vs hvs => ?_
  exact p2.here rs2 _ (.cons (hv.mono e2) hvs)
theorem line_eq : sizeLine = LINE := sizeLine_eq
/-- a new object: its reference -/
theorem post_new {c : Ct} {m : List Addr} {S : Store} {H : Hp} {o : O} {Q : VK} {p : Addr} {u : HO} (rs : RS c m S H) (q : Post c E m H (new o S) (kE c Q)) (hp : H p = none) (ho : Ext m H (m ++ [p]) (upd H p u) → RelO c (upd H p u) (m ++ [p]) p o) : Q (.ref p) (upd H p u) := by
  have e0 : Ext m H (m ++ [p]) (upd H p u) := ⟨mext_push m p, tstay_new hp⟩
  obtain ⟨rs', e⟩ := rs.push hp (ho e0)
  refine q _ _ e rs' _ (.ref ?_)
  rw [← rs.len, List.getElem?_append_right (Nat.le_refl _), Nat.sub_self]
  rfl
theorem post_tup {c : Ct} {m : List Addr} {S : Store} {H : Hp} {l : List D} {Q : VK} {p : Addr} {xs : List V} (rs : RS c m S H) (q : Post c E m H (.ok (.tup l) S) (kE c Q)) (hp : H p = none) (r : RelL c.K H m l xs) : Q (.ref p) (upd H p (.tup xs)) := by
  have e : Ext m H m (upd H p (.tup xs)) := ⟨fun _ _ z => z, tstay_new hp⟩
  exact q _ _ e (rs.fresh hp) _ (.tup upd_same (r.mono e))
theorem se_tup {es : List Expr} {fs : AM} {x1} (h : SA X E es fs) : SE X E (.Tuple es x1 pos) (mTup fs) := by
  refine PE.mono (pe_tup h) fun σ H Q ⟨fr, S, m, rf, rs, p⟩ => ?_
  refine rdA_bind rf rs p fun xs S1 m1 H1 e1 rf1 rs1 p1 vs hv => ?_
  split at p1
  · rename_i hl
    exact ⟨by rw [← hv.len, line_eq]; exact hl, fun a ha => post_tup rs1 p1 ha hv⟩
  · exact p1.elim
theorem se_lst {es : List Expr} {fs : AM} (h : SA X E es fs) : SE X E (.List es pos) (mLst fs) := by
  refine PE.mono (pe_lst h) fun σ H Q ⟨fr, S, m, rf, rs, p⟩ => ?_
  refine rdA_bind rf rs p fun xs S1 m1 H1 e1 rf1 rs1 p1 vs hv => ?_
  split at p1
  · rename_i hl
    exact ⟨by rw [← hv.len, line_eq]; exact hl, fun a ha => post_new rs1 p1 ha fun e0 => ⟨vs, upd_same, hv.mono e0⟩⟩
  · exact p1.elim
theorem se_newK : SE X E (.Dict [] [] pos) mNewK := PE.mono pe_dnewK fun σ H Q ⟨fr, S, m, rf, rs, p⟩ a ha => post_new rs p ha fun _ => ⟨[], upd_same, .nil⟩
theorem se_newT : SE X E (.Dict [] [] pos) mNewT := PE.mono pe_dnewT fun σ H Q ⟨fr, S, m, rf, rs, p⟩ a ha => post_new rs p ha fun _ => ⟨[], upd_same, .nil⟩

/-! ### calls -/
/-- a def's promise by its small program -/
def spM (c : Ct) (g : Fn) : Sp := fun vs H Q E => ∃ ds S m, RelL c.K H m ds vs ∧ RS c m S H ∧ Post c E m H (g ds S) (kE c Q)
theorem rd_call {f : AM} {g : Fn} {fr : Fr} {S : Store} {m : List Addr} {σ : L2.St} {H : Hp} {Q : VK} {c : Ct} {E : XK}
    (rf : RF c.K H m fr σ) (rs : RS c m S H) (p : Post c E m H ((f fr S).bind g) (kE c Q)) : rdA c E f σ H fun vs H1 => spM c g vs H1 Q E :=
  rdA_bind rf rs p fun ds S1 m1 H1 e1 rf1 rs1 p1 vs hv => ⟨ds, S1, m1, hv, rs1, p1⟩
theorem se_call {CX : CXT} {k : Nat} {f : Addr} {fd : FuncData} {ps : List Str} {g : Fn} {x : Str} {p : Pos} {es : List Expr} {fs : AM} (F : FnOk X.prog X.w X.K X.mg X.base CX k f fd ps (spM (cx X) g)) (hr : Room k X.A) (hg : Gl X x) (hm : X.mg x = some (.ref f)) (hk : PySem.W.keepIn X.K (.ref f) = true) (hb : Binds X.K fd ps []) (hx : Passes CX X E)
    (ha : SA X E (e :: es) fs) (hdb : (x == ("__debug__" : Str)) = false := by decide) (he : starEach (e :: es) X.env = (false, eval e X.env) :: starEach es X.env := by rfl) (hpl : (backTo pos (starEach es X.env)).any (·.1) = false := by rfl) :
    SE X E (.Call (.Name x p) (e :: es) [] pos) (mCall g fs) := by
  refine PE.mono (pe_call F hr hg hm hk hb .nil hx ha hdb he hpl) fun σ H Q ⟨fr, S, m, rf, rs, p⟩ => ?_
  show rdA (cx X) E fs σ H fun vs H1 => spM (cx X) g (vs ++ []) H1 Q E
  have h := rd_call rf rs p
  simpa only [List.append_nil] using h
theorem se_call0 {CX : CXT} {k : Nat} {f : Addr} {fd : FuncData} {ps : List Str} {g : Fn} {x : Str} {p : Pos} (F : FnOk X.prog X.w X.K X.mg X.base CX k f fd ps (spM (cx X) g)) (hr : Room k X.A) (hg : Gl X x) (hm : X.mg x = some (.ref f)) (hk : PySem.W.keepIn X.K (.ref f) = true) (hb : Binds X.K fd ps []) (hx : Passes CX X E)
    (hdb : (x == ("__debug__" : Str)) = false := by decide) : SE X E (.Call (.Name x p) [] [] pos) (mCall g aNil) := by
  refine PE.mono (pe_call0 F hr hg hm hk hb .nil hx hdb) fun σ H Q ⟨fr, S, m, rf, rs, p⟩ => ?_
  exact ⟨[], S, m, .nil, rs, p⟩
/-- a built-in's value rule against the small one -/
def CallM (X : Cx) (E : XK) (f : Value) (g : Fn) : Prop := ∃ r : List V → Hp → VK → Prop, CallR X f r ∧
  ∀ ds vs S m H Q, RS (cx X) m S H → RelL X.K H m ds vs → Post (cx X) E m H (g ds S) (kE (cx X) Q) → r vs H Q
theorem callr_or {f : Value} {r r' : List V → Hp → VK → Prop} (h : CallR X f r) (h' : CallR X f r') : CallR X f fun xs H Q => r xs H Q ∨ r' xs H Q := by
  intro pins s σ H xs us Q I rx q
  rcases q with q | q
  · exact h pins s σ H xs us Q I rx q
  · exact h' pins s σ H xs us Q I rx q
theorem se_callB {id : String} {g : Fn} {x : Str} {p : Pos} {es : List Expr} {fs : AM} (o : CallM X E (.builtin id) g) (hg : Gl X x) (hm : X.mg x = none) (hv : bootBuiltins x = some (.builtin id)) (ha : SA X E (e :: es) fs) (hn : x ≠ "__name__" := by decide) (hdb : (x == ("__debug__" : Str)) = false := by decide)
    (he : starEach (e :: es) X.env = (false, eval e X.env) :: starEach es X.env := by rfl) (hpl : (backTo pos (starEach es X.env)).any (·.1) = false := by rfl) : SE X E (.Call (.Name x p) (e :: es) [] pos) (mCall g fs) := by
  obtain ⟨r, hc, hr⟩ := o
  refine PE.mono (pe_callB hc hg hm hv ha hn hdb he hpl) fun σ H Q ⟨fr, S, m, rf, rs, p⟩ => ?_
  exact rdA_bind rf rs p fun ds S1 m1 H1 e1 rf1 rs1 p1 vs hvs => hr ds vs S1 m1 H1 Q rs1 hvs p1
theorem se_callTy {T : String} {g : Fn} {x : Str} {p : Pos} {es : List Expr} {fs : AM} (o : CallM X E (.type T) g) (hg : Gl X x) (hm : X.mg x = none) (hv : bootBuiltins x = some (.type T)) (ha : SA X E (e :: es) fs) (hn : x ≠ "__name__" := by decide) (hdb : (x == ("__debug__" : Str)) = false := by decide)
    (he : starEach (e :: es) X.env = (false, eval e X.env) :: starEach es X.env := by rfl) (hpl : (backTo pos (starEach es X.env)).any (·.1) = false := by rfl) : SE X E (.Call (.Name x p) (e :: es) [] pos) (mCall g fs) := by
  obtain ⟨r, hc, hr⟩ := o
  refine PE.mono (pe_callTy hc hg hm hv ha hn hdb he hpl) fun σ H Q ⟨fr, S, m, rf, rs, p⟩ => ?_
  exact rdA_bind rf rs p fun ds S1 m1 H1 e1 rf1 rs1 p1 vs hvs => hr ds vs S1 m1 H1 Q rs1 hvs p1
/-- a subscript -/
def IxM (X : Cx) (E : XK) (g : Op2) : Prop := ∃ r : R2, IxR X r ∧
  ∀ x y v w S m H Q, RS (cx X) m S H → RelD X.K H m x v → RelD X.K H m y w → Post (cx X) E m H (g x y S) (kE (cx X) Q) → r v w H Q
theorem se_ix {g : Op2} (o : IxM X E g) (ha : SE X E a fa) (hb : SE X E b fb) (hs : PlainIx b) : SE X E (.Subscript a b pos) (mOp g fa fb) := by
  obtain ⟨r, ho, hr⟩ := o
  refine PE.mono (pe_ix ho ha hb hs) fun σ H Q ⟨fr, S, m, rf, rs, p⟩ => ?_
  refine rd_bind rf rs p fun x S1 m1 H1 e1 rf1 rs1 p1 v hv => ?_
  refine rd_bind rf1 rs1 p1 fun y S2 m2 H2 e2 rf2 rs2 p2 w hw => ?_
  exact hr x y v w S2 m2 H2 Q rs2 (hv.mono e2) hw p2
/-- a slice -/
theorem so_none : SO X E none pNo := by
  refine ⟨fun pins s σ H Q I ⟨fr, S, m, rf, rs, p⟩ => po_none.run pins s σ H Q I (p.here rs)⟩
theorem so_some (h : SE X E e fa) : SO X E (some e) (pSome fa) := by
  refine ⟨fun pins s σ H Q I ⟨fr, S, m, rf, rs, p⟩ => (po_some h).run pins s σ H Q I ?_⟩
  refine rd_bind rf rs p fun x S1 m1 H1 e1 rf1 rs1 p1 v hv => ?_
  cases hv with
  | int i => exact ⟨i, rfl, p1.here rs1⟩
  | _ => exact p1.elim
def SlM (X : Cx) (E : XK) (g : D → Option Int → Option Int → Store → Res D) : Prop := ∃ r : V → Option Int → Option Int → Hp → VK → Prop, SlR X r ∧
  ∀ x lo hi v S m H Q, RS (cx X) m S H → RelD X.K H m x v → Post (cx X) E m H (g x lo hi S) (kE (cx X) Q) → r v lo hi H Q
theorem slr_or {r r' : V → Option Int → Option Int → Hp → VK → Prop} (h : SlR X r) (h' : SlR X r') : SlR X fun x a b H Q => r x a b H Q ∨ r' x a b H Q := by
  intro pins s σ H x v vl vu lo hi sl Q I rx hs pl pu q
  rcases q with q | q
  · exact h pins s σ H x v vl vu lo hi sl Q I rx hs pl pu q
  · exact h' pins s σ H x v vl vu lo hi sl Q I rx hs pl pu q
theorem se_sl {lo hi : Option Expr} {fl fh : PM} {p2 : Pos} (o : SlM X E oSl) (ha : SE X E a fa) (hl : SO X E lo fl) (hh : SO X E hi fh) : SE X E (.Subscript a (.Slice lo hi none p2) pos) (mSl fa fl fh) := by
  obtain ⟨r, ho, hr⟩ := o
  refine PE.mono (pe_slice ho ha hl hh) fun σ H Q ⟨fr, S, m, rf, rs, p⟩ => ?_
  refine rd_bind rf rs p fun x S1 m1 H1 e1 rf1 rs1 p1 v hv => ?_
  refine rdP_bind rf1 rs1 p1 fun l S2 m2 H2 e2 rf2 rs2 p2 => ?_
  refine rdP_bind rf2 rs2 p2 fun h S3 m3 H3 e3 rf3 rs3 p3 => ?_
  exact hr x l h v S3 m3 H3 Q rs3 ((hv.mono e2).mono e3) p3
/-- -a -/
theorem se_neg (ha : SE X E a fa) : SE X E (.UnaryOp .USub a pos) (mUn uNeg fa) := by
  refine PE.mono (pe_un un_neg ha) fun σ H Q ⟨fr, S, m, rf, rs, p⟩ => ?_
  refine rd_bind rf rs p fun x S1 m1 H1 e1 rf1 rs1 p1 v hv => ?_
  cases hv with
  | int i => exact ⟨i, rfl, p1.here rs1 _ (.int _)⟩
  | _ => exact p1.elim
/-- a method of a built-in type -/
def MtMm (X : Cx) (E : XK) (id : String) (g : D → Fn) : Prop := ∃ r : V → List V → Hp → VK → Prop, MtR X id r ∧
  ∀ x ds v vs S m H Q, RS (cx X) m S H → RelD X.K H m x v → RelL X.K H m ds vs → Post (cx X) E m H (g x ds S) (kE (cx X) Q) → r v vs H Q
def TyM (X : Cx) (T : String) (p : D → Store → Bool) : Prop := ∀ x v S m H, RS (cx X) m S H → RelD X.K H m x v → p x S = true → tyV X.K T v H
theorem se_mt0 {T id : String} {name : Str} {apos cpos : Pos} {g : D → Fn} {tp : D → Store → Bool} {o : Expr} {fo : EM} (pa : PlainAttrs T) (slot : Slot T name id) (hty : typeOf (.builtin id) = pure (.type "method_descriptor")) (mt : MtMm X E id g) (ty : TyM X T tp) (ho : SE X E o fo)
    (hbase : attributeBase o name X.env (eval o X.env) = eval o X.env := by rfl) (hline : (apos.endLine == cpos.line) = true := by rfl) : SE X E (.Call (.Attribute o name apos) [] [] cpos) (mMt tp g fo aNil) := by
  obtain ⟨r, hm, hr⟩ := mt
  refine PE.mono (pe_bm0 pa slot hty hm ho hbase hline) fun σ H Q ⟨fr, S, m, rf, rs, p⟩ => ?_
  refine rd_bind rf rs p fun x S1 m1 H1 e1 rf1 rs1 p1 v hv => ?_
  split at p1
  · rename_i h
    exact ⟨ty x v S1 m1 H1 rs1 hv h, hr x [] v [] S1 m1 H1 Q rs1 hv .nil p1⟩
  · exact p1.elim
theorem se_mt {T id : String} {name : Str} {apos cpos : Pos} {g : D → Fn} {tp : D → Store → Bool} {o : Expr} {fo : EM} {es : List Expr} {fs : AM} (pa : PlainAttrs T) (slot : Slot T name id) (hty : typeOf (.builtin id) = pure (.type "method_descriptor")) (mt : MtMm X E id g) (ty : TyM X T tp) (ho : SE X E o fo) (ha : SA X E (e :: es) fs)
    (hbase : attributeBase o name X.env (eval o X.env) = eval o X.env := by rfl)
    (hfew : ((backTo cpos (starEach (e :: es) X.env)).all (fun x => !x.1) && (backToKw cpos (keywordEach [] X.env)).all (fun x => x.1.isSome)
      && decide ((e :: es).length + ([] : List Keyword).length + (if ([] : List Keyword).isEmpty then 0 else 1) < 30)) = true := by rfl)
    (hline : (apos.endLine == cpos.line) = true := by rfl) (hs : starEach (e :: es) X.env = (false, eval e X.env) :: starEach es X.env := by rfl) (hplain : (backTo cpos (starEach es X.env)).any (·.1) = false := by rfl) : SE X E (.Call (.Attribute o name apos) (e :: es) [] cpos) (mMt tp g fo fs) := by
  obtain ⟨r, hm, hr⟩ := mt
  refine PE.mono (pe_bm pa slot hty hm ho ha hbase hfew hline hs hplain) fun σ H Q ⟨fr, S, m, rf, rs, p⟩ => ?_
  refine rd_bind rf rs p fun x S1 m1 H1 e1 rf1 rs1 p1 v hv => ?_
  split at p1
  · rename_i h
    refine ⟨ty x v S1 m1 H1 rs1 hv h, ?_⟩
    exact rdA_bind rf1 rs1 p1 fun ds S2 m2 H2 e2 rf2 rs2 p2 vs hvs => hr x ds v vs S2 m2 H2 Q rs2 (hv.mono e2) hvs p2
  · exact p1.elim
end
end Sm

set_option Elab.async false
set_option linter.all false
set_option maxRecDepth 100000
set_option maxHeartbeats 2000000
/-! readings by the small language: operators on values -/
namespace Sm
open PySem PySem.Spec PyProof.Rows L2 Mi
section
variable {X : Cx} {E : XK} {f : Value → Value → Sem Value}
theorem post_int {c : Ct} {E : XK} {m : List Addr} {H : Hp} {S : Store} {Q : VK} {i : Int} (rs : RS c m S H) (p : Post c E m H (.ok (.int i) S) (kE c Q)) : Q (.int i) H := p.here rs _ (.int i)
theorem post_bl {c : Ct} {E : XK} {m : List Addr} {H : Hp} {S : Store} {Q : VK} {i : Bool} (rs : RS c m S H) (p : Post c E m H (.ok (.bl i) S) (kE c Q)) : Q (.bl i) H := p.here rs _ (.bl i)
/-- an operator of two ints alone -/
theorem om_int {g : Int → Int → D} {w : Int → Int → V} (ho : OpR X f (rI0 w)) (h : ∀ i j H m, RelD X.K H m (g i j) (w i j)) :
    OpM X E f (fun x y S => match x, y with
      | .int i, .int j => .ok (g i j) S
      | _, _ => .bad) := by
  refine ⟨_, ho, fun x y v u S m H Q rs hv hw p => ?_⟩
  cases hv <;> cases hw <;> first
    | exact p.elim
    | exact ⟨_, _, rfl, rfl, p.here rs _ (h _ _ _ _)⟩
theorem om_intC {C C' : Int → Int → Prop} [∀ i j, Decidable (C i j)] {g : Int → Int → Int} {g' : Int → Int → Int} (ho : OpR X f (rI C' fun i j => .int (g' i j))) (hc : ∀ i j, C i j → C' i j) (he : ∀ i j, C i j → g' i j = g i j) :
    OpM X E f (fun x y S => match x, y with
      | .int i, .int j => if C i j then .ok (.int (g i j)) S else .bad
      | _, _ => .bad) := by
  refine ⟨_, ho, fun x y v u S m H Q rs hv hw p => ?_⟩
  cases hv <;> cases hw <;> first
    | exact p.elim
    | (rename_i i j
       dsimp only at p
       split at p
       · rename_i h
         refine ⟨_, _, rfl, rfl, hc _ _ h, ?_⟩
         show Q (.int (g' i j)) H
         rw [he _ _ h]
         exact post_int rs p
       · exact p.elim)
theorem OpM.eq {g g' : Op2} (h : OpM X E f g) (e : ∀ x y S, g x y S = g' x y S) : OpM X E f g' := by
  obtain ⟨r, h1, h2⟩ := h
  exact ⟨r, h1, fun x y v w S m H Q rs hv hw p => h2 x y v w S m H Q rs hv hw (by rw [e]; exact p)⟩
theorem om_sub : OpM X E (binaryOp .Sub) oSub := (om_int (g := fun i j => .int (i - j)) op_sub fun i j H m => .int _).eq fun x y S => by cases x <;> cases y <;> rfl
theorem om_cmp {op : CmpOp} {p : Int → Int → Bool} (ho : OpR X (compareOp op) (rI0 fun i j => .bl (p i j))) : OpM X E (compareOp op) (oCmp p) := (om_int (g := fun i j => .bl (p i j)) ho fun i j H m => .bl _).eq fun x y S => by cases x <;> cases y <;> rfl
theorem om_lt : OpM X E (compareOp .Lt) oLt := om_cmp op_lt
theorem om_le : OpM X E (compareOp .LtE) oLe := om_cmp op_le
theorem om_gt : OpM X E (compareOp .Gt) oGt := om_cmp op_gt
theorem om_ge : OpM X E (compareOp .GtE) oGe := om_cmp op_ge
theorem om_div : OpM X E (binaryOp .FloorDiv) oDiv := (om_intC (C := fun _ j => divOk j) (g := fun i j => i / j) op_fdivW (fun _ _ h => h) fun _ _ _ => rfl).eq fun x y S => by cases x <;> cases y <;> rfl
theorem om_mod : OpM X E (binaryOp .Mod) oMod := (om_intC (C := fun _ j => 0 < j) (g := fun i j => i % j) op_mod (fun _ _ h => h) fun _ _ _ => rfl).eq fun x y S => by cases x <;> cases y <;> rfl
theorem om_pow : OpM X E (binaryOp .Pow) oPow := (om_intC (C := powOk) (g := fun i j => i ^ j.toNat) op_pow (fun _ _ h => h) fun _ _ _ => rfl).eq fun x y S => by cases x <;> cases y <;> rfl
theorem om_shl : OpM X E (binaryOp .LShift) oShl := (om_intC (C := powOk) (g := fun i j => i * 2 ^ j.toNat) op_shl (fun _ _ h => h) fun _ _ _ => rfl).eq fun x y S => by cases x <;> cases y <;> rfl
theorem om_shr : OpM X E (binaryOp .RShift) oShr := (om_intC (C := fun _ j => 0 ≤ j) (g := fun i j => i / 2 ^ j.toNat) op_shr (fun _ _ h => h) fun _ _ _ => rfl).eq fun x y S => by cases x <;> cases y <;> rfl
theorem om_bit {op : Operator} {b : Int → Int → Int} {g : Nat → Nat → Nat} (ho : OpR X (binaryOp op) (rI0 fun i j => .int (b i j))) (he : ∀ i j : Int, 0 ≤ i → 0 ≤ j → b i j = (g i.toNat j.toNat : Nat)) : OpM X E (binaryOp op) (oBit g) := by
  refine ⟨_, ho, fun x y v u S m H Q rs hv hw p => ?_⟩
  cases hv <;> cases hw <;> first
    | exact p.elim
    | (rename_i i j
       unfold oBit at p
       dsimp only at p
       split at p
       · rename_i h
         refine ⟨_, _, rfl, rfl, ?_⟩
         show Q (.int (b i j)) H
         rw [he _ _ h.1 h.2]
         exact post_int rs p
       · exact p.elim)
theorem bitAnd_nn {x y : Int} (hx : 0 ≤ x) (hy : 0 ≤ y) : Builtin.bitAnd x y = ((x.toNat &&& y.toNat : Nat) : Int) := by
  obtain ⟨a, rfl⟩ := Int.eq_ofNat_of_zero_le hx
  obtain ⟨b, rfl⟩ := Int.eq_ofNat_of_zero_le hy
  rfl
theorem om_and : OpM X E (binaryOp .BitAnd) oAnd := om_bit op_and fun i j h1 h2 => bitAnd_nn h1 h2
theorem om_or : OpM X E (binaryOp .BitOr) oOr := om_bit op_or fun i j h1 h2 => Bits.bitOr_pp h1 h2
theorem om_xor : OpM X E (binaryOp .BitXor) oXor := om_bit op_xor fun i j h1 h2 => Bits.bitXor_pp h1 h2
/-- two rules for one operator -/
theorem RS.mlst {c : Ct} {m : List Addr} {S : Store} {H : Hp} {n : Nat} {a : Addr} {l : List D} (rs : RS c m S H) (ha : m[n]? = some a) (hs : S[n]? = some (.lst l)) : ∃ xs, H a = some (.lst xs) ∧ RelL c.K H m l xs := rs.ob n a _ ha hs
theorem om_add : OpM X E (binaryOp .Add) oAdd := by
  refine ⟨_, opr_or op_add (opr_or op_add_str (opr_or op_cat op_catT)), fun x y v u S m H Q rs hv hw p => ?_⟩
  cases hv with
  | int i => cases hw with
    | int j => exact .inl ⟨i, j, rfl, rfl, post_int rs p⟩
    | _ => exact p.elim
  | str s => cases hw with
    | str t =>
      unfold oAdd at p
      dsimp only at p
      split at p
      · rename_i h
        refine .inr (.inl ⟨sOf s, sOf t, rfl, rfl, by rw [sOf_len, sOf_len, line_eq]; exact h, ?_⟩)
        have e : sOf s ++ sOf t = sOf (s ++ t) := by
          show Str.mk (s.toArray ++ t.toArray) = Str.mk (s ++ t).toArray
          simp
        rw [e]
        exact p.here rs _ (.str _)
      · exact p.elim
    | _ => exact p.elim
  | @tup l a xs ha r => cases hw with
    | @tup l' a' xs' ha' r' =>
      unfold oAdd at p
      dsimp only at p
      split at p
      · rename_i h
        have n1 : xs ≠ [] := fun z => by
          have := r.len
          rw [z] at this
          exact h.1 (List.length_eq_zero_iff.mp this)
        refine .inr (.inr (.inr ⟨a, a', xs, xs', rfl, rfl, .inl (.inl ha), .inl (.inl ha'), n1, by rw [← r.len, ← r'.len, line_eq]; exact h.2, fun z => ?_, fun z b hb => ?_⟩))
        · subst z
          cases r'
          rw [List.append_nil] at p
          exact p.here rs _ (.tup ha r)
        · exact post_tup rs p hb (r.app r')
      · exact p.elim
    | _ => exact p.elim
  | @ref n a ha => cases hw with
    | @ref n' a' ha' =>
      unfold oAdd at p
      dsimp only at p
      split at p
      · rename_i l l' e1 e2
        split at p
        · rename_i h
          obtain ⟨xs, h1, r1⟩ := rs.mlst ha e1
          obtain ⟨ys, h2, r2⟩ := rs.mlst ha' e2
          exact .inr (.inr (.inl ⟨a, a', xs, ys, rfl, rfl, h1, h2, by rw [← r1.len, ← r2.len, line_eq]; exact h, fun b hb => post_new rs p hb fun e0 => ⟨_, upd_same, (r1.app r2).mono e0⟩⟩))
        · exact p.elim
      · exact p.elim
    | _ => exact p.elim
  | _ => cases hw <;> exact p.elim
theorem RelL.rep {K : PySem.W.Frag} {H : Hp} {m : List Addr} {l : List D} {xs : List V} (r : RelL K H m l xs) : ∀ n, RelL K H m (List.replicate n l).flatten (List.replicate n xs).flatten
  | 0 => .nil
  | n + 1 => by
    rw [List.replicate_succ, List.replicate_succ, List.flatten_cons, List.flatten_cons]
    exact r.app (r.rep n)
theorem om_mul : OpM X E (binaryOp .Mult) oMul := by
  refine ⟨_, opr_or op_mul (opr_or op_mulW op_rep), fun x y v u S m H Q rs hv hw p => ?_⟩
  cases hv with
  | int i => cases hw with
    | int j =>
      unfold oMul at p
      dsimp only at p
      split at p
      · rename_i h
        rcases h with h | h | h
        · exact .inl ⟨i, j, rfl, rfl, .inl h, post_int rs p⟩
        · exact .inl ⟨i, j, rfl, rfl, .inr h, post_int rs p⟩
        · exact .inr (.inl ⟨i, j, rfl, rfl, h, post_int rs p⟩)
      · exact p.elim
    | _ => exact p.elim
  | @ref n a ha => cases hw with
    | int k =>
      unfold oMul at p
      dsimp only at p
      split at p
      · rename_i l e1
        split at p
        · rename_i h
          obtain ⟨xs, h1, r1⟩ := rs.mlst ha e1
          exact .inr (.inr ⟨a, k, xs, rfl, rfl, h1, h.1, h.2.1, by rw [← r1.len, line_eq]; exact h.2.2, fun b hb => post_new rs p hb fun e0 => ⟨_, upd_same, (r1.rep _).mono e0⟩⟩)
        · exact p.elim
      · exact p.elim
    | _ => exact p.elim
  | _ => cases hw <;> exact p.elim

/-! ### equality -/
mutual
theorem dp_of {rd : Nat → Option PyData} {K : PySem.W.Frag} {H : Hp} {m : List Addr} (hrd : ∀ n a d, m[n]? = some a → rd n = some d → Dp K H (.ref a) d) : ∀ (x : D) (v : V) (d : PyData), RelD K H m x v → toP rd x = some d → Dp K H v d
  | .non, _, _, h, e => by
    cases h
    simp only [toP, Option.some.injEq] at e
    subst e
    exact .non
  | .bl b, _, _, h, e => by
    cases h
    simp only [toP, Option.some.injEq] at e
    subst e
    exact .bl b
  | .int b, _, _, h, e => by
    cases h
    simp only [toP, Option.some.injEq] at e
    subst e
    exact .int b
  | .str b, _, _, h, e => by
    cases h
    simp only [toP, Option.some.injEq] at e
    subst e
    exact .str _
  | .tup l, _, _, h, e => by
    cases h with
    | tup ha r =>
      simp only [toP] at e
      obtain ⟨q, h1, h2⟩ := Option.map_eq_some_iff.mp e
      subst h2
      exact .tup (.inl (.inl ha)) (dps_of hrd l _ q r h1)
  | .wtp l, _, _, h, e => by
    cases h with
    | wtp ha r =>
      simp only [toP] at e
      obtain ⟨q, h1, h2⟩ := Option.map_eq_some_iff.mp e
      subst h2
      exact .tup (sqt0 ha) (dps_of hrd l _ q r h1)
  | .ref n, _, _, h, e => by
    cases h with
    | ref ha =>
      simp only [toP] at e
      exact hrd n _ _ ha e
theorem dps_of {rd : Nat → Option PyData} {K : PySem.W.Frag} {H : Hp} {m : List Addr} (hrd : ∀ n a d, m[n]? = some a → rd n = some d → Dp K H (.ref a) d) : ∀ (l : List D) (xs : List V) (ds : List PyData), RelL K H m l xs → toPs rd l = some ds → DpAll K H xs ds
  | [], _, _, h, e => by
    cases h
    simp only [toPs, Option.some.injEq] at e
    subst e
    exact .nil
  | x :: l, _, _, h, e => by
    cases h with
    | cons h1 h2 =>
      simp only [toPs] at e
      obtain ⟨q, e1, e2⟩ := Option.bind_eq_some_iff.mp e
      obtain ⟨r, e3, e4⟩ := Option.map_eq_some_iff.mp e2
      subst e4
      exact .cons (dp_of hrd x _ q h1 e1) (dps_of hrd l _ r h2 e3)
end
theorem look_dp {c : Ct} {m : List Addr} {S : Store} {H : Hp} (rs : RS c m S H) : ∀ (k : Nat) (n : Nat) (a : Addr) (d : PyData), m[n]? = some a → lookP k S n = some d → Dp c.K H (.ref a) d
  | 0, _, _, _, _, e => by simp only [lookP] at e; cases e
  | k + 1, n, a, d, ha, e => by
    simp only [lookP] at e
    split at e
    · rename_i l hl
      obtain ⟨q, h1, h2⟩ := Option.map_eq_some_iff.mp e
      subst h2
      obtain ⟨xs, h3, h4⟩ := rs.lst (l := l) ha (by unfold lstOf; rw [hl])
      exact .lst h3 (dps_of (look_dp rs k) l xs q h4 h1)
    · rename_i l hl
      obtain ⟨q, h1, h2⟩ := Option.map_eq_some_iff.mp e
      subst h2
      obtain ⟨xs, h3, h4⟩ := rs.lst (l := l) ha (by unfold lstOf; rw [hl])
      exact .lst h3 (dps_of (look_dp rs k) l xs q h4 h1)
    · cases e
theorem pd_dp {c : Ct} {m : List Addr} {S : Store} {H : Hp} (rs : RS c m S H) {x : D} {v : V} {d : PyData} (h : RelD c.K H m x v) (e : pd S x = some d) : Dp c.K H v d := dp_of (look_dp rs 8) x v d h e
theorem scal_scq {K : PySem.W.Frag} {H : Hp} {m : List Addr} {x y : D} {v w : V} {b : Bool} (h1 : RelD K H m x v) (h2 : RelD K H m y w) (e : scq x y = some b) : scal v w = true ∧ decide (v = w) = b := by
  cases h1 <;> cases h2 <;> simp only [scq, Option.some.injEq, reduceCtorEq] at e <;> first
    | (subst e; exact ⟨rfl, by rw [← sOf_eq]; exact decide_eq_decide.mpr ⟨fun z => V.str.inj z, fun z => congrArg V.str z⟩⟩)
    | (subst e; exact ⟨rfl, by simp⟩)
theorem om_eq (hu : X.A.units + 65 < cLine) : OpM X E (compareOp .Eq) oEq := by
  refine ⟨_, opr_or op_eq (op_eqD (by omega)), fun x y v u S m H Q rs hv hw p => ?_⟩
  unfold oEq pyEq at p
  cases e : scq x y with
  | some b =>
    rw [e] at p
    obtain ⟨h1, h2⟩ := scal_scq hv hw e
    exact .inl ⟨h1, by rw [h2]; exact post_bl rs p⟩
  | none =>
    rw [e] at p
    dsimp only at p
    cases e1 : pd S x with
    | none => rw [e1] at p; exact p.elim
    | some a =>
      cases e2 : pd S y with
      | none => rw [e1, e2] at p; exact p.elim
      | some b =>
        rw [e1, e2] at p
        dsimp only at p
        by_cases hs : shp a = true ∧ shp b = true
        · rw [if_pos hs] at p
          exact .inr ⟨a, b, pd_dp rs hv e1, pd_dp rs hw e2, hs.1, hs.2, post_bl rs p⟩
        · rw [if_neg hs] at p
          exact p.elim
theorem om_ne (hu : X.A.units + 65 < cLine) : OpM X E (compareOp .NotEq) oNe := by
  refine ⟨_, opr_or op_ne (op_neD (by omega)), fun x y v u S m H Q rs hv hw p => ?_⟩
  unfold oNe pyEq at p
  cases e : scq x y with
  | some b =>
    rw [e] at p
    obtain ⟨h1, h2⟩ := scal_scq hv hw e
    exact .inl ⟨h1, by rw [h2]; exact post_bl rs p⟩
  | none =>
    rw [e] at p
    dsimp only at p
    cases e1 : pd S x with
    | none => rw [e1] at p; exact p.elim
    | some a =>
      cases e2 : pd S y with
      | none => rw [e1, e2] at p; exact p.elim
      | some b =>
        rw [e1, e2] at p
        dsimp only at p
        by_cases hs : shp a = true ∧ shp b = true
        · rw [if_pos hs] at p
          exact .inr ⟨a, b, pd_dp rs hv e1, pd_dp rs hw e2, hs.1, hs.2, post_bl rs p⟩
        · rw [if_neg hs] at p
          exact p.elim
theorem isN_non {K : PySem.W.Frag} {H : Hp} {m : List Addr} {x : D} {v : V} (h : RelD K H m x v) : decide (v = .non) = isN x := by
  cases h <;> first | rfl | simp [isN]
theorem om_is : OpM X E (compareOp .Is) oIs := by
  refine ⟨_, op_isN, fun x y v u S m H Q rs hv hw p => ?_⟩
  unfold oIs at p
  split at p
  · rename_i h
    refine ⟨?_, ?_⟩
    · cases hw <;> first | rfl | exact absurd h (by simp [isN])
    · rw [isN_non hv]; exact post_bl rs p
  · exact p.elim
theorem om_isnot : OpM X E (compareOp .IsNot) oIsNot := by
  refine ⟨_, op_notN, fun x y v u S m H Q rs hv hw p => ?_⟩
  unfold oIsNot at p
  split at p
  · rename_i h
    refine ⟨?_, ?_⟩
    · cases hw <;> first | rfl | exact absurd h (by simp [isN])
    · rw [isN_non hv]; exact post_bl rs p
  · exact p.elim

/-! ### dicts -/
section
variable {κ κ' : Type} [DecidableEq κ] [DecidableEq κ'] {ff : κ → κ'} {K : PySem.W.Frag} {H : Hp} {m : List Addr}
theorem RelK.get (inj : ∀ a b, ff a = ff b → a = b) {k : List (κ × D)} {kv : List (κ' × V)} (r : RelK K H m ff k kv) (x : κ) : match dGet k x with
    | some d => ∃ v, valV kv (ff x) = some v ∧ RelD K H m d v
    | none => valV kv (ff x) = none := by
  induction r with
  | nil => exact rfl
  | @cons p q ps qs h t ih =>
    by_cases e : p.1 = x
    · have e1 : dGet (p :: ps) x = some p.2 := by simp [dGet, List.find?_cons, e]
      rw [e1]
      refine ⟨q.2, valV_pos (by rw [← h.1, e]), h.2⟩
    · have e1 : dGet (p :: ps) x = dGet ps x := by simp [dGet, List.find?_cons, e]
      rw [e1, valV_neg (show ¬ q.1 = ff x from fun z => e (inj _ _ (h.1.trans z)))]
      exact ih
theorem RelK.any (inj : ∀ a b, ff a = ff b → a = b) {k : List (κ × D)} {kv : List (κ' × V)} (r : RelK K H m ff k kv) (x : κ) : (kv.any fun z => decide (z.1 = ff x)) = (k.any fun z => decide (z.1 = x)) := by
  induction r with
  | nil => rfl
  | @cons p q ps qs h t ih =>
    rw [List.any_cons, List.any_cons, ih]
    congr 1
    by_cases e : p.1 = x
    · rw [decide_eq_true e, decide_eq_true (show q.1 = ff x by rw [← h.1, e])]
    · rw [decide_eq_false e, decide_eq_false (show ¬ q.1 = ff x from fun z => e (inj _ _ (h.1.trans z)))]
theorem RelK.map (inj : ∀ a b, ff a = ff b → a = b) {k : List (κ × D)} {kv : List (κ' × V)} {d : D} {v : V} (r : RelK K H m ff k kv) (x : κ) (hv : RelD K H m d v) :
    RelK K H m ff (k.map fun kv => if kv.1 = x then (kv.1, d) else kv) (kv.map fun kv => if kv.1 = ff x then (kv.1, v) else kv) := by
  induction r with
  | nil => exact .nil
  | @cons p q ps qs h t ih =>
    rw [List.map_cons, List.map_cons]
    refine .cons ?_ ih
    by_cases e : p.1 = x
    · rw [if_pos e, if_pos (show q.1 = ff x by rw [← h.1, e])]
      exact ⟨h.1, hv⟩
    · rw [if_neg e, if_neg (show ¬ q.1 = ff x from fun z => e (inj _ _ (h.1.trans z)))]
      exact h
theorem RelK.put (inj : ∀ a b, ff a = ff b → a = b) {k : List (κ × D)} {kv : List (κ' × V)} {d : D} {v : V} (r : RelK K H m ff k kv) (x : κ) (hv : RelD K H m d v) : RelK K H m ff (dPut k x d) (putK kv (ff x) v) := by
  unfold dPut putK
  rw [RelK.any inj r x]
  split
  · exact r.map inj x hv
  · exact Paired.snoc r ⟨rfl, hv⟩
end
end
end Sm

set_option Elab.async false
set_option linter.all false
set_option maxRecDepth 100000
set_option maxHeartbeats 2000000
/-! readings by the small language: in, subscripts, slices, built-ins, methods -/
namespace Sm
open PySem PySem.Spec PyProof.Rows L2 Mi
section
variable {X : Cx} {E : XK}
theorem kys_of {K : PySem.W.Frag} {H : Hp} {m : List Addr} : ∀ {l : List D} {xs : List V} {k : List Ky}, RelL K H m l xs → kysOf l = some k → xs = (k.map kyK).map kV
  | [], _, _, .nil, e => by
    simp only [kysOf, Option.some.injEq] at e
    subst e
    rfl
  | d :: l, _, k, .cons h t, e => by
    simp only [kysOf] at e
    obtain ⟨q, e1, e2⟩ := Option.bind_eq_some_iff.mp e
    obtain ⟨r, e3, e4⟩ := Option.map_eq_some_iff.mp e2
    subst e4
    rw [List.map_cons, List.map_cons, ← kys_of t e3]
    congr 1
    cases h <;> simp only [kyOf, Option.some.injEq, reduceCtorEq] at e1 <;> (subst e1; rfl)
theorem ky_of {K : PySem.W.Frag} {H : Hp} {m : List Addr} {d : D} {v : V} {k : Ky} (h : RelD K H m d v) (e : kyOf d = some k) : v = kV (kyK k) := by
  cases h <;> simp only [kyOf, Option.some.injEq, reduceCtorEq] at e <;> (subst e; rfl)
/-- there or not, alike -/
def RelOD (K : PySem.W.Frag) (H : Hp) (m : List Addr) : Option D → Option V → Prop
  | some d, o => ∃ v, o = some v ∧ RelD K H m d v
  | none, o => o = none
theorem RelOD.isSome {K : PySem.W.Frag} {H : Hp} {m : List Addr} {r : Option D} {o : Option V} (h : RelOD K H m r o) : o.isSome = r.isSome := by
  cases r with
  | none => rw [show o = none from h] <;> rfl
  | some d => obtain ⟨v, e, _⟩ := h; rw [e] <;> rfl
/-- a look into a dict -/
theorem look_get {c : Ct} {m : List Addr} {S : Store} {H : Hp} (rs : RS c m S H) {n : Nat} {a : Addr} {k : D} {y : V} {r : Option D} (ha : m[n]? = some a) (hk : RelD c.K H m k y) (e : dLook S n k = some r) :
    ∃ o, DGet H a y o ∧ RelOD c.K H m r o := by
  unfold dLook at e
  split at e
  · rename_i kvs hs
    obtain ⟨kk, e1, e2⟩ := Option.map_eq_some_iff.mp e
    obtain ⟨kv, h1, h2⟩ := rs.ob n a _ ha hs
    have g := RelK.get (fun _ _ => kyK_inj) h2 kk
    rw [ky_of hk e1]
    refine ⟨_, DGet.k h1, ?_⟩
    rw [e2] at g
    cases r with
    | none => exact g
    | some d => exact g
  · rename_i kvs hs
    obtain ⟨kk, e1, e2⟩ := Option.map_eq_some_iff.mp e
    obtain ⟨kv, h1, h2⟩ := rs.ob n a _ ha hs
    have g := RelK.get (fun _ _ => kysK_inj) h2 kk
    cases hk with
    | tup hb hr =>
      refine ⟨_, DGet.t h1 (by rw [← kys_of hr e1]; exact hb), ?_⟩
      rw [e2] at g
      cases r with
      | none => exact g
      | some d => exact g
    | _ => cases e1
  · cases e
theorem look_put {c : Ct} {m : List Addr} {S : Store} {H : Hp} (rs : RS c m S H) {o k x : D} {vo vk vx : V} (ho : RelD c.K H m o vo) (hk : RelD c.K H m k vk) (hx : RelD c.K H m x vx) {q : Unit → Store → List Addr → Hp → Prop} {E : XK} (p : Post c E m H (setIx o k x S) q) :
    (rSetL vo vk vx H fun H' => ∃ S' m', Ext m H m' H' ∧ RS c m' S' H' ∧ q () S' m' H') ∨ ∃ a H', vo = .ref a ∧ DPut H a vk vx H' ∧ ∃ S' m', Ext m H m' H' ∧ RS c m' S' H' ∧ q () S' m' H' := by
  unfold setIx at p
  cases ho with
  | @ref n a ha =>
    dsimp only at p
    split at p
    · rename_i l hs
      cases hk with
      | int i =>
        dsimp only at p
        split at p
        · rename_i j hj
          obtain ⟨xs, h1, h2⟩ := rs.ob n a _ ha hs
          obtain ⟨rs', e⟩ := rs.set (o' := .lst (l.set j x)) (u := .lst (xs.set j vx)) ha hs trivial trivial fun e => ⟨_, upd_same, (h2.mono e).set (hx.mono e) j⟩
          exact .inl ⟨a, xs, i, j, rfl, rfl, h1, by rw [← h2.len]; exact hj, _, _, e, rs', p _ _ e rs'⟩
        · exact p.elim
      | _ => exact p.elim
    · rename_i kvs hs
      split at p
      · rename_i kk hkk
        split at p
        · rename_i hl
          obtain ⟨kv, h1, h2⟩ := rs.ob n a _ ha hs
          obtain ⟨rs', e⟩ := rs.set (o' := .dK (dPut kvs kk x)) (u := .dK (putK kv (kyK kk) vx)) ha hs trivial trivial fun e => ⟨_, upd_same, RelK.put (fun _ _ => kyK_inj) (RelK.mono e h2) kk (hx.mono e)⟩
          refine .inr ⟨a, _, rfl, ?_, _, _, e, rs', p _ _ e rs'⟩
          rw [ky_of hk hkk]
          exact DPut.k h1 (by rw [← Paired.length h2, line_eq]; exact hl)
        · exact p.elim
      · exact p.elim
    · rename_i kvs hs
      split at p
      · rename_i kk hkk
        split at p
        · rename_i hl
          obtain ⟨kv, h1, h2⟩ := rs.ob n a _ ha hs
          obtain ⟨rs', e⟩ := rs.set (o' := .dT (dPut kvs kk x)) (u := .dT (putK kv (kk.map kyK) vx)) ha hs trivial trivial fun e => ⟨_, upd_same, RelK.put (fun _ _ => kysK_inj) (RelK.mono e h2) kk (hx.mono e)⟩
          cases hk with
          | tup hb hr =>
            exact .inr ⟨a, _, rfl, DPut.t h1 (by rw [← kys_of hr hkk]; exact hb) (by rw [← Paired.length h2, line_eq]; exact hl), _, _, e, rs', p _ _ e rs'⟩
          | _ => cases hkk
        · exact p.elim
      · exact p.elim
    · exact p.elim
  | _ => exact p.elim

/-! ### in -/
theorem flatV_of {K : PySem.W.Frag} {H : Hp} {m : List Addr} {d : D} {v : V} (h : RelD K H m d v) (f : flatD d = true) : flatV v = true := by
  cases h <;> first | rfl | cases f
theorem flatVs_of {K : PySem.W.Frag} {H : Hp} {m : List Addr} : ∀ {l : List D} {xs : List V}, RelL K H m l xs → l.all flatD = true → xs.all flatV = true
  | _, _, .nil, _ => rfl
  | _, _, .cons h t, f => by
    rw [List.all_cons, Bool.and_eq_true] at f
    rw [List.all_cons, flatV_of h f.1, flatVs_of t f.2]
    rfl
theorem sOf_beq {a b : Tx} : (sOf a == sOf b) = (a == b) := by
  rw [Bool.eq_iff_iff, beq_iff_eq, beq_iff_eq]
  exact ⟨sOf_inj, congrArg _⟩
theorem eqF_of {K : PySem.W.Frag} {H : Hp} {m : List Addr} {d e : D} {v w : V} (h : RelD K H m d v) (h' : RelD K H m e w) (f : flatD d = true) (f' : flatD e = true) : eqV v w = eqF d e := by
  cases h <;> cases h' <;> first | rfl | exact sOf_beq | cases f | cases f'
theorem inV_of {K : PySem.W.Frag} {H : Hp} {m : List Addr} {x : D} {v : V} (h : RelD K H m x v) (f : flatD x = true) : ∀ {l : List D} {xs : List V}, RelL K H m l xs → l.all flatD = true → inV v xs = l.any fun y => eqF y x
  | _, _, .nil, _ => rfl
  | _, _, .cons h1 t, g => by
    rw [List.all_cons, Bool.and_eq_true] at g
    have ih := inV_of h f t g.2
    unfold inV at ih ⊢
    rw [List.any_cons, List.any_cons, eqF_of h1 h g.1 f, ih]
theorem op_inT (hu : X.A.units + 65 < cLine) : OpR X (compareOp .In) (fun x y H Q => ∃ d ds, Dp X.K H x d ∧ Dp X.K H y (.tuple ds) ∧ SeqAt.shaped d = true ∧ SeqAt.shaped (.list ds) = true ∧ Q (.bl (ds.any fun z => PyData.eqv z d)) H) := by
  intro pins s σ H x y v u Q I rx ry h
  obtain ⟨d, ds, hd, he, sd, se, q⟩ := h
  obtain ⟨as, r1⟩ := Dp.reads I d x v hd rx
  obtain ⟨bs, r2⟩ := Dp.reads I (.tuple ds) y u he ry
  exact SeqAt.in_tuple_reads r2 r1 (SeqAt.canLay_of_shaped se) (SeqAt.canLay_of_shaped sd) (room_in_shaped sd hu) ⟨.bl _, H, I, rfl, q⟩
theorem op_notInT (hu : X.A.units + 65 < cLine) : OpR X (compareOp .NotIn) (fun x y H Q => ∃ d ds, Dp X.K H x d ∧ Dp X.K H y (.tuple ds) ∧ SeqAt.shaped d = true ∧ SeqAt.shaped (.list ds) = true ∧ Q (.bl (!ds.any fun z => PyData.eqv z d)) H) := by
  intro pins s σ H x y v u Q I rx ry h
  obtain ⟨d, ds, hd, he, sd, se, q⟩ := h
  obtain ⟨as, r1⟩ := Dp.reads I d x v hd rx
  obtain ⟨bs, r2⟩ := Dp.reads I (.tuple ds) y u he ry
  exact SeqAt.notIn_tuple_reads r2 r1 (SeqAt.canLay_of_shaped se) (SeqAt.canLay_of_shaped sd) (room_in_shaped sd hu) ⟨.bl _, H, I, rfl, q⟩
theorem op_inDc (hu : X.A.units + 1 < cLine) : OpR X (compareOp .In) (fun y x H Q => ∃ a o, x = .ref a ∧ DGet H a y o ∧ Q (.bl o.isSome) H) := by
  intro pins s σ H y x u v Q I ry rx h
  obtain ⟨a, o, rfl, g, q⟩ := h
  obtain rfl : v = Value.ref a := rx
  exact d_in hu I g ry fun s3 I3 => ⟨.bl o.isSome, H, I3, rfl, q⟩
theorem op_notInDc (hu : X.A.units + 1 < cLine) : OpR X (compareOp .NotIn) (fun y x H Q => ∃ a o, x = .ref a ∧ DGet H a y o ∧ Q (.bl (!o.isSome)) H) := by
  intro pins s σ H y x u v Q I ry rx h
  obtain ⟨a, o, rfl, g, q⟩ := h
  obtain rfl : v = Value.ref a := rx
  exact d_notIn hu I g ry fun s3 I3 => ⟨.bl (!o.isSome), H, I3, rfl, q⟩
/-- what «in» is, whatever is asked of the answer -/
theorem in_cases {c : Ct} {m : List Addr} {S : Store} {H : Hp} (rs : RS c m S H) {x y : D} {v w : V} {b : Bool} (hv : RelD c.K H m x v) (hw : RelD c.K H m y w) (e : isIn x y S = some b) :
    (∃ (k : Nat) (z : Str), v = .str ⟨#[k]⟩ ∧ w = .str z ∧ decide (k ∈ z.cps.toList) = b) ∨ (∃ p xs, w = .ref p ∧ (SqL c.K H p xs ∨ SqT c.K H p xs) ∧ flatV v = true ∧ xs.all flatV = true ∧ inV v xs = b) ∨
    (∃ d ds, Dp c.K H v d ∧ Dp c.K H w (.list ds) ∧ SeqAt.shaped d = true ∧ SeqAt.shaped (.list ds) = true ∧ (ds.any fun z => PyData.eqv z d) = b) ∨
    (∃ d ds, Dp c.K H v d ∧ Dp c.K H w (.tuple ds) ∧ SeqAt.shaped d = true ∧ SeqAt.shaped (.list ds) = true ∧ (ds.any fun z => PyData.eqv z d) = b) ∨
    (∃ a o, w = .ref a ∧ DGet H a v o ∧ o.isSome = b) := by
  have seqc : ∀ {l : List D} {xs : List V} {p : Addr}, RelL c.K H m l xs → inSeq x l S = some b → (flatV v = true ∧ xs.all flatV = true ∧ inV v xs = b) ∨ ∃ d ds, Dp c.K H v d ∧ DpAll c.K H xs ds ∧ SeqAt.shaped d = true ∧ SeqAt.shaped (.list ds) = true ∧ (ds.any fun z => PyData.eqv z d) = b := by
    intro l xs p r h
    unfold inSeq at h
    split at h
    · rename_i f
      cases h
      exact .inl ⟨flatV_of hv f.1, flatVs_of r f.2, inV_of hv f.1 r f.2⟩
    · split at h
      · rename_i d ds e1 e2
        split at h
        · rename_i f
          cases h
          exact .inr ⟨d, ds, pd_dp rs hv e1, dps_of (look_dp rs 8) l xs ds r e2, f.1, f.2, rfl⟩
        · cases h
      · cases h
  cases hw with
  | str z =>
    unfold isIn at e
    dsimp only at e
    split at e
    · rename_i k
      cases e
      cases hv
      exact .inl ⟨k, sOf z, rfl, rfl, rfl⟩
    · cases e
  | @tup l a xs ha r =>
    rcases seqc (p := a) r e with ⟨h1, h2, h3⟩ | ⟨d, ds, h1, h2, h3, h4, h5⟩
    · exact .inr (.inl ⟨a, xs, rfl, .inr (.inl (.inl ha)), h1, h2, h3⟩)
    · exact .inr (.inr (.inr (.inl ⟨d, ds, h1, .tup (.inl (.inl ha)) h2, h3, h4, h5⟩)))
  | @wtp l a xs ha r =>
    rcases seqc (p := a) r e with ⟨h1, h2, h3⟩ | ⟨d, ds, h1, h2, h3, h4, h5⟩
    · exact .inr (.inl ⟨a, xs, rfl, .inr (sqt0 ha), h1, h2, h3⟩)
    · exact .inr (.inr (.inr (.inl ⟨d, ds, h1, .tup (sqt0 ha) h2, h3, h4, h5⟩)))
  | @ref n a ha =>
    unfold isIn at e
    dsimp only at e
    split at e
    · rename_i l hs
      obtain ⟨xs, h0, r⟩ := rs.lst (l := l) ha (by unfold lstOf; rw [hs])
      rcases seqc (p := a) r e with ⟨h1, h2, h3⟩ | ⟨d, ds, h1, h2, h3, h4, h5⟩
      · exact .inr (.inl ⟨a, xs, rfl, .inl h0, h1, h2, h3⟩)
      · exact .inr (.inr (.inl ⟨d, ds, h1, .lst h0 h2, h3, h4, h5⟩))
    · rename_i l hs
      obtain ⟨xs, h0, r⟩ := rs.lst (l := l) ha (by unfold lstOf; rw [hs])
      rcases seqc (p := a) r e with ⟨h1, h2, h3⟩ | ⟨d, ds, h1, h2, h3, h4, h5⟩
      · exact .inr (.inl ⟨a, xs, rfl, .inl h0, h1, h2, h3⟩)
      · exact .inr (.inr (.inl ⟨d, ds, h1, .lst h0 h2, h3, h4, h5⟩))
    · rename_i kvs hs
      obtain ⟨kk, e1, e2⟩ := Option.map_eq_some_iff.mp e
      obtain ⟨o, g, q⟩ := look_get rs ha hv (r := dGet kvs kk) (by unfold dLook; rw [hs]; dsimp only; rw [e1]; rfl)
      refine .inr (.inr (.inr (.inr ⟨a, o, rfl, g, ?_⟩)))
      rw [← e2]
      exact q.isSome
    · rename_i kvs hs
      obtain ⟨kk, e1, e2⟩ := Option.map_eq_some_iff.mp e
      obtain ⟨o, g, q⟩ := look_get rs ha hv (r := dGet kvs kk) (by unfold dLook; rw [hs]; dsimp only; rw [e1]; rfl)
      refine .inr (.inr (.inr (.inr ⟨a, o, rfl, g, ?_⟩)))
      rw [← e2]
      exact q.isSome
    · cases e
  | _ => cases e
theorem om_in (hu : X.A.units + 65 < cLine) : OpM X E (compareOp .In) oIn := by
  refine ⟨_, opr_or op_in_sign (opr_or op_in_seq (opr_or (op_inD hu) (opr_or (op_inT hu) (op_inDc (by omega))))), fun x y v u S m H Q rs hv hw p => ?_⟩
  unfold oIn at p
  split at p
  · rename_i b e
    have q := post_bl rs p
    rcases in_cases rs hv hw e with ⟨k, z, h1, h2, h3⟩ | ⟨a, xs, h1, h2, h3, h4, h5⟩ | ⟨d, ds, h1, h2, h3, h4, h5⟩ | ⟨d, ds, h1, h2, h3, h4, h5⟩ | ⟨a, o, h1, h2, h3⟩
    · exact .inl ⟨k, z, h1, h2, by rw [h3]; exact q⟩
    · exact .inr (.inl ⟨a, xs, h1, h2, h3, h4, by rw [h5]; exact q⟩)
    · exact .inr (.inr (.inl ⟨d, ds, h1, h2, h3, h4, by rw [h5]; exact q⟩))
    · exact .inr (.inr (.inr (.inl ⟨d, ds, h1, h2, h3, h4, by rw [h5]; exact q⟩)))
    · exact .inr (.inr (.inr (.inr ⟨a, o, h1, h2, by rw [h3]; exact q⟩)))
  · exact p.elim
theorem om_notin (hu : X.A.units + 65 < cLine) : OpM X E (compareOp .NotIn) oNotIn := by
  refine ⟨_, opr_or op_notIn_sign (opr_or op_notIn_seq (opr_or (op_notInD hu) (opr_or (op_notInT hu) (op_notInDc (by omega))))), fun x y v u S m H Q rs hv hw p => ?_⟩
  unfold oNotIn at p
  split at p
  · rename_i b e
    have q := post_bl rs p
    rcases in_cases rs hv hw e with ⟨k, z, h1, h2, h3⟩ | ⟨a, xs, h1, h2, h3, h4, h5⟩ | ⟨d, ds, h1, h2, h3, h4, h5⟩ | ⟨d, ds, h1, h2, h3, h4, h5⟩ | ⟨a, o, h1, h2, h3⟩
    · exact .inl ⟨k, z, h1, h2, by rw [h3]; exact q⟩
    · exact .inr (.inl ⟨a, xs, h1, h2, h3, h4, by
        show Q (.bl (!inV v xs)) H
        rw [h5]; exact q⟩)
    · exact .inr (.inr (.inl ⟨d, ds, h1, h2, h3, h4, by rw [h5]; exact q⟩))
    · exact .inr (.inr (.inr (.inl ⟨d, ds, h1, h2, h3, h4, by rw [h5]; exact q⟩)))
    · exact .inr (.inr (.inr (.inr ⟨a, o, h1, h2, by rw [h3]; exact q⟩)))
  · exact p.elim

/-! ### subscripts -/
theorem ix_dict (hu : X.A.units + 1 < cLine) : IxR X (fun x y H Q => ∃ a v, x = .ref a ∧ DGet H a y (some v) ∧ Q v H) := by
  intro value slice pins s σ H x y v u Q I rx ry h hs
  obtain ⟨a, z, rfl, g, q⟩ := h
  obtain rfl : v = Value.ref a := rx
  unfold subscriptTail
  refine wpAny_bind ?_
  rw [getitemInPython_of_ne (dict_typeIs I g).not_modules]
  refine wpAny_bind (wpAny_specialOf (dict_typeIs I g) PySem.F.slot_dict_getitem.lookup ?_)
  have fin : wpAny (model X.prog X.w) X.A (subscripted slice false (.ref a) u) (fun r s₃ => wpAny (model X.prog X.w) X.A (letTemporaryGo value (.ref a) r >>= fun _ => pure r) (EP X pins σ Q) X.xe s₃) X.xe s := by
    rw [hs]
    exact wpAny_operating (d_getItem hu I g ry fun w' s3 I3 rw' => wpAny_bind (wpAny_letTemporaryGo (wpAny_pure ⟨z, H, I3, rw', q⟩)))
  first
    | exact wpAny_pure (wpAny_bind fin)
    | exact wpAny_bind (wpAny_pure (wpAny_bind fin))
    | exact wpAny_bind fin
theorem atI_rel {K : PySem.W.Frag} {H : Hp} {m : List Addr} {l : List D} {xs : List V} {i : Int} {d : D} (r : RelL K H m l xs) (e : Mi.atI l i = some d) : ∃ v, L2.atI xs i = some v ∧ RelD K H m d v := by
  unfold Mi.atI at e
  obtain ⟨j, e1, e2⟩ := Option.bind_eq_some_iff.mp e
  obtain ⟨v, h1, h2⟩ := r.ix e2
  refine ⟨v, ?_, h2⟩
  unfold L2.atI
  have e3 : L2.ixN xs.length i = some j := by rw [← r.len]; exact e1
  rw [e3]
  exact h1
theorem im_ix (hu : X.A.units + 65 < cLine) : IxM X E oIx := by
  refine ⟨_, ix_seq.or (ix_dict (by omega)), fun x y v u S m H Q rs hv hw p => ?_⟩
  unfold oIx at p
  cases hv with
  | str z =>
    cases hw with
    | int i =>
      dsimp only at p
      split at p
      · rename_i hl
        split at p
        · rename_i c hc
          refine .inl (.inr (.inr ⟨sOf z, i, c, rfl, rfl, by rw [sOf_len, line_eq]; exact hl, hc, p.here rs _ (.str [c])⟩))
        · exact p.elim
      · exact p.elim
    | _ => exact p.elim
  | @tup l a xs ha r =>
    cases hw with
    | int i =>
      dsimp only at p
      split at p
      · rename_i d hd
        obtain ⟨v, h1, h2⟩ := atI_rel r hd
        exact .inl (.inr (.inl ⟨a, xs, i, v, rfl, rfl, .inl (.inl ha), h1, p.here rs _ h2⟩))
      · exact p.elim
    | _ => exact p.elim
  | @wtp l a xs ha r =>
    cases hw with
    | int i =>
      dsimp only at p
      split at p
      · rename_i d hd
        obtain ⟨v, h1, h2⟩ := atI_rel r hd
        exact .inl (.inr (.inl ⟨a, xs, i, v, rfl, rfl, sqt0 ha, h1, p.here rs _ h2⟩))
      · exact p.elim
    | _ => exact p.elim
  | @ref n a ha =>
    dsimp only at p
    have lst : ∀ l, lstOf S n = some l → Post (cx X) E m H (match y with
        | .int i => (match Mi.atI l i with
          | some v => .ok v S
          | none => .bad)
        | _ => .bad) (kE (cx X) Q) → rIx X.K (.ref a) u H Q := by
      intro l hl p
      obtain ⟨xs, h0, r⟩ := rs.lst ha hl
      cases hw with
      | int i =>
        dsimp only at p
        split at p
        · rename_i d hd
          obtain ⟨v, h1, h2⟩ := atI_rel r hd
          exact .inl ⟨a, xs, i, v, rfl, rfl, h0, h1, p.here rs _ h2⟩
        · exact p.elim
      | _ => exact p.elim
    split at p
    · rename_i l hs
      exact .inl (lst l (by unfold lstOf; rw [hs]) p)
    · rename_i l hs
      exact .inl (lst l (by unfold lstOf; rw [hs]) p)
    · split at p
      · rename_i d hd
        obtain ⟨o, g, z, e, h2⟩ := look_get rs ha hw hd
        subst e
        exact .inr ⟨a, z, rfl, g, p.here rs _ h2⟩
      · exact p.elim
  | _ => exact p.elim

/-! ### slices -/
theorem cut_rel {K : PySem.W.Frag} {H : Hp} {m : List Addr} {l : List D} {xs : List V} (r : RelL K H m l xs) (lo hi : Option Int) : RelL K H m (cut l lo hi) (cutV xs lo hi) := by
  unfold cut cutV
  rw [← r.len]
  exact (r.drop _).take _
theorem slm : SlM X E oSl := by
  refine ⟨_, slr_or sl_str (slr_or sl_tup sl_list), fun x lo hi v S m H Q rs hv p => ?_⟩
  unfold oSl at p
  cases hv with
  | str z =>
    dsimp only at p
    split at p
    · rename_i hl
      refine .inl ⟨sOf z, rfl, by rw [sOf_len, line_eq]; exact hl, ?_⟩
      have e : cutS (sOf z) lo hi = sOf (cut z lo hi) := by
        unfold cutS cut
        rw [sOf_len]
        rfl
      rw [e]
      exact p.here rs _ (.str _)
    · exact p.elim
  | @tup l a xs ha r =>
    dsimp only at p
    split at p
    · rename_i hl
      refine .inr (.inl ⟨a, xs, rfl, .inl (.inl ha), fun z => ?_, fun b hb => post_tup rs p hb (cut_rel r lo hi)⟩)
      have h1 := (cut_rel r lo hi).len
      unfold cutV at h1
      rw [z.1, z.2, List.drop_zero, Nat.sub_zero, List.take_length] at h1
      rw [h1, r.len] at hl
      exact absurd hl (Nat.lt_irrefl _)
    · exact p.elim
  | @ref n a ha =>
    dsimp only at p
    split at p
    · rename_i l hl
      obtain ⟨xs, h0, r⟩ := rs.lst ha hl
      exact .inr (.inr ⟨a, xs, rfl, h0, fun b hb => post_new rs p hb fun e => ⟨_, upd_same, (cut_rel r lo hi).mono e⟩⟩)
    · exact p.elim
  | _ => exact p.elim
end
end Sm

set_option Elab.async false
set_option linter.all false
set_option maxRecDepth 100000
set_option maxHeartbeats 2000000
/-! readings by the small language: built-ins, methods -/
namespace Sm
open PySem PySem.Spec PyProof.Rows L2 Mi
section
variable {X : Cx} {E : XK}
theorem cm_len : CallM X E (.builtin "len") bLen := by
  refine ⟨_, callr_or call_len_seq (callr_or call_len_str (callr_or call_lenD call_len_dT)), fun ds vs S m H Q rs hv p => ?_⟩
  unfold bLen at p
  split at p
  · rename_i s
    cases hv with
    | cons h t =>
      cases t
      cases h
      split at p
      · rename_i hl
        exact .inr (.inl ⟨sOf s, rfl, by rw [sOf_len, line_eq]; exact hl, by rw [sOf_len]; exact post_int rs p⟩)
      · exact p.elim
  · rename_i l
    cases hv with
    | cons h t =>
      cases t
      cases h with
      | tup ha r => exact .inl ⟨_, _, rfl, .inr (.inl (.inl ha)), by rw [← r.len]; exact post_int rs p⟩
  · rename_i l
    cases hv with
    | cons h t =>
      cases t
      cases h with
      | wtp ha r => exact .inl ⟨_, _, rfl, .inr (sqt0 ha), by rw [← r.len]; exact post_int rs p⟩
  · rename_i n
    cases hv with
    | cons h t =>
      cases t
      cases h with
      | ref ha =>
        split at p
        · rename_i l hs
          obtain ⟨xs, h0, r⟩ := rs.lst (l := l) ha (by unfold lstOf; rw [hs])
          exact .inl ⟨_, xs, rfl, .inl h0, by rw [← r.len]; exact post_int rs p⟩
        · rename_i l hs
          obtain ⟨xs, h0, r⟩ := rs.lst (l := l) ha (by unfold lstOf; rw [hs])
          exact .inl ⟨_, xs, rfl, .inl h0, by rw [← r.len]; exact post_int rs p⟩
        · rename_i k hs
          obtain ⟨kv, h1, h2⟩ := rs.ob _ _ _ ha hs
          exact .inr (.inr (.inl ⟨_, kv, rfl, h1, by rw [← Paired.length h2]; exact post_int rs p⟩))
        · rename_i k hs
          obtain ⟨kv, h1, h2⟩ := rs.ob _ _ _ ha hs
          exact .inr (.inr (.inr ⟨_, kv, rfl, h1, by rw [← Paired.length h2]; exact post_int rs p⟩))
        · exact p.elim
  · exact p.elim
theorem rel1 {K : PySem.W.Frag} {H : Hp} {m : List Addr} {d : D} {vs : List V} (h : RelL K H m [d] vs) : ∃ v, vs = [v] ∧ RelD K H m d v := by
  cases h with
  | cons h t => cases t; exact ⟨_, rfl, h⟩
theorem rel2 {K : PySem.W.Frag} {H : Hp} {m : List Addr} {d e : D} {vs : List V} (h : RelL K H m [d, e] vs) : ∃ v w, vs = [v, w] ∧ RelD K H m d v ∧ RelD K H m e w := by
  cases h with
  | cons h t =>
    obtain ⟨w, rfl, h2⟩ := rel1 t
    exact ⟨_, w, rfl, h, h2⟩
theorem cm_abs : CallM X E (.builtin "abs") bAbs := by
  refine ⟨_, call_abs, fun ds vs S m H Q rs hv p => ?_⟩
  unfold bAbs at p
  split at p
  · rename_i i
    obtain ⟨v, rfl, h⟩ := rel1 hv
    cases h
    exact ⟨i, rfl, post_int rs p⟩
  · exact p.elim
theorem cm_int : CallM X E (.type "int") bInt := by
  refine ⟨_, call_int1, fun ds vs S m H Q rs hv p => ?_⟩
  unfold bInt at p
  split at p
  · rename_i i
    obtain ⟨v, rfl, h⟩ := rel1 hv
    cases h
    exact .inl ⟨i, rfl, post_int rs p⟩
  · rename_i i
    obtain ⟨v, rfl, h⟩ := rel1 hv
    cases h
    exact .inr ⟨i, rfl, post_int rs p⟩
  · exact p.elim
theorem cm_max (hc : X.calm = true) : CallM X E (.builtin "max") bMax := by
  refine ⟨_, call_max2 hc, fun ds vs S m H Q rs hv p => ?_⟩
  unfold bMax at p
  split at p
  · rename_i i j
    obtain ⟨v, w, rfl, h, h'⟩ := rel2 hv
    cases h
    cases h'
    exact ⟨i, j, rfl, post_int rs p⟩
  · exact p.elim
theorem cm_min (hc : X.calm = true) : CallM X E (.builtin "min") bMin := by
  refine ⟨_, call_min2 hc, fun ds vs S m H Q rs hv p => ?_⟩
  unfold bMin at p
  split at p
  · rename_i i j
    obtain ⟨v, w, rfl, h, h'⟩ := rel2 hv
    cases h
    cases h'
    exact ⟨i, j, rfl, post_int rs p⟩
  · exact p.elim
theorem RelL.keys {K : PySem.W.Frag} {H : Hp} {m : List Addr} {k : List (Ky × D)} {kv : List (Key × V)} (h : RelK K H m kyK k kv) : RelL K H m (k.map fun p => kyD p.1) (kv.map fun p => kV p.1) := by
  induction h with
  | nil => exact .nil
  | @cons p q ps qs h t ih =>
    rw [List.map_cons, List.map_cons]
    refine .cons ?_ ih
    rw [← h.1]
    cases p.1 with
    | inl i => exact .int i
    | inr s => exact .str s
theorem RelL.kys {K : PySem.W.Frag} {H : Hp} {m : List Addr} : ∀ k : List Ky, RelL K H m (k.map kyD) ((k.map kyK).map kV)
  | [] => .nil
  | .inl i :: k => .cons (.int i) (RelL.kys k)
  | .inr s :: k => .cons (.str s) (RelL.kys k)
theorem RelL.keysT {K : PySem.W.Frag} {H : Hp} {m : List Addr} {k : List (List Ky × D)} {kv : List (List Key × V)} {bs : List Addr} (h : RelK K H m (fun x => x.map kyK) k kv) (hk : IsKeys H kv bs) : RelL K H m (k.map fun p => .tup (p.1.map kyD)) (bs.map V.ref) := by
  induction h generalizing bs with
  | nil =>
    cases hk
    exact .nil
  | @cons p q ps qs h t ih =>
    cases hk with
    | cons h1 h2 =>
      rw [List.map_cons, List.map_cons]
      refine .cons (.tup h1 ?_) (ih h2)
      rw [← h.1]
      exact RelL.kys p.1
theorem seq_rel {c : Ct} {m : List Addr} {S : Store} {H : Hp} (rs : RS c m S H) {d : D} {v : V} {l : List D} (h : RelD c.K H m d v) (e : seqOf S d = some l) : ∃ a xs, v = .ref a ∧ (SqL c.K H a xs ∨ SqT c.K H a xs) ∧ RelL c.K H m l xs := by
  unfold seqOf at e
  cases h with
  | tup ha r => cases e; exact ⟨_, _, rfl, .inr (.inl (.inl ha)), r⟩
  | wtp ha r => cases e; exact ⟨_, _, rfl, .inr (sqt0 ha), r⟩
  | ref ha =>
    obtain ⟨xs, h1, h2⟩ := rs.lst ha e
    exact ⟨_, xs, rfl, .inl h1, h2⟩
  | _ => cases e
theorem cm_list (hc : X.calm = true) : CallM X E (.type "list") bList := by
  refine ⟨_, callr_or call_list_of (callr_or (call_listD hc) (call_list_dT hc)), fun ds vs S m H Q rs hv p => ?_⟩
  unfold bList at p
  split at p
  · rename_i x
    obtain ⟨v, rfl, h⟩ := rel1 hv
    split at p
    · rename_i l hl
      obtain ⟨a, xs, rfl, h1, h2⟩ := seq_rel rs h hl
      exact .inl ⟨a, xs, rfl, h1, fun b hb => post_new rs p hb fun e => ⟨xs, upd_same, h2.mono e⟩⟩
    · cases h with
      | @ref n a ha =>
        dsimp only at p
        split at p
        · rename_i k hs
          obtain ⟨kv, h1, h2⟩ := rs.ob _ _ _ ha hs
          exact .inr (.inl ⟨a, kv, rfl, .inl h1, fun b hb => post_new rs p hb fun e => ⟨_, upd_same, (RelL.keys h2).mono e⟩⟩)
        · rename_i k hs
          obtain ⟨kv, h1, h2⟩ := rs.ob _ _ _ ha hs
          exact .inr (.inr ⟨a, kv, rfl, .inl h1, fun b bs hb hk => post_new rs p hb fun e => ⟨_, upd_same, (RelL.keysT h2 hk).mono e⟩⟩)
        · exact p.elim
      | _ => exact p.elim
  · exact p.elim
theorem cm_tuple : CallM X E (.type "tuple") bTuple := by
  refine ⟨_, call_tuple_of, fun ds vs S m H Q rs hv p => ?_⟩
  unfold bTuple at p
  split at p
  · rename_i l
    obtain ⟨v, rfl, h⟩ := rel1 hv
    cases h with
    | tup ha r => exact ⟨_, _, rfl, .inr ⟨.inl (.inl ha), p.here rs _ (.tup ha r)⟩⟩
  · rename_i n
    obtain ⟨v, rfl, h⟩ := rel1 hv
    cases h with
    | ref ha =>
      split at p
      · rename_i l hl
        obtain ⟨xs, h1, h2⟩ := rs.lst ha hl
        exact ⟨_, xs, rfl, .inl ⟨h1, fun b hb => post_tup rs p hb h2⟩⟩
      · exact p.elim
  · exact p.elim
theorem ints_rel {K : PySem.W.Frag} {H : Hp} {m : List Addr} : ∀ {l : List D} {xs : List V} {ns : List Int}, RelL K H m l xs → intsOf l = some ns → xs = ns.map V.int
  | _, _, _, .nil, e => by simp only [intsOf, Option.some.injEq] at e; subst e; rfl
  | _, _, ns, .cons (d := d) h t, e => by
    cases h <;> simp only [intsOf, reduceCtorEq] at e
    obtain ⟨r, e1, e2⟩ := Option.map_eq_some_iff.mp e
    subst e2
    rw [List.map_cons, ← ints_rel t e1]
theorem bls_rel {K : PySem.W.Frag} {H : Hp} {m : List Addr} : ∀ {l : List D} {xs : List V} {ns : List Bool}, RelL K H m l xs → blsOf l = some ns → xs = ns.map V.bl
  | _, _, _, .nil, e => by simp only [blsOf, Option.some.injEq] at e; subst e; rfl
  | _, _, ns, .cons (d := d) h t, e => by
    cases h <;> simp only [blsOf, reduceCtorEq] at e
    obtain ⟨r, e1, e2⟩ := Option.map_eq_some_iff.mp e
    subst e2
    rw [List.map_cons, ← bls_rel t e1]
theorem cm_sum (hc : X.calm = true) : CallM X E (.builtin "sum") bSum := by
  refine ⟨_, cr_sum hc, fun ds vs S m H Q rs hv p => ?_⟩
  unfold bSum at p
  split at p
  · obtain ⟨v, rfl, h⟩ := rel1 hv
    cases h with
    | ref ha =>
      split at p
      · rename_i l hl
        obtain ⟨k, h1, h2⟩ := Option.bind_eq_some_iff.mp hl
        obtain ⟨xs, h3, h4⟩ := rs.lst ha h1
        rw [ints_rel h4 h2] at h3
        exact ⟨_, l, rfl, h3, post_int rs p⟩
      · exact p.elim
  · exact p.elim
theorem cm_any (hc : X.calm = true) : CallM X E (.builtin "any") bAny := by
  refine ⟨_, cr_any hc, fun ds vs S m H Q rs hv p => ?_⟩
  unfold bAny at p
  split at p
  · obtain ⟨v, rfl, h⟩ := rel1 hv
    cases h with
    | ref ha =>
      split at p
      · rename_i l hl
        obtain ⟨k, h1, h2⟩ := Option.bind_eq_some_iff.mp hl
        obtain ⟨xs, h3, h4⟩ := rs.lst ha h1
        rw [bls_rel h4 h2] at h3
        exact ⟨_, l, rfl, h3, post_bl rs p⟩
      · exact p.elim
  · exact p.elim
theorem cm_all (hc : X.calm = true) : CallM X E (.builtin "all") bAll := by
  refine ⟨_, cr_all hc, fun ds vs S m H Q rs hv p => ?_⟩
  unfold bAll at p
  split at p
  · obtain ⟨v, rfl, h⟩ := rel1 hv
    cases h with
    | ref ha =>
      split at p
      · rename_i l hl
        obtain ⟨k, h1, h2⟩ := Option.bind_eq_some_iff.mp hl
        obtain ⟨xs, h3, h4⟩ := rs.lst ha h1
        rw [bls_rel h4 h2] at h3
        exact ⟨_, l, rfl, h3, post_bl rs p⟩
      · exact p.elim
  · exact p.elim

/-! ### isinstance -/
def tyN : Ty → String
  | .int => "int"
  | .bool => "bool"
  | .str => "str"
  | .list => "list"
  | .tuple => "tuple"
  | .dict => "dict"
theorem tyx_of {c : Ct} {m : List Addr} {S : Store} {H : Hp} (rs : RS c m S H) {d : D} {v : V} {U : Ty} (h : RelD c.K H m d v) (e : tyOf S d = some U) : TyX c.K H v (.type (tyN U)) := by
  cases h with
  | non => cases e
  | bl b => cases e; exact .base (.bl b)
  | int b => cases e; exact .base (.int b)
  | str b => cases e; exact .base (.str _)
  | tup ha r => cases e; exact .base (.tup ha)
  | wtp ha r => cases e
  | @ref n a ha =>
    unfold tyOf at e
    dsimp only at e
    split at e
    · rename_i l hs
      cases e
      obtain ⟨xs, h1, _⟩ := rs.ob n a _ ha hs
      exact .base (.lst h1)
    · rename_i l hs
      cases e
      obtain ⟨xs, h1, _⟩ := rs.ob n a _ ha hs
      rcases h1 with ⟨o, h1⟩ | h1
      · exact .base (.frz h1)
      · rcases h1 with h1 | ⟨o, its, k, h1, h2, _⟩
        · rcases h1 with h1 | ⟨o, h1⟩ <;> cases h1
        · exact .kList h1 h2
    · rename_i l hs
      cases e
      obtain ⟨xs, h1, _⟩ := rs.ob n a _ ha hs
      exact .base (.dK h1)
    · rename_i l hs
      cases e
      obtain ⟨xs, h1, _⟩ := rs.ob n a _ ha hs
      exact .base (.dT h1)
    · cases e
theorem kit_all : ∀ U T : Ty, kitB (tyN U) (tyN T) = some (decide (U = T) || (decide (U = .bool) && decide (T = .int)))
  | .int, .int => by decide +kernel | .int, .bool => by decide +kernel | .int, .str => by decide +kernel | .int, .list => by decide +kernel | .int, .tuple => by decide +kernel | .int, .dict => by decide +kernel
  | .bool, .int => by decide +kernel | .bool, .bool => by decide +kernel | .bool, .str => by decide +kernel | .bool, .list => by decide +kernel | .bool, .tuple => by decide +kernel | .bool, .dict => by decide +kernel
  | .str, .int => by decide +kernel | .str, .bool => by decide +kernel | .str, .str => by decide +kernel | .str, .list => by decide +kernel | .str, .tuple => by decide +kernel | .str, .dict => by decide +kernel
  | .list, .int => by decide +kernel | .list, .bool => by decide +kernel | .list, .str => by decide +kernel | .list, .list => by decide +kernel | .list, .tuple => by decide +kernel | .list, .dict => by decide +kernel
  | .tuple, .int => by decide +kernel | .tuple, .bool => by decide +kernel | .tuple, .str => by decide +kernel | .tuple, .list => by decide +kernel | .tuple, .tuple => by decide +kernel | .tuple, .dict => by decide +kernel
  | .dict, .int => by decide +kernel | .dict, .bool => by decide +kernel | .dict, .str => by decide +kernel | .dict, .list => by decide +kernel | .dict, .tuple => by decide +kernel | .dict, .dict => by decide +kernel
theorem kit_non : ∀ T : Ty, kitB "NoneType" (tyN T) = some false
  | .int => by decide +kernel | .bool => by decide +kernel | .str => by decide +kernel | .list => by decide +kernel | .tuple => by decide +kernel | .dict => by decide +kernel
theorem isi_ok {c : Ct} {m : List Addr} {S : Store} {H : Hp} (rs : RS c m S H) {d : D} {v : V} {T : Ty} {b : Bool} (h : RelD c.K H m d v) (e : isI T d S = some b) : ∃ t, TyX c.K H v t ∧ PySem.W.kitOne c.K t (.type (tyN T)) = some b := by
  unfold isI at e
  split at e
  · cases e
    cases h
    exact ⟨_, .base .non, kit_ty (kit_non T)⟩
  · obtain ⟨U, e1, e2⟩ := Option.map_eq_some_iff.mp e
    subst e2
    exact ⟨_, tyx_of rs h e1, kit_ty (kit_all U T)⟩
theorem se_isi {a : Expr} {fa : EM} {p p2 pos : Pos} {y : Str} (T : Ty) (hg : Gl X "isinstance") (hm : X.mg "isinstance" = none) (hg2 : Gl X y) (hm2 : X.mg y = none) (hv2 : bootBuiltins y = some (.type (tyN T))) (ha : SE X E a fa) (hn2 : y ≠ "__name__" := by decide) (hd2 : (y == ("__debug__" : Str)) = false := by decide)
    (he : starEach [a, .Name y p2] X.env = (false, eval a X.env) :: starEach [.Name y p2] X.env := by rfl) (he2 : starEach [.Name y p2] X.env = (false, eval (.Name y p2) X.env) :: starEach [] X.env := by rfl) (hpl : (backTo pos (starEach [.Name y p2] X.env)).any (·.1) = false := by rfl) :
    SE X E (.Call (.Name "isinstance" p) [a, .Name y p2] [] pos) (mUn (bIsI T) fa) := by
  refine PE.mono (pe_callB call_isi hg hm PyProof.Rows.boot_isinstance (pa_cons ha (pa_cons (pe_bltn (v := .ty (tyN T)) hg2 hm2 hv2 rfl hn2 hd2) pa_nil he2) he) (by decide) (by decide) he hpl) fun σ H Q ⟨fr, S, m, rf, rs, p⟩ => ?_
  refine rd_bind rf rs p fun x S1 m1 H1 e1 rf1 rs1 p1 v hv => ?_
  unfold bIsI at p1
  split at p1
  · rename_i b hb
    obtain ⟨t, h1, h2⟩ := isi_ok rs1 hv hb
    exact ⟨v, .ty (tyN T), t, _, b, rfl, .ty _, h1, h2, post_bl rs1 p1⟩
  · exact p1.elim

/-! ### methods -/
theorem ty_list : TyM X "list" isLst := by
  intro x v S m H rs h e
  unfold isLst at e
  cases h with
  | @ref n a ha =>
    dsimp only at e
    obtain ⟨l, hl⟩ := Option.isSome_iff_exists.mp e
    obtain ⟨xs, h1, _⟩ := rs.lst ha hl
    exact .inl ⟨rfl, xs, h1⟩
  | _ => cases e
theorem ty_dict : TyM X "dict" isDct := by
  intro x v S m H rs h e
  unfold isDct at e
  cases h with
  | @ref n a ha =>
    dsimp only at e
    split at e
    · rename_i k hs
      obtain ⟨xs, h1, _⟩ := rs.ob n a _ ha hs
      exact .inr (.inr (.inl ⟨rfl, .inl ⟨xs, h1⟩⟩))
    · rename_i k hs
      obtain ⟨xs, h1, _⟩ := rs.ob n a _ ha hs
      exact .inr (.inr (.inl ⟨rfl, .inr ⟨xs, h1⟩⟩))
    · cases e
  | _ => cases e
theorem ty_str : TyM X "str" isStr := by
  intro x v S m H rs h e
  unfold isStr at e
  cases h with
  | str s => exact rfl
  | _ => cases e
/-- a list that is changed -/
theorem mut_list {c : Ct} {m : List Addr} {S : Store} {H : Hp} (rs : RS c m S H) {o : D} {v : V} {f : Nat → List D → Res D} {k : D → Store → List Addr → Hp → Prop} (h : RelD c.K H m o v) (p : Post c E m H (mutL o S f) k) :
    ∃ n a l xs, o = .ref n ∧ v = .ref a ∧ m[n]? = some a ∧ S[n]? = some (.lst l) ∧ H a = some (.lst xs) ∧ RelL c.K H m l xs ∧ Post c E m H (f n l) k := by
  unfold mutL at p
  cases h with
  | @ref n a ha =>
    dsimp only at p
    split at p
    · rename_i l hs
      obtain ⟨xs, h1, h2⟩ := rs.ob n a _ ha hs
      exact ⟨n, a, l, xs, rfl, rfl, ha, hs, h1, h2, p⟩
    · exact p.elim
  | _ => exact p.elim
theorem put_list {c : Ct} {m : List Addr} {S : Store} {H : Hp} (rs : RS c m S H) {n : Nat} {a : Addr} {l l' : List D} {xs' : List V} {d : D} {Q : VK} {v : V} (ha : m[n]? = some a) (hs : S[n]? = some (.lst l)) (r : RelL c.K H m l' xs') (hd : RelD c.K H m d v)
    (p : Post c E m H (.ok d (S.set n (.lst l'))) (kE c Q)) : Q v (upd H a (.lst xs')) := by
  obtain ⟨rs', e⟩ := rs.set (o' := .lst l') (u := .lst xs') ha hs trivial trivial fun e => ⟨xs', upd_same, r.mono e⟩
  exact p _ _ e rs' _ (hd.mono e)
theorem mm_append : MtMm X E "list.append" lAppend := by
  refine ⟨_, mt_append, fun x ds v vs S m H Q rs hv hvs p => ?_⟩
  unfold lAppend at p
  split at p
  · rename_i d
    obtain ⟨w, rfl, hw⟩ := rel1 hvs
    obtain ⟨n, a, l, xs, rfl, rfl, ha, hs, h1, h2, p⟩ := mut_list rs hv p
    split at p
    · rename_i hl
      exact ⟨a, xs, w, rfl, rfl, h1, by rw [← h2.len, line_eq]; exact hl, put_list rs ha hs (h2.app (.one hw)) .non p⟩
    · exact p.elim
  · exact p.elim
theorem mt_or {id : String} {r r' : V → List V → Hp → VK → Prop} (h : MtR X id r) (h' : MtR X id r') : MtR X id fun x xs H Q => r x xs H Q ∨ r' x xs H Q := h.or h'
theorem seqIx_of {n : Nat} {i : Int} {k : Nat} (h : Mi.ixN n i = some k) : seqIndex? i n = some k := by
  have := ixN_seq (show L2.ixN n i = some k from h)
  exact this.1
theorem mm_pop : MtMm X E "list.pop" lPop := by
  refine ⟨_, mt_or (X := X) mt_pop mt_popAt, fun x ds v vs S m H Q rs hv hvs p => ?_⟩
  unfold lPop at p
  split at p
  · cases hvs
    obtain ⟨n, a, l, xs, rfl, rfl, ha, hs, h1, h2, p⟩ := mut_list rs hv p
    split at p
    · rename_i y hy
      obtain ⟨w, e1, e2⟩ := h2.ix hy
      exact .inl ⟨a, xs, w, rfl, rfl, h1, by rw [← h2.len]; exact e1, put_list rs ha hs h2.dropLast e2 p⟩
    · exact p.elim
  · rename_i i
    obtain ⟨w, rfl, hw⟩ := rel1 hvs
    cases hw
    obtain ⟨n, a, l, xs, rfl, rfl, ha, hs, h1, h2, p⟩ := mut_list rs hv p
    split at p
    · rename_i hb
      split at p
      · rename_i k hk
        split at p
        · rename_i y hy
          obtain ⟨w, e1, e2⟩ := h2.ix hy
          exact .inr ⟨a, xs, i, k, w, rfl, rfl, h1, hb.1, hb.2, by rw [← h2.len]; exact seqIx_of hk, e1, put_list rs ha hs (h2.erase k) e2 p⟩
        · exact p.elim
      · exact p.elim
    · exact p.elim
  · exact p.elim
theorem mm_reverse : MtMm X E "list.reverse" lReverse := by
  refine ⟨_, mt_reverse, fun x ds v vs S m H Q rs hv hvs p => ?_⟩
  unfold lReverse at p
  split at p
  · cases hvs
    obtain ⟨n, a, l, xs, rfl, rfl, ha, hs, h1, h2, p⟩ := mut_list rs hv p
    exact ⟨a, xs, rfl, rfl, h1, put_list rs ha hs h2.rev .non p⟩
  · exact p.elim
theorem mm_lclear : MtMm X E "list.clear" lClear := by
  refine ⟨_, mt_clear, fun x ds v vs S m H Q rs hv hvs p => ?_⟩
  unfold lClear at p
  split at p
  · cases hvs
    obtain ⟨n, a, l, xs, rfl, rfl, ha, hs, h1, h2, p⟩ := mut_list rs hv p
    exact ⟨a, xs, rfl, rfl, h1, put_list rs ha hs .nil .non p⟩
  · exact p.elim
theorem mm_extend : MtMm X E "list.extend" lExtend := by
  refine ⟨_, mt_extend, fun x ds v vs S m H Q rs hv hvs p => ?_⟩
  unfold lExtend at p
  split at p
  · rename_i k
    obtain ⟨w, rfl, hw⟩ := rel1 hvs
    obtain ⟨n, a, l, xs, rfl, rfl, ha, hs, h1, h2, p⟩ := mut_list rs hv p
    split at p
    · rename_i r hr
      split at p
      · rename_i hl
        cases hw with
        | ref hb =>
          obtain ⟨zs, h3, h4⟩ := rs.ob _ _ _ hb hr
          exact ⟨a, _, xs, zs, rfl, rfl, h1, h3, by rw [← h2.len, ← h4.len, line_eq]; exact hl, put_list rs ha hs (h2.app h4) .non p⟩
      · exact p.elim
    · exact p.elim
  · exact p.elim
theorem mm_insert : MtMm X E "list.insert" lInsert := by
  refine ⟨_, mt_insert, fun x ds v vs S m H Q rs hv hvs p => ?_⟩
  unfold lInsert at p
  split at p
  · rename_i i d
    obtain ⟨w, w', rfl, hw, hw'⟩ := rel2 hvs
    cases hw
    obtain ⟨n, a, l, xs, rfl, rfl, ha, hs, h1, h2, p⟩ := mut_list rs hv p
    split at p
    · rename_i hl
      exact ⟨a, xs, i, w', rfl, rfl, h1, by rw [← h2.len, line_eq]; exact hl.1, hl.2.1, hl.2.2, put_list rs ha hs (((h2.take _).app (.one hw')).app (h2.drop _)) .non p⟩
    · exact p.elim
  · exact p.elim
theorem mm_dget (hu : X.A.units + 1 < cLine) : MtMm X E "dict.get" dGetM := by
  refine ⟨fun x vs H Q => (∃ a y o, x = V.ref a ∧ vs = [y] ∧ DGet H a y o ∧ Q (o.getD .non) H) ∨ ∃ a y z o, x = V.ref a ∧ vs = [y, z] ∧ DGet H a y o ∧ Q (o.getD z) H, ?_, fun x ds v vs S m H Q rs hv hvs p => ?_⟩
  · intro pins s σ H x xs v us Q I rx rxs h
    rcases h with ⟨a, y, o, rfl, rfl, g, q⟩ | ⟨a, y, z, o, rfl, rfl, g, q⟩
    · obtain rfl : v = Value.ref a := rx
      obtain ⟨u, rfl, ru⟩ := Vals.one rxs
      exact d_get1 hu I g ru fun w' s' I' rw' => ⟨_, H, I', rw', q⟩
    · obtain rfl : v = Value.ref a := rx
      obtain ⟨u, w, rfl, ru, rw⟩ := Vals.two rxs
      exact d_get2 hu I g ru rw fun w' s' I' rw' => ⟨_, H, I', rw', q⟩
  · unfold dGetM at p
    cases hv with
    | @ref n a ha =>
      dsimp only at p
      split at p
      · rename_i k
        obtain ⟨w, rfl, hw⟩ := rel1 hvs
        split at p
        · rename_i r hr
          obtain ⟨o, g, q⟩ := look_get rs ha hw hr
          refine .inl ⟨a, w, o, rfl, rfl, g, p.here rs _ ?_⟩
          cases r with
          | none => rw [show o = none from q]; exact .non
          | some d => obtain ⟨z, e, h⟩ := q; rw [e]; exact h
        · exact p.elim
      · rename_i k y
        obtain ⟨w, w', rfl, hw, hw'⟩ := rel2 hvs
        split at p
        · rename_i r hr
          obtain ⟨o, g, q⟩ := look_get rs ha hw hr
          refine .inr ⟨a, w, w', o, rfl, rfl, g, p.here rs _ ?_⟩
          cases r with
          | none => rw [show o = none from q]; exact hw'
          | some d => obtain ⟨z, e, h⟩ := q; rw [e]; exact h
        · exact p.elim
      · exact p.elim
    | _ => exact p.elim
end
end Sm

set_option Elab.async false
set_option linter.all false
set_option maxRecDepth 100000
set_option maxHeartbeats 2000000
/-! readings by the small language: targets, statements, loops, comprehensions, defs -/
namespace Sm
open PySem PySem.Spec PyProof.Rows L2 Mi
abbrev EF : XK := fun _ _ _ => False
section
variable {X : Cx} {E : XK} {pos : Pos}
theorem PG.mono {e : Expr} {t t' : TG} (h : PG X e t) (f : ∀ v σ H Q, t' v σ H Q → t v σ H Q) : PG X e t' := ⟨fun pins s σ H x v Q I r q => h.run pins s σ H x v Q I r (f x σ H Q q)⟩
theorem PGs.mono {e : List Expr} {t t' : TGs} (h : PGs X e t) (f : ∀ v σ H Q, t' v σ H Q → t v σ H Q) : PGs X e t' := ⟨fun pins s σ H xs vs Q I r q => h.run pins s σ H xs vs Q I r (f xs σ H Q q)⟩
/-! ### targets -/
theorem sg_name {i : Nat} {x : Str} (hN : X.N.Nodup) (hi : X.N[i]? = some x) (hx : Loc X.env.scope x) (hf : X.fn x = true ∨ X.env.scope.names.lookup x = some .local := by first | exact .inl rfl | exact .inr rfl | assumption) : SG X E (.Name x pos) (Mi.gName i) := by
  refine PG.mono (pg_name hN hi hx hf) fun v σ H Q ⟨d, fr, S, m, r, rf, rs, p⟩ => ?_
  exact p.here rs _ (rf.set r i)
theorem sgs_nil : SGs X E [] Mi.gNil := by
  refine PGs.mono pgs_nil fun vs σ H Q ⟨ds, fr, S, m, r, rf, rs, p⟩ => ?_
  cases r with
  | nil => exact ⟨rfl, p.here rs σ rf⟩
  | cons => exact p.elim
theorem sgs_cons {e : Expr} {es : List Expr} {g : GM} {gs : GMs} (h1 : SG X E e g) (h2 : SGs X E es gs) (hs : (assignEach (e :: es) X.env).map (·.2) = assign e X.env :: (assignEach es X.env).map (·.2) := by rfl) : SGs X E (e :: es) (Mi.gCons g gs) := by
  refine PGs.mono (pgs_cons h1 h2 hs) fun vs σ H Q ⟨ds, fr, S, m, r, rf, rs, p⟩ => ?_
  cases r with
  | nil => exact p.elim
  | @cons d l v r' hd t =>
    refine ⟨v, r', rfl, d, fr, S, m, hd, rf, rs, (post_bind p).imp fun fr' S' m' H' e' rs' p' σ' rf' => ?_⟩
    exact ⟨l, fr', S', m', t.mono e', rf', rs', p'⟩
theorem pg_or {e : Expr} {t t' : TG} (h : PG X e t) (h' : PG X e t') : PG X e fun v σ H Q => t v σ H Q ∨ t' v σ H Q :=
  ⟨fun pins s σ H x v Q I r q => q.elim (fun q => h.run pins s σ H x v Q I r q) fun q => h'.run pins s σ H x v Q I r q⟩
theorem sg_tup {es : List Expr} {k : Nat} {gs : GMs} {n : Nat} (hc : X.calm = true) (h : SGs X E es gs) (hn : (assignEach es X.env).length = n := by rfl) (hst : (assignEach es X.env).findIdx? (·.1) = none := by rfl) : SG X E (.Tuple es k pos) (Mi.gTup n gs) := by
  refine PG.mono (pg_or (pg_tup hc h hn hst) (pg_unl hc h hn hst)) fun v σ H Q ⟨d, fr, S, m, r, rf, rs, p⟩ => ?_
  unfold Mi.gTup at p
  split at p
  · rename_i l hl
    split at p
    · rename_i hlen
      obtain ⟨a, xs, rfl, h1, h2⟩ := seq_rel rs r hl
      rcases h1 with h1 | h1
      · exact .inr ⟨a, xs, rfl, h1, by rw [← h2.len]; exact hlen, l, fr, S, m, h2, rf, rs, p⟩
      · exact .inl ⟨a, xs, rfl, h1, by rw [← h2.len]; exact hlen, l, fr, S, m, h2, rf, rs, p⟩
    · exact p.elim
  · exact p.elim
theorem set_dict (hu : X.A.units + 1 < cLine) : PSet X (fun o i v H Q => ∃ a H', o = V.ref a ∧ DPut H a i v H' ∧ Q H') := by
  intro pins s σ H o i v ov iv u Q I ro ri rv h
  obtain ⟨a, H', rfl, g, q⟩ := h
  obtain rfl : ov = Value.ref a := ro
  exact d_setItem hu I g ri rv fun s' I' => ⟨H', I', q⟩
theorem pset_or {t t' : TSet} (h : PSet X t) (h' : PSet X t') : PSet X fun o i v H Q => t o i v H Q ∨ t' o i v H Q := by
  intro pins s σ H o i v ov iv u Q I ro ri rv q
  exact q.elim (fun q => h pins s σ H o i v ov iv u Q I ro ri rv q) fun q => h' pins s σ H o i v ov iv u Q I ro ri rv q
theorem sg_sub {o i : Expr} {fo fi : EM} (hu : X.A.units + 65 < cLine) (ho : SE X E o fo) (hi : SE X E i fi)
    (ha : ∀ v, assign (.Subscript o i pos) X.env v = (do
      let ov ← holding [v] (eval o X.env)
      let iv ← holding [v, ov] (eval i X.env)
      standAt pos
      holding [v, ov, iv] (setItem ov iv v)
      release [v, ov, iv] []) := by intro _; rfl) : SG X E (.Subscript o i pos) (Mi.gSub fo fi) := by
  refine PG.mono (pg_sub ho hi (pset_or set_list (set_dict (by omega))) ha) fun v σ H Q ⟨d, fr, S, m, r, rf, rs, p⟩ => ?_
  refine rd_bind rf rs p fun x S1 m1 H1 e1 rf1 rs1 p1 xv hx => ?_
  refine rd_bind rf1 rs1 p1 fun y S2 m2 H2 e2 rf2 rs2 p2 yv hy => ?_
  have e12 := e1.trans e2
  rcases look_put rs2 (hx.mono e2) hy (r.mono e12) (post_bind p2) with h | ⟨a, H', e0, g, S', m', e3, rs3, q⟩
  · left
    obtain ⟨p0, xs, k, j, h1, h2, h3, h4, S', m', e3, rs3, q⟩ := h
    exact ⟨p0, xs, k, j, h1, h2, h3, h4, q.here rs3 σ (rf2.mono e3)⟩
  · exact .inr ⟨a, H', e0, g, q.here rs3 σ (rf2.mono e3)⟩

/-! ### statements -/
theorem sss_nil : SSs X E [] sNx := PSs.mono pss_nil fun D σ H ⟨fr, S, m, rf, rs, p⟩ => p.here rs σ rf
theorem sss_cons {st : Stmt} {rest : List Stmt} {a b : SM} (h1 : SS X E st a) (h2 : SSs X E rest b) : SSs X E (st :: rest) (sSeq a b) := by
  refine PSs.mono (pss_cons h1 h2) fun D σ H ⟨fr, S, m, rf, rs, p⟩ => ?_
  refine ⟨fr, S, m, rf, rs, (post_bind p).imp fun o S1 m1 H1 e1 rs1 p1 => ?_⟩
  cases o with
  | nx fr' => exact fun σ' rf' => ⟨fr', S1, m1, rf', rs1, p1⟩
  | rt d => exact p1.here rs1
  | bk fr' => exact p1.here rs1
  | ct fr' => exact p1.here rs1
theorem sss_one {st : Stmt} {a : SM} (h1 : SS X E st a) : SSs X E [st] a := pss_one h1
theorem ss_asg {tg e : Expr} {fe : EM} {g : GM} (he : SE X E e fe) (hg : SG X E tg g) (hs : swapsWithSole [tg] e pos.line X.env = pure false := by rfl) (hw : swappedStores [tg] e X.env = pure none := by rfl)
    (h1 : (assignEach [tg] X.env).map (·.2) = [assign tg X.env] := by rfl) : SS X E (.Assign [tg] e pos) (sAsg fe g) := by
  refine PS.mono (ps_asg he hg hs hw h1) fun D σ H ⟨fr, S, m, rf, rs, p⟩ => ?_
  refine rd_bind rf rs p fun x S1 m1 H1 e1 rf1 rs1 p1 v hv => ?_
  exact ⟨x, fr, S1, m1, hv, rf1, rs1, (post_bind p1).imp fun fr' S2 m2 H2 e2 rs2 p2 => p2.here rs2⟩
theorem ss_set {i : Nat} {x : Str} {e : Expr} {fe : EM} {pos' : Pos} (hN : X.N.Nodup) (hi : X.N[i]? = some x) (hx : Loc X.env.scope x) (he : SE X E e fe) (hs : swapsWith e (some (.Name x pos')) pos.line X.env = pure false := by rfl) (hf : X.fn x = true ∨ X.env.scope.names.lookup x = some .local := by first | exact .inl rfl | exact .inr rfl | assumption) :
    SS X E (.Assign [.Name x pos'] e pos) (sAsg fe (Mi.gName i)) := by
  refine PS.mono (ps_set hN hi hx he hs hf) fun D σ H ⟨fr, S, m, rf, rs, p⟩ => ?_
  refine rd_bind rf rs p fun x S1 m1 H1 e1 rf1 rs1 p1 v hv => ?_
  exact (post_bind p1).here rs1 |>.here rs1 _ (rf1.set hv i)
theorem ss_par {i j : Nat} {x y : Str} {a b : Expr} {fa : AM} {px py pt : Pos} {kt k2 pt2} (hc : X.calm = true) (hN : X.N.Nodup) (hi : X.N[i]? = some x) (hj : X.N[j]? = some y) (hij : i ≠ j)
    (hx : X.env.scope.names.lookup x = some .local) (hy : X.env.scope.names.lookup y = some .local) (ha : SA X E [a, b] fa)
    (hw : swappedStores [.Tuple [.Name x px, .Name y py] kt pt] (.Tuple [a, b] k2 pt2) X.env = pure (some [x, y]))
    (hs : swapsWithSole [.Tuple [.Name x px, .Name y py] kt pt] (.Tuple [a, b] k2 pt2) pos.line X.env = pure false := by rfl) :
    SS X E (.Assign [.Tuple [.Name x px, .Name y py] kt pt] (.Tuple [a, b] k2 pt2) pos) (sPar i j fa) := by
  refine PS.mono (ps_par hc hN hi hj hij hx hy ha hw hs) fun D σ H ⟨fr, S, m, rf, rs, p⟩ => ?_
  refine rdA_bind rf rs p fun ds S1 m1 H1 e1 rf1 rs1 p1 vs hv => ?_
  split at p1
  · obtain ⟨v, w, rfl, h1, h2⟩ := rel2 hv
    exact ⟨v, w, rfl, p1.here rs1 _ ((rf1.set h1 i).set h2 j)⟩
  · exact p1.elim
theorem ss_augadd {i : Nat} {x : Str} {e : Expr} {fe : EM} {pos' : Pos} (hN : X.N.Nodup) (hi : X.N[i]? = some x) (hx : Loc X.env.scope x) (he : SE X E e fe) (hf : X.fn x = true ∨ X.env.scope.names.lookup x = some .local := by first | exact .inl rfl | exact .inr rfl | assumption) :
    SS X E (.AugAssign (.Name x pos') .Add e pos) (sAug i oAddI fe) := by
  refine PS.mono (ps_aug hN hi hx he ip_add hf) fun D σ H ⟨fr, S, m, rf, rs, p⟩ => ?_
  unfold sAug at p
  split at p
  · rename_i d hd
    obtain ⟨v, h1, h2⟩ := rf.get i d hd
    refine ⟨v, h1, rd_bind rf rs p fun y S1 m1 H1 e1 rf1 rs1 p1 w hw => ?_⟩
    have p2 := post_bind p1
    cases h2 <;> first | exact p2.elim | skip
    cases hw <;> first | exact p2.elim | skip
    exact ⟨_, _, rfl, rfl, (p2.here rs1).here rs1 _ (rf1.set (.int _) i)⟩
  · exact p.elim
theorem ss_expr {e : Expr} {fe : EM} (he : SE X E e fe) (hs : swapsWith e none pos.line X.env = pure false := by rfl) : SS X E (.Expr e pos) (sExp fe) := by
  refine PS.mono (ps_expr he hs) fun D σ H ⟨fr, S, m, rf, rs, p⟩ => ?_
  exact rd_bind rf rs p fun x S1 m1 H1 e1 rf1 rs1 p1 v hv => p1.here rs1 σ rf1
theorem ss_ret {e : Expr} {fe : EM} (he : SE X E e fe) : SS X E (.Return (some e) pos) (sRet fe) := by
  refine PS.mono (ps_ret he) fun D σ H ⟨fr, S, m, rf, rs, p⟩ => ?_
  exact rd_bind rf rs p fun x S1 m1 H1 e1 rf1 rs1 p1 v hv => p1.here rs1 v hv
theorem ss_retN : SS X E (.Return none pos) sRetN := PS.mono ps_retN fun D σ H ⟨fr, S, m, rf, rs, p⟩ => p.here rs _ .non
theorem ss_pass : SS X E (.Pass pos) sNx := PS.mono ps_pass fun D σ H ⟨fr, S, m, rf, rs, p⟩ => p.here rs σ rf
theorem ss_brk : SS X E (.Break pos) sBrk := PS.mono ps_break fun D σ H ⟨fr, S, m, rf, rs, p⟩ => p.here rs σ rf
theorem ss_cnt : SS X E (.Continue pos) sCnt := PS.mono ps_continue fun D σ H ⟨fr, S, m, rf, rs, p⟩ => p.here rs σ rf
theorem ss_bad {st : Stmt} : SS X E st sBad := PS.mono ps_never fun D σ H ⟨fr, S, m, rf, rs, p⟩ => p.elim
theorem ss_doc {x : Str} {j pos pos'} : SS X E (.Expr (.Constant (.str x) j pos) pos') sNx := PS.mono ps_doc fun D σ H ⟨fr, S, m, rf, rs, p⟩ => p.here rs σ rf
theorem ss_if {t : Expr} {a b : List Stmt} {ft : TM} {ga gb : SM} (ht : STt X E t ft) (ha : SSs X E a ga) (hb : SSs X E b gb) : SS X E (.If t a b pos) (sIf ft ga gb) := by
  refine PS.mono (ps_if ht ha hb) fun D σ H ⟨fr, S, m, rf, rs, p⟩ => ?_
  refine rdT_bind rf rs p fun k S1 m1 H1 e1 rf1 rs1 p1 => ?_
  cases k with
  | true => exact ⟨fr, S1, m1, rf1, rs1, p1⟩
  | false => exact ⟨fr, S1, m1, rf1, rs1, p1⟩

/-! ### what is walked -/
structure WalkD (c : Ct) (J : It) (I : Its) (m0 : List Addr) (H0 : Hp) : Prop where
  go : ∀ i m S H, i < I.items.length → Ext m0 H0 m H → RS c m S H → stands I.hs S → J.go i H
  stop : ∀ m S H, Ext m0 H0 m H → RS c m S H → stands I.hs S → J.stop I.items.length H
  yld : ∀ i m S H x H' d, I.items[i]? = some d → Ext m0 H0 m H → RS c m S H → stands I.hs S → J.yld i H x H' → Ext m H m H' ∧ RS c m S H' ∧ RelD c.K H' m d x
def rdI (c : Ct) (E : XK) (f : IM) : TI := fun σ H R => ∃ fr S m, RF c.K H m fr σ ∧ RS c m S H ∧ Post c E m H (f fr S) fun I _ m' H' => ∀ J, WalkD c J I m' H' → R J H'
abbrev SI (X : Cx) (E : XK) (tg e : Expr) (f : IM) : Prop := PI X tg e (rdI (cx X) E f)
theorem PI.mono {tg e : Expr} {t t' : TI} (h : PI X tg e t) (f : ∀ σ H R, t' σ H R → t σ H R) : PI X tg e t' := ⟨fun pins s σ H R I q => h.run pins s σ H R I (f σ H R q)⟩
theorem stand1 {n : Nat} {l : List D} {S : Store} (h : stands [(n, l)] S) : lstOf S n = some l := h (n, l) List.mem_cons_self
theorem walkd_list {c : Ct} {n : Nat} {a : Addr} {l : List D} {m0 : List Addr} {H0 : Hp} (ha : m0[n]? = some a) : WalkD c (Itl c.K a) ⟨l, [(n, l)]⟩ m0 H0 where
  go := fun i m S H hi e rs st => by
    obtain ⟨xs, h1, h2⟩ := rs.lst (e.mx _ _ ha) (stand1 st)
    obtain ⟨v, h3, _⟩ := h2.ix (List.getElem?_eq_getElem hi)
    exact ⟨xs, v, h1, h3⟩
  stop := fun m S H e rs st => by
    obtain ⟨xs, h1, h2⟩ := rs.lst (e.mx _ _ ha) (stand1 st)
    exact ⟨xs, h1, by rw [← h2.len]; exact Nat.le_refl _⟩
  yld := fun i m S H x H' d hd e rs st y => by
    obtain ⟨rfl, hy⟩ := y
    obtain ⟨xs, h1, h2⟩ := rs.lst (e.mx _ _ ha) (stand1 st)
    obtain ⟨v, h3, h4⟩ := h2.ix hd
    have := (hy xs h1).symm.trans h3
    cases this
    exact ⟨Ext.refl _ _, rs, h4⟩
theorem walkd_tup {c : Ct} {a : Addr} {l : List D} {xs : List V} {m0 : List Addr} {H0 : Hp} (hs : ∀ m H, Ext m0 H0 m H → SqT c.K H a xs) (r : RelL c.K H0 m0 l xs) : WalkD c (Itt c.K a) ⟨l, []⟩ m0 H0 where
  go := fun i m S H hi e rs st => by
    obtain ⟨v, h3, _⟩ := r.ix (List.getElem?_eq_getElem hi)
    exact ⟨xs, v, hs m H e, h3⟩
  stop := fun m S H e rs st => ⟨xs, hs m H e, by rw [← r.len]; exact Nat.le_refl _⟩
  yld := fun i m S H x H' d hd e rs st y => by
    obtain ⟨rfl, hy⟩ := y
    obtain ⟨v, h3, h4⟩ := r.ix hd
    have := (hy xs (hs m _ e)).symm.trans h3
    cases this
    exact ⟨Ext.refl _ _, rs, h4.mono e⟩
theorem walkd_str {c : Ct} {z : Tx} {m0 : List Addr} {H0 : Hp} : WalkD c (Its (sOf z)) ⟨z.map fun k => .str [k], []⟩ m0 H0 where
  go := fun i m S H hi e rs st => by
    have h : i < (z.map fun k => D.str [k]).length := hi
    rw [List.length_map] at h
    show i < z.toArray.size
    simpa using h
  stop := fun m S H e rs st => by
    show z.toArray.size ≤ (z.map fun k => D.str [k]).length
    simp
  yld := fun i m S H x H' d hd e rs st y => by
    obtain ⟨rfl, k, hk, rfl⟩ := y
    have h : (z.map fun k => D.str [k])[i]? = some d := hd
    have hk' : z[i]? = some k := by
      have : z.toArray[i]? = some k := hk
      simpa using this
    rw [List.getElem?_map, hk'] at h
    cases h
    exact ⟨Ext.refl _ _, rs, .str [k]⟩
theorem walkd_rng {c : Ct} {lo : Int} {n : Nat} {m0 : List Addr} {H0 : Hp} : WalkD c (Itr lo n) ⟨rng lo n, []⟩ m0 H0 where
  go := fun i m S H hi e rs st => by
    have h : i < (rng lo n).length := hi
    unfold rng at h
    rw [List.length_map, List.length_range] at h
    exact h
  stop := fun m S H e rs st => by
    show n ≤ (rng lo n).length
    unfold rng
    rw [List.length_map, List.length_range]
    exact Nat.le_refl _
  yld := fun i m S H x H' d hd e rs st y => by
    obtain ⟨rfl, rfl⟩ := y
    have h : (rng lo n)[i]? = some d := hd
    unfold rng at h
    rw [List.getElem?_map] at h
    obtain ⟨k, h1, h2⟩ := Option.map_eq_some_iff.mp h
    obtain ⟨h3, h4⟩ := List.getElem?_eq_some_iff.mp h1
    rw [List.getElem_range] at h4
    subst h4 h2
    exact ⟨Ext.refl _ _, rs, .int _⟩
theorem walkd_rngD {c : Ct} {hi : Int} {n : Nat} {m0 : List Addr} {H0 : Hp} : WalkD c (Itc hi (-1) n) ⟨(List.range n).map fun k => .int (hi - (k : Nat)), []⟩ m0 H0 where
  go := fun i m S H hi e rs st => by
    have h : i < ((List.range n).map fun k : Nat => D.int _).length := hi
    rw [List.length_map, List.length_range] at h
    exact h
  stop := fun m S H e rs st => by
    show n ≤ ((List.range n).map fun k : Nat => D.int _).length
    rw [List.length_map, List.length_range]
    exact Nat.le_refl _
  yld := fun i m S H x H' d hd e rs st y => by
    obtain ⟨rfl, rfl⟩ := y
    have h : ((List.range n).map fun k : Nat => D.int (hi - (k : Nat)))[i]? = some d := hd
    rw [List.getElem?_map] at h
    obtain ⟨k, h1, h2⟩ := Option.map_eq_some_iff.mp h
    obtain ⟨h3, h4⟩ := List.getElem?_eq_some_iff.mp h1
    rw [List.getElem_range] at h4
    subst h4 h2
    refine ⟨Ext.refl _ _, rs, ?_⟩
    have e : hi - (i : Int) = hi + (i : Int) * -1 := by omega
    rw [e]
    exact .int _
theorem prs_at : ∀ (l : List D) (k i : Nat), (prs k l)[i]? = l[i]?.map fun d => .tup [.int ((k + i : Nat) : Int), d]
  | [], k, i => by simp [prs]
  | d :: l, k, 0 => by simp [prs]
  | d :: l, k, i + 1 => by
    have h := prs_at l (k + 1) i
    show (prs (k + 1) l)[i]? = _
    rw [h]
    show _ = l[i]?.map _
    rw [show k + 1 + i = k + (i + 1) by omega]
theorem prs_len : ∀ (l : List D) (k : Nat), (prs k l).length = l.length
  | [], _ => rfl
  | d :: l, k => by
    show (prs (k + 1) l).length + 1 = l.length + 1
    rw [prs_len l (k + 1)]
theorem rel_pair {c : Ct} {m : List Addr} {S : Store} {H : Hp} {d e : D} {x y : V} {T : Addr} (rs : RS c m S H) (h : H T = none) (r1 : RelD c.K H m d x) (r2 : RelD c.K H m e y) : Ext m H m (upd H T (.tup [x, y])) ∧ RS c m S (upd H T (.tup [x, y])) ∧ RelD c.K (upd H T (.tup [x, y])) m (.tup [d, e]) (.ref T) := by
  have ex : Ext m H m (upd H T (.tup [x, y])) := ⟨fun _ _ z => z, tstay_new h⟩
  exact ⟨ex, rs.fresh h, .tup upd_same (.cons (r1.mono ex) (.cons (r2.mono ex) .nil))⟩
theorem walkd_enum {c : Ct} {n : Nat} {a : Addr} {l : List D} {m0 : List Addr} {H0 : Hp} (ha : m0[n]? = some a) : WalkD c (Ite c.K a) ⟨prs 0 l, [(n, l)]⟩ m0 H0 where
  go := fun i m S H hi e rs st => by
    have h : i < (prs 0 l).length := hi
    rw [prs_len] at h
    obtain ⟨xs, h1, h2⟩ := rs.lst (e.mx _ _ ha) (stand1 st)
    obtain ⟨v, h3, _⟩ := h2.ix (List.getElem?_eq_getElem h)
    exact ⟨xs, v, h1, h3⟩
  stop := fun m S H e rs st => by
    obtain ⟨xs, h1, h2⟩ := rs.lst (e.mx _ _ ha) (stand1 st)
    refine ⟨xs, h1, ?_⟩
    show xs.length ≤ (prs 0 l).length
    rw [← h2.len, prs_len]
    exact Nat.le_refl _
  yld := fun i m S H x H' d hd e rs st y => by
    obtain ⟨T, w, rfl, hT, rfl, hy⟩ := y
    obtain ⟨xs, h1, h2⟩ := rs.lst (e.mx _ _ ha) (stand1 st)
    have h : (prs 0 l)[i]? = some d := hd
    rw [prs_at, Nat.zero_add] at h
    obtain ⟨d', h3, h4⟩ := Option.map_eq_some_iff.mp h
    subst h4
    obtain ⟨v, h5, h6⟩ := h2.ix h3
    have := (hy xs h1).symm.trans h5
    cases this
    exact rel_pair rs hT (.int _) h6
theorem walkd_zip {c : Ct} {n n' : Nat} {a a' : Addr} {l r : List D} {m0 : List Addr} {H0 : Hp} (ha : m0[n]? = some a) (ha' : m0[n']? = some a') : WalkD c (Itz c.K a a') ⟨List.zipWith (fun x y => .tup [x, y]) l r, [(n, l), (n', r)]⟩ m0 H0 where
  go := fun i m S H hi e rs st => by
    have h : i < (List.zipWith (fun x y => D.tup [x, y]) l r).length := hi
    rw [List.length_zipWith] at h
    obtain ⟨xs, h1, h2⟩ := rs.lst (e.mx _ _ ha) (st (n, l) List.mem_cons_self)
    obtain ⟨ys, h3, h4⟩ := rs.lst (e.mx _ _ ha') (st (n', r) (List.mem_cons_of_mem _ List.mem_cons_self))
    obtain ⟨v, h5, _⟩ := h2.ix (List.getElem?_eq_getElem (show i < l.length by omega))
    obtain ⟨w, h6, _⟩ := h4.ix (List.getElem?_eq_getElem (show i < r.length by omega))
    exact ⟨xs, ys, v, w, h1, h3, h5, h6⟩
  stop := fun m S H e rs st => by
    obtain ⟨xs, h1, h2⟩ := rs.lst (e.mx _ _ ha) (st (n, l) List.mem_cons_self)
    obtain ⟨ys, h3, h4⟩ := rs.lst (e.mx _ _ ha') (st (n', r) (List.mem_cons_of_mem _ List.mem_cons_self))
    refine ⟨xs, ys, h1, h3, ?_⟩
    show xs.length ≤ (List.zipWith (fun x y => D.tup [x, y]) l r).length ∨ ys.length ≤ (List.zipWith (fun x y => D.tup [x, y]) l r).length
    have q1 : l.length = xs.length := h2.len
    have q2 : r.length = ys.length := h4.len
    rw [List.length_zipWith, ← q1, ← q2]
    omega
  yld := fun i m S H x H' d hd e rs st y => by
    obtain ⟨T, w, w', rfl, hT, rfl, hy, hy'⟩ := y
    obtain ⟨xs, h1, h2⟩ := rs.lst (e.mx _ _ ha) (st (n, l) List.mem_cons_self)
    obtain ⟨ys, h3, h4⟩ := rs.lst (e.mx _ _ ha') (st (n', r) (List.mem_cons_of_mem _ List.mem_cons_self))
    have h : (List.zipWith (fun x y => D.tup [x, y]) l r)[i]? = some d := hd
    rw [List.getElem?_zipWith] at h
    cases hl : l[i]? with
    | none => rw [hl] at h; cases h
    | some d1 =>
      cases hr : r[i]? with
      | none => rw [hl, hr] at h; cases h
      | some d2 =>
        rw [hl, hr] at h
        cases h
        obtain ⟨v, h5, h6⟩ := h2.ix hl
        obtain ⟨v', h7, h8⟩ := h4.ix hr
        have e1 := (hy xs h1).symm.trans h5
        have e2 := (hy' ys h3).symm.trans h7
        cases e1
        cases e2
        exact rel_pair rs hT h6 h8
theorem walkd_rev {c : Ct} {n : Nat} {a : Addr} {l : List D} {m0 : List Addr} {H0 : Hp} (ha : m0[n]? = some a) : WalkD c (Itv c.K a l.length) ⟨l.reverse, [(n, l)]⟩ m0 H0 where
  go := fun i m S H hi e rs st => by
    have h : i < l.reverse.length := hi
    rw [List.length_reverse] at h
    obtain ⟨xs, h1, h2⟩ := rs.lst (e.mx _ _ ha) (stand1 st)
    obtain ⟨v, h3, _⟩ := h2.ix (List.getElem?_eq_getElem (show l.length - 1 - i < l.length by omega))
    exact ⟨h, xs, v, h1, h3⟩
  stop := fun m S H e rs st => by
    show l.length ≤ l.reverse.length
    rw [List.length_reverse]
    exact Nat.le_refl _
  yld := fun i m S H x H' d hd e rs st y => by
    obtain ⟨rfl, hy⟩ := y
    obtain ⟨xs, h1, h2⟩ := rs.lst (e.mx _ _ ha) (stand1 st)
    have h : l.reverse[i]? = some d := hd
    have hi := (List.getElem?_eq_some_iff.mp h).1
    rw [List.length_reverse] at hi
    rw [List.getElem?_reverse hi] at h
    obtain ⟨v, h3, h4⟩ := h2.ix h
    have := (hy xs h1).symm.trans h3
    cases this
    exact ⟨Ext.refl _ _, rs, h4⟩
/-! ### the walked thing by its syntax -/
theorem pi_seq {tg l : Expr} {tl : TE} (hl : PE X l tl) : PI X tg l (fun σ H R => tl σ H fun x H1 => (∃ a, x = .ref a ∧ (∃ xs, SqL X.K H1 a xs) ∧ R (Itl X.K a) H1) ∨ ∃ a, x = .ref a ∧ (∃ xs, SqT X.K H1 a xs) ∧ R (Itt X.K a) H1) := by
  refine ⟨fun pins s σ H R I h => ?_⟩
  refine thn (hl.run pins s σ H _ I h) fun v s1 ⟨x, H1, I1, r1, q1⟩ => ?_
  rcases q1 with ⟨a, e, ⟨xs, hq⟩, q⟩ | ⟨a, e, ⟨xs, hq⟩, q⟩
  · subst e
    cases r1
    obtain ⟨its, rv, p, hz⟩ := I1.list hq
    refine wpAny_pyIter_list p.isList ?_
    refine ⟨s1.heap.objs.size, [s1.heap.objs.size], _, _, H1, rfl, I1.kept (t' := s1.toks) fun b o e => Heap.get?_push_of_some _ e, turn_list a _, ⟨_, Heap.get?_push_size _ rfl, rfl, rfl⟩, fun b hb => ?_, q⟩
    have e : b = s1.heap.objs.size := by simpa using hb
    subst e
    exact I1.fpOk (Nat.le_refl _) (I1.hok.fresh (Nat.le_refl _))
  · subst e
    cases r1
    obtain ⟨its, rv, p, hz⟩ := I1.tuple hq
    refine wpAny_pyIter_tuple (show s1.heap.IsTuple a its.toArray from p) ?_
    refine ⟨s1.heap.objs.size, [s1.heap.objs.size], _, _, H1, rfl, I1.kept (t' := s1.toks) fun b o e => Heap.get?_push_of_some _ e, turn_tuple a _, ⟨_, Heap.get?_push_size _ rfl, rfl, rfl⟩, fun b hb => ?_, q⟩
    have e : b = s1.heap.objs.size := by simpa using hb
    subst e
    exact I1.fpOk (Nat.le_refl _) (I1.hok.fresh (Nat.le_refl _))
theorem si_seq {tg e : Expr} {fe : EM} (he : SE X E e fe) : SI X E tg e (Mi.iSeq fe) := by
  refine PI.mono (pi_seq he) fun σ H R ⟨fr, S, m, rf, rs, p⟩ => ?_
  refine rd_bind rf rs p fun x S1 m1 H1 e1 rf1 rs1 p1 v hv => ?_
  cases hv with
  | tup ha r => exact .inr ⟨_, rfl, ⟨_, .inl (.inl ha)⟩, p1.here rs1 _ (walkd_tup (fun m H e => .inl (.inl (e.ts _ _ ha))) r)⟩
  | wtp ha r => exact .inr ⟨_, rfl, ⟨_, sqt0 ha⟩, p1.here rs1 _ (walkd_tup (fun m H e => sqt0 ha) r)⟩
  | ref ha =>
    dsimp only at p1
    split at p1
    · rename_i l hl
      obtain ⟨xs, h1, _⟩ := rs1.lst ha hl
      exact .inl ⟨_, rfl, ⟨xs, h1⟩, p1.here rs1 _ (walkd_list ha)⟩
    · exact p1.elim
  | _ => exact p1.elim
theorem si_str {tg e : Expr} {fe : EM} (he : SE X E e fe) : SI X E tg e (Mi.iStr fe) := by
  refine PI.mono (pi_str he) fun σ H R ⟨fr, S, m, rf, rs, p⟩ => ?_
  refine rd_bind rf rs p fun x S1 m1 H1 e1 rf1 rs1 p1 v hv => ?_
  cases hv with
  | str z => exact ⟨_, rfl, p1.here rs1 _ walkd_str⟩
  | _ => exact p1.elim
theorem si_rng1 {tg a : Expr} {fa : AM} {p pos : Pos} (hg : Gl X "range") (hm : X.mg "range" = none) (ha : SA X E [a] fa) (hs : starEach [a] X.env = [(false, eval a X.env)] := by rfl) : SI X E tg (.Call (.Name "range" p) [a] [] pos) (Mi.iRng1 fa) := by
  refine PI.mono (pi_range1 hg hm ha hs) fun σ H R ⟨fr, S, m, rf, rs, p⟩ => ?_
  refine rdA_bind rf rs p fun ds S1 m1 H1 e1 rf1 rs1 p1 vs hv => ?_
  split at p1
  · rename_i j
    obtain ⟨v, rfl, h⟩ := rel1 hv
    cases h
    split at p1
    · rename_i hj
      exact ⟨j, rfl, hj.1, hj.2, p1.here rs1 _ walkd_rng⟩
    · exact p1.elim
  · exact p1.elim
theorem si_rng2 {tg a b : Expr} {fa : AM} {p pos : Pos} (hg : Gl X "range") (hm : X.mg "range" = none) (ha : SA X E [a, b] fa) (hs : starEach [a, b] X.env = [(false, eval a X.env), (false, eval b X.env)] := by rfl) (hs2 : starEach [b] X.env = [(false, eval b X.env)] := by rfl) : SI X E tg (.Call (.Name "range" p) [a, b] [] pos) (Mi.iRng2 fa) := by
  refine PI.mono (pi_range2 hg hm ha hs hs2) fun σ H R ⟨fr, S, m, rf, rs, p⟩ => ?_
  refine rdA_bind rf rs p fun ds S1 m1 H1 e1 rf1 rs1 p1 vs hv => ?_
  split at p1
  · rename_i i j
    obtain ⟨v, w, rfl, h, h'⟩ := rel2 hv
    cases h
    cases h'
    split at p1
    · rename_i hj
      exact ⟨i, j, rfl, ⟨hj.1.1, hj.1.2, hj.2.1, hj.2.2⟩, p1.here rs1 _ walkd_rng⟩
    · exact p1.elim
  · exact p1.elim
theorem rel3 {K : PySem.W.Frag} {H : Hp} {m : List Addr} {d e f : D} {vs : List V} (h : RelL K H m [d, e, f] vs) : ∃ v w u, vs = [v, w, u] ∧ RelD K H m d v ∧ RelD K H m e w ∧ RelD K H m f u := by
  cases h with
  | cons h t =>
    obtain ⟨w, u, rfl, h2, h3⟩ := rel2 t
    exact ⟨_, w, u, rfl, h, h2, h3⟩
theorem si_rngD {tg a b d : Expr} {fa : AM} {p pos : Pos} (hg : Gl X "range") (hm : X.mg "range" = none) (ha : SA X E [a, b, d] fa) (hs : starEach [a, b, d] X.env = (false, eval a X.env) :: starEach [b, d] X.env := by rfl) (hpl : (backTo pos (starEach [b, d] X.env)).any (·.1) = false := by rfl) : SI X E tg (.Call (.Name "range" p) [a, b, d] [] pos) (Mi.iRngD fa) := by
  refine PI.mono (pi_range3 hg hm ha hs hpl) fun σ H R ⟨fr, S, m, rf, rs, p⟩ => ?_
  refine rdA_bind rf rs p fun ds S1 m1 H1 e1 rf1 rs1 p1 vs hv => ?_
  split at p1
  · rename_i i j k
    obtain ⟨v, w, u, rfl, h, h', h''⟩ := rel3 hv
    cases h
    cases h'
    cases h''
    split at p1
    · rename_i hj
      obtain ⟨h1, h2, rfl⟩ := hj
      exact ⟨i, j, -1, _, rfl, RgC.neg h1.1 h1.2 h2.1 h2.2, p1.here rs1 _ walkd_rngD⟩
    · exact p1.elim
  · exact p1.elim
theorem si_enum {e : Expr} {fe : AM} {p pos tpos : Pos} {elts : List Expr} {kk : Nat} (hg : Gl X "enumerate") (hm : X.mg "enumerate" = none) (ha : SA X E [e] fe) (hs : starEach [e] X.env = [(false, eval e X.env)] := by rfl) : SI X E (.Tuple elts kk tpos) (.Call (.Name "enumerate" p) [e] [] pos) (Mi.iEnum fe) := by
  refine PI.mono (pi_enum hg hm ha hs) fun σ H R ⟨fr, S, m, rf, rs, p⟩ => ?_
  refine rdA_bind rf rs p fun ds S1 m1 H1 e1 rf1 rs1 p1 vs hv => ?_
  split at p1
  · obtain ⟨v, rfl, h⟩ := rel1 hv
    cases h with
    | ref ha =>
      split at p1
      · rename_i l hl
        obtain ⟨xs, h1, _⟩ := rs1.lst ha hl
        exact ⟨_, xs, rfl, h1, p1.here rs1 _ (walkd_enum ha)⟩
      · exact p1.elim
  · exact p1.elim
theorem si_zip {e e2 : Expr} {fe : AM} {p pos tpos : Pos} {elts : List Expr} {kk : Nat} (hg : Gl X "zip") (hm : X.mg "zip" = none) (ha : SA X E [e, e2] fe) (hs : starEach [e, e2] X.env = (false, eval e X.env) :: starEach [e2] X.env := by rfl) (hpl : (backTo pos (starEach [e2] X.env)).any (·.1) = false := by rfl) : SI X E (.Tuple elts kk tpos) (.Call (.Name "zip" p) [e, e2] [] pos) (Mi.iZip fe) := by
  refine PI.mono (pi_zip hg hm ha hs hpl) fun σ H R ⟨fr, S, m, rf, rs, p⟩ => ?_
  refine rdA_bind rf rs p fun ds S1 m1 H1 e1 rf1 rs1 p1 vs hv => ?_
  split at p1
  · obtain ⟨v, w, rfl, h, h'⟩ := rel2 hv
    cases h with
    | ref ha =>
      cases h' with
      | ref ha' =>
        split at p1
        · rename_i l r hl hr
          obtain ⟨xs, h1, _⟩ := rs1.lst ha hl
          obtain ⟨ys, h2, _⟩ := rs1.lst ha' hr
          exact ⟨_, _, xs, ys, rfl, h1, h2, p1.here rs1 _ (walkd_zip ha ha')⟩
        · exact p1.elim
  · exact p1.elim
theorem si_rev {tg e : Expr} {fe : AM} {p pos : Pos} (hg : Gl X "reversed") (hm : X.mg "reversed" = none) (ha : SA X E [e] fe) (hs : starEach [e] X.env = [(false, eval e X.env)] := by rfl) : SI X E tg (.Call (.Name "reversed" p) [e] [] pos) (Mi.iRev fe) := by
  refine PI.mono (pi_reversed hg hm ha hs) fun σ H R ⟨fr, S, m, rf, rs, p⟩ => ?_
  refine rdA_bind rf rs p fun ds S1 m1 H1 e1 rf1 rs1 p1 vs hv => ?_
  split at p1
  · obtain ⟨v, rfl, h⟩ := rel1 hv
    cases h with
    | ref ha =>
      split at p1
      · rename_i l hl
        obtain ⟨xs, h1, h2⟩ := rs1.lst ha hl
        exact ⟨_, xs, rfl, h1, p1.here rs1 _ (by rw [← h2.len]; exact walkd_rev ha)⟩
      · exact p1.elim
  · exact p1.elim

/-! ### loops -/
theorem ss_for {tg iter : Expr} {body : List Stmt} {fi : IM} {g : GM} {b : SM} (hp : PassesOwn (model X.prog X.w) X.A X.env X.xe) (hc : X.calm = true) (hi : SI X E tg iter fi) (hg : SG X E tg g) (hb : SSs X E body b)
    (hs : ∀ x, foldedSetIterable iter X.env x = pure x := by intro _; rfl) : SS X E (.For tg iter body [] pos) (sFor fi g b) := by
  refine PS.mono (ps_for hp hc hi hg hb hs) fun D σ H ⟨fr, S, m, rf, rs, p⟩ => ?_
  refine ⟨fr, S, m, rf, rs, (post_bind p).imp fun I S1 m1 H1 e1 rs1 p1 J w => ?_⟩
  refine ⟨fun i k σ' H' => i ≤ I.items.length ∧ k = I.items.length - i ∧ ∃ fr' S' m', Ext m1 H1 m' H' ∧ RF X.K H' m' fr' σ' ∧ RS (cx X) m' S' H' ∧ Post (cx X) E m' H' (loopM I.hs (fun d fr S => (g d fr S).bind fun fr' S' => b fr' S') (I.items.drop i) fr' S') (kS (cx X) D),
    ⟨I.items.length, Nat.zero_le _, rfl, fr, S1, m1, Ext.refl _ _, rf.mono e1, rs1, p1⟩, fun i k σ' H' hw => ?_⟩
  obtain ⟨hi', hk, fr', S', m', e2, rf2, rs2, p2⟩ := hw
  by_cases hlt : i < I.items.length
  · have hd : I.items.drop i = I.items[i] :: I.items.drop (i + 1) := List.drop_eq_getElem_cons hlt
    rw [hd] at p2
    unfold loopM at p2
    split at p2
    · rename_i st
      have st := of_dec st
      refine .inr ⟨w.go i m' S' H' hlt e2 rs2 st, fun σ2 H2 => ∃ fr2 S2 m2, Ext m1 H1 m2 H2 ∧ RF X.K H2 m2 fr2 σ2 ∧ RS (cx X) m2 S2 H2 ∧ Post (cx X) E m2 H2 (loopM I.hs (fun d fr S => (g d fr S).bind fun fr' S' => b fr' S') (I.items.drop (i + 1)) fr2 S2) (kS (cx X) D),
        fun σ2 H2 q => ⟨I.items.length - (i + 1), by omega, by omega, rfl, q⟩, fun x H'' y => ?_⟩
      obtain ⟨e3, rs3, r3⟩ := w.yld i m' S' H' x H'' _ (List.getElem?_eq_getElem hlt) e2 rs2 st y
      refine ⟨_, fr', S', m', r3, rf2.mono e3, rs3, (post_bind (post_bind p2)).ext e3 |>.imp fun fr2 S2 m2 H2 e4 rs4 p4 σ2 rf4 => ?_⟩
      refine ⟨fr2, S2, m2, rf4, rs4, p4.imp fun o S3 m3 H3 e5 rs5 p5 => ?_⟩
      have ee : Ext m1 H1 m3 H3 := ((e2.trans e3).trans e4).trans e5
      cases o with
      | nx fr3 => exact fun σ3 rf5 => ⟨fr3, S3, m3, ee, rf5, rs5, p5⟩
      | ct fr3 => exact fun σ3 rf5 => ⟨fr3, S3, m3, ee, rf5, rs5, p5⟩
      | bk fr3 => exact p5.here rs5
      | rt d => exact p5.here rs5
    · exact p2.elim
  · have e : i = I.items.length := by omega
    subst e
    rw [List.drop_length] at p2
    unfold loopM at p2
    split at p2
    · rename_i st
      exact .inl ⟨w.stop m' S' H' e2 rs2 (of_dec st), p2.here rs2 σ' rf2⟩
    · exact p2.elim
theorem ss_while {t : Expr} {body : List Stmt} {ft : TM} {b : SM} (hp : PassesOwn (model X.prog X.w) X.A X.env X.xe) (ht : STt X E t ft) (hb : SSs X E body b) : SS X E (.While t body [] pos) (sWhile ft b) := by
  refine PS.mono (ps_while hp ht hb) fun D σ H ⟨fr, S, m, rf, rs, p⟩ => ?_
  unfold sWhile at p
  split at p
  · rename_i hex
    refine ⟨fun k σ' H' => ∃ fr' S' m', RF X.K H' m' fr' σ' ∧ RS (cx X) m' S' H' ∧ Post (cx X) E m' H' (whileN ft b k fr' S') (kS (cx X) D), ⟨_, fr, S, m, rf, rs, p⟩, fun k σ' H' hw => ?_⟩
    obtain ⟨fr', S', m', rf2, rs2, p2⟩ := hw
    cases k with
    | zero => exact p2.elim
    | succ k =>
      unfold whileN at p2
      refine rdT_bind rf2 rs2 p2 fun c S1 m1 H1 e1 rf1 rs1 p1 => ?_
      cases c with
      | true =>
        refine ⟨fun σ2 H2 => ∃ fr2 S2 m2, RF X.K H2 m2 fr2 σ2 ∧ RS (cx X) m2 S2 H2 ∧ Post (cx X) E m2 H2 (whileN ft b k fr2 S2) (kS (cx X) D), fun σ2 H2 q => ⟨k, Nat.lt_succ_self k, q⟩, fr', S1, m1, rf1, rs1, (post_bind p1).imp fun o S3 m3 H3 e5 rs5 p5 => ?_⟩
        cases o with
        | nx fr3 => exact fun σ3 rf5 => ⟨fr3, S3, m3, rf5, rs5, p5⟩
        | ct fr3 => exact fun σ3 rf5 => ⟨fr3, S3, m3, rf5, rs5, p5⟩
        | bk fr3 => exact p5.here rs5
        | rt d => exact p5.here rs5
      | false => exact p1.here rs1 σ' rf1
  · exact p.elim

/-! ### comprehensions -/
theorem wipe_get {σ : L2.St} : ∀ {vs : List Nat} (j : Nat), (wipe σ vs)[j]? = if j ∈ vs ∧ j < σ.length then some none else σ[j]?
  | [], j => by simp [wipe]
  | v :: vs, j => by
    unfold wipe
    by_cases e : v = j
    · subst e
      by_cases h : v < σ.length
      · rw [List.getElem?_set_self (by rw [wipe_length]; exact h), if_pos ⟨List.mem_cons_self, h⟩]
      · rw [if_neg fun z => h z.2, List.getElem?_eq_none (by rw [List.length_set, wipe_length]; omega), List.getElem?_eq_none (by omega)]
    · rw [List.getElem?_set_ne e, wipe_get j]
      by_cases h : j ∈ vs ∧ j < σ.length
      · rw [if_pos h, if_pos ⟨List.mem_cons_of_mem _ h.1, h.2⟩]
      · rw [if_neg h, if_neg fun z => h ⟨(List.mem_cons.mp z.1).resolve_left (Ne.symm e), z.2⟩]
theorem wipe_of {σ τ : L2.St} {vs : List Nat} (hl : τ.length = σ.length) (h : ∀ j, j ∉ vs → τ[j]? = (wipe σ vs)[j]?) : wipe τ vs = wipe σ vs := by
  refine List.ext_getElem? fun j => ?_
  rw [wipe_get]
  by_cases hj : j ∈ vs ∧ j < τ.length
  · rw [if_pos hj, wipe_get, if_pos ⟨hj.1, by rw [← hl]; exact hj.2⟩]
  · rw [if_neg hj]
    by_cases hv : j ∈ vs
    · have : ¬ j < τ.length := fun z => hj ⟨hv, z⟩
      rw [List.getElem?_eq_none (by omega), List.getElem?_eq_none (by rw [wipe_length]; omega)]
    · exact h j hv
/-- a target that stores nothing but at the slots vs -/
def GOnly (c : Ct) (vs : List Nat) (g : TG) (gm : GM) : Prop := ∀ (x : V) (d : D) (fr : Fr) (S : Store) (m : List Addr) (σ : L2.St) (H : Hp) (E : XK) (k : Fr → Store → List Addr → Hp → Prop) (Q : L2.St → Hp → Prop),
  RelD c.K H m d x → RF c.K H m fr (wipe σ vs) → RS c m S H → Post c E m H (gm d fr S) k → (∀ fr' σ2, RF c.K H m fr' σ2 → wipe σ2 vs = wipe σ vs → k fr' S m H → Q σ2 H) → g x (wipe σ vs) H Q
theorem gonly_name {c : Ct} {i : Nat} {vs : List Nat} (hi : i ∈ vs) : GOnly c vs (L2.gName i) (Mi.gName i) := by
  intro x d fr S m σ H E k Q r rf rs p h
  refine h _ _ (rf.set r i) (wipe_of (by rw [List.length_set, wipe_length]) fun j hj => ?_) (p.here rs)
  rw [List.getElem?_set_ne (fun e => hj (by rw [← e]; exact hi))]
theorem gonly_two {c : Ct} {i j : Nat} {vs : List Nat} (hi : i ∈ vs) (hj : j ∈ vs) : GOnly c vs (fun v σ H Q => L2.gTup c.K 2 (L2.gCons (L2.gName i) (L2.gCons (L2.gName j) L2.gNil)) v σ H Q ∨ gUnl c.K 2 (L2.gCons (L2.gName i) (L2.gCons (L2.gName j) L2.gNil)) v σ H Q) (Mi.gTup 2 (Mi.gCons (Mi.gName i) (Mi.gCons (Mi.gName j) Mi.gNil))) := by
  intro x d fr S m σ H E k Q r rf rs p h
  unfold Mi.gTup at p
  split at p
  · rename_i l hl
    split at p
    · rename_i hlen
      match l, hlen with
      | [a, b], _ =>
        obtain ⟨ad, xs, rfl, h1, h2⟩ := seq_rel rs r hl
        obtain ⟨v, w, rfl, h3, h4⟩ := rel2 h2
        have fin := h _ _ ((rf.set h3 i).set h4 j) (wipe_of (by rw [List.length_set, List.length_set, wipe_length]) fun j' hj' => by
          rw [List.getElem?_set_ne (fun e => hj' (by rw [← e]; exact hj)), List.getElem?_set_ne (fun e => hj' (by rw [← e]; exact hi))]) (p.here rs)
        rcases h1 with h1 | h1
        · exact .inr ⟨ad, _, rfl, h1, rfl, v, [w], rfl, w, [], rfl, rfl, fin⟩
        · exact .inl ⟨ad, _, rfl, h1, rfl, v, [w], rfl, w, [], rfl, rfl, fin⟩
    · exact p.elim
  · exact p.elim
theorem lc_rd {c : Ct} {vs : List Nat} {fi : IM} {g : TG} {gm : GM} {ft : TM} {fe : EM} (ho : GOnly c vs g gm) {σ : L2.St} {H : Hp} {Q : VK} (h : rdE c E (mLc vs fi gm ft fe) σ H Q) : tLc (rdI c E fi) g (rdT c EF ft) (rdE c EF fe) vs σ H Q := by
  obtain ⟨fr, S, m, rf, rs, p⟩ := h
  refine ⟨fr, S, m, rf, rs, (post_bind p).imp fun I S1 m1 H1 e1 rs1 p1 J w Dl hDl => ?_⟩
  obtain ⟨rs2, e2⟩ := rs1.push (o := .lst []) (u := .lst []) hDl ⟨[], upd_same, .nil⟩
  have hn : ∀ {m'' : List Addr} {H'' : Hp}, Ext (m1 ++ [Dl]) (upd H1 Dl (.lst [])) m'' H'' → m''[S1.length]? = some Dl := fun e => e.mx _ _ (by rw [← rs1.len, List.getElem?_append_right (Nat.le_refl _), Nat.sub_self]; rfl)
  refine ⟨fun i k H' => i ≤ I.items.length ∧ k = I.items.length - i ∧ ∃ S' m', Ext (m1 ++ [Dl]) (upd H1 Dl (.lst [])) m' H' ∧ RS c m' S' H' ∧ Post c E m' H' (lcLoop I.hs S1.length gm (fun fr S => quiet (ft fr S)) (fun fr S => quiet (fe fr S)) (unset vs fr) (I.items.drop i) S') (kE c Q),
    ⟨I.items.length, Nat.zero_le _, rfl, S1 ++ [.lst []], _, Ext.refl _ _, rs2, (show _ from by rw [List.drop_zero]; exact Post.ext p1 e2)⟩, fun i k H' hw => ?_⟩
  obtain ⟨hi', hk, S', m', e3, rs3, p3⟩ := hw
  have e13 : Ext m1 H1 m' H' := e2.trans e3
  have rfw : RF c.K H' m' (unset vs fr) (wipe σ vs) := ((rf.mono (e1.trans e13)).unset vs)
  by_cases hlt : i < I.items.length
  · have hd : I.items.drop i = I.items[i] :: I.items.drop (i + 1) := List.drop_eq_getElem_cons hlt
    rw [hd] at p3
    unfold lcLoop at p3
    split at p3
    · rename_i st
      have st := of_dec st
      refine .inr ⟨w.go i m' S' H' hlt e13 rs3 st, fun H2 => ∃ S2 m2, Ext (m1 ++ [Dl]) (upd H1 Dl (.lst [])) m2 H2 ∧ RS c m2 S2 H2 ∧ Post c E m2 H2 (lcLoop I.hs S1.length gm (fun fr S => quiet (ft fr S)) (fun fr S => quiet (fe fr S)) (unset vs fr) (I.items.drop (i + 1)) S2) (kE c Q),
        fun H2 q => ⟨I.items.length - (i + 1), by omega, by omega, rfl, q⟩, fun x H'' y => ?_⟩
      obtain ⟨e4, rs4, r4⟩ := w.yld i m' S' H' x H'' _ (List.getElem?_eq_getElem hlt) e13 rs3 st y
      refine ho x _ (unset vs fr) S' m' σ H'' E _ _ r4 (rfw.mono e4) rs4 ((post_bind p3).ext e4) fun fr2 σ2 rf2 hw2 p5 => ⟨hw2, ?_⟩
      refine ⟨fr2, S', m', rf2, rs4, (post_quiet (post_bind p5)).imp fun b S6 m6 H6 e6 rs6 p6 => ?_⟩
      have e36 : Ext (m1 ++ [Dl]) (upd H1 Dl (.lst [])) m6 H6 := (e3.trans e4).trans e6
      cases b with
      | true =>
        refine ⟨fr2, S6, m6, rf2.mono e6, rs6, (post_quiet (post_bind p6)).imp fun z S7 m7 H7 e7 rs7 p7 zv hz => ?_⟩
        have e37 := e36.trans e7
        split at p7
        · rename_i acc hacc
          obtain ⟨ys, h1, h2⟩ := rs7.mlst (hn e37) hacc
          split at p7
          · rename_i hl
            obtain ⟨rs8, e8⟩ := rs7.set (o' := .lst (acc ++ [z])) (u := .lst (ys ++ [zv])) (hn e37) hacc trivial trivial fun e => ⟨_, upd_same, (h2.mono e).app (.one (hz.mono e))⟩
            exact ⟨ys, h1, by rw [← h2.len, line_eq]; exact hl, _, m7, e37.trans e8, rs8, p7.ext e8⟩
          · exact p7.elim
        · exact p7.elim
      | false => exact ⟨S6, m6, e36, rs6, p6⟩
    · exact p3.elim
  · have e : i = I.items.length := by omega
    subst e
    rw [List.drop_length] at p3
    unfold lcLoop at p3
    split at p3
    · rename_i st
      exact .inl ⟨w.stop m' S' H' e13 rs3 (of_dec st), p3.here rs3 _ (.ref (hn e3))⟩
    · exact p3.elim
/-- a context of a comprehension's block -/
abbrev Blk (X : Cx) (scope : Scope) (P : Cx → Prop) : Prop := ∀ (s : Shared) (H : Hp) (C : Addr) (cl : List (Str × Addr)) (fp : List Addr), P (X.blk s H scope (compEnvC scope cl C X.env) fp)
theorem sts_nil {X : Cx} : PTs X [] (rdT (cx X) EF Mi.tYes) := ⟨fun pins s σ H Q I ⟨fr, S, m, rf, rs, p⟩ => pts_nil.run pins s σ H Q I (p.here rs)⟩
theorem sts_one {X : Cx} {t : Expr} {ft : TM} (h : STt X EF t ft) : PTs X [t] (rdT (cx X) EF ft) := pts_one h
theorem se_lc {elt tg iter : Expr} {ifs : List Expr} {scope : Scope} {own : List (Str × Nat)} {fi : IM} {g : TG} {gm : GM} {ft : TM} {fe : EM} (hc : X.calm = true) (hN : X.N.Nodup) (hi : SI X E tg iter fi) (ok : BlkOk X.N X.env.scope scope own) (ho : GOnly (cx X) (own.map (·.2)) g gm)
    (hg : Blk X scope fun Y => PG Y tg g) (ht : Blk X scope fun Y => PTs Y ifs (rdT (cx X) EF ft)) (he : Blk X scope fun Y => PE Y elt (rdE (cx X) EF fe)) (hs : ∀ x, foldedSetIterable iter X.env x = pure x := by intro _; rfl) : SE X E (.ListComp elt [⟨tg, iter, ifs, 0⟩] scope pos) (mLc (own.map (·.2)) fi gm ft fe) :=
  PE.mono (pe_lc hc hN hi ok hg ht he hs) fun σ H Q h => lc_rd ho h
theorem ss_setLc {i : Nat} {y : Str} {py spos : Pos} {elt tg iter : Expr} {ifs : List Expr} {scope : Scope} {own : List (Str × Nat)} {fi : IM} {g : TG} {gm : GM} {ft : TM} {fe : EM} (hc : X.calm = true) (hN : X.N.Nodup) (hy : X.N[i]? = some y) (hyl : X.env.scope.names.lookup y = some .local)
    (hsw : swapsWith (.ListComp elt [⟨tg, iter, ifs, 0⟩] scope pos) (some (.Name y py)) spos.line X.env = pure true) (hi : SI X E tg iter fi) (ok : BlkOk X.N X.env.scope scope own) (ho : GOnly (cx X) (own.map (·.2)) g gm)
    (hg : Blk X scope fun Y => PG Y tg g) (ht : Blk X scope fun Y => PTs Y ifs (rdT (cx X) EF ft)) (he : Blk X scope fun Y => PE Y elt (rdE (cx X) EF fe)) (hs : ∀ x, foldedSetIterable iter X.env x = pure x := by intro _; rfl) : SS X E (.Assign [.Name y py] (.ListComp elt [⟨tg, iter, ifs, 0⟩] scope pos) spos) (sAsg (mLc (own.map (·.2)) fi gm ft fe) (Mi.gName i)) := by
  refine PS.mono (ps_setLc hc hN hy hyl hsw hi ok hg ht he hs) fun D σ H ⟨fr, S, m, rf, rs, p⟩ => ?_
  refine lc_rd ho (rd_bind rf rs p fun x S1 m1 H1 e1 rf1 rs1 p1 v hv => ?_)
  exact (post_bind p1).here rs1 |>.here rs1 _ (rf1.set hv i)
end

/-! ### a def -/
theorem start_rel {c : Ct} {H : Hp} {m : List Addr} {N : List Str} {ds : List D} {vs : List V} (r : RelL c.K H m ds vs) : RF c.K H m (startF N.length ds) (L2.start N vs) := by
  unfold startF L2.start
  have hl := r.len
  refine ⟨by rw [List.length_append, List.length_append, List.length_map, List.length_map, List.length_replicate, List.length_replicate, hl], fun i d e => ?_⟩
  by_cases h : i < ds.length
  · rw [List.getElem?_append_left (by rw [List.length_map]; exact h), List.getElem?_map] at e
    obtain ⟨d', h1, h2⟩ := Option.map_eq_some_iff.mp e
    cases h2
    obtain ⟨v, h3, h4⟩ := r.ix h1
    exact ⟨v, by rw [List.getElem?_append_left (by rw [List.length_map, ← hl]; exact h), List.getElem?_map, h3]; rfl, h4⟩
  · rw [List.getElem?_append_right (by rw [List.length_map]; omega)] at e
    obtain ⟨h1, h2⟩ := List.getElem?_eq_some_iff.mp e
    rw [List.getElem_replicate] at h2
    cases h2
section
variable {P : Program} {w : World} {K : PySem.W.Frag} {mg : Str → Option Value} {base : Heap}
theorem fn_ok {x qual : Str} {st : Stmt} {f : Addr} {fd : FuncData} {N ps : List Str} {k : Nat} {b : SM} (F : Fun K x qual st f fd) (S : FnScope N ps (defScope st))
    (hb : ∀ (cdv : Value) (A : Around) (outer : List Env) (s : Shared) (H : Hp) (E : XK), Room k (A.deeper (envOfC qual (defScope st) s.heap.objs.size f cdv)) → SSs (cxOf CX0 P w K mg base N qual (defScope st) f cdv A outer s H E).nox EF (defBody st) b) :
    FnOk P w K mg base CX0 (k + 1) f fd ps (spM ⟨K, mg⟩ (mDef ps.length N.length b)) := by
  refine F.ok S (fun vs H Q E h => ?_) (fun cdv A outer s H vs Q E hr h => ?_)
  · obtain ⟨ds, S', m, r, rs, p⟩ := h
    have p := post_quiet (E' := E) p
    unfold mDefX at p
    split at p
    · rename_i hl
      rw [← r.len]; exact hl
    · exact p.elim
  · obtain ⟨ds, S', m, r, rs, p⟩ := h
    have p := post_quiet (E' := EF) p
    unfold mDefX at p
    split at p
    · refine ⟨_, hb cdv A outer s H E hr, startF N.length ds, S', m, start_rel (c := ⟨K, mg⟩) r, rs, (post_bind p).imp fun o S1 m1 H1 e1 rs1 p1 => ?_⟩
      cases o with
      | nx fr => exact fun σ rf => p1.here rs1 _ .non
      | rt d => exact fun v hv => p1.here rs1 v hv
      | bk fr => exact p1.elim
      | ct fr => exact p1.elim
    · exact p.elim
end
end Sm

set_option Elab.async false
set_option linter.all false
set_option maxRecDepth 100000
set_option maxHeartbeats 2000000
/-! readings by the small language: texts, a few words more -/
namespace Sm
open PySem PySem.Spec PyProof.Rows L2 Mi
theorem hu65 {A : Around} {k : Nat} (hr : Room k A) : A.units + 65 < cLine := by
  have := hr.un
  omega
section
variable {X : Cx} {E : XK}
theorem txs_rel {K : PySem.W.Frag} {H : Hp} {m : List Addr} : ∀ {l : List D} {xs : List V} {ns : List Tx}, RelL K H m l xs → txsOf l = some ns → xs = (ns.map sOf).map V.str
  | _, _, _, .nil, e => by simp only [txsOf, Option.some.injEq] at e; subst e; rfl
  | _, _, ns, .cons (d := d) h t, e => by
    cases h <;> simp only [txsOf, reduceCtorEq] at e
    obtain ⟨r, e1, e2⟩ := Option.map_eq_some_iff.mp e
    subst e2
    rw [List.map_cons, List.map_cons, ← txs_rel t e1]
theorem tl_sOf (a : Tx) : TL.tl (sOf a) = a := by
  show a.toArray.toList = a
  simp
theorem joinL_T (a : Tx) : ∀ ys : List Tx, TL.joinL a ys = joinT a ys
  | [] => rfl
  | [_] => rfl
  | x :: y :: r => by
    show x ++ (a ++ TL.joinL a (y :: r)) = x ++ a ++ joinT a (y :: r)
    rw [joinL_T a (y :: r), List.append_assoc]
theorem join_sOf (a : Tx) (ys : List Tx) : Txt.join (sOf a) (ys.map sOf) = sOf (joinT a ys) := by
  have h : TL.tl (Txt.join (sOf a) (ys.map sOf)) = joinT a ys := by
    rw [TL.join_eq, TL.tl_join, tl_sOf, List.map_map, show TL.tl ∘ sOf = id from funext tl_sOf, List.map_id, joinL_T]
  have e : Txt.join (sOf a) (ys.map sOf) = sOf (TL.tl (Txt.join (sOf a) (ys.map sOf))) := by
    show _ = Str.mk _
    simp [TL.tl]
  rw [e, h]
theorem mm_join : MtMm X E "str.join" sJoin := by
  refine ⟨_, mt_join, fun x ds v vs S m H Q rs hv hvs p => ?_⟩
  unfold sJoin at p
  cases hv with
  | str a =>
    dsimp only at p
    split at p
    · rename_i d
      obtain ⟨w, rfl, hw⟩ := rel1 hvs
      split at p
      · rename_i ys hys
        split at p
        · rename_i hl
          obtain ⟨l, h1, h2⟩ := Option.bind_eq_some_iff.mp hys
          obtain ⟨ad, xs, rfl, h3, h4⟩ := seq_rel rs hw h1
          have e := txs_rel h4 h2
          subst e
          refine ⟨sOf a, ad, ys.map sOf, rfl, rfl, h3, ?_, ?_⟩
          · have e1 : ((ys.map sOf).map (·.length)) = ys.map List.length := by
              rw [List.map_map]
              exact List.map_congr_left fun y _ => sOf_len y
            rw [e1, List.length_map, sOf_len]
            exact hl
          · rw [join_sOf]
            exact p.here rs _ (.str _)
        · exact p.elim
      · exact p.elim
    · exact p.elim
  | _ => exact p.elim
theorem mm_sindex : MtMm X E "str.index" sIndex := by
  refine ⟨_, mt_sindex, fun x ds v vs S m H Q rs hv hvs p => ?_⟩
  unfold sIndex at p
  cases hv with
  | str a =>
    dsimp only at p
    split at p
    · rename_i b
      obtain ⟨w, rfl, hw⟩ := rel1 hvs
      cases hw
      split at p
      · rename_i i r hr
        exact ⟨sOf a, sOf b, i, r, rfl, rfl, hr, post_int rs p⟩
      · exact p.elim
    · exact p.elim
  | _ => exact p.elim
/-- reversed(range(n)) -/
theorem si_revrng {tg a : Expr} {fa : EM} {p p2 pos pos2 : Pos} (hg : Gl X "reversed") (hm : X.mg "reversed" = none) (hg2 : Gl X "range") (hm2 : X.mg "range" = none) (ha : SE X E a fa)
    (na : starEach [a] X.env = (false, eval a X.env) :: starEach [] X.env := by rfl) (hs : starEach [.Call (.Name "range" p2) [a] [] pos2] X.env = (false, eval (.Call (.Name "range" p2) [a] [] pos2) X.env) :: starEach [] X.env := by rfl) :
    SI X E tg (.Call (.Name "reversed" p) [.Call (.Name "range" p2) [a] [] pos2] [] pos) (iRevR fa) := by
  refine PI.mono (pi_revR hg hm (prg_1 hg2 hm2 ha na) hs) fun σ H R ⟨fr, S, m, rf, rs, p⟩ => ?_
  refine rd_bind rf rs p fun x S1 m1 H1 e1 rf1 rs1 p1 v hv => ?_
  cases hv with
  | int j =>
    dsimp only at p1
    split at p1
    · rename_i hj
      refine ⟨j, rfl, by decide, by decide, hj.1, hj.2, ?_⟩
      have q := p1.here rs1 (Itc (0 + (((j - 0).toNat : Nat) : Int) - 1) (-1) (j - 0).toNat)
      refine q ?_
      rw [Int.sub_zero, Int.zero_add]
      exact walkd_rngD
    · exact p1.elim
  | _ => exact p1.elim
end
end Sm
namespace Sm
open PySem PySem.Spec PyProof.Rows L2 Mi
/-- the law's own promise: on the script it answers True -/
def spLaw (K : PySem.W.Frag) : Sp := fun vs H Q _ => ∃ (a : Addr) (ns : List Int), vs = [.ref a] ∧ SqL K H a (ns.map V.int) ∧ Only H ∧ ns.length ≤ 63 ∧ ∀ H', Q (.bl true) H'
theorem rel_ints {K : PySem.W.Frag} {H : Hp} {m : List Addr} : ∀ ns : List Int, RelL K H m (ns.map D.int) (ns.map V.int)
  | [] => .nil
  | n :: ns => .cons (.int n) (rel_ints ns)
theorem law_sp {K : PySem.W.Frag} {mg : Str → Option Value} {g : Fn} (pure : ∀ ns : List Int, ns.length ≤ 63 → ∃ S, g [.ref 0] [.fls (ns.map D.int)] = .ok (.bl true) S) :
    ∀ (vs : List V) (H : Hp) (Q : VK) (E : XK), spLaw K vs H Q E → spM ⟨K, mg⟩ g vs H Q E := by
  intro vs H Q E h
  obtain ⟨a, ns, rfl, hS, hO, hl, q⟩ := h
  obtain ⟨S, e⟩ := pure ns hl
  refine ⟨[.ref 0], [.fls (ns.map D.int)], [a], .cons (.ref rfl) .nil, ⟨rfl, fun n b o h1 h2 => ?_, fun n n' b o o' h1 h2 h3 h4 l1 l2 => ?_⟩, ?_⟩
  · cases n with
    | succ n => cases h1
    | zero =>
      cases h1
      cases h2
      refine ⟨ns.map V.int, ?_, rel_ints ns⟩
      rcases hS with (h | ⟨ob, h⟩) | h
      · rcases hO a with z | ⟨ob, xs, z⟩
        · rw [z] at h; cases h
        · rw [z] at h; cases h
      · exact .inl ⟨ob, h⟩
      · exact .inr (.inr h)
  · cases n with
    | succ n => cases h1
    | zero => cases h3; exact l1.elim
  · rw [e]
    intro m' H' _ _ v hv
    cases hv
    exact q H'
end Sm

set_option Elab.async false
set_option linter.all false
set_option maxRecDepth 100000
set_option maxHeartbeats 2000000
/-! more steps against the layer -/
namespace Sm
open PySem PySem.Spec PyProof.Rows L2 Mi
section
variable {X : Cx} {E : XK} {pos : Pos}
/-! ### a dict written with its pairs -/
def trP (c : Ct) (E : XK) (ps : List (EM × EM)) : List (TE × TE) := ps.map fun p => (rdE c E p.1, rdE c E p.2)
structure RelP (K : PySem.W.Frag) (H : Hp) (m : List Addr) (p : D × D) (q : V × V) : Prop where
  fst : RelD K H m p.1 q.1
  snd : RelD K H m p.2 q.2
theorem rdPs_bind {c : Ct} {α : Type} : ∀ (ps : List (EM × EM)) {fr : Fr} {S : Store} {m : List Addr} {σ : L2.St} {H : Hp} {Q : List (V × V) → Hp → Prop} {h : List (D × D) → Store → Res α} {kk : α → Store → List Addr → Hp → Prop},
    RF c.K H m fr σ → RS c m S H → Post c E m H ((mPairs ps fr S).bind h) kk →
    (∀ d S1 m1 H1, Ext m H m1 H1 → RF c.K H1 m1 fr σ → RS c m1 S1 H1 → Post c E m1 H1 (h d S1) kk → ∀ v, Paired (RelP c.K H1 m1) d v → Q v H1) → tPairs (trP c E ps) σ H Q
  | [], fr, S, m, σ, H, Q, h, kk, rf, rs, p, n => n [] S m H (Ext.refl m H) rf rs p [] .nil
  | (a, b) :: r, fr, S, m, σ, H, Q, h, kk, rf, rs, p, n => by
    have p' : Post c E m H ((a fr S).bind fun x S1 => (b fr S1).bind fun y S2 => (mPairs r fr S2).bind fun ps S3 => h ((x, y) :: ps) S3) kk := by
      have e : (mPairs ((a, b) :: r) fr S).bind h = (a fr S).bind fun x S1 => (b fr S1).bind fun y S2 => (mPairs r fr S2).bind fun ps S3 => h ((x, y) :: ps) S3 := by
        show ((a fr S).bind fun x S1 => (b fr S1).bind fun y S2 => (mPairs r fr S2).bind fun ps S3 => .ok ((x, y) :: ps) S3).bind h = _
        rw [Res.bind_assoc]
        congr 1; funext x S1
        rw [Res.bind_assoc]
        congr 1; funext y S2
        rw [Res.bind_assoc]
        rfl
      rw [← e]; exact p
    refine rd_bind rf rs p' fun x S1 m1 H1 e1 rf1 rs1 p1 v hv => ?_
    refine rd_bind rf1 rs1 p1 fun y S2 m2 H2 e2 rf2 rs2 p2 w hw => ?_
    refine rdPs_bind r rf2 rs2 p2 fun d S3 m3 H3 e3 rf3 rs3 p3 vs hvs => ?_
    exact n _ S3 m3 H3 (e1.trans (e2.trans e3)) rf3 rs3 p3 _ (.cons ⟨hv.mono (e2.trans e3), hw.mono e3⟩ hvs)
theorem kvs_of {K : PySem.W.Frag} {H : Hp} {m : List Addr} : ∀ {ps : List (D × D)} {vs : List (V × V)} {kvs : List (Ky × D)}, Paired (RelP K H m) ps vs → kvsM ps = some kvs → ∃ kws : List (Key × V), vs = kws.map (fun kv => (kV kv.1, kv.2)) ∧ Paired (fun a b => b.1 = kyK a.1 ∧ RelD K H m a.2 b.2) kvs kws
  | [], _, kvs, .nil, e => by
    obtain rfl := Option.some.inj e
    exact ⟨[], rfl, .nil⟩
  | (k, v) :: r, _, kvs, .cons hp ht, e => by
    unfold kvsM at e
    cases hk : kyOf k with
    | none => rw [hk] at e; cases e
    | some q =>
      rw [hk, Option.bind_some] at e
      obtain ⟨l, e1, rfl⟩ := Option.map_eq_some_iff.mp e
      obtain ⟨kws, rfl, rk⟩ := kvs_of ht e1
      have hk2 := ky_of hp.fst hk
      rename_i qv
      refine ⟨(kyK q, qv.2) :: kws, ?_, .cons ⟨rfl, hp.snd⟩ rk⟩
      rw [List.map_cons]
      congr 1
      show qv = (kV (kyK q), qv.2)
      rw [← hk2]
theorem merge_rel {K : PySem.W.Frag} {H : Hp} {m : List Addr} : ∀ {kvs : List (Ky × D)} {kws : List (Key × V)} {acc : List (Ky × D)} {acw : List (Key × V)}, Paired (fun a b => b.1 = kyK a.1 ∧ RelD K H m a.2 b.2) kvs kws → RelK K H m kyK acc acw → RelK K H m kyK (kvs.foldl (fun acc kv => dPut acc kv.1 kv.2) acc) (mergeK acw kws)
  | [], _, _, _, .nil, r => r
  | kv :: l, _, acc, acw, .cons (b := b) h t, r => by
    have q := RelK.put (fun _ _ => kyK_inj) r kv.1 h.2
    rw [← h.1] at q
    have z := merge_rel (kvs := l) t q
    exact z
theorem se_dis {keys : List (Option Expr)} {values : List Expr} {ps : List (EM × EM)} (h : PPs X pos keys values (trP (cx X) E ps)) (hall : keys.all (·.isSome) = true) (hl : keys.length = values.length) (h0 : keys ≠ []) (h15 : keys.length ≤ 15) : SE X E (.Dict keys values pos) (mDis ps) := by
  refine PE.mono (pe_disp h hall hl h0 h15) fun σ H Q ⟨fr, S, m, rf, rs, p⟩ a ha => ?_
  obtain ⟨rs0, e0⟩ := rs.push (o := .dK []) (u := .dK []) ha ⟨[], upd_same, .nil⟩
  refine rdPs_bind ps (rf.mono e0) rs0 (p.ext e0) fun d S1 m1 H1 e1 rf1 rs1 p1 vs hvs => ?_
  have hm : m1[S.length]? = some a := e1.mx _ _ (by rw [← rs.len, List.getElem?_append_right (Nat.le_refl _), Nat.sub_self]; rfl)
  unfold disK at p1
  split at p1
  · rename_i _ _ kvs hk hs
    split at p1
    · rename_i h15'
      obtain ⟨kw, h1, h2⟩ := rs1.ob _ a _ hm hs
      cases h2
      obtain ⟨kws, rfl, rk⟩ := kvs_of hvs hk
      obtain ⟨rs2, e2⟩ := rs1.set (o' := .dK (putM kvs)) (u := .dK (mergeK [] kws)) hm hs trivial trivial fun e => ⟨_, upd_same, RelK.mono e (merge_rel rk .nil)⟩
      refine ⟨h1, kws, rfl, by rw [← Paired.length rk]; exact h15', ?_⟩
      exact p1 _ _ e2 rs2 _ (.ref hm)
    · exact p1.elim
  · exact p1.elim
theorem sps_nil : PPs X pos [] [] (trP (cx X) E []) := pps_nil
theorem sps_cons {k v : Expr} {ks : List (Option Expr)} {vs : List Expr} {a b : EM} {r : List (EM × EM)} (hk : SE X E k a) (hv : SE X E v b) (hr : PPs X pos ks vs (trP (cx X) E r)) : PPs X pos (some k :: ks) (v :: vs) (trP (cx X) E ((a, b) :: r)) := pps_cons hk hv hr
end
end Sm

set_option Elab.async false
set_option linter.all false
set_option maxRecDepth 100000
set_option maxHeartbeats 2000000
/-! texts against the layer -/
namespace Sm
open PySem PySem.Spec PyProof.Rows L2 Mi
section
variable {X : Cx} {E : XK} {pos : Pos}
theorem spl_C (c : Nat) : ∀ (l acc : Tx), TL.spl [c] 0 acc l = spC c acc l
  | [], acc => TL.spl_nil _ _ _
  | d :: r, acc => by
    by_cases h : d = c
    · subst h
      rw [TL.spl_hit (by simp [TL.pre]), spC, if_pos rfl]
      exact congrArg _ (spl_C d r [])
    · rw [TL.spl_miss (by simp [TL.pre, h]), spC, if_neg h]
      exact spl_C c r _
theorem par_C (c : Nat) : ∀ (l acc : Tx), TL.par [c] acc l = paC c acc l
  | [], acc => rfl
  | d :: r, acc => by
    by_cases h : d = c
    · subst h
      rw [TL.par_hit (by simp [TL.pre]), paC, if_pos rfl]
      rfl
    · rw [TL.par_miss (by simp [TL.pre, h]), paC, if_neg h]
      exact par_C c r _
theorem tl_s (a : Tx) : TL.tl (sOf a) = a := by simp [TL.tl, sOf]
theorem split_C (a : Tx) (c : Nat) (hc : c < 256) : Txt.split (sOf a) (sOf [c]) = (spC c [] a).map sOf := by
  refine TL.map_tl_inj ?_
  rw [TL.split_spl _ _ (by rw [tl_s]; simp) (TL.kind_ok (by simp [sOf, hc])), tl_s, tl_s, spl_C, List.map_map, show TL.tl ∘ sOf = id from funext tl_s, List.map_id]
theorem strs_rel {K : PySem.W.Frag} {H : Hp} {m : List Addr} : ∀ ys : List Tx, RelL K H m (ys.map D.str) ((ys.map sOf).map V.str)
  | [] => .nil
  | y :: ys => .cons (.str y) (strs_rel ys)
theorem mm_split : MtMm X E "str.split" sSplit := by
  refine ⟨_, mt_split, fun x ds v vs S m H Q rs hv hvs p => ?_⟩
  unfold sSplit at p
  cases hv with
  | str a =>
    dsimp only at p
    split at p
    · rename_i c
      obtain ⟨w, rfl, hw⟩ := rel1 hvs
      cases hw
      split at p
      · rename_i hc
        refine ⟨sOf a, sOf [c], rfl, rfl, rfl, by rw [sOf_len, line_eq]; exact hc.2, ?_⟩
        intro ad hp
        rw [split_C a c hc.1]
        exact post_new rs p hp fun e => ⟨_, upd_same, strs_rel _⟩
      · exact p.elim
    · exact p.elim
  | _ => exact p.elim
theorem mm_partition : MtMm X E "str.partition" sPartition := by
  refine ⟨_, mt_partition, fun x ds v vs S m H Q rs hv hvs p => ?_⟩
  unfold sPartition at p
  cases hv with
  | str a =>
    dsimp only at p
    split at p
    · rename_i c
      obtain ⟨w, rfl, hw⟩ := rel1 hvs
      cases hw
      split at p
      · rename_i hl
        refine ⟨sOf a, sOf [c], rfl, rfl, rfl, by rw [sOf_len, line_eq]; exact hl, ?_⟩
        intro ad hp
        have e := TL.partition_par (sOf a) (sOf [c]) (by rw [tl_s]; simp)
        rw [tl_s, tl_s, par_C] at e
        rw [e]
        split at p
        · rename_i x y hx
          rw [hx]
          exact post_tup rs p hp (.cons (.str _) (.cons (.str _) (.cons (.str _) .nil)))
        · rename_i hx
          rw [hx]
          exact post_tup rs p hp (.cons (.str _) (.cons (.str _) (.cons (.str _) .nil)))
      · exact p.elim
    · exact p.elim
  | _ => exact p.elim
theorem num_s {i : Int} (h : 0 ≤ i) : (Str.ofString (toString i)) = sOf (numT i.toNat) := by
  refine TL.ext_tl ?_
  rw [tl_s]
  have := TL.tl_num i.toNat
  rw [Int.toNat_of_nonneg h] at this
  exact this
theorem post_str {c : Ct} {m : List Addr} {H : Hp} {S : Store} {Q : VK} {i : Tx} (rs : RS c m S H) (p : Post c E m H (.ok (.str i) S) (kE c Q)) : Q (.str (sOf i)) H := p.here rs _ (.str i)
theorem cm_str : CallM X E (.type "str") bStr := by
  refine ⟨_, callr_or call_str_int SkE.call_str_str, fun ds vs S m H Q rs hv p => ?_⟩
  unfold bStr at p
  split at p
  · rename_i i
    obtain ⟨v, rfl, h⟩ := rel1 hv
    cases h
    split at p
    · rename_i hi
      refine .inl ⟨i, rfl, hi.2, ?_⟩
      rw [num_s hi.1]
      exact post_str rs p
    · exact p.elim
  · rename_i s
    obtain ⟨v, rfl, h⟩ := rel1 hv
    cases h
    exact .inr ⟨sOf s, rfl, post_str rs p⟩
  · exact p.elim
theorem cm_intS : CallM X E (.type "int") bIntS := by
  refine ⟨_, call_int_str, fun ds vs S m H Q rs hv p => ?_⟩
  unfold bIntS at p
  split at p
  · rename_i s
    obtain ⟨v, rfl, h⟩ := rel1 hv
    cases h
    split at p
    · rename_i hs
      refine ⟨sOf s, (digV s : Nat), rfl, ?_, by rw [sOf_len]; exact hs.2.2, post_int rs p⟩
      have e : (sOf s).cps.toList = s := by simp [sOf]
      have q := intText_digits (x := sOf s) (by
        rw [e]
        intro c hc
        have := List.all_eq_true.mp hs.1 c hc
        simpa [isDig] using this) (by rw [e]; exact hs.2.1) (by rw [sOf_len]; have := hs.2.2; omega)
      rw [e] at q
      exact q
    · exact p.elim
  · exact p.elim
/-! ### a text so often -/
theorem mul_S (a : Tx) (n : Nat) : Txt.mul (sOf a) (n : Int) = sOf (List.replicate n a).flatten := by
  refine TL.ext_tl ?_
  rw [tl_s]
  unfold Txt.mul
  have fold : ∀ (k : Nat) (acc : Array Nat), ((List.replicate k (sOf a).cps).foldl (· ++ ·) acc).toList = acc.toList ++ (List.replicate k a).flatten := by
    intro k
    induction k with
    | zero => intro acc; simp
    | succ k ih =>
      intro acc
      rw [List.replicate_succ, List.foldl_cons, ih, List.replicate_succ, List.flatten_cons, Array.toList_append]
      simp [sOf]
  by_cases h0 : n = 0
  · subst h0
    rw [if_pos (by decide)]
    rfl
  · rw [if_neg (by omega)]
    split
    · rename_i h
      simp only [Bool.or_eq_true, beq_iff_eq] at h
      rcases h with h | h
      · have : n = 1 := by omega
        subst this
        rw [tl_s]; simp
      · have : a = [] := by rw [sOf_len] at h; exact List.length_eq_zero_iff.mp h
        subst this
        rw [tl_s]
        simp
    · show ((List.replicate (n : Int).toNat (sOf a).cps).foldl (· ++ ·) #[]).toList = _
      rw [Int.toNat_natCast, fold]
      simp
def rMulS : R2 := fun x y H Q => ∃ (a : Str) (k : Int), x = .str a ∧ y = .int k ∧ a.length ≤ 16 ∧ 0 ≤ k ∧ k ≤ ((1048576 : Nat) : Int) ∧ Q (.str (Txt.mul a k)) H
theorem op_mulS : OpR X (binaryOp .Mult) rMulS := by
  intro pins s σ H x y v u Q I rx ry q
  obtain ⟨a, k, rfl, rfl, h1, h2, h3, q⟩ := q
  obtain ⟨t, rfl⟩ := rx
  obtain ⟨t', rfl⟩ := ry
  exact PySem.W.KXi.mul rfl h1 (by omega) h3 fun t' k' _ _ => ⟨.str (Txt.mul a k), H, I.tok _, ⟨_, rfl⟩, q⟩
theorem om_mulS : OpM X E (binaryOp .Mult) oMulS := by
  refine ⟨_, op_mulS, fun x y v u S m H Q rs hv hw p => ?_⟩
  cases hv with
  | str a => cases hw with
    | int k =>
      unfold oMulS at p
      dsimp only at p
      split at p
      · rename_i h
        refine ⟨sOf a, k, rfl, rfl, by rw [sOf_len]; exact h.1, h.2.1, h.2.2, ?_⟩
        have e := mul_S a k.toNat
        rw [Int.toNat_of_nonneg h.2.1] at e
        rw [e]
        exact post_str rs p
      · exact p.elim
    | _ => exact p.elim
  | _ => exact p.elim
/-! ### f-strings -/
theorem se_fmt {e : Expr} {f : EM} (h : SE X E e f) : SE X E (.FormattedValue e (-1) none pos) (mUn fmtD f) := by
  refine PE.mono (pe_fmt h) fun σ H Q ⟨fr, S, m, rf, rs, p⟩ => ?_
  refine rd_bind rf rs p fun x S1 m1 H1 e1 rf1 rs1 p1 v hv => ?_
  unfold fmtD at p1
  cases hv with
  | str s =>
    dsimp only at p1
    split at p1
    · rename_i hl
      exact .inl ⟨sOf s, rfl, by rw [sOf_len, line_eq]; exact hl, post_str rs1 p1⟩
    · exact p1.elim
  | int i =>
    dsimp only at p1
    split at p1
    · rename_i hi
      refine .inr ⟨i, rfl, hi.2, ?_⟩
      rw [num_s hi.1]
      exact post_str rs1 p1
    · exact p1.elim
  | _ => exact p1.elim
def trJ (c : Ct) (E : XK) (l : List EM) : List TE := l.map fun f => rdE c E f
theorem app_sOf (a b : Tx) : sOf a ++ sOf b = sOf (a ++ b) := by
  refine TL.ext_tl ?_
  rw [TL.tl_append, tl_s, tl_s, tl_s]
theorem rdJ {c : Ct} : ∀ (l : List EM) (acc : Tx) {fr : Fr} {S : Store} {m : List Addr} {σ : L2.St} {H : Hp} {Q : VK},
    RF c.K H m fr σ → RS c m S H → Post c E m H (mJs l acc fr S) (kE c Q) → tJs (trJ c E l) (sOf acc) σ H fun out H1 => Q (.str out) H1
  | [], acc, fr, S, m, σ, H, Q, rf, rs, p => post_str rs p
  | f :: r, acc, fr, S, m, σ, H, Q, rf, rs, p => by
    refine rd_bind rf rs p fun x S1 m1 H1 e1 rf1 rs1 p1 v hv => ?_
    cases hv with
    | str s =>
      dsimp only at p1
      split at p1
      · rename_i hl
        refine ⟨sOf s, rfl, by rw [app_sOf, sOf_len, line_eq]; exact hl, ?_⟩
        rw [app_sOf]
        exact rdJ r (acc ++ s) rf1 rs1 p1
      · exact p1.elim
    | _ => exact p1.elim
theorem se_fst {v1 v2 : Expr} {rest : List Expr} {l : List EM} (h : PJ X (v1 :: v2 :: rest) (trJ (cx X) E l)) : SE X E (.JoinedStr (v1 :: v2 :: rest) pos) (mFst l) := by
  refine PE.mono (pe_joined h) fun σ H Q ⟨fr, S, m, rf, rs, p⟩ => ?_
  exact rdJ (c := cx X) l [] rf rs p
theorem sj_nil : PJ X [] (trJ (cx X) E []) := .nil
theorem sj_cons {e : Expr} {f : EM} {es : List Expr} {l : List EM} (h : SE X E e f) (r : PJ X es (trJ (cx X) E l)) : PJ X (e :: es) (trJ (cx X) E (f :: l)) := .cons h r
end
end Sm

set_option Elab.async false
set_option linter.all false
set_option maxRecDepth 100000
set_option maxHeartbeats 2000000
/-! == of a dict and a text; upper -/
namespace Sm
open PySem PySem.Spec PyProof.Rows L2 Mi
theorem dict_eq_declines_text (l : Addr) (o : Obj) (es : _) (ep : _) (hd : o.data = .dict es ep) (hc : o.cls = .type "dict") (b : Str) (u : Tok) :
    Meets (Builtin.«dict.__eq__» ⟨[.ref l, .str b u], []⟩) (fun _ R s => s.heap.get? l = some o ∧ R (.ok (.ret .notImplemented)) s) :=
  .of_wp fun prog w A R s h => by
    obtain ⟨hp, g, d, tk, os⟩ := s
    obtain ⟨hl, h⟩ := h
    have f1 := F.sub_str_dict
    obtain ⟨cls, dd, data, sl⟩ := o
    simp only at hd hc
    subst hd hc
    wp_walk using wpAny_loadPart' hl
    exact ⟨_, rfl, h⟩
theorem text_eq_declines_dict (b : Str) (u : Tok) (l : Addr) (o : Obj) (es : _) (ep : _) (hd : o.data = .dict es ep) :
    Meets (Builtin.«str.__eq__» ⟨[.str b u, .ref l], []⟩) (fun _ R s => s.heap.get? l = some o ∧ R (.ok (.ret .notImplemented)) s) :=
  .of_wp fun prog w A R s h => by
    obtain ⟨hp, g, d, tk, os⟩ := s
    obtain ⟨hl, h⟩ := h
    obtain ⟨cls, dd, data, sl⟩ := o
    simp only at hd
    subst hd
    wp_walk using wpAny_loadPart' hl, wpAny_load hl
    exact ⟨_, rfl, h⟩
theorem rc_dict_text {A : Around} {s : Shared} {l : Addr} {o : Obj} {es : _} {ep : _} (b : Str) (u : Tok) (ho : s.heap.get? l = some o) (hd : o.data = .dict es ep) (hc : o.cls = .type "dict") (hu : A.units < cLine) : SeqAt.RcAt A s (.ref l) (.str b u) false := fun prog w E Q h => by
  have ty : s.TypeIs (.ref l) "dict" := ⟨o, ho, hc⟩
  exact SeqAt.rc_eq_decline_or (k := false) ty (typeIs_str s b u) (by decide) F.sub_str_dict F.slot_dict_eq F.slot_str_eq_refl
    (fun _ hq => call_meets F.slot_dict_eq ty F.entry_dict_eq (F.args_dict_eq_2 _ _) (dict_eq_declines_text l o es ep hd hc b u) ⟨ho, hq⟩)
    (fun _ hq => call_meets F.slot_str_eq_refl (typeIs_str s b u) F.entry_str_eq (F.args_str_eq_2 _ _) (text_eq_declines_dict b u l o es ep hd) ⟨ho, hq⟩)
    (fun _ hq => wpAny_of_eq (rfl : isSame (.ref l) (.str b u) = pure false) hq) (.inr hu) h
section
variable {X : Cx} {E : XK} {pos : Pos}
def rDT : R2 := fun x y H Q => ∃ (a : Addr) (b : Str) (kvs : List (Key × V)), x = .ref a ∧ y = .str b ∧ H a = some (.dK kvs) ∧ Q (.bl false) H
theorem op_eqDT (hu : X.A.units < cLine) : OpR X (compareOp .Eq) rDT := by
  intro pins s σ H x y v u Q I rx ry q
  obtain ⟨a, b, kvs, rfl, rfl, e, q⟩ := q
  obtain rfl : v = Value.ref a := rx
  obtain ⟨t, rfl⟩ := ry
  obtain ⟨_, _, vs, _, o, es, ep, ho, ed, hd, _⟩ := dk_of I.hok e
  exact rc_dict_text b t ho hd ed.1 hu _ _ _ _ ⟨.bl false, H, I, rfl, q⟩
theorem om_eqX (hu : X.A.units + 65 < cLine) : OpM X E (compareOp .Eq) oEqX := by
  obtain ⟨r, h1, h2⟩ := om_eq (X := X) (E := E) hu
  refine ⟨_, opr_or h1 (op_eqDT (by omega)), fun x y v u S m H Q rs hv hw p => ?_⟩
  unfold oEqX at p
  split at p
  · rename_i n s
    split at p
    · rename_i kvs hs
      cases hv with
      | ref ha =>
        cases hw with
        | str s =>
          obtain ⟨kw, h3, h4⟩ := rs.ob _ _ _ ha hs
          exact .inr ⟨_, _, kw, rfl, rfl, h3, post_bl rs p⟩
    · exact .inl (h2 _ _ _ _ S m H Q rs hv hw p)
  · exact .inl (h2 _ _ _ _ S m H Q rs hv hw p)
theorem up_six : ∀ s ∈ sixW, Txt.upper (sOf s) = sOf (s.map fun c => c - 32) := by
  intro s hs
  simp only [sixW, List.mem_cons, List.not_mem_nil, or_false] at hs
  rcases hs with rfl | rfl | rfl | rfl | rfl | rfl <;> decide +kernel
theorem mm_upper : MtMm X E "str.upper" sUpper := by
  refine ⟨_, mt_upper, fun x ds v vs S m H Q rs hv hvs p => ?_⟩
  unfold sUpper at p
  cases hv with
  | str a =>
    dsimp only at p
    split at p
    · cases hvs
      split at p
      · rename_i h
        refine ⟨sOf a, rfl, rfl, ?_, ?_⟩
        · rw [sOf_len]
          have : ∀ s ∈ sixW, s.length ≤ 5592405 := by decide
          exact this a h
        · rw [up_six a h]; exact post_str rs p
      · exact p.elim
    · exact p.elim
  | _ => exact p.elim
/-! ### tuples of any size -/
theorem om_addA : OpM X E (binaryOp .Add) oAddA := by
  obtain ⟨r, h1, h2⟩ := om_add (X := X) (E := E)
  refine ⟨_, opr_or h1 op_catA, fun x y v u S m H Q rs hv hw p => ?_⟩
  unfold oAddA at p
  split at p
  · rename_i a b
    split at p
    · rename_i hl
      cases hv with
      | @tup _ ad xs ha r1 =>
        cases hw with
        | @tup _ bd ys hb r2 =>
          refine .inr ⟨ad, bd, xs, ys, rfl, rfl, .inl (.inl ha), .inl (.inl hb), by rw [← r1.len, ← r2.len, line_eq]; exact hl, fun z => ?_, fun _ z => ?_, fun _ _ q hq => post_tup rs p hq (r1.app r2)⟩
          · have e : a = [] := List.length_eq_zero_iff.mp (by rw [r1.len, z]; rfl)
            subst e
            exact p.here rs _ (.tup hb r2)
          · have e : b = [] := List.length_eq_zero_iff.mp (by rw [r2.len, z]; rfl)
            subst e
            rw [List.append_nil] at p
            exact p.here rs _ (.tup ha r1)
    · exact p.elim
  · exact .inl (h2 _ _ _ _ S m H Q rs hv hw p)
theorem slmA : SlM X E oSlA := by
  obtain ⟨r, h1, h2⟩ := slm (X := X) (E := E)
  refine ⟨_, slr_or h1 sl_tupA, fun x lo hi v S m H Q rs hv p => ?_⟩
  unfold oSlA at p
  split at p
  · rename_i l
    cases hv with
    | @tup _ ad xs ha r1 =>
      refine .inr ⟨ad, xs, rfl, .inl (.inl ha), fun z => ?_, fun _ q hq => post_tup rs p hq (cut_rel r1 lo hi)⟩
      have e : cut l lo hi = l := by
        unfold cut
        have z1 : sIx l.length 0 lo = 0 := by rw [r1.len]; exact z.1
        have z2 : sIx l.length l.length hi = l.length := by rw [r1.len]; exact z.2
        rw [z1, z2, List.drop_zero, Nat.sub_zero, List.take_length]
      rw [e] at p
      exact p.here rs _ (.tup ha r1)
  · exact .inl (h2 _ _ _ _ S m H Q rs hv p)
theorem se_slA {a : Expr} {fa : EM} {lo hi : Option Expr} {fl fh : PM} {p2 : Pos} (o : SlM X E oSlA) (ha : SE X E a fa) (hl : SO X E lo fl) (hh : SO X E hi fh) : SE X E (.Subscript a (.Slice lo hi none p2) pos) (mSlA fa fl fh) := by
  obtain ⟨r, ho, hr⟩ := o
  refine PE.mono (pe_slice ho ha hl hh) fun σ H Q ⟨fr, S, m, rf, rs, p⟩ => ?_
  refine rd_bind rf rs p fun x S1 m1 H1 e1 rf1 rs1 p1 v hv => ?_
  refine rdP_bind rf1 rs1 p1 fun l S2 m2 H2 e2 rf2 rs2 p2 => ?_
  refine rdP_bind rf2 rs2 p2 fun h S3 m3 H3 e3 rf3 rs3 p3 => ?_
  exact hr x l h v S3 m3 H3 Q rs3 ((hv.mono e2).mono e3) p3
end
end Sm

set_option Elab.async false
set_option linter.all false
/-! laws of the small language -/
namespace Mi
/-! ### stores -/
theorem get_app {α : Type} (S L : List α) (n : Nat) : (S ++ L)[n]? = S[n]?.or (L[n - S.length]?) := by
  rw [List.getElem?_append]
  split
  · rename_i h
    rw [List.getElem?_eq_getElem h]; rfl
  · rename_i h
    rw [List.getElem?_eq_none (l := S) (by omega)]; rfl
theorem get_len {α : Type} (S : List α) : S[S.length]? = none := List.getElem?_eq_none (Nat.le_refl _)
theorem get_len_add {α : Type} (S : List α) (k : Nat) : S[S.length + k]? = none := List.getElem?_eq_none (Nat.le_add_right _ _)
/-- the old part stands -/
def Pre (S S' : Store) : Prop := ∃ G, S' = S ++ G
theorem Pre.refl (S : Store) : Pre S S := ⟨[], by simp⟩
theorem Pre.trans {S S1 S2 : Store} (a : Pre S S1) (b : Pre S1 S2) : Pre S S2 := by
  obtain ⟨G, rfl⟩ := a
  obtain ⟨G', rfl⟩ := b
  exact ⟨G ++ G', by rw [List.append_assoc]⟩
theorem Pre.app (S G : Store) : Pre S (S ++ G) := ⟨G, rfl⟩
theorem Pre.get {S S' : Store} {n : Nat} {o : O} (p : Pre S S') (h : S[n]? = some o) : S'[n]? = some o := by
  obtain ⟨G, rfl⟩ := p
  rw [List.getElem?_append_left (List.getElem?_eq_some_iff.mp h).1]; exact h
theorem Pre.len {S S' : Store} (p : Pre S S') : S.length ≤ S'.length := by
  obtain ⟨G, rfl⟩ := p
  rw [List.length_append]; omega
/-- it ends well, the old part standing -/
def Gives {α : Type} (r : Res α) (S : Store) (P : α → Store → Prop) : Prop := ∃ a S', r = .ok a S' ∧ Pre S S' ∧ P a S'
theorem Gives.ok {α : Type} {a : α} {S : Store} {P : α → Store → Prop} (h : P a S) : Gives (.ok a S) S P := ⟨a, S, rfl, Pre.refl S, h⟩
theorem Gives.bind {α β : Type} {r : Res α} {S : Store} {P : α → Store → Prop} {f : α → Store → Res β} {Q : β → Store → Prop} (h : Gives r S P) (k : ∀ a S', Pre S S' → P a S' → Gives (f a S') S' Q) : Gives (r.bind f) S Q := by
  obtain ⟨a, S', rfl, p, q⟩ := h
  obtain ⟨b, S2, e, p2, q2⟩ := k a S' p q
  exact ⟨b, S2, e, p.trans p2, q2⟩
theorem Gives.mono {α : Type} {r : Res α} {S : Store} {P Q : α → Store → Prop} (h : Gives r S P) (k : ∀ a S', Pre S S' → P a S' → Q a S') : Gives r S Q := by
  obtain ⟨a, S', e, p, q⟩ := h
  exact ⟨a, S', e, p, k a S' p q⟩
/-! ### what stands -/
@[simp] theorem dec_nil (S : Store) : dec (stands [] S) = true := dec_true fun _ h => by cases h
theorem dec_one {S : Store} {n : Nat} {l : List D} (h : lstOf S n = some l) : dec (stands [(n, l)] S) = true := dec_true fun p hp => by
  have e : p = (n, l) := by simpa using hp
  subst e; exact h
/-! ### while -/
theorem whileN_mono {t : TM} {b : SM} : ∀ (n : Nat) (fr : Fr) (S : Store), whileN t b n fr S ≠ .bad → whileN t b (n + 1) fr S = whileN t b n fr S
  | 0, fr, S, h => absurd rfl h
  | n + 1, fr, S, h => by
    rw [whileN]
    conv => rhs; rw [whileN]
    unfold whileN at h
    cases ht : t fr S with
    | ok c S1 =>
      rw [ht] at h
      simp only [bind_ok] at h ⊢
      cases c with
      | false => rfl
      | true =>
        simp only [if_true] at h ⊢
        cases hb : b fr S1 with
        | ok o S2 =>
          rw [hb] at h
          simp only [bind_ok] at h ⊢
          cases o with
          | nx fr' => exact whileN_mono n fr' S2 h
          | ct fr' => exact whileN_mono n fr' S2 h
          | bk fr' => rfl
          | rt d => rfl
        | exc x S2 => rfl
        | bad => rfl
    | exc x S1 => rfl
    | bad => rfl
theorem whileN_le {t : TM} {b : SM} {n k : Nat} {fr : Fr} {S : Store} (h : whileN t b n fr S ≠ .bad) : whileN t b (n + k) fr S = whileN t b n fr S := by
  induction k with
  | zero => rfl
  | succ k ih => rw [← Nat.add_assoc, whileN_mono _ _ _ (by rw [ih]; exact h), ih]
theorem sWhile_of {t : TM} {b : SM} {n : Nat} {fr : Fr} {S : Store} (h : whileN t b n fr S ≠ .bad) : sWhile t b fr S = whileN t b n fr S := by
  have hex : ∃ n, whileN t b n fr S ≠ .bad := ⟨n, h⟩
  unfold sWhile
  rw [dif_pos hex]
  have h2 := Classical.choose_spec hex
  have e1 := whileN_le (k := n) h2
  have e2 := whileN_le (k := Classical.choose hex) h
  rw [← e1, Nat.add_comm, e2]
/-- one turn of a while -/
theorem sWhile_eq (t : TM) (b : SM) (fr : Fr) (S : Store) : sWhile t b fr S = (t fr S).bind fun c S1 => if c then (b fr S1).bind (goOn (sWhile t b)) else .ok (.nx fr) S1 := by
  have nbad : (∀ n, whileN t b (n + 1) fr S = .bad) → sWhile t b fr S = .bad := fun h => by
    unfold sWhile
    rw [dif_neg]
    rintro ⟨n, hn⟩
    cases n with
    | zero => exact hn rfl
    | succ n => exact hn (h n)
  cases ht : t fr S with
  | ok c S1 =>
    simp only [bind_ok]
    cases c with
    | false =>
      have one : whileN t b 1 fr S = .ok (.nx fr) S1 := by unfold whileN; rw [ht]; rfl
      rw [sWhile_of (n := 1) (by rw [one]; simp), one]; rfl
    | true =>
      simp only [if_true]
      cases hb : b fr S1 with
      | ok o S2 =>
        have one : ∀ n, whileN t b (n + 1) fr S = goOn (whileN t b n) o S2 := fun n => by
          rw [whileN, ht]
          simp only [bind_ok, if_true]
          rw [hb, bind_ok]
        have go : ∀ fr', (∀ n, whileN t b (n + 1) fr S = whileN t b n fr' S2) → sWhile t b fr S = sWhile t b fr' S2 := fun fr' one => by
          by_cases hex : ∃ n, whileN t b n fr' S2 ≠ .bad
          · obtain ⟨n, hn⟩ := hex
            rw [sWhile_of hn, sWhile_of (n := n + 1) (by rw [one]; exact hn), one]
          · have h1 : sWhile t b fr' S2 = .bad := by unfold sWhile; rw [dif_neg hex]
            rw [h1]
            exact nbad fun n => by rw [one]; exact Classical.byContradiction fun z => hex ⟨n, z⟩
        rw [bind_ok]
        cases o with
        | nx fr' => exact go fr' one
        | ct fr' => exact go fr' one
        | bk fr' => rw [sWhile_of (n := 1) (by rw [one]; simp [goOn]), one]; rfl
        | rt d => rw [sWhile_of (n := 1) (by rw [one]; simp [goOn]), one]; rfl
      | exc x S2 =>
        have one : whileN t b 1 fr S = .exc x S2 := by
          rw [whileN, ht]
          simp only [bind_ok, if_true]
          rw [hb]; rfl
        rw [sWhile_of (n := 1) (by rw [one]; simp), one]; rfl
      | bad =>
        rw [nbad fun n => by
          rw [whileN, ht]
          simp only [bind_ok, if_true]
          rw [hb]; rfl]
        rfl
  | exc x S1 =>
    have one : whileN t b 1 fr S = .exc x S1 := by rw [whileN, ht]; rfl
    rw [sWhile_of (n := 1) (by rw [one]; simp), one]; rfl
  | bad =>
    rw [nbad fun n => by rw [whileN, ht]; rfl]
    rfl
/-! ### for -/
/-- an invariant over the turn's number; no way out -/
theorem loop_inv {hs : List (Nat × List D)} {turn : D → SM} (I : Nat → Fr → Store → Prop) : ∀ (items : List D) (k : Nat) (fr : Fr) (S : Store), I k fr S →
    (∀ i fr S, I i fr S → stands hs S) →
    (∀ i d fr S, items[i]? = some d → I (k + i) fr S → ∃ fr' S', (turn d fr S = .ok (.nx fr') S' ∨ turn d fr S = .ok (.ct fr') S') ∧ I (k + i + 1) fr' S') →
    ∃ fr' S', loopM hs turn items fr S = .ok (.nx fr') S' ∧ I (k + items.length) fr' S'
  | [], k, fr, S, h, st, _ => ⟨fr, S, by rw [loopM, dec_true (st k fr S h)]; rfl, h⟩
  | d :: ds, k, fr, S, h, st, step => by
    obtain ⟨fr', S', e, h'⟩ := step 0 d fr S rfl h
    obtain ⟨fr2, S2, e2, h2⟩ := loop_inv I ds (k + 1) fr' S' h' st fun i d fr S hd hi => by
      have q := step (i + 1) d fr S hd (by rw [show k + (i + 1) = k + 1 + i by omega]; exact hi)
      rw [show k + (i + 1) = k + 1 + i by omega] at q
      exact q
    refine ⟨fr2, S2, ?_, by rw [List.length_cons, show k + (ds.length + 1) = k + 1 + ds.length by omega]; exact h2⟩
    rw [loopM, dec_true (st k fr S h)]
    rcases e with e | e <;> rw [e] <;> exact e2
/-- an invariant; a way out by return that is as is wanted -/
theorem loop_ret {hs : List (Nat × List D)} {turn : D → SM} (I : Nat → Fr → Store → Prop) (R : D → Store → Prop) : ∀ (items : List D) (k : Nat) (fr : Fr) (S : Store), I k fr S →
    (∀ i fr S, I i fr S → stands hs S) →
    (∀ i d fr S, items[i]? = some d → I (k + i) fr S → (∃ fr' S', (turn d fr S = .ok (.nx fr') S' ∨ turn d fr S = .ok (.ct fr') S') ∧ I (k + i + 1) fr' S') ∨ ∃ x S', turn d fr S = .ok (.rt x) S' ∧ R x S') →
    (∃ fr' S', loopM hs turn items fr S = .ok (.nx fr') S' ∧ I (k + items.length) fr' S') ∨ ∃ x S', loopM hs turn items fr S = .ok (.rt x) S' ∧ R x S'
  | [], k, fr, S, h, st, _ => .inl ⟨fr, S, by rw [loopM, dec_true (st k fr S h)]; rfl, h⟩
  | d :: ds, k, fr, S, h, st, step => by
    have un : loopM hs turn (d :: ds) fr S = (turn d fr S).bind (goOn (loopM hs turn ds)) := by rw [loopM, dec_true (st k fr S h)]; rfl
    rcases step 0 d fr S rfl h with ⟨fr', S', e, h'⟩ | ⟨x, S', e, h'⟩
    · have un2 : loopM hs turn (d :: ds) fr S = loopM hs turn ds fr' S' := by rw [un]; rcases e with e | e <;> rw [e] <;> rfl
      rw [un2]
      have := loop_ret I R ds (k + 1) fr' S' h' st fun i d fr S hd hi => by
        have q := step (i + 1) d fr S hd (by rw [show k + (i + 1) = k + 1 + i by omega]; exact hi)
        rw [show k + (i + 1) = k + 1 + i by omega] at q
        exact q
      rw [List.length_cons, show k + (ds.length + 1) = k + 1 + ds.length by omega]
      exact this
    · exact .inr ⟨x, S', by rw [un, e]; rfl, h'⟩
/-! ### comprehensions -/
/-- elements that change nothing that stood -/
theorem lc_map {hs : List (Nat × List D)} {g : GM} {t : TM} {e : EM} {fr : Fr} {S1 : Store} (f : D → Option D) :
    ∀ (items : List D) (acc : List D) (G : Store), (∀ p, p ∈ hs → lstOf S1 p.1 = some p.2) → acc.length + items.length ≤ LINE →
    (∀ d, d ∈ items → ∀ acc G, ∃ fr' G', g d fr (S1 ++ .lst acc :: G) = .ok fr' (S1 ++ .lst acc :: G) ∧
      ((f d = none ∧ t fr' (S1 ++ .lst acc :: G) = .ok false (S1 ++ .lst acc :: (G ++ G'))) ∨ ∃ x G'', f d = some x ∧ t fr' (S1 ++ .lst acc :: G) = .ok true (S1 ++ .lst acc :: (G ++ G'')) ∧ e fr' (S1 ++ .lst acc :: (G ++ G'')) = .ok x (S1 ++ .lst acc :: (G ++ G')))) →
    ∃ G', lcLoop hs S1.length g t e fr items (S1 ++ .lst acc :: G) = .ok (.ref S1.length) (S1 ++ .lst (acc ++ items.filterMap f) :: (G ++ G')) := by
  have stand : ∀ acc G, (∀ p, p ∈ hs → lstOf S1 p.1 = some p.2) → stands hs (S1 ++ .lst acc :: G) := fun acc G h p hp => by
    have q := h p hp
    unfold lstOf at q ⊢
    have hlt : p.1 < S1.length := by
      cases hh : S1[p.1]? with
      | none => rw [hh] at q; cases q
      | some o => exact (List.getElem?_eq_some_iff.mp hh).1
    rw [List.getElem?_append_left hlt]; exact q
  intro items
  induction items with
  | nil => exact fun acc G h _ _ => ⟨[], by rw [lcLoop, dec_true (stand acc G h)]; simp⟩
  | cons d ds ih =>
    intro acc G h hl step
    rw [List.length_cons] at hl
    obtain ⟨fr', G', e1, e2⟩ := step d List.mem_cons_self acc G
    have step' := fun d' hd' => step d' (List.mem_cons_of_mem _ hd')
    rcases e2 with ⟨ef, e2⟩ | ⟨x, G'', ef, e2, e3⟩
    · obtain ⟨G2, q⟩ := ih acc (G ++ G') h (by omega) step'
      refine ⟨G' ++ G2, ?_⟩
      rw [lcLoop, dec_true (stand acc G h)]
      simp only [if_true, e1, bind_ok, e2, if_neg Bool.false_ne_true]
      rw [q, List.filterMap_cons_none ef, List.append_assoc]
    · obtain ⟨G2, q⟩ := ih (acc ++ [x]) (G ++ G') h (by rw [List.length_append, List.length_singleton]; omega) step'
      refine ⟨G' ++ G2, ?_⟩
      rw [lcLoop, dec_true (stand acc G h)]
      have hget : (S1 ++ O.lst acc :: (G ++ G'))[S1.length]? = some (.lst acc) := by rw [List.getElem?_append_right (Nat.le_refl _), Nat.sub_self]; rfl
      have hset : (S1 ++ O.lst acc :: (G ++ G')).set S1.length (.lst (acc ++ [x])) = S1 ++ .lst (acc ++ [x]) :: (G ++ G') := by
        rw [List.set_append_right _ _ (Nat.le_refl _), Nat.sub_self, List.set_cons_zero]
      simp only [if_true, e1, bind_ok, e2, e3, hget]
      rw [if_pos (by omega), hset, q, List.filterMap_cons_some ef, List.append_assoc]
      simp
end Mi

set_option Elab.async false
set_option linter.all false
/-! the small language step by step: each step's continuation by a name, so that simp stops where a test is open -/
namespace Mi
variable {α β : Type}
/-! ### expressions -/
def varK (S : Store) : Option (Option D) → Res D
  | some (some d) => .ok d S
  | _ => .bad
@[simp] theorem varK_s (S : Store) (d : D) : varK S (some (some d)) = .ok d S := (rfl)
@[simp] theorem mVar_s (i : Nat) (fr : Fr) (S : Store) : mVar i fr S = varK S fr[i]? := (rfl)
@[simp] theorem mC_s (d : D) (fr : Fr) (S : Store) : mC d fr S = .ok d S := (rfl)
def opK2 (g : Op2) (x : D) (r : Res D) : Res D := r.bind fun y S2 => g x y S2
def opK1 (g : Op2) (b : EM) (fr : Fr) (r : Res D) : Res D := r.bind fun x S1 => opK2 g x (b fr S1)
@[simp] theorem opK2_s (g : Op2) (x y : D) (S : Store) : opK2 g x (.ok y S) = g x y S := (rfl)
@[simp] theorem opK1_s (g : Op2) (b : EM) (fr : Fr) (x : D) (S : Store) : opK1 g b fr (.ok x S) = opK2 g x (b fr S) := (rfl)
@[simp] theorem mOp_s (g : Op2) (a b : EM) (fr : Fr) (S : Store) : mOp g a b fr S = opK1 g b fr (a fr S) := (rfl)
def unK (g : D → Store → Res D) (r : Res D) : Res D := r.bind fun x S1 => g x S1
@[simp] theorem unK_s (g : D → Store → Res D) (x : D) (S : Store) : unK g (.ok x S) = g x S := (rfl)
@[simp] theorem mUn_s (g : D → Store → Res D) (a : EM) (fr : Fr) (S : Store) : mUn g a fr S = unK g (a fr S) := (rfl)
def notK (r : Res D) : Res D := r.bind fun x S1 => (toB x S1).bind fun b S2 => .ok (.bl (!b)) S2
@[simp] theorem notK_s (b : Bool) (S : Store) : notK (.ok (.bl b) S) = .ok (.bl (!b)) S := (rfl)
@[simp] theorem mNot_s (a : EM) (fr : Fr) (S : Store) : mNot a fr S = notK (a fr S) := (rfl)
def andK (b : EM) (fr : Fr) (r : Res D) : Res D := r.bind fun x S1 => (toB x S1).bind fun c S2 => if c then b fr S2 else .ok (.bl false) S2
@[simp] theorem andK_t (b : EM) (fr : Fr) (S : Store) : andK b fr (.ok (.bl true) S) = b fr S := (rfl)
@[simp] theorem andK_f (b : EM) (fr : Fr) (S : Store) : andK b fr (.ok (.bl false) S) = .ok (.bl false) S := (rfl)
@[simp] theorem mAnd_s (a b : EM) (fr : Fr) (S : Store) : mAnd a b fr S = andK b fr (a fr S) := (rfl)
def orK (b : EM) (fr : Fr) (r : Res D) : Res D := r.bind fun x S1 => (toB x S1).bind fun c S2 => if c then .ok (.bl true) S2 else b fr S2
@[simp] theorem orK_t (b : EM) (fr : Fr) (S : Store) : orK b fr (.ok (.bl true) S) = .ok (.bl true) S := (rfl)
@[simp] theorem orK_f (b : EM) (fr : Fr) (S : Store) : orK b fr (.ok (.bl false) S) = b fr S := (rfl)
@[simp] theorem mOr_s (a b : EM) (fr : Fr) (S : Store) : mOr a b fr S = orK b fr (a fr S) := (rfl)
def truB (S : Store) : Option Bool → Res Bool
  | some b => .ok b S
  | none => .bad
@[simp] theorem truB_s (S : Store) (b : Bool) : truB S (some b) = .ok b S := (rfl)
def truK (r : Res D) : Res Bool := r.bind fun x S1 => truB S1 (truth x S1)
@[simp] theorem truK_s (x : D) (S : Store) : truK (.ok x S) = truB S (truth x S) := (rfl)
@[simp] theorem tTru_s (a : EM) (fr : Fr) (S : Store) : tTru a fr S = truK (a fr S) := by
  unfold tTru truK
  congr 1
def blK (r : Res D) : Res Bool := r.bind fun x S1 => toB x S1
@[simp] theorem blK_s (b : Bool) (S : Store) : blK (.ok (.bl b) S) = .ok b S := (rfl)
@[simp] theorem tBl_s (a : EM) (fr : Fr) (S : Store) : tBl a fr S = blK (a fr S) := (rfl)
def tandK (b : TM) (fr : Fr) (r : Res Bool) : Res Bool := r.bind fun c S1 => if c then b fr S1 else .ok false S1
@[simp] theorem tandK_t (b : TM) (fr : Fr) (S : Store) : tandK b fr (.ok true S) = b fr S := (rfl)
@[simp] theorem tandK_f (b : TM) (fr : Fr) (S : Store) : tandK b fr (.ok false S) = .ok false S := (rfl)
@[simp] theorem tAnd_s (a b : TM) (fr : Fr) (S : Store) : tAnd a b fr S = tandK b fr (a fr S) := (rfl)
def torK (b : TM) (fr : Fr) (r : Res Bool) : Res Bool := r.bind fun c S1 => if c then .ok true S1 else b fr S1
@[simp] theorem torK_t (b : TM) (fr : Fr) (S : Store) : torK b fr (.ok true S) = .ok true S := (rfl)
@[simp] theorem torK_f (b : TM) (fr : Fr) (S : Store) : torK b fr (.ok false S) = b fr S := (rfl)
@[simp] theorem tOr_s (a b : TM) (fr : Fr) (S : Store) : tOr a b fr S = torK b fr (a fr S) := (rfl)
def tnotK (r : Res Bool) : Res Bool := r.bind fun c S1 => .ok (!c) S1
@[simp] theorem tnotK_s (b : Bool) (S : Store) : tnotK (.ok b S) = .ok (!b) S := (rfl)
@[simp] theorem tNot_s (a : TM) (fr : Fr) (S : Store) : tNot a fr S = tnotK (a fr S) := (rfl)
@[simp] theorem tYes_s (fr : Fr) (S : Store) : tYes fr S = .ok true S := (rfl)
def ifeK (a b : EM) (fr : Fr) (r : Res Bool) : Res D := r.bind fun c S1 => if c then a fr S1 else b fr S1
@[simp] theorem ifeK_t (a b : EM) (fr : Fr) (S : Store) : ifeK a b fr (.ok true S) = a fr S := (rfl)
@[simp] theorem ifeK_f (a b : EM) (fr : Fr) (S : Store) : ifeK a b fr (.ok false S) = b fr S := (rfl)
@[simp] theorem mIfE_s (t : TM) (a b : EM) (fr : Fr) (S : Store) : mIfE t a b fr S = ifeK a b fr (t fr S) := (rfl)
def chK3 (h : Op2) (y : D) (c : EM) (fr : Fr) (r : Res D) : Res D := r.bind fun z S3 => (toB z S3).bind fun k S4 => if k then opK2 h y (c fr S4) else .ok (.bl false) S4
def chK2 (g h : Op2) (x : D) (c : EM) (fr : Fr) (r : Res D) : Res D := r.bind fun y S2 => chK3 h y c fr (g x y S2)
def chK1 (g h : Op2) (b c : EM) (fr : Fr) (r : Res D) : Res D := r.bind fun x S1 => chK2 g h x c fr (b fr S1)
@[simp] theorem chK3_t (h : Op2) (y : D) (c : EM) (fr : Fr) (S : Store) : chK3 h y c fr (.ok (.bl true) S) = opK2 h y (c fr S) := (rfl)
@[simp] theorem chK3_f (h : Op2) (y : D) (c : EM) (fr : Fr) (S : Store) : chK3 h y c fr (.ok (.bl false) S) = .ok (.bl false) S := (rfl)
@[simp] theorem chK2_s (g h : Op2) (x y : D) (c : EM) (fr : Fr) (S : Store) : chK2 g h x c fr (.ok y S) = chK3 h y c fr (g x y S) := (rfl)
@[simp] theorem chK1_s (g h : Op2) (x : D) (b c : EM) (fr : Fr) (S : Store) : chK1 g h b c fr (.ok x S) = chK2 g h x c fr (b fr S) := (rfl)
@[simp] theorem mChain_s (g h : Op2) (a b c : EM) (fr : Fr) (S : Store) : mChain g h a b c fr S = chK1 g h b c fr (a fr S) := (rfl)
def acK2 (x : D) (r : Res (List D)) : Res (List D) := r.bind fun xs S2 => .ok (x :: xs) S2
def acK1 (q : AM) (fr : Fr) (r : Res D) : Res (List D) := r.bind fun x S1 => acK2 x (q fr S1)
@[simp] theorem acK2_s (x : D) (xs : List D) (S : Store) : acK2 x (.ok xs S) = .ok (x :: xs) S := (rfl)
@[simp] theorem acK1_s (q : AM) (fr : Fr) (x : D) (S : Store) : acK1 q fr (.ok x S) = acK2 x (q fr S) := (rfl)
@[simp] theorem aNil_s (fr : Fr) (S : Store) : aNil fr S = .ok [] S := (rfl)
@[simp] theorem aCons_s (a : EM) (q : AM) (fr : Fr) (S : Store) : aCons a q fr S = acK1 q fr (a fr S) := (rfl)
def tupK (r : Res (List D)) : Res D := r.bind fun xs S1 => if xs.length ≤ LINE then .ok (.tup xs) S1 else .bad
@[simp] theorem tupK_s (xs : List D) (S : Store) : tupK (.ok xs S) = if xs.length ≤ LINE then .ok (.tup xs) S else .bad := (rfl)
@[simp] theorem mTup_s (a : AM) (fr : Fr) (S : Store) : mTup a fr S = tupK (a fr S) := (rfl)
def lstK (r : Res (List D)) : Res D := r.bind fun xs S1 => if xs.length ≤ LINE then new (.lst xs) S1 else .bad
@[simp] theorem lstK_s (xs : List D) (S : Store) : lstK (.ok xs S) = if xs.length ≤ LINE then .ok (.ref S.length) (S ++ [.lst xs]) else .bad := (rfl)
@[simp] theorem mLst_s (a : AM) (fr : Fr) (S : Store) : mLst a fr S = lstK (a fr S) := (rfl)
def callK (f : Fn) (r : Res (List D)) : Res D := r.bind f
@[simp] theorem callK_s (f : Fn) (ds : List D) (S : Store) : callK f (.ok ds S) = f ds S := (rfl)
@[simp] theorem mCall_s (f : Fn) (a : AM) (fr : Fr) (S : Store) : mCall f a fr S = callK f (a fr S) := (rfl)
def mtB (f : D → Fn) (x : D) (a : AM) (fr : Fr) (S : Store) : Bool → Res D
  | true => callK (f x) (a fr S)
  | false => .bad
@[simp] theorem mtB_s (f : D → Fn) (x : D) (a : AM) (fr : Fr) (S : Store) : mtB f x a fr S true = callK (f x) (a fr S) := (rfl)
def mtK (T : D → Store → Bool) (f : D → Fn) (a : AM) (fr : Fr) (r : Res D) : Res D := r.bind fun x S1 => mtB f x a fr S1 (T x S1)
@[simp] theorem mtK_s (T : D → Store → Bool) (f : D → Fn) (a : AM) (fr : Fr) (x : D) (S : Store) : mtK T f a fr (.ok x S) = mtB f x a fr S (T x S) := (rfl)
@[simp] theorem mMt_s (T : D → Store → Bool) (f : D → Fn) (o : EM) (a : AM) (fr : Fr) (S : Store) : mMt T f o a fr S = mtK T f a fr (o fr S) := by
  unfold mMt mtK
  congr 1
  funext x S1
  cases T x S1 <;> rfl
@[simp] theorem mNewK_s (fr : Fr) (S : Store) : mNewK fr S = .ok (.ref S.length) (S ++ [.dK []]) := (rfl)
@[simp] theorem mNewT_s (fr : Fr) (S : Store) : mNewT fr S = .ok (.ref S.length) (S ++ [.dT []]) := (rfl)
def psK (r : Res D) : Res (Option Int) := r.bind fun x S1 => match x with
  | .int i => .ok (some i) S1
  | _ => .bad
@[simp] theorem psK_s (i : Int) (S : Store) : psK (.ok (.int i) S) = .ok (some i) S := (rfl)
@[simp] theorem pNo_s (fr : Fr) (S : Store) : pNo fr S = .ok none S := (rfl)
@[simp] theorem pSome_s (a : EM) (fr : Fr) (S : Store) : pSome a fr S = psK (a fr S) := (rfl)
def slK3 (x : D) (l : Option Int) (r : Res (Option Int)) : Res D := r.bind fun h S3 => oSl x l h S3
def slK2 (x : D) (hi : PM) (fr : Fr) (r : Res (Option Int)) : Res D := r.bind fun l S2 => slK3 x l (hi fr S2)
def slK1 (lo hi : PM) (fr : Fr) (r : Res D) : Res D := r.bind fun x S1 => slK2 x hi fr (lo fr S1)
@[simp] theorem slK3_s (x : D) (l h : Option Int) (S : Store) : slK3 x l (.ok h S) = oSl x l h S := (rfl)
@[simp] theorem slK2_s (x : D) (hi : PM) (fr : Fr) (l : Option Int) (S : Store) : slK2 x hi fr (.ok l S) = slK3 x l (hi fr S) := (rfl)
@[simp] theorem slK1_s (lo hi : PM) (fr : Fr) (x : D) (S : Store) : slK1 lo hi fr (.ok x S) = slK2 x hi fr (lo fr S) := (rfl)
@[simp] theorem mSl_s (a : EM) (lo hi : PM) (fr : Fr) (S : Store) : mSl a lo hi fr S = slK1 lo hi fr (a fr S) := (rfl)

/-! ### targets -/
@[simp] theorem gName_s (i : Nat) (d : D) (fr : Fr) (S : Store) : gName i d fr S = .ok (fr.set i (some d)) S := (rfl)
@[simp] theorem gNil_s (fr : Fr) (S : Store) : gNil [] fr S = .ok fr S := (rfl)
def gcK (gs : GMs) (q : List D) (r : Res Fr) : Res Fr := r.bind fun fr' S' => gs q fr' S'
@[simp] theorem gcK_s (gs : GMs) (q : List D) (fr : Fr) (S : Store) : gcK gs q (.ok fr S) = gs q fr S := (rfl)
@[simp] theorem gCons_s (g : GM) (gs : GMs) (d : D) (q : List D) (fr : Fr) (S : Store) : gCons g gs (d :: q) fr S = gcK gs q (g d fr S) := (rfl)
def gtK (n : Nat) (g : GMs) (fr : Fr) (S : Store) : Option (List D) → Res Fr
  | some l => if l.length = n then g l fr S else .bad
  | none => .bad
@[simp] theorem gtK_s (n : Nat) (g : GMs) (fr : Fr) (S : Store) (l : List D) : gtK n g fr S (some l) = if l.length = n then g l fr S else .bad := (rfl)
@[simp] theorem gTup_s (n : Nat) (g : GMs) (d : D) (fr : Fr) (S : Store) : gTup n g d fr S = gtK n g fr S (seqOf S d) := by
  unfold gTup gtK
  cases seqOf S d <;> rfl
def fuK (fr : Fr) (r : Res Unit) : Res Fr := r.bind fun _ S3 => .ok fr S3
def gsK2 (x v : D) (fr : Fr) (r : Res D) : Res Fr := r.bind fun y S2 => fuK fr (setIx x y v S2)
def gsK1 (i : EM) (v : D) (fr : Fr) (r : Res D) : Res Fr := r.bind fun x S1 => gsK2 x v fr (i fr S1)
@[simp] theorem fuK_s (fr : Fr) (u : Unit) (S : Store) : fuK fr (.ok u S) = .ok fr S := (rfl)
@[simp] theorem gsK2_s (x v y : D) (fr : Fr) (S : Store) : gsK2 x v fr (.ok y S) = fuK fr (setIx x y v S) := (rfl)
@[simp] theorem gsK1_s (i : EM) (v x : D) (fr : Fr) (S : Store) : gsK1 i v fr (.ok x S) = gsK2 x v fr (i fr S) := (rfl)
@[simp] theorem gSub_s (o i : EM) (v : D) (fr : Fr) (S : Store) : gSub o i v fr S = gsK1 i v fr (o fr S) := (rfl)

/-! ### statements -/
@[simp] theorem sNx_s (fr : Fr) (S : Store) : sNx fr S = .ok (.nx fr) S := (rfl)
def seqK (b : SM) (r : Res Out) : Res Out := r.bind fun o S1 => match o with
  | .nx fr' => b fr' S1
  | o => .ok o S1
@[simp] theorem seqK_n (b : SM) (fr : Fr) (S : Store) : seqK b (.ok (.nx fr) S) = b fr S := (rfl)
@[simp] theorem seqK_r (b : SM) (d : D) (S : Store) : seqK b (.ok (.rt d) S) = .ok (.rt d) S := (rfl)
@[simp] theorem seqK_b (b : SM) (fr : Fr) (S : Store) : seqK b (.ok (.bk fr) S) = .ok (.bk fr) S := (rfl)
@[simp] theorem seqK_c (b : SM) (fr : Fr) (S : Store) : seqK b (.ok (.ct fr) S) = .ok (.ct fr) S := (rfl)
@[simp] theorem sSeq_s (a b : SM) (fr : Fr) (S : Store) : sSeq a b fr S = seqK b (a fr S) := (rfl)
def nxK (r : Res Fr) : Res Out := r.bind fun fr' S2 => .ok (.nx fr') S2
def asK (g : GM) (fr : Fr) (r : Res D) : Res Out := r.bind fun x S1 => nxK (g x fr S1)
@[simp] theorem nxK_s (fr : Fr) (S : Store) : nxK (.ok fr S) = .ok (.nx fr) S := (rfl)
@[simp] theorem asK_s (g : GM) (fr : Fr) (x : D) (S : Store) : asK g fr (.ok x S) = nxK (g x fr S) := (rfl)
@[simp] theorem sAsg_s (e : EM) (g : GM) (fr : Fr) (S : Store) : sAsg e g fr S = asK g fr (e fr S) := (rfl)
def auK2 (i : Nat) (fr : Fr) (r : Res D) : Res Out := r.bind fun z S2 => .ok (.nx (fr.set i (some z))) S2
def auK1 (i : Nat) (g : Op2) (x : D) (fr : Fr) (r : Res D) : Res Out := r.bind fun y S1 => auK2 i fr (g x y S1)
def auK0 (i : Nat) (g : Op2) (e : EM) (fr : Fr) (S : Store) : Option (Option D) → Res Out
  | some (some x) => auK1 i g x fr (e fr S)
  | _ => .bad
@[simp] theorem auK2_s (i : Nat) (fr : Fr) (z : D) (S : Store) : auK2 i fr (.ok z S) = .ok (.nx (fr.set i (some z))) S := (rfl)
@[simp] theorem auK1_s (i : Nat) (g : Op2) (x y : D) (fr : Fr) (S : Store) : auK1 i g x fr (.ok y S) = auK2 i fr (g x y S) := (rfl)
@[simp] theorem auK0_s (i : Nat) (g : Op2) (e : EM) (fr : Fr) (S : Store) (x : D) : auK0 i g e fr S (some (some x)) = auK1 i g x fr (e fr S) := (rfl)
@[simp] theorem sAug_s (i : Nat) (g : Op2) (e : EM) (fr : Fr) (S : Store) : sAug i g e fr S = auK0 i g e fr S fr[i]? := by
  unfold sAug auK0
  cases fr[i]? with
  | none => rfl
  | some o => cases o <;> rfl
@[simp] theorem oAddI_s (a b : Int) (S : Store) : oAddI (.int a) (.int b) S = .ok (.int (a + b)) S := (rfl)
def exK (fr : Fr) (r : Res D) : Res Out := r.bind fun _ S1 => .ok (.nx fr) S1
@[simp] theorem exK_s (fr : Fr) (x : D) (S : Store) : exK fr (.ok x S) = .ok (.nx fr) S := (rfl)
@[simp] theorem sExp_s (e : EM) (fr : Fr) (S : Store) : sExp e fr S = exK fr (e fr S) := (rfl)
def reK (r : Res D) : Res Out := r.bind fun x S1 => .ok (.rt x) S1
@[simp] theorem reK_s (x : D) (S : Store) : reK (.ok x S) = .ok (.rt x) S := (rfl)
@[simp] theorem sRet_s (e : EM) (fr : Fr) (S : Store) : sRet e fr S = reK (e fr S) := (rfl)
@[simp] theorem sRetN_s (fr : Fr) (S : Store) : sRetN fr S = .ok (.rt .non) S := (rfl)
@[simp] theorem sBrk_s (fr : Fr) (S : Store) : sBrk fr S = .ok (.bk fr) S := (rfl)
@[simp] theorem sCnt_s (fr : Fr) (S : Store) : sCnt fr S = .ok (.ct fr) S := (rfl)
def ifK (a b : SM) (fr : Fr) (r : Res Bool) : Res Out := r.bind fun c S1 => if c then a fr S1 else b fr S1
@[simp] theorem ifK_t (a b : SM) (fr : Fr) (S : Store) : ifK a b fr (.ok true S) = a fr S := (rfl)
@[simp] theorem ifK_f (a b : SM) (fr : Fr) (S : Store) : ifK a b fr (.ok false S) = b fr S := (rfl)
@[simp] theorem sIf_s (t : TM) (a b : SM) (fr : Fr) (S : Store) : sIf t a b fr S = ifK a b fr (t fr S) := (rfl)
/-- a turn of a for -/
def tuK (b : SM) (r : Res Fr) : Res Out := r.bind fun fr' S' => b fr' S'
@[simp] theorem tuK_s (b : SM) (fr : Fr) (S : Store) : tuK b (.ok fr S) = b fr S := (rfl)
def turnM (g : GM) (b : SM) (d : D) (fr : Fr) (S : Store) : Res Out := tuK b (g d fr S)
theorem turnM_s (g : GM) (b : SM) (d : D) (fr : Fr) (S : Store) : turnM g b d fr S = tuK b (g d fr S) := (rfl)
noncomputable def forK (g : GM) (b : SM) (fr : Fr) (r : Res Its) : Res Out := r.bind fun I S1 => loopM I.hs (turnM g b) I.items fr S1
@[simp] theorem forK_s (g : GM) (b : SM) (fr : Fr) (l : List D) (hs : List (Nat × List D)) (S : Store) : forK g b fr (.ok ⟨l, hs⟩ S) = loopM hs (turnM g b) l fr S := (rfl)
@[simp] theorem sFor_s (i : IM) (g : GM) (b : SM) (fr : Fr) (S : Store) : sFor i g b fr S = forK g b fr (i fr S) := (rfl)
/-- the rest of a for -/
noncomputable def loK (hs : List (Nat × List D)) (turn : D → SM) (ds : List D) (r : Res Out) : Res Out := r.bind (goOn (loopM hs turn ds))
@[simp] theorem loK_n (hs : List (Nat × List D)) (turn : D → SM) (ds : List D) (fr : Fr) (S : Store) : loK hs turn ds (.ok (.nx fr) S) = loopM hs turn ds fr S := (rfl)
@[simp] theorem loK_c (hs : List (Nat × List D)) (turn : D → SM) (ds : List D) (fr : Fr) (S : Store) : loK hs turn ds (.ok (.ct fr) S) = loopM hs turn ds fr S := (rfl)
@[simp] theorem loK_b (hs : List (Nat × List D)) (turn : D → SM) (ds : List D) (fr : Fr) (S : Store) : loK hs turn ds (.ok (.bk fr) S) = .ok (.nx fr) S := (rfl)
@[simp] theorem loK_r (hs : List (Nat × List D)) (turn : D → SM) (ds : List D) (d : D) (S : Store) : loK hs turn ds (.ok (.rt d) S) = .ok (.rt d) S := (rfl)
theorem loop_nil {hs : List (Nat × List D)} {turn : D → SM} {fr : Fr} {S : Store} (h : stands hs S) : loopM hs turn [] fr S = .ok (.nx fr) S := by rw [loopM, dec_true h]; rfl
theorem loop_cons {hs : List (Nat × List D)} {turn : D → SM} {d : D} {ds : List D} {fr : Fr} {S : Store} (h : stands hs S) : loopM hs turn (d :: ds) fr S = loK hs turn ds (turn d fr S) := by rw [loopM, dec_true h]; rfl
theorem stands_nil (S : Store) : stands [] S := fun _ h => by cases h
theorem stands_one {S : Store} {n : Nat} {l : List D} (h : lstOf S n = some l) : stands [(n, l)] S := fun p hp => by
  have e : p = (n, l) := by simpa using hp
  subst e; exact h
/-- a while -/
noncomputable def whK (t : TM) (b : SM) (r : Res Out) : Res Out := r.bind (goOn (sWhile t b))
noncomputable def whT (t : TM) (b : SM) (fr : Fr) (r : Res Bool) : Res Out := r.bind fun c S1 => if c then whK t b (b fr S1) else .ok (.nx fr) S1
theorem while_s (t : TM) (b : SM) (fr : Fr) (S : Store) : sWhile t b fr S = whT t b fr (t fr S) := sWhile_eq t b fr S
@[simp] theorem whT_t (t : TM) (b : SM) (fr : Fr) (S : Store) : whT t b fr (.ok true S) = whK t b (b fr S) := (rfl)
@[simp] theorem whT_f (t : TM) (b : SM) (fr : Fr) (S : Store) : whT t b fr (.ok false S) = .ok (.nx fr) S := (rfl)
@[simp] theorem whK_n (t : TM) (b : SM) (fr : Fr) (S : Store) : whK t b (.ok (.nx fr) S) = sWhile t b fr S := (rfl)
@[simp] theorem whK_c (t : TM) (b : SM) (fr : Fr) (S : Store) : whK t b (.ok (.ct fr) S) = sWhile t b fr S := (rfl)
@[simp] theorem whK_b (t : TM) (b : SM) (fr : Fr) (S : Store) : whK t b (.ok (.bk fr) S) = .ok (.nx fr) S := (rfl)
@[simp] theorem whK_r (t : TM) (b : SM) (d : D) (S : Store) : whK t b (.ok (.rt d) S) = .ok (.rt d) S := (rfl)
/-- a def -/
@[simp] theorem quiet_s (a : α) (S : Store) : quiet (.ok a S) = .ok a S := (rfl)
def deK (r : Res Out) : Res D := r.bind fun o S1 => match o with
  | .rt x => .ok x S1
  | .nx _ => .ok .non S1
  | _ => .bad
@[simp] theorem deK_r (x : D) (S : Store) : deK (.ok (.rt x) S) = .ok x S := (rfl)
@[simp] theorem deK_n (fr : Fr) (S : Store) : deK (.ok (.nx fr) S) = .ok .non S := (rfl)
theorem mDef_s (np n : Nat) (b : SM) (ds : List D) (S : Store) (h : ds.length = np) : mDef np n b ds S = quiet (deK (b (startF n ds) S)) := by
  unfold mDef mDefX
  rw [if_pos h]; rfl
@[simp] theorem mDef_1 (n : Nat) (b : SM) (x0 : D) (S : Store) : mDef 1 n b [x0] S = quiet (deK (b ([some x0] ++ List.replicate (n - 1) none) S)) := (rfl)
@[simp] theorem mDef_2 (n : Nat) (b : SM) (x0 x1 : D) (S : Store) : mDef 2 n b [x0, x1] S = quiet (deK (b ([some x0, some x1] ++ List.replicate (n - 2) none) S)) := (rfl)
@[simp] theorem mDef_3 (n : Nat) (b : SM) (x0 x1 x2 : D) (S : Store) : mDef 3 n b [x0, x1, x2] S = quiet (deK (b ([some x0, some x1, some x2] ++ List.replicate (n - 3) none) S)) := (rfl)
@[simp] theorem mDef_4 (n : Nat) (b : SM) (x0 x1 x2 x3 : D) (S : Store) : mDef 4 n b [x0, x1, x2, x3] S = quiet (deK (b ([some x0, some x1, some x2, some x3] ++ List.replicate (n - 4) none) S)) := (rfl)
@[simp] theorem mDef_5 (n : Nat) (b : SM) (x0 x1 x2 x3 x4 : D) (S : Store) : mDef 5 n b [x0, x1, x2, x3, x4] S = quiet (deK (b ([some x0, some x1, some x2, some x3, some x4] ++ List.replicate (n - 5) none) S)) := (rfl)
@[simp] theorem mDef_6 (n : Nat) (b : SM) (x0 x1 x2 x3 x4 x5 : D) (S : Store) : mDef 6 n b [x0, x1, x2, x3, x4, x5] S = quiet (deK (b ([some x0, some x1, some x2, some x3, some x4, some x5] ++ List.replicate (n - 6) none) S)) := (rfl)
@[simp] theorem startF_s (n : Nat) (ds : List D) : startF n ds = ds.map some ++ List.replicate (n - ds.length) none := (rfl)

/-! ### what is walked -/
def isK (r : Res D) : Res Its := r.bind fun x S1 => match x with
  | .tup l => .ok ⟨l, []⟩ S1
  | .wtp l => .ok ⟨l, []⟩ S1
  | .ref n => match lstOf S1 n with
    | some l => .ok ⟨l, [(n, l)]⟩ S1
    | none => .bad
  | _ => .bad
def isR (n : Nat) (S : Store) : Option (List D) → Res Its
  | some l => .ok ⟨l, [(n, l)]⟩ S
  | none => .bad
@[simp] theorem isR_s (n : Nat) (S : Store) (l : List D) : isR n S (some l) = .ok ⟨l, [(n, l)]⟩ S := (rfl)
@[simp] theorem isK_t (l : List D) (S : Store) : isK (.ok (.tup l) S) = .ok ⟨l, []⟩ S := (rfl)
@[simp] theorem isK_w (l : List D) (S : Store) : isK (.ok (.wtp l) S) = .ok ⟨l, []⟩ S := (rfl)
@[simp] theorem isK_r (n : Nat) (S : Store) : isK (.ok (.ref n) S) = isR n S (lstOf S n) := by
  show (match lstOf S n with | some l => (.ok ⟨l, [(n, l)]⟩ S : Res Its) | none => .bad) = _
  cases lstOf S n <;> rfl
@[simp] theorem iSeq_s (e : EM) (fr : Fr) (S : Store) : iSeq e fr S = isK (e fr S) := (rfl)
def istK (r : Res D) : Res Its := r.bind fun x S1 => match x with
  | .str z => .ok ⟨z.map fun c => .str [c], []⟩ S1
  | _ => .bad
@[simp] theorem istK_s (z : Tx) (S : Store) : istK (.ok (.str z) S) = .ok ⟨z.map fun c => .str [c], []⟩ S := (rfl)
@[simp] theorem iStr_s (e : EM) (fr : Fr) (S : Store) : iStr e fr S = istK (e fr S) := (rfl)
def ir1K (r : Res (List D)) : Res Its := r.bind fun ds S1 => match ds with
  | [.int j] => if far j then .ok ⟨rng 0 j.toNat, []⟩ S1 else .bad
  | _ => .bad
@[simp] theorem ir1K_s (j : Int) (S : Store) : ir1K (.ok [.int j] S) = if far j then .ok ⟨rng 0 j.toNat, []⟩ S else .bad := (rfl)
@[simp] theorem iRng1_s (a : AM) (fr : Fr) (S : Store) : iRng1 a fr S = ir1K (a fr S) := (rfl)
def ir2K (r : Res (List D)) : Res Its := r.bind fun ds S1 => match ds with
  | [.int i, .int j] => if far i ∧ far j then .ok ⟨rng i (j - i).toNat, []⟩ S1 else .bad
  | _ => .bad
@[simp] theorem ir2K_s (i j : Int) (S : Store) : ir2K (.ok [.int i, .int j] S) = if far i ∧ far j then .ok ⟨rng i (j - i).toNat, []⟩ S else .bad := (rfl)
@[simp] theorem iRng2_s (a : AM) (fr : Fr) (S : Store) : iRng2 a fr S = ir2K (a fr S) := (rfl)
def irdK (r : Res (List D)) : Res Its := r.bind fun ds S1 => match ds with
  | [.int i, .int j, .int c] => if far i ∧ far j ∧ c = -1 then .ok ⟨(List.range (i - j).toNat).map fun k => .int (i - (k : Nat)), []⟩ S1 else .bad
  | _ => .bad
@[simp] theorem irdK_s (i j c : Int) (S : Store) : irdK (.ok [.int i, .int j, .int c] S) = if far i ∧ far j ∧ c = -1 then .ok ⟨(List.range (i - j).toNat).map fun k => .int (i - (k : Nat)), []⟩ S else .bad := (rfl)
@[simp] theorem iRngD_s (a : AM) (fr : Fr) (S : Store) : iRngD a fr S = irdK (a fr S) := (rfl)
def irrK (r : Res D) : Res Its := r.bind fun x S1 => match x with
  | .int j => if far j then .ok ⟨(List.range j.toNat).map fun k => .int ((j.toNat : Int) - 1 - (k : Nat)), []⟩ S1 else .bad
  | _ => .bad
@[simp] theorem irrK_s (j : Int) (S : Store) : irrK (.ok (.int j) S) = if far j then .ok ⟨(List.range j.toNat).map fun k => .int ((j.toNat : Int) - 1 - (k : Nat)), []⟩ S else .bad := (rfl)
@[simp] theorem iRevR_s (a : EM) (fr : Fr) (S : Store) : iRevR a fr S = irrK (a fr S) := (rfl)
def ienR (n : Nat) (S : Store) : Option (List D) → Res Its
  | some l => .ok ⟨prs 0 l, [(n, l)]⟩ S
  | none => .bad
def ienK (r : Res (List D)) : Res Its := r.bind fun ds S1 => match ds with
  | [.ref n] => ienR n S1 (lstOf S1 n)
  | _ => .bad
@[simp] theorem ienR_s (n : Nat) (S : Store) (l : List D) : ienR n S (some l) = .ok ⟨prs 0 l, [(n, l)]⟩ S := (rfl)
@[simp] theorem ienK_s (n : Nat) (S : Store) : ienK (.ok [.ref n] S) = ienR n S (lstOf S n) := (rfl)
@[simp] theorem iEnum_s (a : AM) (fr : Fr) (S : Store) : iEnum a fr S = ienK (a fr S) := by
  unfold iEnum ienK
  congr 1
def irvR (n : Nat) (S : Store) : Option (List D) → Res Its
  | some l => .ok ⟨l.reverse, [(n, l)]⟩ S
  | none => .bad
def irvK (r : Res (List D)) : Res Its := r.bind fun ds S1 => match ds with
  | [.ref n] => irvR n S1 (lstOf S1 n)
  | _ => .bad
@[simp] theorem irvR_s (n : Nat) (S : Store) (l : List D) : irvR n S (some l) = .ok ⟨l.reverse, [(n, l)]⟩ S := (rfl)
@[simp] theorem irvK_s (n : Nat) (S : Store) : irvK (.ok [.ref n] S) = irvR n S (lstOf S n) := (rfl)
@[simp] theorem iRev_s (a : AM) (fr : Fr) (S : Store) : iRev a fr S = irvK (a fr S) := by
  unfold iRev irvK
  congr 1
/-! ### comprehensions -/
noncomputable def lcK (vs : List Nat) (g : GM) (t : TM) (e : EM) (fr : Fr) (r : Res Its) : Res D := r.bind fun I S1 => lcLoop I.hs S1.length g (fun fr S => quiet (t fr S)) (fun fr S => quiet (e fr S)) (unset vs fr) I.items (S1 ++ [.lst []])
theorem lcK_s (vs : List Nat) (g : GM) (t : TM) (e : EM) (fr : Fr) (l : List D) (hs : List (Nat × List D)) (S : Store) : lcK vs g t e fr (.ok ⟨l, hs⟩ S) = lcLoop hs S.length g (fun fr S => quiet (t fr S)) (fun fr S => quiet (e fr S)) (unset vs fr) l (S ++ [.lst []]) := (rfl)
@[simp] theorem mLc_s (vs : List Nat) (i : IM) (g : GM) (t : TM) (e : EM) (fr : Fr) (S : Store) : mLc vs i g t e fr S = lcK vs g t e fr (i fr S) := (rfl)
/-- a comprehension whose elements change nothing that stood -/
theorem lc_is {vs : List Nat} {g : GM} {t : TM} {e : EM} {fr : Fr} {l : List D} {hs : List (Nat × List D)} {S : Store} (f : D → Option D) (h1 : ∀ p, p ∈ hs → lstOf S p.1 = some p.2) (h2 : l.length ≤ LINE)
    (h3 : ∀ d, d ∈ l → ∀ acc G, ∃ fr' G', g d (unset vs fr) (S ++ .lst acc :: G) = .ok fr' (S ++ .lst acc :: G) ∧
      ((f d = none ∧ t fr' (S ++ .lst acc :: G) = .ok false (S ++ .lst acc :: (G ++ G'))) ∨ ∃ x G'', f d = some x ∧ t fr' (S ++ .lst acc :: G) = .ok true (S ++ .lst acc :: (G ++ G'')) ∧ e fr' (S ++ .lst acc :: (G ++ G'')) = .ok x (S ++ .lst acc :: (G ++ G')))) :
    ∃ G', lcK vs g t e fr (.ok ⟨l, hs⟩ S) = .ok (.ref S.length) (S ++ .lst (l.filterMap f) :: G') := by
  have q := lc_map (g := g) (t := fun fr S => quiet (t fr S)) (e := fun fr S => quiet (e fr S)) (fr := unset vs fr) f l [] [] h1 (by simpa using h2) fun d hd acc G => by
    obtain ⟨fr', G', e1, e2⟩ := h3 d hd acc G
    refine ⟨fr', G', e1, ?_⟩
    rcases e2 with ⟨a, b⟩ | ⟨x, G'', a, b, c⟩
    · exact .inl ⟨a, by rw [b]; rfl⟩
    · exact .inr ⟨x, G'', a, by rw [b]; rfl, by rw [c]; rfl⟩
  exact q
/-! ### operators by their operands -/
section
variable (S : Store)
@[simp] theorem oAdd_i (i j : Int) : oAdd (.int i) (.int j) S = .ok (.int (i + j)) S := (rfl)
@[simp] theorem oAdd_s (a b : Tx) : oAdd (.str a) (.str b) S = if a.length + b.length ≤ LINE then .ok (.str (a ++ b)) S else .bad := (rfl)
@[simp] theorem oAdd_t (a b : List D) : oAdd (.tup a) (.tup b) S = if a ≠ [] ∧ a.length + b.length ≤ LINE then .ok (.tup (a ++ b)) S else .bad := (rfl)
def catK : Option O → Option O → Res D
  | some (.lst a), some (.lst b) => if a.length + b.length ≤ LINE then new (.lst (a ++ b)) S else .bad
  | _, _ => .bad
@[simp] theorem catK_s (a b : List D) : catK S (some (.lst a)) (some (.lst b)) = if a.length + b.length ≤ LINE then .ok (.ref S.length) (S ++ [.lst (a ++ b)]) else .bad := (rfl)
@[simp] theorem oAdd_r (m n : Nat) : oAdd (.ref m) (.ref n) S = catK S S[m]? S[n]? := by
  unfold oAdd catK
  rfl
@[simp] theorem oSub_i (i j : Int) : oSub (.int i) (.int j) S = .ok (.int (i - j)) S := (rfl)
@[simp] theorem oMul_i (i j : Int) : oMul (.int i) (.int j) S = if mulOk i j then .ok (.int (i * j)) S else .bad := (rfl)
def repK (k : Int) : Option O → Res D
  | some (.lst a) => if -(2 ^ 63) ≤ k ∧ k < 2 ^ 63 ∧ a.length * k.toNat ≤ LINE then new (.lst (List.replicate k.toNat a).flatten) S else .bad
  | _ => .bad
@[simp] theorem repK_s (k : Int) (a : List D) : repK S k (some (.lst a)) = if -(2 ^ 63) ≤ k ∧ k < 2 ^ 63 ∧ a.length * k.toNat ≤ LINE then .ok (.ref S.length) (S ++ [.lst (List.replicate k.toNat a).flatten]) else .bad := (rfl)
@[simp] theorem oMul_r (m : Nat) (k : Int) : oMul (.ref m) (.int k) S = repK S k S[m]? := by
  unfold oMul repK
  rfl
@[simp] theorem oDiv_i (i j : Int) : oDiv (.int i) (.int j) S = if divOk j then .ok (.int (i / j)) S else .bad := (rfl)
@[simp] theorem oMod_i (i j : Int) : oMod (.int i) (.int j) S = if 0 < j then .ok (.int (i % j)) S else .bad := (rfl)
@[simp] theorem oPow_i (i j : Int) : oPow (.int i) (.int j) S = if powOk i j then .ok (.int (i ^ j.toNat)) S else .bad := (rfl)
@[simp] theorem oShl_i (i j : Int) : oShl (.int i) (.int j) S = if powOk i j then .ok (.int (i * 2 ^ j.toNat)) S else .bad := (rfl)
@[simp] theorem oShr_i (i j : Int) : oShr (.int i) (.int j) S = if 0 ≤ j then .ok (.int (i / 2 ^ j.toNat)) S else .bad := (rfl)
@[simp] theorem oAnd_i (i j : Int) : oAnd (.int i) (.int j) S = if 0 ≤ i ∧ 0 ≤ j then .ok (.int (i.toNat &&& j.toNat : Nat)) S else .bad := (rfl)
@[simp] theorem oOr_i (i j : Int) : oOr (.int i) (.int j) S = if 0 ≤ i ∧ 0 ≤ j then .ok (.int (i.toNat ||| j.toNat : Nat)) S else .bad := (rfl)
@[simp] theorem oXor_i (i j : Int) : oXor (.int i) (.int j) S = if 0 ≤ i ∧ 0 ≤ j then .ok (.int (i.toNat ^^^ j.toNat : Nat)) S else .bad := (rfl)
@[simp] theorem oLt_i (i j : Int) : oLt (.int i) (.int j) S = .ok (.bl (decide (i < j))) S := (rfl)
@[simp] theorem oLe_i (i j : Int) : oLe (.int i) (.int j) S = .ok (.bl (decide (i ≤ j))) S := (rfl)
@[simp] theorem oGt_i (i j : Int) : oGt (.int i) (.int j) S = .ok (.bl (decide (j < i))) S := (rfl)
@[simp] theorem oGe_i (i j : Int) : oGe (.int i) (.int j) S = .ok (.bl (decide (j ≤ i))) S := (rfl)
@[simp] theorem uNeg_i (i : Int) : uNeg (.int i) S = .ok (.int (-i)) S := (rfl)
@[simp] theorem oIs_n (x : D) : oIs x .non S = .ok (.bl (isN x)) S := (rfl)
@[simp] theorem oIsNot_n (x : D) : oIsNot x .non S = .ok (.bl (!isN x)) S := (rfl)
@[simp] theorem isN_n : isN .non = true := (rfl)
@[simp] theorem isN_b (b : Bool) : isN (.bl b) = false := (rfl)
@[simp] theorem isN_i (b : Int) : isN (.int b) = false := (rfl)
@[simp] theorem isN_s (b : Tx) : isN (.str b) = false := (rfl)
@[simp] theorem isN_t (b : List D) : isN (.tup b) = false := (rfl)
@[simp] theorem isN_r (b : Nat) : isN (.ref b) = false := (rfl)
@[simp] theorem oEq_i (i j : Int) : oEq (.int i) (.int j) S = .ok (.bl (decide (i = j))) S := (rfl)
@[simp] theorem oEq_s (i j : Tx) : oEq (.str i) (.str j) S = .ok (.bl (decide (i = j))) S := (rfl)
@[simp] theorem oEq_b (i j : Bool) : oEq (.bl i) (.bl j) S = .ok (.bl (decide (i = j))) S := (rfl)
@[simp] theorem oEq_nn : oEq .non .non S = .ok (.bl true) S := (rfl)
@[simp] theorem oEq_sn (i : Tx) : oEq (.str i) .non S = .ok (.bl false) S := (rfl)
@[simp] theorem oEq_ns (i : Tx) : oEq .non (.str i) S = .ok (.bl false) S := (rfl)
@[simp] theorem oEq_is (i : Int) (j : Tx) : oEq (.int i) (.str j) S = .ok (.bl false) S := (rfl)
@[simp] theorem oEq_si (i : Int) (j : Tx) : oEq (.str j) (.int i) S = .ok (.bl false) S := (rfl)
@[simp] theorem oNe_i (i j : Int) : oNe (.int i) (.int j) S = .ok (.bl (!decide (i = j))) S := (rfl)
@[simp] theorem oNe_s (i j : Tx) : oNe (.str i) (.str j) S = .ok (.bl (!decide (i = j))) S := (rfl)
@[simp] theorem oNe_b (i j : Bool) : oNe (.bl i) (.bl j) S = .ok (.bl (!decide (i = j))) S := (rfl)
@[simp] theorem oNe_nn : oNe .non .non S = .ok (.bl false) S := (rfl)
@[simp] theorem oNe_sn (i : Tx) : oNe (.str i) .non S = .ok (.bl true) S := (rfl)
@[simp] theorem oNe_ns (i : Tx) : oNe .non (.str i) S = .ok (.bl true) S := (rfl)
def eqK (f : Bool → Bool) : Option Bool → Res D
  | some b => .ok (.bl (f b)) S
  | none => .bad
@[simp] theorem eqK_s (f : Bool → Bool) (b : Bool) : eqK S f (some b) = .ok (.bl (f b)) S := (rfl)
/-- not simp: where data of some depth are compared -/
theorem oEq_g (x y : D) : oEq x y S = eqK S (fun b => b) (pyEq x y S) := by
  unfold oEq eqK
  cases pyEq x y S <;> rfl
theorem oNe_g (x y : D) : oNe x y S = eqK S (fun b => !b) (pyEq x y S) := by
  unfold oNe eqK
  cases pyEq x y S <;> rfl
@[simp] theorem oIn_g (x y : D) : oIn x y S = eqK S (fun b => b) (isIn x y S) := by
  unfold oIn eqK
  cases isIn x y S <;> rfl
@[simp] theorem oNotIn_g (x y : D) : oNotIn x y S = eqK S (fun b => !b) (isIn x y S) := by
  unfold oNotIn eqK
  cases isIn x y S <;> rfl
@[simp] theorem isIn_t (x : D) (l : List D) : isIn x (.tup l) S = inSeq x l S := (rfl)
@[simp] theorem isIn_w (x : D) (l : List D) : isIn x (.wtp l) S = inSeq x l S := (rfl)
@[simp] theorem isIn_s (c : Nat) (z : Tx) : isIn (.str [c]) (.str z) S = some (decide (c ∈ z)) := (rfl)
def inR (x : D) : Option O → Option Bool
  | some (.lst l) => inSeq x l S
  | some (.fls l) => inSeq x l S
  | some (.dK kvs) => (kyOf x).map fun k => (dGet kvs k).isSome
  | some (.dT kvs) => (ktOf x).map fun k => (dGet kvs k).isSome
  | _ => none
@[simp] theorem inR_l (x : D) (l : List D) : inR S x (some (.lst l)) = inSeq x l S := (rfl)
@[simp] theorem inR_f (x : D) (l : List D) : inR S x (some (.fls l)) = inSeq x l S := (rfl)
@[simp] theorem inR_k (x : D) (l : List (Ky × D)) : inR S x (some (.dK l)) = (kyOf x).map fun k => (dGet l k).isSome := (rfl)
@[simp] theorem inR_t (x : D) (l : List (List Ky × D)) : inR S x (some (.dT l)) = (ktOf x).map fun k => (dGet l k).isSome := (rfl)
@[simp] theorem isIn_r (x : D) (n : Nat) : isIn x (.ref n) S = inR S x S[n]? := by
  show (match S[n]? with
    | some (.lst l) => inSeq x l S
    | some (.fls l) => inSeq x l S
    | some (.dK kvs) => (kyOf x).map fun k => (dGet kvs k).isSome
    | some (.dT kvs) => (ktOf x).map fun k => (dGet kvs k).isSome
    | _ => none) = _
  cases S[n]? with
  | none => rfl
  | some o => cases o <;> rfl
@[simp] theorem flat_n : flatD .non = true := (rfl)
@[simp] theorem flat_b (b : Bool) : flatD (.bl b) = true := (rfl)
@[simp] theorem flat_i (b : Int) : flatD (.int b) = true := (rfl)
@[simp] theorem flat_s (b : Tx) : flatD (.str b) = true := (rfl)
@[simp] theorem eqF_nn : eqF .non .non = true := (rfl)
@[simp] theorem eqF_ii (a b : Int) : eqF (.int a) (.int b) = (a == b) := (rfl)
@[simp] theorem eqF_ss (a b : Tx) : eqF (.str a) (.str b) = (a == b) := (rfl)
@[simp] theorem eqF_bb (a b : Bool) : eqF (.bl a) (.bl b) = (a == b) := (rfl)
@[simp] theorem eqF_is (a : Int) (b : Tx) : eqF (.int a) (.str b) = false := (rfl)
@[simp] theorem eqF_si (a : Int) (b : Tx) : eqF (.str b) (.int a) = false := (rfl)
@[simp] theorem eqF_ns (b : Tx) : eqF .non (.str b) = false := (rfl)
@[simp] theorem eqF_sn (b : Tx) : eqF (.str b) .non = false := (rfl)
@[simp] theorem eqF_ni (b : Int) : eqF .non (.int b) = false := (rfl)
@[simp] theorem eqF_in (b : Int) : eqF (.int b) .non = false := (rfl)
theorem inSeq_f {x : D} {l : List D} (h1 : flatD x = true) (h2 : l.all flatD = true) : inSeq x l S = some (l.any fun y => eqF y x) := by
  unfold inSeq
  rw [if_pos ⟨h1, h2⟩]
@[simp] theorem inSeq_nil {x : D} (h1 : flatD x = true) : inSeq x [] S = some false := inSeq_f S h1 rfl
@[simp] theorem inSeq_cons {x y : D} {l : List D} (h1 : flatD x = true) (h2 : flatD y = true) (h3 : l.all flatD = true) : inSeq x (y :: l) S = some (eqF y x || l.any fun y => eqF y x) := by
  rw [inSeq_f S h1 (by rw [List.all_cons, h2, h3]; rfl), List.any_cons]
def ixA (S : Store) : Option D → Res D
  | some v => .ok v S
  | none => .bad
@[simp] theorem ixA_s (v : D) : ixA S (some v) = .ok v S := (rfl)
def ixC (S : Store) : Option Nat → Res D
  | some c => .ok (.str [c]) S
  | none => .bad
@[simp] theorem ixC_s (v : Nat) : ixC S (some v) = .ok (.str [v]) S := (rfl)
@[simp] theorem oIx_t (l : List D) (i : Int) : oIx (.tup l) (.int i) S = ixA S (atI l i) := by
  show (match atI l i with | some v => Res.ok v S | none => .bad) = _
  cases atI l i <;> rfl
@[simp] theorem oIx_w (l : List D) (i : Int) : oIx (.wtp l) (.int i) S = ixA S (atI l i) := by
  show (match atI l i with | some v => Res.ok v S | none => .bad) = _
  cases atI l i <;> rfl
@[simp] theorem oIx_s (l : Tx) (i : Int) : oIx (.str l) (.int i) S = if l.length ≤ LINE then ixC S (atI l i) else .bad := by
  show (if l.length ≤ LINE then (match atI l i with | some c => (.ok (.str [c]) S : Res D) | none => .bad) else .bad) = _
  split
  · cases atI l i <;> rfl
  · rfl
def ixR (n : Nat) (k : D) : Option O → Res D
  | some (.lst l) => (match k with
    | .int i => ixA S (atI l i)
    | _ => .bad)
  | some (.fls l) => (match k with
    | .int i => ixA S (atI l i)
    | _ => .bad)
  | some (.dK kvs) => ixA S ((kyOf k).bind (dGet kvs))
  | some (.dT kvs) => ixA S ((ktOf k).bind (dGet kvs))
  | _ => .bad
@[simp] theorem ixR_l (n : Nat) (i : Int) (l : List D) : ixR S n (.int i) (some (.lst l)) = ixA S (atI l i) := (rfl)
@[simp] theorem ixR_f (n : Nat) (i : Int) (l : List D) : ixR S n (.int i) (some (.fls l)) = ixA S (atI l i) := (rfl)
@[simp] theorem ixR_k (n : Nat) (k : D) (l : List (Ky × D)) : ixR S n k (some (.dK l)) = ixA S ((kyOf k).bind (dGet l)) := (rfl)
@[simp] theorem ixR_t (n : Nat) (k : D) (l : List (List Ky × D)) : ixR S n k (some (.dT l)) = ixA S ((ktOf k).bind (dGet l)) := (rfl)
@[simp] theorem oIx_r (n : Nat) (k : D) : oIx (.ref n) k S = ixR S n k S[n]? := by
  have e : oIx (.ref n) k S = (match S[n]? with
    | some (.lst l) => (match k with
      | .int i => (match atI l i with
        | some v => .ok v S
        | none => .bad)
      | _ => .bad)
    | some (.fls l) => (match k with
      | .int i => (match atI l i with
        | some v => .ok v S
        | none => .bad)
      | _ => .bad)
    | _ => match dLook S n k with
      | some (some v) => .ok v S
      | _ => .bad) := by
    unfold oIx
    cases k <;> rfl
  rw [e]
  unfold dLook
  cases h : S[n]? with
  | none => rfl
  | some o =>
    cases o with
    | lst l =>
      cases k with
      | int i => show (match atI l i with | some v => Res.ok v S | none => .bad) = ixA S (atI l i); cases atI l i <;> rfl
      | _ => rfl
    | fls l =>
      cases k with
      | int i => show (match atI l i with | some v => Res.ok v S | none => .bad) = ixA S (atI l i); cases atI l i <;> rfl
      | _ => rfl
    | dK l =>
      show (match (kyOf k).map (dGet l) with | some (some v) => Res.ok v S | _ => .bad) = ixA S ((kyOf k).bind (dGet l))
      cases kyOf k with
      | none => rfl
      | some q =>
        show (match some (dGet l q) with | some (some v) => Res.ok v S | _ => .bad) = ixA S (dGet l q)
        cases dGet l q <;> rfl
    | dT l =>
      show (match (ktOf k).map (dGet l) with | some (some v) => Res.ok v S | _ => .bad) = ixA S ((ktOf k).bind (dGet l))
      cases ktOf k with
      | none => rfl
      | some q =>
        show (match some (dGet l q) with | some (some v) => Res.ok v S | _ => .bad) = ixA S (dGet l q)
        cases dGet l q <;> rfl
    | ins C f => rfl
@[simp] theorem lstOf_s (n : Nat) : lstOf S n = (S[n]?).bind fun o => match o with
    | .lst l => some l
    | .fls l => some l
    | _ => none := by
  unfold lstOf
  cases S[n]? with
  | none => rfl
  | some o => cases o <;> rfl
@[simp] theorem seqOf_t (l : List D) : seqOf S (.tup l) = some l := (rfl)
@[simp] theorem seqOf_w (l : List D) : seqOf S (.wtp l) = some l := (rfl)
@[simp] theorem seqOf_r (n : Nat) : seqOf S (.ref n) = lstOf S n := (rfl)
@[simp] theorem truth_n : truth .non S = some false := (rfl)
@[simp] theorem truth_b (b : Bool) : truth (.bl b) S = some b := (rfl)
@[simp] theorem truth_i (i : Int) : truth (.int i) S = some (i != 0) := (rfl)
@[simp] theorem truth_t (l : List D) : truth (.tup l) S = some (!l.isEmpty) := (rfl)
/-! ### slices -/
@[simp] theorem oSl_s (z : Tx) (lo hi : Option Int) : oSl (.str z) lo hi S = if z.length ≤ LINE then .ok (.str (cut z lo hi)) S else .bad := (rfl)
@[simp] theorem oSl_t (l : List D) (lo hi : Option Int) : oSl (.tup l) lo hi S = if (cut l lo hi).length < l.length then .ok (.tup (cut l lo hi)) S else .bad := (rfl)
def slR (lo hi : Option Int) : Option (List D) → Res D
  | some l => new (.lst (cut l lo hi)) S
  | none => .bad
@[simp] theorem slR_s (lo hi : Option Int) (l : List D) : slR S lo hi (some l) = .ok (.ref S.length) (S ++ [.lst (cut l lo hi)]) := (rfl)
@[simp] theorem oSl_r (n : Nat) (lo hi : Option Int) : oSl (.ref n) lo hi S = slR S lo hi (lstOf S n) := by
  unfold oSl slR
  dsimp only
  all_goals cases lstOf S n <;> rfl
/-! ### stores -/
def stL (n : Nat) (v : D) (l : List D) : Option Nat → Res Unit
  | some j => .ok () (S.set n (.lst (l.set j v)))
  | none => .bad
@[simp] theorem stL_s (n : Nat) (v : D) (l : List D) (j : Nat) : stL S n v l (some j) = .ok () (S.set n (.lst (l.set j v))) := (rfl)
def stK (n : Nat) (v : D) (kvs : List (Ky × D)) : Option Ky → Res Unit
  | some k => if kvs.length < LINE then .ok () (S.set n (.dK (dPut kvs k v))) else .bad
  | none => .bad
@[simp] theorem stK_s (n : Nat) (v : D) (kvs : List (Ky × D)) (k : Ky) : stK S n v kvs (some k) = if kvs.length < LINE then .ok () (S.set n (.dK (dPut kvs k v))) else .bad := (rfl)
def stT (n : Nat) (v : D) (kvs : List (List Ky × D)) : Option (List Ky) → Res Unit
  | some k => if kvs.length < LINE then .ok () (S.set n (.dT (dPut kvs k v))) else .bad
  | none => .bad
@[simp] theorem stT_s (n : Nat) (v : D) (kvs : List (List Ky × D)) (k : List Ky) : stT S n v kvs (some k) = if kvs.length < LINE then .ok () (S.set n (.dT (dPut kvs k v))) else .bad := (rfl)
def stR (n : Nat) (i v : D) : Option O → Res Unit
  | some (.lst l) => (match i with
    | .int k => stL S n v l (ixN l.length k)
    | _ => .bad)
  | some (.dK kvs) => stK S n v kvs (kyOf i)
  | some (.dT kvs) => stT S n v kvs (ktOf i)
  | _ => .bad
@[simp] theorem stR_l (n : Nat) (k : Int) (v : D) (l : List D) : stR S n (.int k) v (some (.lst l)) = stL S n v l (ixN l.length k) := (rfl)
@[simp] theorem stR_k (n : Nat) (i v : D) (l : List (Ky × D)) : stR S n i v (some (.dK l)) = stK S n v l (kyOf i) := (rfl)
@[simp] theorem stR_t (n : Nat) (i v : D) (l : List (List Ky × D)) : stR S n i v (some (.dT l)) = stT S n v l (ktOf i) := (rfl)
@[simp] theorem setIx_r (n : Nat) (i v : D) : setIx (.ref n) i v S = stR S n i v S[n]? := by
  unfold setIx stR
  dsimp only
  cases S[n]? with
  | none => rfl
  | some o =>
    cases o with
    | lst l => cases i <;> first | rfl | (rename_i k; dsimp only; cases ixN l.length k <;> rfl)
    | dK l => dsimp only; cases kyOf i <;> rfl
    | dT l => dsimp only; cases ktOf i <;> rfl
    | _ => rfl
@[simp] theorem kyOf_i (i : Int) : kyOf (.int i) = some (.inl i) := (rfl)
@[simp] theorem kyOf_s (i : Tx) : kyOf (.str i) = some (.inr i) := (rfl)
/-! ### built-ins -/
@[simp] theorem bLen_s (s : Tx) : bLen [.str s] S = if s.length ≤ LINE then .ok (.int (s.length : Nat)) S else .bad := (rfl)
@[simp] theorem bLen_t (l : List D) : bLen [.tup l] S = .ok (.int (l.length : Nat)) S := (rfl)
@[simp] theorem bLen_w (l : List D) : bLen [.wtp l] S = .ok (.int (l.length : Nat)) S := (rfl)
def lenK : Option O → Res D
  | some (.lst l) => .ok (.int (l.length : Nat)) S
  | some (.fls l) => .ok (.int (l.length : Nat)) S
  | some (.dK k) => .ok (.int (k.length : Nat)) S
  | some (.dT k) => .ok (.int (k.length : Nat)) S
  | _ => .bad
@[simp] theorem lenK_l (l : List D) : lenK S (some (.lst l)) = .ok (.int (l.length : Nat)) S := (rfl)
@[simp] theorem lenK_f (l : List D) : lenK S (some (.fls l)) = .ok (.int (l.length : Nat)) S := (rfl)
@[simp] theorem lenK_k (l : List (Ky × D)) : lenK S (some (.dK l)) = .ok (.int (l.length : Nat)) S := (rfl)
@[simp] theorem lenK_t (l : List (List Ky × D)) : lenK S (some (.dT l)) = .ok (.int (l.length : Nat)) S := (rfl)
@[simp] theorem bLen_r (n : Nat) : bLen [.ref n] S = lenK S S[n]? := by
  unfold bLen lenK
  dsimp only
  all_goals cases S[n]? with
  | none => rfl
  | some o => cases o <;> rfl
@[simp] theorem bAbs_s (i : Int) : bAbs [.int i] S = .ok (.int (if i < 0 then -i else i)) S := (rfl)
@[simp] theorem bInt_i (i : Int) : bInt [.int i] S = .ok (.int i) S := (rfl)
@[simp] theorem bInt_b (i : Bool) : bInt [.bl i] S = .ok (.int (if i then 1 else 0)) S := (rfl)
@[simp] theorem bMax_s (i j : Int) : bMax [.int i, .int j] S = .ok (.int (if j > i then j else i)) S := (rfl)
@[simp] theorem bMin_s (i j : Int) : bMin [.int i, .int j] S = .ok (.int (if j < i then j else i)) S := (rfl)
def liK : Option (List D) → Res D
  | some l => new (.lst l) S
  | none => .bad
@[simp] theorem liK_s (l : List D) : liK S (some l) = .ok (.ref S.length) (S ++ [.lst l]) := (rfl)
theorem bList_q {x : D} {l : List D} (h : seqOf S x = some l) : bList [x] S = .ok (.ref S.length) (S ++ [.lst l]) := by
  unfold bList
  dsimp only
  rw [h]; rfl
@[simp] theorem bTuple_t (l : List D) : bTuple [.tup l] S = .ok (.tup l) S := (rfl)
theorem bTuple_r {n : Nat} {l : List D} (h : lstOf S n = some l) : bTuple [.ref n] S = .ok (.tup l) S := by
  unfold bTuple
  dsimp only
  rw [h]
theorem bAny_r {n : Nat} {l : List D} {bs : List Bool} (h : lstOf S n = some l) (hb : blsOf l = some bs) : bAny [.ref n] S = .ok (.bl (bs.any id)) S := by
  unfold bAny
  dsimp only
  rw [h, Option.bind_some, hb]
theorem bAll_r {n : Nat} {l : List D} {bs : List Bool} (h : lstOf S n = some l) (hb : blsOf l = some bs) : bAll [.ref n] S = .ok (.bl (bs.all id)) S := by
  unfold bAll
  dsimp only
  rw [h, Option.bind_some, hb]
theorem bSum_r {n : Nat} {l : List D} {bs : List Int} (h : lstOf S n = some l) (hb : intsOf l = some bs) : bSum [.ref n] S = .ok (.int bs.sum) S := by
  unfold bSum
  dsimp only
  rw [h, Option.bind_some, hb]
theorem bls_map (bs : List Bool) : blsOf (bs.map .bl) = some bs := by
  induction bs with
  | nil => rfl
  | cons b r ih => show (blsOf (r.map .bl)).map _ = _; rw [ih]; rfl
theorem ints_map (bs : List Int) : intsOf (bs.map .int) = some bs := by
  induction bs with
  | nil => rfl
  | cons b r ih => show (intsOf (r.map .int)).map _ = _; rw [ih]; rfl
theorem txs_map (bs : List Tx) : txsOf (bs.map .str) = some bs := by
  induction bs with
  | nil => rfl
  | cons b r ih => show (txsOf (r.map .str)).map _ = _; rw [ih]; rfl
def isiK : Option Bool → Res D
  | some b => .ok (.bl b) S
  | none => .bad
@[simp] theorem isiK_s (b : Bool) : isiK S (some b) = .ok (.bl b) S := (rfl)
@[simp] theorem bIsI_s (T : Ty) (x : D) : bIsI T x S = isiK S (isI T x S) := by
  unfold bIsI isiK
  cases isI T x S <;> rfl
def tyR : Option O → Option Ty
  | some (.lst _) => some .list
  | some (.fls _) => some .list
  | some (.dK _) => some .dict
  | some (.dT _) => some .dict
  | _ => none
@[simp] theorem tyR_l (l : List D) : tyR (some (.lst l)) = some .list := (rfl)
@[simp] theorem tyR_f (l : List D) : tyR (some (.fls l)) = some .list := (rfl)
@[simp] theorem tyR_k (l : List (Ky × D)) : tyR (some (.dK l)) = some .dict := (rfl)
@[simp] theorem tyR_t (l : List (List Ky × D)) : tyR (some (.dT l)) = some .dict := (rfl)
def isU (T : Ty) (U : Option Ty) : Option Bool := U.map fun U => decide (U = T) || (decide (U = .bool) && decide (T = .int))
@[simp] theorem isU_s (T U : Ty) : isU T (some U) = some (decide (U = T) || (decide (U = .bool) && decide (T = .int))) := (rfl)
@[simp] theorem isI_n (T : Ty) : isI T .non S = some false := (rfl)
@[simp] theorem isI_b (T : Ty) (b : Bool) : isI T (.bl b) S = isU T (some .bool) := (rfl)
@[simp] theorem isI_i (T : Ty) (b : Int) : isI T (.int b) S = isU T (some .int) := (rfl)
@[simp] theorem isI_s (T : Ty) (b : Tx) : isI T (.str b) S = isU T (some .str) := (rfl)
@[simp] theorem isI_t (T : Ty) (b : List D) : isI T (.tup b) S = isU T (some .tuple) := (rfl)
theorem tyOf_r (n : Nat) : tyOf S (.ref n) = tyR S[n]? := by
  show (match S[n]? with
    | some (.lst _) => some Ty.list
    | some (.fls _) => some Ty.list
    | some (.dK _) => some Ty.dict
    | some (.dT _) => some Ty.dict
    | _ => none) = _
  cases S[n]? with
  | none => rfl
  | some o => cases o <;> rfl
@[simp] theorem isI_r (T : Ty) (n : Nat) : isI T (.ref n) S = isU T (tyR S[n]?) := by
  rw [← tyOf_r]; rfl
/-! ### methods -/
@[simp] theorem isLst_r (n : Nat) : isLst (.ref n) S = (lstOf S n).isSome := (rfl)
@[simp] theorem isStr_s (s : Tx) : isStr (.str s) S = true := (rfl)
def dcR : Option O → Bool
  | some (.dK _) => true
  | some (.dT _) => true
  | _ => false
@[simp] theorem dcR_k (l : List (Ky × D)) : dcR (some (.dK l)) = true := (rfl)
@[simp] theorem dcR_t (l : List (List Ky × D)) : dcR (some (.dT l)) = true := (rfl)
@[simp] theorem isDct_r (n : Nat) : isDct (.ref n) S = dcR S[n]? := by
  unfold isDct dcR
  dsimp only
  all_goals cases S[n]? with
  | none => rfl
  | some o => cases o <;> rfl
def muK (n : Nat) (f : Nat → List D → Res D) : Option O → Res D
  | some (.lst l) => f n l
  | _ => .bad
@[simp] theorem muK_s (n : Nat) (f : Nat → List D → Res D) (l : List D) : muK n f (some (.lst l)) = f n l := (rfl)
theorem mutL_r (n : Nat) (f : Nat → List D → Res D) : mutL (.ref n) S f = muK n f S[n]? := by
  unfold mutL muK
  dsimp only
  all_goals cases S[n]? with
  | none => rfl
  | some o => cases o <;> rfl
def apF (x : D) : Nat → List D → Res D := fun n l => if l.length < LINE then .ok .non (S.set n (.lst (l ++ [x]))) else .bad
@[simp] theorem apF_s (x : D) (n : Nat) (l : List D) : apF S x n l = if l.length < LINE then .ok .non (S.set n (.lst (l ++ [x]))) else .bad := (rfl)
@[simp] theorem lAppend_s (n : Nat) (x : D) : lAppend (.ref n) [x] S = muK n (apF S x) S[n]? := by
  show mutL (.ref n) S (apF S x) = _
  exact mutL_r S n _
def poA (n : Nat) (l : List D) : Option D → Res D
  | some y => .ok y (S.set n (.lst l.dropLast))
  | none => .bad
@[simp] theorem poA_s (n : Nat) (l : List D) (y : D) : poA S n l (some y) = .ok y (S.set n (.lst l.dropLast)) := (rfl)
def poF : Nat → List D → Res D := fun n l => poA S n l l[l.length - 1]?
@[simp] theorem poF_s (n : Nat) (l : List D) : poF S n l = poA S n l l[l.length - 1]? := (rfl)
@[simp] theorem lPop_s (n : Nat) : lPop (.ref n) [] S = muK n (poF S) S[n]? := by
  show mutL (.ref n) S (fun k l => match l[l.length - 1]? with | some y => .ok y (S.set k (.lst l.dropLast)) | none => .bad) = _
  rw [mutL_r]
  congr 1
/-- pop(0) -/
def p0F : Nat → List D → Res D := fun n l => match l with
  | y :: r => .ok y (S.set n (.lst r))
  | [] => .bad
@[simp] theorem p0F_s (n : Nat) (y : D) (r : List D) : p0F S n (y :: r) = .ok y (S.set n (.lst r)) := (rfl)
@[simp] theorem lPop_0 (n : Nat) : lPop (.ref n) [.int 0] S = muK n (p0F S) S[n]? := by
  show mutL (.ref n) S (fun n l => if -(2 ^ 63) ≤ (0 : Int) ∧ (0 : Int) < 2 ^ 63 then (match (ixN l.length 0) with
    | some k => (match l[k]? with
      | some y => .ok y (S.set n (.lst (l.eraseIdx k)))
      | none => .bad)
    | none => .bad) else .bad) = _
  rw [mutL_r]
  congr 1
  funext k l
  cases l with
  | nil => rfl
  | cons y r =>
    have h : ixN (y :: r).length 0 = some 0 := by
      unfold ixN
      rw [if_pos (Int.le_refl 0), if_pos (by rw [List.length_cons]; omega)]
      rfl
    show (if _ then _ else _) = _
    rw [if_pos (by decide), h]
    rfl
def rvF : Nat → List D → Res D := fun n l => .ok .non (S.set n (.lst l.reverse))
@[simp] theorem rvF_s (n : Nat) (l : List D) : rvF S n l = .ok .non (S.set n (.lst l.reverse)) := (rfl)
@[simp] theorem lReverse_s (n : Nat) : lReverse (.ref n) [] S = muK n (rvF S) S[n]? := by
  show mutL (.ref n) S (rvF S) = _
  exact mutL_r S n _
def clF : Nat → List D → Res D := fun n _ => .ok .non (S.set n (.lst []))
@[simp] theorem clF_s (n : Nat) (l : List D) : clF S n l = .ok .non (S.set n (.lst [])) := (rfl)
@[simp] theorem lClear_s (n : Nat) : lClear (.ref n) [] S = muK n (clF S) S[n]? := by
  show mutL (.ref n) S (clF S) = _
  exact mutL_r S n _
def inF (i : Int) (x : D) : Nat → List D → Res D := fun n l => if l.length < LINE ∧ 0 ≤ i ∧ i < 2 ^ 63 then .ok .non (S.set n (.lst (l.take i.toNat ++ [x] ++ l.drop i.toNat))) else .bad
@[simp] theorem inF_s (i : Int) (x : D) (n : Nat) (l : List D) : inF S i x n l = if l.length < LINE ∧ 0 ≤ i ∧ i < 2 ^ 63 then .ok .non (S.set n (.lst (l.take i.toNat ++ [x] ++ l.drop i.toNat))) else .bad := (rfl)
@[simp] theorem lInsert_s (n : Nat) (i : Int) (x : D) : lInsert (.ref n) [.int i, x] S = muK n (inF S i x) S[n]? := by
  show mutL (.ref n) S (inF S i x) = _
  exact mutL_r S n _
def joK (a : Tx) : Option (List Tx) → Res D
  | some ys => if (ys.map List.length).sum + ys.length * a.length ≤ LINE then .ok (.str (joinT a ys)) S else .bad
  | none => .bad
@[simp] theorem joK_s (a : Tx) (ys : List Tx) : joK S a (some ys) = if (ys.map List.length).sum + ys.length * a.length ≤ LINE then .ok (.str (joinT a ys)) S else .bad := (rfl)
@[simp] theorem sJoin_s (a : Tx) (d : D) : sJoin (.str a) [d] S = joK S a ((seqOf S d).bind txsOf) := by
  show (match (seqOf S d).bind txsOf with | some ys => _ | none => _) = _
  cases (seqOf S d).bind txsOf <;> rfl
end
/-- one step of a store's look -/
theorem set_get {S : Store} {n : Nat} {o u : O} (h : S[n]? = some o) : (S.set n u)[n]? = some u := by
  rw [List.getElem?_set_self (List.getElem?_eq_some_iff.mp h).1]
end Mi

set_option Elab.async false
set_option linter.all false
set_option maxRecDepth 100000
/-! the defs of the text as steps of the small language (printed by gen.py) -/
namespace Lk10
open Mi
abbrev t_x0_abcdefghijkl : Tx := [97, 98, 99, 100, 101, 102, 103, 104, 105, 106, 107, 108, 109, 110, 111, 112, 113, 114, 115, 116, 117, 118, 119, 120, 121, 122]
abbrev t_x1_0123456789 : Tx := [48, 49, 50, 51, 52, 53, 54, 55, 56, 57]
abbrev t_reckon : Tx := [114, 101, 99, 107, 111, 110]
abbrev t_copy : Tx := [99, 111, 112, 121]
abbrev t_say : Tx := [115, 97, 121]
abbrev t_go : Tx := [103, 111]
abbrev t_part : Tx := [112, 97, 114, 116]
abbrev t_end : Tx := [101, 110, 100]
abbrev t_x8_abcdefghijkl : Tx := [97, 98, 99, 100, 101, 102, 103, 104, 105, 106, 107, 108, 109, 110, 111, 112, 113, 114, 115, 116, 117, 118, 119, 120, 121, 122, 48, 49, 50, 51, 52, 53, 54, 55, 56, 57]
abbrev t_x9_ : Tx := []
abbrev t_x10_0 : Tx := [48]
abbrev t_x11_0123456789ab : Tx := [33, 34, 35, 36, 38, 39, 40, 41, 42, 43, 44, 45, 46, 47, 48, 49, 50, 51, 52, 53, 54, 55, 56, 57, 58, 59, 60, 61, 62, 63, 64, 65, 66, 67, 68, 69, 70, 71, 72, 73, 74, 75, 76, 77, 78, 79, 80, 81, 82, 83, 84, 85, 86, 87, 88, 89, 90, 91, 92, 93, 94, 95, 96, 97, 98, 99, 100, 101, 102, 103, 104, 105, 106, 107, 108, 109, 110, 111, 112, 113, 114, 115, 116, 117, 118, 119, 120, 121, 122, 123, 124, 125, 126, 32, 10]
abbrev t_abcdefghi : Tx := [97, 98, 99, 100, 101, 102, 103, 104, 105]
abbrev t_x13_9a : Tx := [57, 97]
abbrev t_x14_a : Tx := [65]
abbrev t_a : Tx := [97]
abbrev t_x16_ : Tx := [43, 45, 42, 38, 124, 94, 60, 61]
abbrev t_s : Tx := [115]
abbrev t_x18_ : Tx := [43]
abbrev t_x19_ : Tx := [62]
abbrev t_x20_ : Tx := [43, 45]
abbrev t_x21_ : Tx := [42, 42]
abbrev t_x22_ : Tx := [47]
abbrev t_abcdefgh : Tx := [97, 98, 99, 100, 101, 102, 103, 104]
abbrev t_x24_ : Tx := [45]
abbrev t_x25_ : Tx := [42]
abbrev t_x26_ : Tx := [38]
abbrev t_x27_ : Tx := [124]
abbrev t_x28_ : Tx := [94]
abbrev t_x29_ : Tx := [60]
abbrev t_x30_ : Tx := [61]
abbrev w_SIGNS : List D := [.str t_x18_, .str t_x24_, .str t_x25_, .str t_x26_, .str t_x27_, .str t_x28_, .str t_x29_, .str t_x30_]
abbrev w_TAKEN : List D := [.str t_say, .str t_go, .str t_part, .str t_end]
/-- 0 thing 1 sign -/
noncomputable def l_is_name_1 : SM := sIf (tAnd (tBl (mOp oNotIn (mVar 1) (mC (.str t_x0_abcdefghijkl)))) (tBl (mOp oNotIn (mVar 1) (mC (.str t_x1_0123456789))))) (sRet (mC (.bl false))) (sNx)
noncomputable def b_is_name : SM := sSeq (sIf (tOr (tNot (tTru (mUn (bIsI .str) (mVar 0)))) (tOr (tNot (tBl (mChain oLe oLe (mC (.int 1)) (mCall bLen (aCons (mVar 0) aNil)) (mC (.int 8))))) (tBl (mOp oIn (mVar 0) (mC (.wtp w_TAKEN)))))) (sRet (mC (.bl false))) (sNx)) (sSeq (sFor (iStr (mVar 0)) (gName 1) (l_is_name_1)) (sRet (mOp oIn (mOp oIx (mVar 0) (mC (.int 0))) (mC (.str t_x0_abcdefghijkl)))))
noncomputable def m_is_name : Fn := mDef 1 2 b_is_name
/-- 0 thing -/
noncomputable def b_is_whole_number : SM := sRet (mAnd (mUn (bIsI .int) (mVar 0)) (mAnd (mNot (mUn (bIsI .bool) (mVar 0))) (mOp oGe (mVar 0) (mC (.int 0)))))
noncomputable def m_is_whole_number : Fn := mDef 1 1 b_is_whole_number
/-- 0 thing -/
noncomputable def b_is_worth : SM := sRet (mAnd (mCall m_is_whole_number (aCons (mVar 0) aNil)) (mOp oLt (mVar 0) (mC (.int 18446744073709551616))))
noncomputable def m_is_worth : Fn := mDef 1 1 b_is_worth
/-- 0 thing -/
noncomputable def b_is_operand : SM := sRet (mOr (mCall m_is_name (aCons (mVar 0) aNil)) (mCall m_is_worth (aCons (mVar 0) aNil)))
noncomputable def m_is_operand : Fn := mDef 1 1 b_is_operand
/-- 0 thing 1 kind -/
noncomputable def b_is_row : SM := sSeq (sIf (tOr (tNot (tTru (mUn (bIsI .tuple) (mVar 0)))) (tBl (mOp oEqX (mCall bLen (aCons (mVar 0) aNil)) (mC (.int 0))))) (sRet (mC (.bl false))) (sNx)) (sSeq (sAsg (mOp oIx (mVar 0) (mC (.int 0))) (gName 1)) (sSeq (sIf (tBl (mOp oEqX (mVar 1) (mC (.str t_reckon)))) (sSeq (sIf (tOr (tBl (mOp oNe (mCall bLen (aCons (mVar 0) aNil)) (mC (.int 5)))) (tOr (tNot (tTru (mUn (bIsI .str) (mOp oIx (mVar 0) (mC (.int 2)))))) (tBl (mOp oNotIn (mOp oIx (mVar 0) (mC (.int 2))) (mC (.wtp w_SIGNS)))))) (sRet (mC (.bl false))) (sNx)) (sRet (mAnd (mCall m_is_name (aCons (mOp oIx (mVar 0) (mC (.int 1))) aNil)) (mAnd (mCall m_is_operand (aCons (mOp oIx (mVar 0) (mC (.int 3))) aNil)) (mCall m_is_operand (aCons (mOp oIx (mVar 0) (mC (.int 4))) aNil)))))) (sNx)) (sSeq (sIf (tBl (mOp oEqX (mVar 1) (mC (.str t_copy)))) (sRet (mAnd (mOp oEqX (mCall bLen (aCons (mVar 0) aNil)) (mC (.int 3))) (mAnd (mCall m_is_name (aCons (mOp oIx (mVar 0) (mC (.int 1))) aNil)) (mCall m_is_operand (aCons (mOp oIx (mVar 0) (mC (.int 2))) aNil))))) (sNx)) (sSeq (sIf (tBl (mOp oEqX (mVar 1) (mC (.str t_say)))) (sRet (mAnd (mOp oEqX (mCall bLen (aCons (mVar 0) aNil)) (mC (.int 2))) (mCall m_is_operand (aCons (mOp oIx (mVar 0) (mC (.int 1))) aNil)))) (sNx)) (sSeq (sIf (tBl (mOp oEqX (mVar 1) (mC (.str t_go)))) (sRet (mAnd (mOp oEqX (mCall bLen (aCons (mVar 0) aNil)) (mC (.int 2))) (mCall m_is_whole_number (aCons (mOp oIx (mVar 0) (mC (.int 1))) aNil)))) (sNx)) (sSeq (sIf (tBl (mOp oEqX (mVar 1) (mC (.str t_part)))) (sRet (mAnd (mOp oEqX (mCall bLen (aCons (mVar 0) aNil)) (mC (.int 3))) (mAnd (mCall m_is_operand (aCons (mOp oIx (mVar 0) (mC (.int 1))) aNil)) (mCall m_is_whole_number (aCons (mOp oIx (mVar 0) (mC (.int 2))) aNil))))) (sNx)) (sRet (mAnd (mOp oEqX (mVar 1) (mC (.str t_end))) (mOp oEqX (mCall bLen (aCons (mVar 0) aNil)) (mC (.int 1)))))))))))
noncomputable def m_is_row : Fn := mDef 1 2 b_is_row
/-- 0 script 1 k 2 many -/
noncomputable def b_law_cell : SM := sSeq (sIf (tBl (mOp oLt (mVar 1) (mCall bLen (aCons (mVar 0) aNil)))) (sRet (mOp oIx (mVar 0) (mVar 1))) (sNx)) (sSeq (sAsg (mCall bLen (aCons (mVar 0) aNil)) (gName 2)) (sSeq (sIf (tBl (mOp oEqX (mVar 2) (mC (.int 0)))) (sRet (mOp oMul (mVar 1) (mC (.int 7919)))) (sNx)) (sRet (mOp oAdd (mOp oMul (mOp oMod (mCall bAbs (aCons (mOp oIx (mVar 0) (mOp oMod (mVar 1) (mVar 2))) aNil)) (mC (.int 1000003))) (mOp oAdd (mVar 1) (mC (.int 2)))) (mOp oMul (mVar 1) (mC (.int 7919)))))))
noncomputable def m_law_cell : Fn := mDef 2 3 b_law_cell
/-- 0 cell_here 1 many 2 signs 3 size 4 spot 5 some 6 j 7 found 8 k 9 name -/
noncomputable def e_law_names_1 : EM := mOp oIx (mVar 2) (mOp oMod (mOp oDiv (mVar 0) (mOp oAdd (mC (.int 64)) (mOp oMul (mC (.int 5)) (mVar 6)))) (mOp oIx (mLst (aCons (mC (.int 26)) (aCons (mC (.int 36)) aNil))) (mCall bInt (aCons (mOp oGt (mVar 6) (mC (.int 0))) aNil))))
noncomputable def l_law_names_2 : SM := sSeq (sAsg (mOp oIx (mVar 2) (mOp oMod (mOp oAdd (mOp oDiv (mVar 0) (mC (.int 64))) (mVar 8)) (mC (.int 26)))) (gSub (mVar 5) (mVar 4))) (sSeq (sAsg (mMt isStr sJoin (mC (.str t_x9_)) (aCons (mVar 5) aNil)) (gName 9)) (sSeq (sIf (tBl (mOp oIn (mVar 9) (mTup (aCons (mC (.str t_say)) (aCons (mC (.str t_go)) (aCons (mC (.str t_part)) (aCons (mC (.str t_end)) aNil))))))) (sAsg (mOp oAdd (mVar 9) (mC (.str t_x10_0))) (gName 9)) (sNx)) (sExp (mMt isLst lAppend (mVar 7) (aCons (mVar 9) aNil)))))
noncomputable def b_law_names : SM := sSeq (sAsg (mC (.str t_x8_abcdefghijkl)) (gName 2)) (sSeq (sAsg (mOp oAdd (mC (.int 1)) (mOp oMod (mVar 0) (mC (.int 8)))) (gName 3)) (sSeq (sAsg (mOp oMod (mOp oDiv (mVar 0) (mC (.int 8))) (mVar 3)) (gName 4)) (sSeq (sAsg (mLc [6] (iRng1 (aCons (mVar 3) aNil)) (gName 6) (tYes) (e_law_names_1)) (gName 5)) (sSeq (sAsg (mLst (aNil)) (gName 7)) (sSeq (sFor (iRng1 (aCons (mVar 1) aNil)) (gName 8) (l_law_names_2)) (sRet (mVar 7)))))))
noncomputable def m_law_names : Fn := mDef 2 10 b_law_names
/-- 0 cell_here 1 signs -/
noncomputable def b_law_any_sign : SM := sSeq (sAsg (mC (.str t_x11_0123456789ab)) (gName 1)) (sRet (mOp oIx (mVar 1) (mOp oMod (mVar 0) (mC (.int 95)))))
noncomputable def m_law_any_sign : Fn := mDef 1 2 b_law_any_sign
/-- 0 script 1 signs 2 cell_here 3 some 4 k -/
noncomputable def e_law_text_1 : EM := mOp oIx (mVar 1) (mOp oMod (mCall m_law_cell (aCons (mVar 0) (aCons (mOp oAdd (mC (.int 3)) (mVar 4)) aNil))) (mC (.int 36)))
noncomputable def b_law_text : SM := sSeq (sAsg (mC (.str t_x8_abcdefghijkl)) (gName 1)) (sSeq (sAsg (mCall m_law_cell (aCons (mVar 0) (aCons (mC (.int 0)) aNil))) (gName 2)) (sSeq (sAsg (mLc [4] (iRng1 (aCons (mOp oMod (mOp oDiv (mVar 2) (mC (.int 2))) (mC (.int 11))) aNil)) (gName 4) (tYes) (e_law_text_1)) (gName 3)) (sSeq (sIf (tAnd (tBl (mOp oEqX (mOp oMod (mVar 2) (mC (.int 2))) (mC (.int 1)))) (tBl (mOp oGt (mCall bLen (aCons (mVar 3) aNil)) (mC (.int 0))))) (sAsg (mCall m_law_any_sign (aCons (mCall m_law_cell (aCons (mVar 0) (aCons (mC (.int 1)) aNil))) aNil)) (gSub (mVar 3) (mOp oMod (mOp oDiv (mVar 2) (mC (.int 22))) (mCall bLen (aCons (mVar 3) aNil))))) (sNx)) (sRet (mMt isStr sJoin (mC (.str t_x9_)) (aCons (mVar 3) aNil))))))
noncomputable def m_law_text : Fn := mDef 1 5 b_law_text
/-- 0 text_here 1 sign -/
noncomputable def l_law_due_name_1 : SM := sIf (tBl (mOp oNotIn (mVar 1) (mC (.str t_x8_abcdefghijkl)))) (sRet (mC (.bl false))) (sNx)
noncomputable def b_law_due_name : SM := sSeq (sIf (tOr (tBl (mOp oIn (mVar 0) (mTup (aCons (mC (.str t_say)) (aCons (mC (.str t_go)) (aCons (mC (.str t_part)) (aCons (mC (.str t_end)) aNil))))))) (tOr (tNot (tBl (mChain oLe oLe (mC (.int 1)) (mCall bLen (aCons (mVar 0) aNil)) (mC (.int 8))))) (tBl (mOp oIn (mOp oIx (mVar 0) (mC (.int 0))) (mC (.str t_x1_0123456789)))))) (sRet (mC (.bl false))) (sNx)) (sSeq (sFor (iStr (mVar 0)) (gName 1) (l_law_due_name_1)) (sRet (mC (.bl true))))
noncomputable def m_law_due_name : Fn := mDef 1 2 b_law_due_name
/-- 0 cell_here 1 names_here 2 some -/
noncomputable def b_law_operand : SM := sSeq (sAsg (mLst (aCons (mOp oIx (mVar 1) (mOp oMod (mOp oDiv (mVar 0) (mC (.int 4))) (mCall bLen (aCons (mVar 1) aNil)))) (aCons (mOp oMod (mOp oDiv (mVar 0) (mC (.int 4))) (mC (.int 18446744073709551616))) (aCons (mOp oMod (mOp oDiv (mVar 0) (mC (.int 4))) (mC (.int 3))) (aCons (mC (.int 18446744073709551615)) aNil))))) (gName 2)) (sRet (mOp oIx (mVar 2) (mOp oMod (mVar 0) (mC (.int 4)))))
noncomputable def m_law_operand : Fn := mDef 2 3 b_law_operand
/-- 0 cell_here 1 far 2 some -/
noncomputable def b_law_no_operand : SM := sSeq (sAsg (mOp oAdd (mC (.int 18446744073709551616)) (mOp oMod (mOp oDiv (mVar 0) (mC (.int 12))) (mOp oPow (mC (.int 10)) (mC (.int 30))))) (gName 1)) (sSeq (sAsg (mLst (aCons (mC .non) (aCons (mC (.bl true)) (aCons (mOp oSub (mUn uNeg (mC (.int 1))) (mOp oMod (mOp oDiv (mVar 0) (mC (.int 12))) (mOp oPow (mC (.int 10)) (mC (.int 30))))) (aCons (mVar 1) (aCons (mC (.int 18446744073709551616)) (aCons (mC (.str t_x14_a)) (aCons (mC (.str t_x9_)) (aCons (mC (.str t_x13_9a)) (aCons (mC (.str t_part)) (aCons (mC (.str t_abcdefghi)) aNil))))))))))) (gName 2)) (sRet (mOp oIx (mOp oAdd (mVar 2) (mLst (aCons (mTup (aCons (mC (.str t_a)) aNil)) (aCons (mLst (aCons (mC (.str t_a)) aNil)) aNil)))) (mOp oMod (mVar 0) (mC (.int 12))))))
noncomputable def m_law_no_operand : Fn := mDef 1 3 b_law_no_operand
/-- 0 kind 1 cells 2 names_here 3 x 4 one 5 other -/
noncomputable def b_law_row : SM := sSeq (sAsg (mOp oIx (mVar 2) (mOp oMod (mOp oIx (mVar 1) (mC (.int 0))) (mCall bLen (aCons (mVar 2) aNil)))) (gName 3)) (sSeq (sAsg (mCall m_law_operand (aCons (mOp oIx (mVar 1) (mC (.int 1))) (aCons (mVar 2) aNil))) (gName 4)) (sSeq (sAsg (mCall m_law_operand (aCons (mOp oIx (mVar 1) (mC (.int 2))) (aCons (mVar 2) aNil))) (gName 5)) (sSeq (sIf (tBl (mOp oEqX (mVar 0) (mC (.int 0)))) (sRet (mTup (aCons (mC (.str t_reckon)) (aCons (mVar 3) (aCons (mOp oIx (mC (.str t_x16_)) (mOp oMod (mOp oIx (mVar 1) (mC (.int 3))) (mC (.int 8)))) (aCons (mVar 4) (aCons (mVar 5) aNil))))))) (sNx)) (sSeq (sIf (tBl (mOp oEqX (mVar 0) (mC (.int 1)))) (sRet (mTup (aCons (mC (.str t_copy)) (aCons (mVar 3) (aCons (mVar 4) aNil))))) (sNx)) (sSeq (sIf (tBl (mOp oEqX (mVar 0) (mC (.int 2)))) (sRet (mTup (aCons (mC (.str t_say)) (aCons (mVar 4) aNil)))) (sNx)) (sSeq (sIf (tBl (mOp oEqX (mVar 0) (mC (.int 3)))) (sRet (mTup (aCons (mC (.str t_go)) (aCons (mOp oMod (mOp oIx (mVar 1) (mC (.int 3))) (mOp oPow (mC (.int 10)) (mC (.int 20)))) aNil)))) (sNx)) (sRet (mOp oIx (mLst (aCons (mTup (aCons (mC (.str t_part)) (aCons (mVar 4) (aCons (mOp oMod (mOp oIx (mVar 1) (mC (.int 3))) (mOp oPow (mC (.int 10)) (mC (.int 20)))) aNil)))) (aCons (mTup (aCons (mC (.str t_end)) aNil)) aNil))) (mOp oSub (mVar 0) (mC (.int 4)))))))))))
noncomputable def m_law_row : Fn := mDef 3 6 b_law_row
/-- 0 kind 1 spot 2 cell_here 3 word -/
noncomputable def b_law_wrong : SM := sSeq (sAsg (mOp oIx (mLst (aCons (mC (.str t_reckon)) (aCons (mC (.str t_copy)) (aCons (mC (.str t_say)) (aCons (mC (.str t_go)) (aCons (mC (.str t_part)) (aCons (mC (.str t_end)) aNil))))))) (mVar 0)) (gName 3)) (sSeq (sIf (tBl (mOp oEqX (mVar 1) (mC (.int 0)))) (sRet (mOp oIx (mLst (aCons (mOp oAdd (mVar 3) (mC (.str t_s))) (aCons (mMt isStr sUpper (mVar 3) aNil) (aCons (mC (.str t_x9_)) (aCons (mSl (mVar 3) (pNo) (pSome (mUn uNeg (mC (.int 1))))) (aCons (mC .non) (aCons (mTup (aCons (mVar 3) aNil)) (aCons (mC (.int 0)) (aCons (mLst (aCons (mVar 3) aNil)) (aCons (mNewK) aNil)))))))))) (mOp oMod (mVar 2) (mC (.int 9))))) (sNx)) (sSeq (sIf (tAnd (tBl (mOp oEqX (mVar 1) (mC (.int 1)))) (tBl (mOp oLt (mVar 0) (mC (.int 2))))) (sRet (mOp oIx (mLst (aCons (mOp oMod (mOp oDiv (mVar 2) (mC (.int 12))) (mC (.int 3))) (aCons (mCall m_law_no_operand (aCons (mVar 2) aNil)) aNil))) (mOp oMod (mOp oDiv (mVar 2) (mC (.int 3))) (mC (.int 2))))) (sNx)) (sSeq (sIf (tAnd (tBl (mOp oEqX (mVar 0) (mC (.int 0)))) (tBl (mOp oEqX (mVar 1) (mC (.int 2))))) (sRet (mOp oIx (mLst (aCons (mC (.str t_x22_)) (aCons (mC (.str t_x21_)) (aCons (mC (.str t_x9_)) (aCons (mC (.str t_x20_)) (aCons (mC .non) (aCons (mC (.int 3)) (aCons (mC (.str t_x19_)) (aCons (mTup (aCons (mC (.str t_x18_)) aNil)) (aCons (mC (.str t_a)) (aCons (mLst (aCons (mC (.str t_x18_)) aNil)) aNil))))))))))) (mOp oMod (mVar 2) (mC (.int 10))))) (sNx)) (sSeq (sIf (tOr (tBl (mOp oEqX (mVar 0) (mC (.int 3)))) (tAnd (tBl (mOp oEqX (mVar 0) (mC (.int 4)))) (tBl (mOp oEqX (mVar 1) (mC (.int 2)))))) (sRet (mOp oIx (mLst (aCons (mC .non) (aCons (mC (.bl true)) (aCons (mOp oSub (mUn uNeg (mC (.int 1))) (mOp oMod (mOp oDiv (mVar 2) (mC (.int 5))) (mOp oPow (mC (.int 10)) (mC (.int 30))))) (aCons (mC (.str t_x10_0)) (aCons (mC (.str t_a)) aNil)))))) (mOp oMod (mVar 2) (mC (.int 5))))) (sNx)) (sRet (mCall m_law_no_operand (aCons (mVar 2) aNil)))))))
noncomputable def m_law_wrong : Fn := mDef 3 4 b_law_wrong
/-- 0 row_here 1 kind 2 way 3 cell_here 4 spot -/
noncomputable def b_law_made : SM := sSeq (sAsg (mOp oMod (mOp oDiv (mVar 3) (mC (.int 5))) (mCall bLen (aCons (mVar 0) aNil))) (gName 4)) (sSeq (sIf (tBl (mOp oEqX (mVar 2) (mC (.int 1)))) (sRet (mOp oAddA (mSlA (mVar 0) (pNo) (pSome (mVar 4))) (mSlA (mVar 0) (pSome (mOp oAddA (mVar 4) (mC (.int 1)))) (pNo)))) (sNx)) (sSeq (sIf (tBl (mOp oEqX (mVar 2) (mC (.int 2)))) (sRet (mOp oAddA (mOp oAddA (mSlA (mVar 0) (pNo) (pSome (mOp oAddA (mVar 4) (mC (.int 1))))) (mTup (aCons (mCall m_law_operand (aCons (mVar 3) (aCons (mLst (aCons (mC (.str t_a)) aNil)) aNil))) aNil))) (mSlA (mVar 0) (pSome (mOp oAddA (mVar 4) (mC (.int 1)))) (pNo)))) (sNx)) (sSeq (sIf (tBl (mOp oEqX (mVar 2) (mC (.int 3)))) (sRet (mOp oIx (mLst (aCons (mCall bList (aCons (mVar 0) aNil)) (aCons (mOp oIx (mVar 0) (mC (.int 0))) (aCons (mTup (aCons (mVar 0) aNil)) (aCons (mC .non) (aCons (mNewK) aNil)))))) (mOp oMod (mOp oDiv (mVar 3) (mC (.int 25))) (mC (.int 5))))) (sNx)) (sRet (mOp oAddA (mOp oAddA (mSlA (mVar 0) (pNo) (pSome (mVar 4))) (mTup (aCons (mCall m_law_wrong (aCons (mVar 1) (aCons (mVar 4) (aCons (mOp oDiv (mVar 3) (mC (.int 25))) aNil)))) aNil))) (mSlA (mVar 0) (pSome (mOp oAddA (mVar 4) (mC (.int 1)))) (pNo)))))))
noncomputable def m_law_made : Fn := mDef 4 5 b_law_made
/-- 0 thing 1 name 2 row_here 3 one 4 other -/
noncomputable def b_law_good : SM := sSeq (sAsg (mCall m_is_name (aCons (mVar 0) aNil)) (gName 3)) (sSeq (sAsg (mCall m_is_row (aCons (mVar 0) aNil)) (gName 4)) (sRet (mAnd (mUn (bIsI .bool) (mVar 3)) (mAnd (mUn (bIsI .bool) (mVar 4)) (mOp oEqX (mLst (aCons (mVar 3) (aCons (mVar 4) aNil))) (mLst (aCons (mVar 1) (aCons (mVar 2) aNil))))))))
noncomputable def m_law_good : Fn := mDef 3 5 b_law_good
/-- 0 script 1 text_here 2 names_here 3 kind 4 row_here 5 k 6 way 7 bad 8 turn 9 thing -/
noncomputable def e_law_1 : EM := mCall m_law_cell (aCons (mVar 0) (aCons (mOp oAdd (mC (.int 3)) (mVar 5)) aNil))
noncomputable def l_law_2 : SM := sIf (tNot (tTru (mCall m_law_good (aCons (mVar 9) (aCons (mC (.bl false)) (aCons (mC (.bl false)) aNil)))))) (sRet (mC (.bl false))) (sNx)
noncomputable def l_law_3 : SM := sSeq (sIf (tOr (tNot (tTru (mCall m_law_good (aCons (mVar 1) (aCons (mCall m_law_due_name (aCons (mVar 1) aNil)) (aCons (mC (.bl false)) aNil)))))) (tNot (tTru (mCall m_law_good (aCons (mVar 4) (aCons (mC (.bl false)) (aCons (mC (.bl true)) aNil))))))) (sRet (mC (.bl false))) (sNx)) (sSeq (sIf (tAnd (tBl (mOp oGt (mVar 6) (mC (.int 0)))) (tAnd (tBl (mOp oLt (mVar 6) (mC (.int 4)))) (tNot (tTru (mCall m_law_good (aCons (mVar 7) (aCons (mAnd (mUn (bIsI .str) (mVar 7)) (mCall m_law_due_name (aCons (mVar 7) aNil))) (aCons (mC (.bl false)) aNil)))))))) (sRet (mC (.bl false))) (sNx)) (sSeq (sIf (tAnd (tBl (mOp oEqX (mVar 6) (mC (.int 4)))) (tNot (tTru (mCall m_law_good (aCons (mVar 7) (aCons (mC (.bl false)) (aCons (mC (.bl false)) aNil))))))) (sRet (mC (.bl false))) (sNx)) (sSeq (sFor (iSeq (mLst (aCons (mC .non) (aCons (mC (.bl true)) (aCons (mC (.int 7)) (aCons (mLst (aCons (mVar 1) aNil)) (aCons (mTup (aCons (mTup (aCons (mVar 1) aNil)) aNil)) (aCons (mNewK) (aCons (mTup (aNil)) (aCons (mLst (aNil)) (aCons (mTup (aCons (mC (.str t_go)) aNil)) (aCons (mTup (aCons (mC (.str t_end)) (aCons (mC (.int 0)) aNil))) (aCons (mC (.str t_say)) (aCons (mC (.str t_go)) (aCons (mC (.str t_part)) (aCons (mC (.str t_end)) aNil)))))))))))))))) (gName 9) (l_law_2)) (sIf (tOr (tNot (tTru (mCall m_law_good (aCons (mC (.str t_abcdefgh)) (aCons (mC (.bl true)) (aCons (mC (.bl false)) aNil)))))) (tNot (tTru (mCall m_law_good (aCons (mTup (aCons (mC (.str t_end)) aNil)) (aCons (mC (.bl false)) (aCons (mC (.bl true)) aNil))))))) (sRet (mC (.bl false))) (sNx)))))
noncomputable def b_law : SM := sSeq (sAsg (mCall m_law_text (aCons (mVar 0) aNil)) (gName 1)) (sSeq (sAsg (mCall m_law_names (aCons (mCall m_law_cell (aCons (mVar 0) (aCons (mC (.int 1)) aNil))) (aCons (mC (.int 5)) aNil))) (gName 2)) (sSeq (sAsg (mOp oMod (mCall m_law_cell (aCons (mVar 0) (aCons (mC (.int 2)) aNil))) (mC (.int 6))) (gName 3)) (sSeq (sAsg (mCall m_law_row (aCons (mVar 3) (aCons (mLc [5] (iRng1 (aCons (mC (.int 4)) aNil)) (gName 5) (tYes) (e_law_1)) (aCons (mVar 2) aNil)))) (gName 4)) (sSeq (sAsg (mOp oMod (mOp oDiv (mCall m_law_cell (aCons (mVar 0) (aCons (mC (.int 2)) aNil))) (mC (.int 6))) (mC (.int 5))) (gName 6)) (sSeq (sAsg (mCall m_law_made (aCons (mVar 4) (aCons (mVar 3) (aCons (mVar 6) (aCons (mCall m_law_cell (aCons (mVar 0) (aCons (mC (.int 7)) aNil))) aNil))))) (gName 7)) (sSeq (sFor (iRng1 (aCons (mC (.int 2)) aNil)) (gName 8) (l_law_3)) (sRet (mC (.bl true)))))))))
noncomputable def m_law : Fn := mDef 1 10 b_law
end Lk10

set_option Elab.async false
set_option linter.all false
/-! rows, operands, reckonings as values of the small language; data by their keys -/
namespace Mi
/-! ### at a written place -/
theorem at_of {α : Type} {l : List α} {k : Nat} {d : α} (h : l[k]? = some d) : atI l (k : Int) = some d := by
  have hk := (List.getElem?_eq_some_iff.mp h).1
  unfold atI ixN
  rw [if_pos (Int.natCast_nonneg k), if_pos (by omega), Option.bind_some, Int.toNat_natCast, h]
@[simp] theorem at0 {α : Type} (a : α) (l : List α) : atI (a :: l) 0 = some a := at_of (k := 0) rfl
@[simp] theorem at1 {α : Type} (a b : α) (l : List α) : atI (a :: b :: l) 1 = some b := at_of (k := 1) rfl
@[simp] theorem at2 {α : Type} (a b c : α) (l : List α) : atI (a :: b :: c :: l) 2 = some c := at_of (k := 2) rfl
@[simp] theorem at3 {α : Type} (a b c d : α) (l : List α) : atI (a :: b :: c :: d :: l) 3 = some d := at_of (k := 3) rfl
@[simp] theorem at4 {α : Type} (a b c d e : α) (l : List α) : atI (a :: b :: c :: d :: e :: l) 4 = some e := at_of (k := 4) rfl
@[simp] theorem at5 {α : Type} (a b c d e f : α) (l : List α) : atI (a :: b :: c :: d :: e :: f :: l) 5 = some f := at_of (k := 5) rfl
theorem at_last {α : Type} (l : List α) (a : α) : atI (l ++ [a]) (-1) = some a := by
  have e : ixN (l ++ [a]).length (-1) = some l.length := by
    unfold ixN
    rw [if_neg (by decide), if_pos (by rw [List.length_append]; simp; omega)]
    congr 1
    rw [List.length_append, List.length_singleton]
    omega
  unfold atI
  rw [e]; simp
theorem div_ok {j : Int} (h : 0 < j) (h2 : j < 2 ^ 64) : divOk j := ⟨h, by
  have : j.natAbs < 2 ^ 64 := by omega
  have : j.natAbs.log2 < 64 := (Nat.log2_lt (by omega)).mpr this
  omega⟩
theorem mul_r {i j : Int} (h : small j) : mulOk i j := .inr (.inl h)
theorem mul_l {i j : Int} (h : small i) : mulOk i j := .inl h
theorem rng_at {lo : Int} {n i : Nat} {d : D} (h : (rng lo n)[i]? = some d) : i < n ∧ d = .int (lo + i) := by
  unfold rng at h
  rw [List.getElem?_map] at h
  by_cases hi : i < n
  · rw [List.getElem?_range hi] at h
    exact ⟨hi, (Option.some.inj h).symm⟩
  · rw [List.getElem?_eq_none (by simpa using hi)] at h
    cases h
@[simp] theorem rng_len (lo : Int) (n : Nat) : (rng lo n).length = n := by simp [rng]
/-- a look behind the old part -/
theorem get_at {α : Type} (S : List α) (x : α) (G : List α) : (S ++ x :: G)[S.length]? = some x := by
  rw [List.getElem?_append_right (Nat.le_refl _), Nat.sub_self]; rfl
theorem set_at {α : Type} (S : List α) (x y : α) (G : List α) : (S ++ x :: G).set S.length y = S ++ y :: G := by
  rw [List.set_append_right _ _ (Nat.le_refl _), Nat.sub_self, List.set_cons_zero]
theorem beq_dec {α : Type} [DecidableEq α] (a b : α) : (a == b) = decide (a = b) := by
  by_cases h : a = b
  · subst h; simp
  · simp [h]
theorem str_dec (a b : Tx) : ((⟨a.toArray⟩ : PySem.Str) == ⟨b.toArray⟩) = decide (a = b) := by
  rw [beq_dec]
  congr 1
  simp
theorem dec_false {p : Prop} (h : ¬ p) : dec p = false := @decide_eq_false p (Classical.propDecidable p) h
@[simp] theorem dec_iff {p : Prop} : (dec p = true) = p := propext ⟨of_dec, dec_true⟩
/-! ### keys -/
abbrev kp : Ky → PySem.PyData
  | .inl i => .int i
  | .inr s => .str ⟨s.toArray⟩
@[simp] theorem kyD_l (i : Int) : kyD (.inl i) = .int i := (rfl)
@[simp] theorem kyD_r (s : Tx) : kyD (.inr s) = .str s := (rfl)
def kOk : Ky → Bool
  | .inl _ => true
  | .inr s => s.all (· < 0x110000)
def kt (l : List Ky) : D := .tup (l.map kyD)
@[simp] theorem kyOf_kyD (k : Ky) : kyOf (kyD k) = some k := by cases k <;> rfl
@[simp] theorem kysOf_map (l : List Ky) : kysOf (l.map kyD) = some l := by
  induction l with
  | nil => rfl
  | cons k r ih => show (kyOf (kyD k)).bind _ = _; rw [kyOf_kyD, Option.bind_some, ih]; rfl
@[simp] theorem ktOf_t (l : List D) : ktOf (.tup l) = kysOf l := (rfl)
@[simp] theorem ktOf_kt (l : List Ky) : ktOf (kt l) = some l := kysOf_map l
@[simp] theorem flat_k (k : Ky) : flatD (kyD k) = true := by cases k <;> rfl
theorem eqF_k (a b : Ky) : eqF (kyD a) (kyD b) = decide (a = b) := by
  have h2 : ∀ s t : Tx, (s == t) = decide (s = t) := fun s t => by
    by_cases h : s = t
    · subst h; simp
    · simp [h]
  cases a <;> cases b <;> simp [kyD, eqF, beq_dec, h2]
theorem toP_k (rd : Nat → Option PySem.PyData) (k : Ky) : toP rd (kyD k) = some (kp k) := by cases k <;> rfl
theorem toPs_k (rd : Nat → Option PySem.PyData) (l : List Ky) : toPs rd (l.map kyD) = some (l.map kp) := by
  induction l with
  | nil => rfl
  | cons k r ih => rw [List.map_cons, toPs, toP_k, Option.bind_some, ih]; rfl
theorem toP_kt (rd : Nat → Option PySem.PyData) (l : List Ky) : toP rd (kt l) = some (.tuple (l.map kp)) := by
  unfold kt
  rw [toP, toPs_k]; rfl
theorem toPs_kt (rd : Nat → Option PySem.PyData) (L : List (List Ky)) : toPs rd (L.map kt) = some (L.map fun l => .tuple (l.map kp)) := by
  induction L with
  | nil => rfl
  | cons k r ih => rw [List.map_cons, toPs, toP_kt, Option.bind_some, ih]; rfl
theorem eqv_k (a b : Ky) : PySem.PyData.eqv (kp a) (kp b) = decide (a = b) := by
  cases a <;> cases b <;> simp [kp, PySem.PyData.eqv, beq_dec, str_dec]
theorem eqv_ks (a b : List Ky) : PySem.PyData.eqvAll (a.map kp) (b.map kp) = decide (a = b) := by
  induction a generalizing b with
  | nil => cases b <;> simp [PySem.PyData.eqvAll]
  | cons x r ih =>
    cases b with
    | nil => simp [PySem.PyData.eqvAll]
    | cons y q => simp [PySem.PyData.eqvAll, eqv_k, ih]
theorem eqv_kt (a b : List Ky) : PySem.PyData.eqv (.tuple (a.map kp)) (.tuple (b.map kp)) = decide (a = b) := by
  unfold PySem.PyData.eqv; exact eqv_ks a b
theorem eqv_kts (a b : List (List Ky)) : PySem.PyData.eqvAll (a.map fun l => .tuple (l.map kp)) (b.map fun l => .tuple (l.map kp)) = decide (a = b) := by
  induction a generalizing b with
  | nil => cases b <;> simp [PySem.PyData.eqvAll]
  | cons x r ih =>
    cases b with
    | nil => simp [PySem.PyData.eqvAll]
    | cons y q => simp [PySem.PyData.eqvAll, eqv_kt, ih]
theorem lay_k {k : Ky} (h : kOk k = true) : PySem.PyData.canLay0 (kp k) = true := by
  cases k with
  | inl i => simp [PySem.PyData.canLay0]
  | inr s =>
    simp only [PySem.PyData.canLay0, PySem.PyData.strOk]
    simpa [kOk] using h
theorem lay_ks {l : List Ky} (h : l.all kOk = true) : PySem.PyData.canLayAll0 (l.map kp) = true := by
  induction l with
  | nil => simp [PySem.PyData.canLayAll0]
  | cons k r ih =>
    rw [List.all_cons, Bool.and_eq_true] at h
    simp only [List.map_cons, PySem.PyData.canLayAll0, lay_k h.1, ih h.2, Bool.and_self]
theorem dep_ks (l : List Ky) : PySem.PyData.depthAll (l.map kp) = 0 := by
  induction l with
  | nil => simp [PySem.PyData.depthAll]
  | cons k r ih =>
    cases k <;> simp [PySem.PyData.depthAll, PySem.PyData.depth, ih]
theorem shp_kt {l : List Ky} (h : l.all kOk = true) : shp (.tuple (l.map kp)) = true := by
  unfold shp PySem.SeqAt.shaped
  simp [PySem.PyData.canLay0, PySem.PyData.depth, lay_ks h, dep_ks]
theorem lay_kts {L : List (List Ky)} (h : L.all (fun l => l.all kOk) = true) : PySem.PyData.canLayAll0 (L.map fun l => .tuple (l.map kp)) = true := by
  induction L with
  | nil => simp [PySem.PyData.canLayAll0]
  | cons k r ih =>
    rw [List.all_cons, Bool.and_eq_true] at h
    simp only [List.map_cons, PySem.PyData.canLayAll0, PySem.PyData.canLay0, lay_ks h.1, ih h.2, Bool.and_self]
theorem dep_kts (L : List (List Ky)) : PySem.PyData.depthAll (L.map fun l => .tuple (l.map kp)) ≤ 1 := by
  induction L with
  | nil => simp [PySem.PyData.depthAll]
  | cons k r ih =>
    simp only [List.map_cons, PySem.PyData.depthAll, PySem.PyData.depth, dep_ks]
    omega
theorem shp_kts {L : List (List Ky)} (h : L.all (fun l => l.all kOk) = true) : shp (.list (L.map fun l => .tuple (l.map kp))) = true := by
  unfold shp PySem.SeqAt.shaped
  have := dep_kts L
  simp only [PySem.PyData.canLay0, PySem.PyData.depth, lay_kts h, Bool.true_and, decide_eq_true_eq]
  exact decide_eq_true (Nat.le_trans (Nat.add_le_add_right this 1) (show 1 + 1 ≤ 64 by decide))
theorem eq_kt {a b : List Ky} (S : Store) (ha : a.all kOk = true) (hb : b.all kOk = true) : pyEq (kt a) (kt b) S = some (decide (a = b)) := by
  unfold pyEq
  have e : scq (kt a) (kt b) = none := rfl
  rw [e]
  simp only [pd, toP_kt, shp_kt ha, shp_kt hb, and_self, if_true, eqv_kt]
theorem in_kts {x : List Ky} {L : List (List Ky)} (S : Store) (hx : x.all kOk = true) (hL : L.all (fun l => l.all kOk) = true) : inSeq (kt x) (L.map kt) S = some (dec (x ∈ L)) := by
  unfold inSeq
  rw [if_neg (by unfold kt flatD; simp)]
  simp only [pd, toP_kt, toPs_kt, shp_kt hx, shp_kts hL, and_self, if_true, List.any_map]
  congr 1
  induction L with
  | nil => exact (dec_false (by simp)).symm
  | cons y r ih =>
    rw [List.all_cons, Bool.and_eq_true] at hL
    simp only [List.any_cons, Function.comp, eqv_kt] at ih ⊢
    rw [ih hL.2]
    by_cases h : y = x
    · subst h; simp [dec_true]
    · have : ¬ x = y := fun q => h q.symm
      simp [h, this]
theorem in_ks (x : Ky) (l : List Ky) (S : Store) : inSeq (kyD x) (l.map kyD) S = some (dec (x ∈ l)) := by
  rw [inSeq_f S (flat_k x) (by simp), List.any_map]
  congr 1
  induction l with
  | nil => exact (dec_false (by simp)).symm
  | cons y r ih =>
    simp only [List.any_cons, Function.comp, eqF_k] at ih ⊢
    rw [ih]
    by_cases h : y = x
    · subst h; simp [dec_true]
    · have : ¬ x = y := fun q => h q.symm
      simp [h, this]
/-- lists of such tuples against one another -/
theorem eq_lkts {m n : Nat} {A B : List (List Ky)} {S : Store} (ha : lstOf S m = some (A.map kt)) (hb : lstOf S n = some (B.map kt)) (hA : A.all (fun l => l.all kOk) = true) (hB : B.all (fun l => l.all kOk) = true) : pyEq (.ref m) (.ref n) S = some (decide (A = B)) := by
  have look : ∀ {n A}, lstOf S n = some (List.map kt A) → lookP 8 S n = some (.list (A.map fun l => .tuple (l.map kp))) := fun {n A} h => by
    unfold lookP
    unfold lstOf at h
    cases hn : S[n]? with
    | none => rw [hn] at h; cases h
    | some o =>
      rw [hn] at h
      cases o with
      | lst l => dsimp only at h ⊢; obtain rfl := Option.some.inj h; rw [toPs_kt]; rfl
      | fls l => dsimp only at h ⊢; obtain rfl := Option.some.inj h; rw [toPs_kt]; rfl
      | _ => cases h
  unfold pyEq
  have e : scq (.ref m) (.ref n) = none := rfl
  rw [e]
  simp only [pd, toP, look ha, look hb, shp_kts hA, shp_kts hB, and_self, if_true]
  unfold PySem.PyData.eqv
  rw [eqv_kts]
/-! ### stores by what is found in them -/
theorem Pre.lt {S S' : Store} {n : Nat} {o : O} (h : S[n]? = some o) : n < S.length := (List.getElem?_eq_some_iff.mp h).1
theorem Pre.set {S S' : Store} {p : Nat} {x : O} (h : Pre S S') (hp : S.length ≤ p) : Pre S (S'.set p x) := by
  obtain ⟨G, rfl⟩ := h
  rw [List.set_append_right _ _ hp]
  exact ⟨_, rfl⟩
theorem set_ne {S : Store} {p q : Nat} {x : O} (h : p ≠ q) : (S.set p x)[q]? = S[q]? := List.getElem?_set_ne h
theorem app_get {S : Store} {n : Nat} {o : O} {G : Store} (h : S[n]? = some o) : (S ++ G)[n]? = some o := (Pre.app S G).get h
theorem app_new (S : Store) (o : O) (G : Store) : (S ++ o :: G)[S.length]? = some o := get_at S o G
theorem ne_new {S : Store} {n : Nat} {o : O} (h : S[n]? = some o) : S.length ≠ n := by have := Pre.lt (S' := S) h; omega
theorem ixN_of {n : Nat} {i : Int} (h : 0 ≤ i) (h2 : i < n) : ixN n i = some i.toNat := by
  unfold ixN
  rw [if_pos h, if_pos h2]
theorem at_nat {α : Type} {l : List α} {i : Int} {d : α} (h0 : 0 ≤ i) (h : l[i.toNat]? = some d) : atI l i = some d := by
  have := at_of h
  rw [Int.toNat_of_nonneg h0] at this
  exact this
/-! ### texts of single signs -/
abbrev sgn (c : Nat) : D := .str [c]
theorem txs_sgn (cs : Tx) : txsOf (cs.map sgn) = some (cs.map fun c => [c]) := by
  have := txs_map (cs.map fun c => [c])
  rw [List.map_map] at this
  exact this
theorem join_nil (ys : List Tx) : joinT [] ys = ys.flatten := by
  induction ys with
  | nil => rfl
  | cons y r ih =>
    cases r with
    | nil => simp [joinT]
    | cons z q => rw [joinT, ih]; simp
theorem flat_sgn (cs : Tx) : (cs.map fun c => [c]).flatten = cs := by
  induction cs with
  | nil => rfl
  | cons c r ih => simp [ih]
theorem sum_sgn (cs : Tx) : ((cs.map fun c => [c]).map List.length).sum = cs.length := by
  induction cs with
  | nil => rfl
  | cons c r ih => simp at ih ⊢; omega
theorem join_sgn {S : Store} {p : Nat} {cs : Tx} (h : S[p]? = some (.lst (cs.map sgn))) (hl : cs.length ≤ LINE) : sJoin (.str []) [.ref p] S = .ok (.str cs) S := by
  rw [sJoin_s, seqOf_r, lstOf_s, h]
  simp only [Option.bind_some, txs_sgn, joK_s, sum_sgn, join_nil, flat_sgn, List.length_nil, Nat.mul_zero, Nat.add_zero, hl, if_true]
/-- a row -/
inductive Row where
  | rk (n s : Tx) (a b : Ky) | cp (n : Tx) (a : Ky) | sy (a : Ky) | go (t : Int) | pt (a : Ky) (t : Int) | en
abbrev w_rk : Tx := [114, 101, 99, 107, 111, 110]
abbrev w_cp : Tx := [99, 111, 112, 121]
abbrev w_sy : Tx := [115, 97, 121]
abbrev w_go : Tx := [103, 111]
abbrev w_pt : Tx := [112, 97, 114, 116]
abbrev w_en : Tx := [101, 110, 100]
def Row.ks : Row → List Ky
  | .rk n s a b => [.inr w_rk, .inr n, .inr s, a, b]
  | .cp n a => [.inr w_cp, .inr n, a]
  | .sy a => [.inr w_sy, a]
  | .go t => [.inr w_go, .inl t]
  | .pt a t => [.inr w_pt, a, .inl t]
  | .en => [.inr w_en]
def Row.d (r : Row) : D := kt r.ks
abbrev SG : Tx := [97, 98, 99, 100, 101, 102, 103, 104, 105, 106, 107, 108, 109, 110, 111, 112, 113, 114, 115, 116, 117, 118, 119, 120, 121, 122, 48, 49, 50, 51, 52, 53, 54, 55, 56, 57]
abbrev S8 : Tx := [43, 45, 42, 38, 124, 94, 60, 61]
/-- a name -/
structure Nm (t : Tx) : Prop where
  lo : 1 ≤ t.length
  hi : t.length ≤ 8
  fst : ∃ c, t[0]? = some c ∧ 97 ≤ c ∧ c ≤ 122
  all : ∀ c ∈ t, c ∈ SG
  no : t ≠ w_sy ∧ t ≠ w_go ∧ t ≠ w_pt ∧ t ≠ w_en
theorem Nm.ok {t : Tx} (h : Nm t) : kOk (.inr t) = true := by
  show t.all _ = true
  rw [List.all_eq_true]
  intro c hc
  have : ∀ c ∈ SG, decide (c < 0x110000) = true := by decide
  exact this c (h.all c hc)
/-- what a name's signs are -/
structure Cs (cs : Tx) : Prop where
  lo : 1 ≤ cs.length
  hi : cs.length ≤ 8
  fst : ∃ c, cs[0]? = some c ∧ 97 ≤ c ∧ c ≤ 122
  all : ∀ c ∈ cs, c ∈ SG
theorem Cs.set {cs : Tx} (h : Cs cs) (i c : Nat) (hc : 97 ≤ c ∧ c ≤ 122) (hs : c ∈ SG) : Cs (cs.set i c) := by
  refine ⟨by simpa using h.lo, by simpa using h.hi, ?_, ?_⟩
  · obtain ⟨d, e, q⟩ := h.fst
    rw [List.getElem?_set]
    by_cases h0 : i = 0
    · subst h0
      rw [if_pos rfl, if_pos (Nat.lt_of_lt_of_le Nat.zero_lt_one h.lo)]
      exact ⟨c, rfl, hc⟩
    · rw [if_neg h0]; exact ⟨d, e, q⟩
  · intro d hd
    rcases List.mem_or_eq_of_mem_set hd with z | z
    · exact h.all d z
    · exact z ▸ hs
/-- the name of such signs -/
def nmOf (cs : Tx) : Tx := if cs = w_sy ∨ cs = w_go ∨ cs = w_pt ∨ cs = w_en then cs ++ [48] else cs
theorem Cs.nm {cs : Tx} (h : Cs cs) : Nm (nmOf cs) := by
  unfold nmOf
  split
  · rename_i q
    rcases q with rfl | rfl | rfl | rfl <;> exact ⟨by decide, by decide, ⟨_, rfl, by decide⟩, by decide, by decide⟩
  · rename_i q
    refine ⟨h.lo, h.hi, h.fst, h.all, ?_⟩
    refine ⟨fun e => q (.inl e), fun e => q (.inr (.inl e)), fun e => q (.inr (.inr (.inl e))), fun e => q (.inr (.inr (.inr e)))⟩
theorem sg_lt {i : Int} (h0 : 0 ≤ i) (h : i < 36) : ∃ c, atI SG i = some c ∧ c ∈ SG ∧ (i < 26 → 97 ≤ c ∧ c ≤ 122) := by
  have hl : i.toNat < SG.length := by show i.toNat < 36; omega
  refine ⟨SG[i.toNat], at_nat h0 (List.getElem?_eq_getElem hl), List.getElem_mem _, fun h2 => ?_⟩
  have all : ∀ k : Nat, k < 26 → ∀ c, SG[k]? = some c → 97 ≤ c ∧ c ≤ 122 := by decide
  exact all i.toNat (by omega) _ (List.getElem?_eq_getElem hl)
/-! ### comprehensions whose elements are told by a property -/
theorem lc_rel_go {hs : List (Nat × List D)} {g : GM} {t : TM} {e : EM} {fr : Fr} {S1 : Store} (P : D → D → Prop) :
    ∀ (items : List D) (acc : List D) (S : Store), Pre S1 S → S[S1.length]? = some (.lst acc) → (∀ p, p ∈ hs → lstOf S1 p.1 = some p.2) → acc.length + items.length ≤ LINE →
    (∀ d, d ∈ items → ∀ S, Pre S1 S → S1.length < S.length → ∃ fr' S', g d fr S = .ok fr' S ∧ t fr' S = .ok true S ∧ ∃ x, e fr' S = .ok x S' ∧ Pre S S' ∧ P d x) →
    ∃ xs S', lcLoop hs S1.length g t e fr items S = .ok (.ref S1.length) S' ∧ Pre S1 S' ∧ S'[S1.length]? = some (.lst (acc ++ xs)) ∧ xs.length = items.length ∧ ∀ (i : Nat) (d x : D), items[i]? = some d → xs[i]? = some x → P d x := by
  have stand : ∀ S, Pre S1 S → (∀ p, p ∈ hs → lstOf S1 p.1 = some p.2) → stands hs S := fun S pr h p hp => by
    have q := h p hp
    unfold lstOf at q ⊢
    cases hh : S1[p.1]? with
    | none => rw [hh] at q; cases q
    | some o => rw [pr.get hh]; rw [hh] at q; exact q
  intro items
  induction items with
  | nil => exact fun acc S pr ha h _ _ => ⟨[], S, by rw [lcLoop, dec_true (stand S pr h)]; rfl, pr, by rw [List.append_nil]; exact ha, rfl, fun i d x hd _ => by cases hd⟩
  | cons d ds ih =>
    intro acc S pr ha h hl step
    rw [List.length_cons] at hl
    obtain ⟨fr', S', e1, e2, x, e3, pr2, px⟩ := step d List.mem_cons_self S pr (Pre.lt (S' := S) ha)
    have ha' : S'[S1.length]? = some (.lst acc) := pr2.get ha
    obtain ⟨xs, S2, q, pr3, hx, hxl, hp⟩ := ih (acc ++ [x]) (S'.set S1.length (.lst (acc ++ [x]))) ((pr.trans pr2).set (Nat.le_refl _)) (set_get ha') h (by rw [List.length_append, List.length_singleton]; omega) fun d' hd' => step d' (List.mem_cons_of_mem _ hd')
    refine ⟨x :: xs, S2, ?_, pr3, by rw [hx, List.append_assoc]; rfl, by rw [List.length_cons, List.length_cons, hxl], ?_⟩
    · rw [lcLoop, dec_true (stand S pr h)]
      simp only [if_true, e1, bind_ok, e2, e3, ha']
      rw [if_pos (by omega), q]
    · intro i d' x' hd hx
      cases i with
      | zero => obtain rfl := Option.some.inj hd; obtain rfl := Option.some.inj hx; exact px
      | succ i => exact hp i d' x' hd hx
theorem lc_rel {vs : List Nat} {g : GM} {e : EM} {fr : Fr} {l : List D} {hs : List (Nat × List D)} {S : Store} (P : D → D → Prop) (h1 : ∀ p, p ∈ hs → lstOf S p.1 = some p.2) (h2 : l.length ≤ LINE)
    (h3 : ∀ d, d ∈ l → ∀ S', Pre S S' → ∃ fr' S2, g d (unset vs fr) S' = .ok fr' S' ∧ ∃ x, e fr' S' = .ok x S2 ∧ Pre S' S2 ∧ P d x) :
    ∃ xs S', lcK vs g tYes e fr (.ok ⟨l, hs⟩ S) = .ok (.ref S.length) S' ∧ Pre S S' ∧ S'[S.length]? = some (.lst xs) ∧ xs.length = l.length ∧ ∀ (i : Nat) (d x : D), l[i]? = some d → xs[i]? = some x → P d x := by
  obtain ⟨xs, S', q, pr, hx, hxl, hp⟩ := lc_rel_go (g := g) (t := fun fr S => quiet (tYes fr S)) (e := fun fr S => quiet (e fr S)) (fr := unset vs fr) P l [] (S ++ [.lst []]) (Pre.app _ _) (app_new _ _ _) h1 (by simpa using h2) fun d hd S' pr _ => by
    obtain ⟨fr', S2, e1, x, e2, pr2, px⟩ := h3 d hd S' pr
    exact ⟨fr', S2, e1, rfl, x, by rw [e2]; rfl, pr2, px⟩
  exact ⟨xs, S', q, pr, hx, hxl, hp⟩
theorem lc_fil_go {α : Type} {hs : List (Nat × List D)} {g : GM} {t : TM} {e : EM} {fr : Fr} {S1 : Store} (F H : α → D) (keep : α → Bool) :
    ∀ (items : List α) (acc : List D) (S : Store), Pre S1 S → S[S1.length]? = some (.lst acc) → (∀ p, p ∈ hs → lstOf S1 p.1 = some p.2) → acc.length + items.length ≤ LINE →
    (∀ a, a ∈ items → ∀ S, Pre S1 S → ∃ fr' S2, g (F a) fr S = .ok fr' S ∧ t fr' S = .ok (keep a) S2 ∧ Pre S S2 ∧ (keep a = true → ∃ S3, e fr' S2 = .ok (H a) S3 ∧ Pre S2 S3)) →
    ∃ S', lcLoop hs S1.length g t e fr (items.map F) S = .ok (.ref S1.length) S' ∧ Pre S1 S' ∧ S'[S1.length]? = some (.lst (acc ++ (items.filter keep).map H)) := by
  have stand : ∀ S, Pre S1 S → (∀ p, p ∈ hs → lstOf S1 p.1 = some p.2) → stands hs S := fun S pr h p hp => by
    have q := h p hp
    unfold lstOf at q ⊢
    cases hh : S1[p.1]? with
    | none => rw [hh] at q; cases q
    | some o => rw [pr.get hh]; rw [hh] at q; exact q
  intro items
  induction items with
  | nil => exact fun acc S pr ha h _ _ => ⟨S, by rw [List.map_nil, lcLoop, dec_true (stand S pr h)]; rfl, pr, by simpa using ha⟩
  | cons a as ih =>
    intro acc S pr ha h hl step
    rw [List.length_cons] at hl
    obtain ⟨fr', S2, e1, e2, pr2, e3⟩ := step a List.mem_cons_self S pr
    have ha' : S2[S1.length]? = some (.lst acc) := pr2.get ha
    cases hk : keep a with
    | false =>
      obtain ⟨S', q, pr3, hx⟩ := ih acc S2 (pr.trans pr2) ha' h (by omega) fun d' hd' => step d' (List.mem_cons_of_mem _ hd')
      refine ⟨S', ?_, pr3, by rw [hx, List.filter_cons_of_neg (by rw [hk]; exact Bool.false_ne_true)]⟩
      rw [List.map_cons, lcLoop, dec_true (stand S pr h)]
      rw [hk] at e2
      simp only [if_true, e1, bind_ok, e2, Bool.false_eq_true, if_false]
      exact q
    | true =>
      obtain ⟨S3, e4, pr4⟩ := e3 hk
      have ha2 : S3[S1.length]? = some (.lst acc) := pr4.get ha'
      obtain ⟨S', q, pr3, hx⟩ := ih (acc ++ [H a]) (S3.set S1.length (.lst (acc ++ [H a]))) (((pr.trans pr2).trans pr4).set (Nat.le_refl _)) (set_get ha2) h (by rw [List.length_append, List.length_singleton]; omega) fun d' hd' => step d' (List.mem_cons_of_mem _ hd')
      refine ⟨S', ?_, pr3, by rw [hx, List.filter_cons_of_pos hk, List.append_assoc]; rfl⟩
      rw [List.map_cons, lcLoop, dec_true (stand S pr h)]
      rw [hk] at e2
      simp only [if_true, e1, bind_ok, e2, e4, ha2]
      rw [if_pos (by omega)]
      exact q
/-- a comprehension over values of a kind -/
theorem lc_fil {α : Type} {vs : List Nat} {g : GM} {t : TM} {e : EM} {fr : Fr} {l : List D} {hs : List (Nat × List D)} {S : Store} (as : List α) (F H : α → D) (keep : α → Bool) (hl : l = as.map F) (h1 : ∀ p, p ∈ hs → lstOf S p.1 = some p.2) (h2 : as.length ≤ LINE)
    (h3 : ∀ a, a ∈ as → ∀ S', Pre S S' → ∃ fr' S2, g (F a) (unset vs fr) S' = .ok fr' S' ∧ t fr' S' = .ok (keep a) S2 ∧ Pre S' S2 ∧ (keep a = true → ∃ S3, e fr' S2 = .ok (H a) S3 ∧ Pre S2 S3)) :
    ∃ S', lcK vs g t e fr (.ok ⟨l, hs⟩ S) = .ok (.ref S.length) S' ∧ Pre S S' ∧ S'[S.length]? = some (.lst ((as.filter keep).map H)) := by
  subst hl
  obtain ⟨S', q, pr, hx⟩ := lc_fil_go (g := g) (t := fun fr S => quiet (t fr S)) (e := fun fr S => quiet (e fr S)) (fr := unset vs fr) (hs := hs) F H keep as [] (S ++ [.lst []]) (Pre.app _ _) (app_new _ _ _) h1 (by simpa using h2) fun a ha S' pr => by
    obtain ⟨fr', S2, e1, e2, pr2, k⟩ := h3 a ha S' pr
    refine ⟨fr', S2, e1, by rw [e2]; rfl, pr2, fun hk => ?_⟩
    obtain ⟨S3, e3, pr3⟩ := k hk
    exact ⟨S3, by rw [e3]; rfl, pr3⟩
  exact ⟨S', q, pr, hx⟩
theorem stand_one {S : Store} {n : Nat} {l : List D} (h : lstOf S n = some l) : ∀ p, p ∈ [(n, l)] → lstOf S p.1 = some p.2 := stands_one h
theorem lst_of {S : Store} {n : Nat} {l : List D} (h : S[n]? = some (.lst l)) : lstOf S n = some l := by rw [lstOf_s, h]; rfl
/-- such a list, as values of a kind -/
theorem of_rel {α : Type} {f : α → D} {l xs : List D} {Q : α → Prop} (hl : xs.length = l.length) (h : ∀ (i : Nat) (d x : D), l[i]? = some d → xs[i]? = some x → ∃ a, x = f a ∧ Q a) : ∃ as : List α, xs = as.map f ∧ as.length = l.length ∧ ∀ a ∈ as, Q a := by
  induction xs generalizing l with
  | nil => exact ⟨[], rfl, by simpa using hl, by simp⟩
  | cons x r ih =>
    cases l with
    | nil => simp at hl
    | cons d q =>
      obtain ⟨as, rfl, hl2, ha⟩ := ih (l := q) (by simpa using hl) fun i d x h1 h2 => h (i + 1) d x h1 h2
      obtain ⟨a, rfl, qa⟩ := h 0 d x rfl rfl
      refine ⟨a :: as, rfl, by simp [hl2], ?_⟩
      intro b hb
      rcases List.mem_cons.mp hb with z | z
      · exact z ▸ qa
      · exact ha b z
/-! ### reckonings -/
@[simp] theorem oEq_sk (n : Tx) (k : Ky) (S : Store) : oEq (.str n) (kyD k) S = .ok (.bl (decide (k = .inr n))) S := by
  cases k with
  | inl i => simp [kyD]
  | inr s => simp [kyD, eq_comm]
@[simp] theorem eqF_ks (n : Tx) (k : Ky) : eqF (kyD k) (.str n) = decide (k = .inr n) := eqF_k k (.inr n)
theorem oEq_kt {a b : List Ky} (S : Store) (ha : a.all kOk = true) (hb : b.all kOk = true) : oEq (kt a) (kt b) S = .ok (.bl (decide (a = b))) S := by
  rw [oEq_g, eq_kt S ha hb]; rfl
theorem oNe_kt {a b : List Ky} (S : Store) (ha : a.all kOk = true) (hb : b.all kOk = true) : oNe (kt a) (kt b) S = .ok (.bl (!decide (a = b))) S := by
  rw [oNe_g, eq_kt S ha hb]; rfl
theorem dGet_map {κ α : Type} [DecidableEq κ] (l : List κ) (k : κ) (v : α) : dGet (l.map fun k => (k, v)) k = if k ∈ l then some v else none := by
  unfold dGet
  rw [List.find?_map]
  induction l with
  | nil => simp
  | cons x r ih =>
    by_cases h : x = k
    · subst h; simp
    · have : ¬ k = x := fun e => h e.symm
      simp [h, this] at ih ⊢
      exact ih
theorem dPut_map {κ α : Type} [DecidableEq κ] (l : List κ) (k : κ) (v : α) : dPut (l.map fun k => (k, v)) k v = (if dec (k ∈ l) = true then l else l ++ [k]).map fun k => (k, v) := by
  unfold dPut
  by_cases h : k ∈ l
  · rw [if_pos (by simpa using h), if_pos (dec_true h), List.map_map]
    apply List.map_congr_left
    intro x _
    simp only [Function.comp]
    split <;> rfl
  · rw [if_neg (by simpa using h), if_neg (by rw [dec_false h]; exact Bool.false_ne_true)]; simp
def Row.rkg : Row → Option (List Ky)
  | .rk _ s a b => some [.inr s, a, b]
  | _ => none
noncomputable def addK (acc : List (List Ky)) (r : Row) : List (List Ky) := match r.rkg with
  | some k => if dec (k ∈ acc) = true then acc else acc ++ [k]
  | none => acc
/-- an operand: one of the names, or a worth -/
def Opd (l : List Tx) (k : Ky) : Prop := (∃ t, t ∈ l ∧ k = .inr t) ∨ ∃ w : Int, k = .inl w ∧ 0 ≤ w ∧ w < 18446744073709551616
theorem Opd.ok {l : List Tx} {k : Ky} (h : Opd l k) (hl : ∀ t ∈ l, Nm t) : kOk k = true := by
  rcases h with ⟨t, ht, rfl⟩ | ⟨w, rfl, _⟩
  · exact (hl t ht).ok
  · rfl
/-- a reckoning -/
structure Rkg (l : List Tx) (s a b : Ky) : Prop where
  s1 : ∃ c, c ∈ S8 ∧ s = .inr [c]
  a1 : Opd l a
  b1 : Opd l b
end Mi

set_option Elab.async false
set_option linter.all false
/-! programs as they are built by the laws: what may stand in them, how each row is come to, how each leads to an end -/
namespace Mi
def Row.seq : Row → Bool
  | .go _ => false
  | .en => false
  | _ => true
def RowN (l : List Tx) : Row → Prop
  | .rk n s a b => n ∈ l ∧ Rkg l (.inr s) a b
  | .cp n a => n ∈ l ∧ Opd l a
  | .sy a => Opd l a
  | .go _ => True
  | .pt a _ => Opd l a
  | .en => True
/-- what comes behind row n -/
def fol (n : Nat) : Row → List Int
  | .go t => [t]
  | .pt _ t => [(n : Int) + 1, t]
  | .en => []
  | _ => [(n : Int) + 1]
/-- rows as they are being built: `outer` lie outside of stretches, `bg` begins an open one -/
structure Bld (l : List Tx) (rows : List Row) (outer : List Nat) (bg : Option Nat) : Prop where
  nm : ∀ r ∈ rows, RowN l r
  pts : ∀ (n : Nat) (a : Ky) (t : Int), rows[n]? = some (.pt a t) → 0 ≤ t
  out : ∀ o ∈ outer, o < rows.length
  bgn : ∀ b, bg = some b → b ∈ outer ∧ ∃ a, rows[b]? = some (.pt a 0)
  rch : ∀ i, 0 < i → i ≤ rows.length → (∃ r, rows[i - 1]? = some r ∧ r.seq = true) ∨ ∃ b a, b + 1 < i ∧ rows[b]? = some (.pt a (i : Nat))
  nxt : ∀ o ∈ outer, bg = some o ∨ ∃ r, rows[o]? = some r ∧ r.seq = true ∧ ((o + 1 ∈ outer ∨ (o + 1 = rows.length ∧ bg = none)) ∨ ∃ a t, r = .pt a (t : Nat) ∧ o + 1 < t ∧ (t ∈ outer ∨ (t = rows.length ∧ bg = none)))
  gos : ∀ (n : Nat) (t : Int), rows[n]? = some (.go t) → t < 0 ∨ ∃ o ∈ outer, t = (o : Int)
theorem Bld.start (l : List Tx) : Bld l [] [] none := by
  refine ⟨by simp, by simp, by simp, by simp, ?_, by simp, by simp⟩
  intro i h1 h2
  rw [List.length_nil] at h2
  omega
theorem get_snoc {α : Type} {l : List α} {a b : α} {n : Nat} (h : (l ++ [a])[n]? = some b) : l[n]? = some b ∨ (n = l.length ∧ b = a) := by
  rw [List.getElem?_append] at h
  split at h
  · exact .inl h
  · rename_i hn
    have := (List.getElem?_eq_some_iff.mp h).1
    rw [List.length_singleton] at this
    have hn : n = l.length := by omega
    subst hn
    rw [Nat.sub_self] at h
    exact .inr ⟨rfl, (Option.some.inj h).symm⟩
theorem snoc_lt {α : Type} {l : List α} {a b : α} {n : Nat} (h : l[n]? = some b) : (l ++ [a])[n]? = some b := by
  rw [List.getElem?_append_left (List.getElem?_eq_some_iff.mp h).1]; exact h
theorem snoc_eq {α : Type} (l : List α) (a : α) : (l ++ [a])[l.length]? = some a := by simp
/-- a row more: outside, or within an open stretch -/
theorem Bld.add {l : List Tx} {rows : List Row} {outer outer' : List Nat} {bg : Option Nat} (h : Bld l rows outer bg) {r : Row} (hr : RowN l r) (hs : r.seq = true) (hp : ∀ a t, r = .pt a t → 0 ≤ t)
    (ho : (bg = none ∧ outer' = outer ++ [rows.length]) ∨ (bg ≠ none ∧ outer' = outer)) : Bld l (rows ++ [r]) outer' bg := by
  have sub : ∀ o ∈ outer, o ∈ outer' := fun o hm => by
    rcases ho with ⟨_, rfl⟩ | ⟨_, rfl⟩
    · exact List.mem_append_left _ hm
    · exact hm
  refine ⟨?_, ?_, ?_, ?_, ?_, ?_, ?_⟩
  · intro r' hr'
    rcases List.mem_append.mp hr' with z | z
    · exact h.nm r' z
    · rw [List.mem_singleton.mp z]; exact hr
  · intro n a t e
    rcases get_snoc e with z | ⟨_, z⟩
    · exact h.pts n a t z
    · exact hp a t z.symm
  · intro o hm
    rw [List.length_append, List.length_singleton]
    rcases ho with ⟨_, rfl⟩ | ⟨_, rfl⟩
    · rcases List.mem_append.mp hm with z | z
      · have := h.out o z; omega
      · rw [List.mem_singleton.mp z]; omega
    · have := h.out o hm; omega
  · intro b e
    obtain ⟨m, a, q⟩ := h.bgn b e
    exact ⟨sub b m, a, snoc_lt q⟩
  · intro i h0 h1
    rw [List.length_append, List.length_singleton] at h1
    by_cases hi : i = rows.length + 1
    · exact .inl ⟨r, by subst hi; exact snoc_eq _ _, hs⟩
    · rcases h.rch i h0 (by omega) with ⟨r', e, q⟩ | ⟨b, a, q, e⟩
      · exact .inl ⟨r', snoc_lt e, q⟩
      · exact .inr ⟨b, a, q, snoc_lt e⟩
  · intro o hm
    have old : o ∈ outer → bg = some o ∨ ∃ r', (rows ++ [r])[o]? = some r' ∧ r'.seq = true ∧ ((o + 1 ∈ outer' ∨ (o + 1 = (rows ++ [r]).length ∧ bg = none)) ∨ ∃ a t, r' = .pt a (t : Nat) ∧ o + 1 < t ∧ (t ∈ outer' ∨ (t = (rows ++ [r]).length ∧ bg = none))) := fun z => by
      rcases h.nxt o z with e | ⟨r', e, q, c⟩
      · exact .inl e
      · refine .inr ⟨r', snoc_lt e, q, ?_⟩
        have up : ∀ t : Nat, t ∈ outer ∨ (t = rows.length ∧ bg = none) → t ∈ outer' := fun t c => by
          rcases c with c | ⟨c, e2⟩
          · exact sub t c
          · rcases ho with ⟨_, rfl⟩ | ⟨e3, _⟩
            · subst c; simp
            · exact absurd e2 e3
        rcases c with c | ⟨a, t, e2, lt, c⟩
        · exact .inl (.inl (up _ c))
        · exact .inr ⟨a, t, e2, lt, .inl (up _ c)⟩
    rcases ho with ⟨e, rfl⟩ | ⟨e, rfl⟩
    · rcases List.mem_append.mp hm with z | z
      · exact old z
      · rw [List.mem_singleton.mp z]
        exact .inr ⟨r, snoc_eq _ _, hs, .inl (.inr ⟨by simp, e⟩)⟩
    · exact old hm
  · intro n t e
    rcases get_snoc e with z | ⟨_, z⟩
    · rcases h.gos n t z with q | ⟨o, m, q⟩
      · exact .inl q
      · exact .inr ⟨o, sub o m, q⟩
    · rw [← z] at hs; cases hs
/-- a stretch is begun -/
theorem Bld.opened {l : List Tx} {rows : List Row} {outer : List Nat} (h : Bld l rows outer none) {a : Ky} (ha : Opd l a) : Bld l (rows ++ [.pt a 0]) (outer ++ [rows.length]) (some rows.length) := by
  have q := h.add (r := .pt a 0) ha rfl (fun _ _ e => by cases e; exact Int.le_refl 0) (.inl ⟨rfl, rfl⟩)
  refine ⟨q.nm, q.pts, q.out, ?_, q.rch, ?_, q.gos⟩
  · intro b e
    obtain rfl := Option.some.inj e
    exact ⟨by simp, a, snoc_eq _ _⟩
  · intro o hm
    by_cases ho : o = rows.length
    · exact .inl (by rw [ho])
    · rcases h.nxt o (by simpa [ho] using hm) with e | ⟨r, e, s, c⟩
      · cases e
      · have up : ∀ t : Nat, t ∈ outer ∨ (t = rows.length ∧ (none : Option Nat) = none) → t ∈ outer ++ [rows.length] := fun t c => by
          rcases c with c | ⟨c, _⟩
          · exact List.mem_append_left _ c
          · subst c; simp
        refine .inr ⟨r, snoc_lt e, s, ?_⟩
        rcases c with c | ⟨a', t, e2, lt, c⟩
        · exact .inl (.inl (up _ c))
        · exact .inr ⟨a', t, e2, lt, .inl (up _ c)⟩
/-- a stretch is closed -/
theorem Bld.closed {l : List Tx} {rows : List Row} {outer : List Nat} {b : Nat} (h : Bld l rows outer (some b)) {a : Ky} (hb : rows[b]? = some (.pt a 0)) {r : Row} (hr : r = .en ∨ ∃ t, r = .go t ∧ (t < 0 ∨ ∃ o ∈ outer, t = (o : Int))) :
    Bld l ((rows ++ [r]).set b (.pt a ((rows.length + 1 : Nat) : Int))) outer none := by
  have hbl : b < rows.length := (List.getElem?_eq_some_iff.mp hb).1
  have ha : Opd l a := h.nm _ (List.mem_of_getElem? hb)
  have len : ((rows ++ [r]).set b (.pt a ((rows.length + 1 : Nat) : Int))).length = rows.length + 1 := by simp
  have atb : ((rows ++ [r]).set b (.pt a ((rows.length + 1 : Nat) : Int)))[b]? = some (.pt a ((rows.length + 1 : Nat) : Int)) := List.getElem?_set_self (by simp; omega)
  have ne : ∀ n : Nat, n ≠ b → ((rows ++ [r]).set b (.pt a ((rows.length + 1 : Nat) : Int)))[n]? = (rows ++ [r])[n]? := fun n hn => List.getElem?_set_ne (Ne.symm hn)
  refine ⟨?_, ?_, ?_, by simp, ?_, ?_, ?_⟩
  · intro r' hm
    rcases List.mem_or_eq_of_mem_set hm with z | z
    · rcases List.mem_append.mp z with z | z
      · exact h.nm r' z
      · rw [List.mem_singleton.mp z]
        rcases hr with rfl | ⟨t, rfl, _⟩ <;> trivial
    · rw [z]; exact ha
  · intro n a' t e
    by_cases hn : n = b
    · subst hn
      rw [atb] at e
      cases e
      omega
    · rw [ne n hn] at e
      rcases get_snoc e with z | ⟨_, z⟩
      · exact h.pts n a' t z
      · rcases hr with rfl | ⟨t, rfl, _⟩ <;> cases z
  · intro o hm
    have := h.out o hm
    omega
  · intro i h0 h1
    rw [len] at h1
    by_cases hi : i = rows.length + 1
    · subst hi
      exact .inr ⟨b, a, by omega, atb⟩
    · rcases h.rch i h0 (by omega) with ⟨r', e, q⟩ | ⟨c, a', q, e⟩
      · by_cases hc : i - 1 = b
        · exact .inl ⟨_, by rw [hc]; exact atb, rfl⟩
        · exact .inl ⟨r', by rw [ne _ hc]; exact snoc_lt e, q⟩
      · by_cases hc : c = b
        · subst hc
          rw [hb] at e
          have : (0 : Int) = (i : Int) := by injection e with e; injection e
          omega
        · exact .inr ⟨c, a', q, by rw [ne _ hc]; exact snoc_lt e⟩
  · intro o hm
    right
    by_cases ho : o = b
    · subst ho
      exact ⟨_, atb, rfl, .inr ⟨a, rows.length + 1, rfl, by omega, .inr ⟨len.symm, rfl⟩⟩⟩
    · rcases h.nxt o hm with e | ⟨r', e, s, c⟩
      · exact absurd (Option.some.inj e).symm ho
      · refine ⟨r', by rw [ne _ ho]; exact snoc_lt e, s, ?_⟩
        rcases c with c | ⟨a', t, e2, lt, c⟩
        · rcases c with c | ⟨_, e2⟩
          · exact .inl (.inl c)
          · cases e2
        · rcases c with c | ⟨_, e2⟩
          · exact .inr ⟨a', t, e2, lt, .inl c⟩
          · cases e2
  · intro n t e
    by_cases hn : n = b
    · subst hn; rw [atb] at e; cases e
    · rw [ne n hn] at e
      rcases get_snoc e with z | ⟨_, z⟩
      · exact h.gos n t z
      · rcases hr with rfl | ⟨t', rfl, q⟩
        · cases z
        · cases z; exact q
/-! ### programs -/
inductive Reach (rows : List Row) : Nat → Prop
  | zero : Reach rows 0
  | step {i j : Nat} {r : Row} : Reach rows j → rows[j]? = some r → (i : Int) ∈ fol j r → Reach rows i
inductive Ends (rows : List Row) : Nat → Prop
  | en {n : Nat} : rows[n]? = some .en → Ends rows n
  | step {i j : Nat} {r : Row} : rows[j]? = some r → (i : Int) ∈ fol j r → Ends rows i → Ends rows j
structure Prg (l : List Tx) (rows : List Row) : Prop where
  nm : ∀ r ∈ rows, RowN l r
  last : ∃ q, rows = q ++ [.en]
  go : ∀ (n : Nat) (t : Int), rows[n]? = some (.go t) → 0 ≤ t ∧ t < rows.length
  pt : ∀ (n : Nat) (a : Ky) (t : Int), rows[n]? = some (.pt a t) → 0 ≤ t ∧ t < rows.length ∧ t ≠ n + 1
  rch : ∀ i, i < rows.length → Reach rows i
  ends : ∀ i, i < rows.length → Ends rows i
/-- the rows turned to where they lead -/
def turn (many n : Nat) : Row → Row
  | .go t => if t < 0 then .go ((n : Int) + 1 + (-1 - t) % ((many : Int) - n - 1)) else .go t
  | .pt a t => .pt a (if t % many = (n : Int) + 1 then n else t % many)
  | r => r
def turnAll (many : Nat) : Nat → List Row → List Row
  | _, [] => []
  | n, r :: rs => turn many n r :: turnAll many (n + 1) rs
theorem turnAll_get (many : Nat) : ∀ (rs : List Row) (n i : Nat), (turnAll many n rs)[i]? = (rs[i]?).map (turn many (n + i))
  | [], n, i => rfl
  | r :: rs, n, 0 => rfl
  | r :: rs, n, i + 1 => by
    show (turnAll many (n + 1) rs)[i]? = _
    rw [turnAll_get many rs (n + 1) i, show n + 1 + i = n + (i + 1) by omega]
    rfl
theorem turnAll_len (many : Nat) : ∀ (rs : List Row) (n : Nat), (turnAll many n rs).length = rs.length
  | [], n => rfl
  | r :: rs, n => by rw [turnAll, List.length_cons, List.length_cons, turnAll_len]
theorem turnAll_snoc (many : Nat) (r : Row) : ∀ (rs : List Row) (n : Nat), turnAll many n (rs ++ [r]) = turnAll many n rs ++ [turn many (n + rs.length) r]
  | [], n => rfl
  | x :: rs, n => by
    rw [List.cons_append, turnAll, turnAll_snoc many r rs (n + 1), turnAll, List.cons_append, List.length_cons, show n + 1 + rs.length = n + (rs.length + 1) by omega]
theorem Bld.prg {l : List Tx} {rows : List Row} {outer : List Nat} (h : Bld l rows outer none) : Prg l (turnAll (rows.length + 1) 0 (rows ++ [.en])) := by
  have len : (turnAll (rows.length + 1) 0 (rows ++ [.en])).length = rows.length + 1 := by rw [turnAll_len]; simp
  have get : ∀ (n : Nat) (r : Row), rows[n]? = some r → (turnAll (rows.length + 1) 0 (rows ++ [.en]))[n]? = some (turn (rows.length + 1) n r) := fun n r e => by
    rw [turnAll_get, snoc_lt e, Nat.zero_add]; rfl
  have getl : (turnAll (rows.length + 1) 0 (rows ++ [.en]))[rows.length]? = some .en := by
    rw [turnAll_get, snoc_eq]; rfl
  have inv : ∀ (n : Nat) (r : Row), (turnAll (rows.length + 1) 0 (rows ++ [.en]))[n]? = some r → (n = rows.length ∧ r = .en) ∨ ∃ r', rows[n]? = some r' ∧ r = turn (rows.length + 1) n r' := fun n r e => by
    rw [turnAll_get, Nat.zero_add] at e
    obtain ⟨r', e1, e2⟩ := Option.map_eq_some_iff.mp e
    rcases get_snoc e1 with z | ⟨z1, z2⟩
    · exact .inr ⟨r', z, e2.symm⟩
    · subst z2; exact .inl ⟨z1, e2.symm⟩
  have seqf : ∀ (n : Nat) (r : Row), r.seq = true → ((n + 1 : Nat) : Int) ∈ fol n (turn (rows.length + 1) n r) := fun n r hs => by
    cases r <;> first | (simp [turn, fol]; done) | cases hs
  have ptf : ∀ (n : Nat) (a : Ky) (t : Nat), n + 1 < t → t ≤ rows.length → (t : Int) ∈ fol n (turn (rows.length + 1) n (.pt a t)) := fun n a t h1 h2 => by
    have e1 : (t : Int) % ((rows.length + 1 : Nat) : Int) = t := Int.emod_eq_of_lt (by omega) (by omega)
    have e2 : ¬ (t : Int) = (n : Int) + 1 := by omega
    simp only [turn, e1, if_neg e2, fol, List.mem_cons, List.not_mem_nil, or_false]
    exact .inr trivial
  refine ⟨?_, ?_, ?_, ?_, ?_, ?_⟩
  · intro r hm
    obtain ⟨n, e⟩ := List.getElem?_of_mem hm
    rcases inv n r e with ⟨_, rfl⟩ | ⟨r', e2, rfl⟩
    · trivial
    · have q := h.nm r' (List.mem_of_getElem? e2)
      cases r' with
      | go t => simp only [turn]; split <;> trivial
      | pt a t => exact q
      | _ => exact q
  · exact ⟨turnAll (rows.length + 1) 0 rows, by rw [turnAll_snoc]; rfl⟩
  · intro n t e
    rw [len]
    rcases inv n _ e with ⟨_, z⟩ | ⟨r', e2, z⟩
    · cases z
    · have hn := (List.getElem?_eq_some_iff.mp e2).1
      cases r' with
      | go t' =>
        simp only [turn] at z
        split at z
        · injection z with z
          have h1 := Int.emod_nonneg (-1 - t') (show ((rows.length + 1 : Nat) : Int) - n - 1 ≠ 0 by omega)
          have h2 := Int.emod_lt_of_pos (-1 - t') (show 0 < ((rows.length + 1 : Nat) : Int) - n - 1 by omega)
          omega
        · injection z with z
          subst z
          rcases h.gos n _ e2 with q | ⟨o, m, q⟩
          · omega
          · have := h.out o m
            omega
      | _ => cases z
  · intro n a t e
    rw [len]
    rcases inv n _ e with ⟨_, z⟩ | ⟨r', e2, z⟩
    · cases z
    · have hn := (List.getElem?_eq_some_iff.mp e2).1
      cases r' with
      | pt a' t' =>
        simp only [turn] at z
        injection z with _ z
        have h1 := Int.emod_nonneg t' (show ((rows.length + 1 : Nat) : Int) ≠ 0 by omega)
        have h2 := Int.emod_lt_of_pos t' (show 0 < ((rows.length + 1 : Nat) : Int) by omega)
        split at z <;> omega
      | go t' => simp only [turn] at z; split at z <;> cases z
      | _ => cases z
  · intro i hi
    rw [len] at hi
    induction i using Nat.strongRecOn with
    | _ i ih =>
      by_cases h0 : i = 0
      · subst h0; exact .zero
      · rcases h.rch i (by omega) (by omega) with ⟨r, e, s⟩ | ⟨b, a, lt, e⟩
        · refine .step (ih (i - 1) (by omega) (by omega)) (get _ _ e) ?_
          have := seqf (i - 1) r s
          rw [show i - 1 + 1 = i by omega] at this
          exact this
        · exact .step (ih b (by omega) (by omega)) (get _ _ e) (ptf b a i lt (by omega))
  · -- outer rows first, from behind; then all
    have lastE : Ends (turnAll (rows.length + 1) 0 (rows ++ [.en])) rows.length := .en getl
    have outE : ∀ k o, o ∈ outer → rows.length - o ≤ k → Ends (turnAll (rows.length + 1) 0 (rows ++ [.en])) o := by
      intro k
      induction k with
      | zero => intro o hm hk; have := h.out o hm; omega
      | succ k ih =>
        intro o hm hk
        rcases h.nxt o hm with e | ⟨r, e, s, c⟩
        · cases e
        · have ho := h.out o hm
          have go : ∀ t : Nat, o < t → (t : Int) ∈ fol o (turn (rows.length + 1) o r) → t ∈ outer ∨ (t = rows.length ∧ (none : Option Nat) = none) → Ends (turnAll (rows.length + 1) 0 (rows ++ [.en])) o := fun t lt hf c => by
            rcases c with c | ⟨c, _⟩
            · exact .step (get _ _ e) hf (ih t c (by omega))
            · subst c; exact .step (get _ _ e) hf lastE
          rcases c with c | ⟨a, t, e2, lt, c⟩
          · exact go (o + 1) (by omega) (seqf o r s) c
          · refine go t (by omega) ?_ c
            rw [e2]
            refine ptf o a t lt ?_
            rcases c with c | ⟨c, _⟩
            · exact Nat.le_of_lt (h.out t c)
            · omega
    have allE : ∀ k i, i ≤ rows.length → rows.length - i ≤ k → Ends (turnAll (rows.length + 1) 0 (rows ++ [.en])) i := by
      intro k
      induction k with
      | zero => intro i hi hk; rw [show i = rows.length by omega]; exact lastE
      | succ k ih =>
        intro i hi hk
        by_cases h1 : i = rows.length
        · rw [h1]; exact lastE
        · have hlt : i < rows.length := by omega
          have e : rows[i]? = some rows[i] := List.getElem?_eq_getElem hlt
          generalize rows[i] = r at e
          by_cases hs : r.seq = true
          · exact .step (get _ _ e) (seqf i r hs) (ih (i + 1) (by omega) (by omega))
          · cases r with
            | en => exact .en (get _ _ e)
            | go t =>
              rcases h.gos i t e with q | ⟨o, m, q⟩
              · have h1 := Int.emod_nonneg (-1 - t) (show ((rows.length + 1 : Nat) : Int) - i - 1 ≠ 0 by omega)
                have h2 := Int.emod_lt_of_pos (-1 - t) (show 0 < ((rows.length + 1 : Nat) : Int) - i - 1 by omega)
                obtain ⟨m, hm⟩ : ∃ m : Nat, (i : Int) + 1 + (-1 - t) % (((rows.length + 1 : Nat) : Int) - i - 1) = m := ⟨((i : Int) + 1 + (-1 - t) % (((rows.length + 1 : Nat) : Int) - i - 1)).toNat, by omega⟩
                refine .step (i := m) (get _ _ e) ?_ (ih m (by omega) (by omega))
                simp only [turn, if_pos q, fol, List.mem_singleton]
                exact hm.symm
              · subst q
                refine .step (i := o) (get _ _ e) ?_ (outE _ o m (Nat.le_refl _))
                have : ¬ ((o : Int) < 0) := by omega
                simp only [turn, if_neg this, fol, List.mem_singleton]
            | _ => exact absurd rfl hs
    intro i hi
    rw [len] at hi
    exact allE _ i (by omega) (Nat.le_refl _)
/-- a row further down by one -/
def shift : Row → Row
  | .go t => .go (t + 1)
  | .pt a t => .pt a (t + 1)
  | r => r
theorem fol_shift {n i : Nat} {r : Row} (h : (i : Int) ∈ fol n r) : ((i + 1 : Nat) : Int) ∈ fol (n + 1) (shift r) := by
  cases r <;> simp [fol, shift] at h ⊢ <;> omega
def tst (nm : Tx) (q : List Row) : List Row := .go (q.length + 1) :: (q.map shift ++ [.pt (.inr nm) 1, .en])
theorem Prg.tested {l : List Tx} {q : List Row} (h : Prg l (q ++ [.en])) {nm : Tx} (hn : nm ∈ l) : Prg l (tst nm q) := by
  have len : (tst nm q).length = q.length + 3 := by simp [tst]
  have g0 : (tst nm q)[0]? = some (.go (q.length + 1)) := rfl
  have gs : ∀ (n : Nat) (r : Row), q[n]? = some r → (tst nm q)[n + 1]? = some (shift r) := fun n r e => by
    have hn := (List.getElem?_eq_some_iff.mp e).1
    show (q.map shift ++ [.pt (.inr nm) 1, .en])[n]? = _
    rw [List.getElem?_append_left (by simpa using hn), List.getElem?_map, e]; rfl
  have gp : (tst nm q)[q.length + 1]? = some (.pt (.inr nm) 1) := by
    show (q.map shift ++ [.pt (.inr nm) 1, .en])[q.length]? = _
    rw [List.getElem?_append_right (by simp), List.length_map, Nat.sub_self]; rfl
  have ge : (tst nm q)[q.length + 2]? = some .en := by
    show (q.map shift ++ [.pt (.inr nm) 1, .en])[q.length + 1]? = _
    rw [List.getElem?_append_right (by simp), List.length_map, show q.length + 1 - q.length = 1 by omega]; rfl
  have inv : ∀ (n : Nat) (r : Row), (tst nm q)[n]? = some r → (n = 0 ∧ r = .go (q.length + 1)) ∨ (∃ k r', n = k + 1 ∧ q[k]? = some r' ∧ r = shift r') ∨ (n = q.length + 1 ∧ r = .pt (.inr nm) 1) ∨ (n = q.length + 2 ∧ r = .en) := fun n r e => by
    have hn := (List.getElem?_eq_some_iff.mp e).1
    rw [len] at hn
    cases n with
    | zero => exact .inl ⟨rfl, (Option.some.inj e).symm⟩
    | succ k =>
      right
      by_cases h1 : k < q.length
      · have e1 := List.getElem?_eq_getElem h1
        have := gs k _ e1
        rw [e] at this
        exact .inl ⟨k, _, rfl, e1, Option.some.inj this⟩
      · by_cases h2 : k = q.length
        · subst h2; rw [gp] at e; exact .inr (.inl ⟨rfl, (Option.some.inj e).symm⟩)
        · obtain rfl : k = q.length + 1 := by omega
          rw [ge] at e; exact .inr (.inr ⟨rfl, (Option.some.inj e).symm⟩)
  have enE : Ends (tst nm q) (q.length + 2) := .en ge
  have ptE : Ends (tst nm q) (q.length + 1) := .step (i := q.length + 2) gp (by simp only [fol, List.mem_cons]; exact .inl (by omega)) enE
  have ptR : Reach (tst nm q) (q.length + 1) := .step .zero g0 (by simp [fol])
  have upR : ∀ i, Reach (q ++ [.en]) i → Reach (tst nm q) (i + 1) := fun i hr => by
    induction hr with
    | zero => exact .step ptR gp (by simp [fol])
    | step _ e f ih =>
      rcases get_snoc e with z | ⟨_, z⟩
      · exact .step ih (gs _ _ z) (fol_shift f)
      · subst z; cases f
  have upE : ∀ i, Ends (q ++ [.en]) i → Ends (tst nm q) (i + 1) := fun i hr => by
    induction hr with
    | en e =>
      rcases get_snoc e with z | ⟨z, _⟩
      · exact .en (gs _ _ z)
      · subst z; exact ptE
    | step e f _ ih =>
      rcases get_snoc e with z | ⟨_, z⟩
      · exact .step (gs _ _ z) (fol_shift f) ih
      · subst z; cases f
  have l1 : (q ++ [Row.en]).length = q.length + 1 := by simp
  refine ⟨?_, ⟨.go (q.length + 1) :: (q.map shift ++ [.pt (.inr nm) 1]), by simp [tst]⟩, ?_, ?_, ?_, ?_⟩
  · intro r hm
    obtain ⟨n, e⟩ := List.getElem?_of_mem hm
    rcases inv n r e with ⟨_, rfl⟩ | ⟨k, r', _, e2, rfl⟩ | ⟨_, rfl⟩ | ⟨_, rfl⟩
    · trivial
    · have := h.nm r' (List.mem_append_left _ (List.mem_of_getElem? e2))
      cases r' <;> exact this
    · exact .inl ⟨nm, hn, rfl⟩
    · trivial
  · intro n t e
    rw [len]
    rcases inv n _ e with ⟨_, z⟩ | ⟨k, r', _, e2, z⟩ | ⟨_, z⟩ | ⟨_, z⟩
    · injection z with z; omega
    · cases r' with
      | go t' =>
        have := h.go k t' (snoc_lt e2)
        simp only [shift] at z
        injection z with z
        omega
      | _ => cases z
    · cases z
    · cases z
  · intro n a t e
    rw [len]
    rcases inv n _ e with ⟨_, z⟩ | ⟨k, r', hk, e2, z⟩ | ⟨hk, z⟩ | ⟨_, z⟩
    · cases z
    · cases r' with
      | pt a' t' =>
        have := h.pt k a' t' (snoc_lt e2)
        simp only [shift] at z
        injection z with _ z
        omega
      | _ => cases z
    · injection z with _ z; omega
    · cases z
  · intro i hi
    rw [len] at hi
    cases i with
    | zero => exact .zero
    | succ k =>
      by_cases h2 : k = q.length + 1
      · subst h2
        exact .step ptR gp (by simp only [fol, List.mem_cons]; exact .inl (by omega))
      · exact upR k (h.rch k (by omega))
  · intro i hi
    rw [len] at hi
    cases i with
    | zero => exact .step (i := q.length + 1) g0 (by simp [fol]) ptE
    | succ k =>
      by_cases h2 : k = q.length + 1
      · subst h2; exact enE
      · exact upE k (h.ends k (by omega))
theorem Prg.pos {l : List Tx} {rows : List Row} (h : Prg l rows) : 0 < rows.length := by
  obtain ⟨q, rfl⟩ := h.last
  simp
/-! ### data of rows -/
theorem d_rk (n s : Tx) (a b : Ky) : (Row.rk n s a b).d = .tup [.str w_rk, .str n, .str s, kyD a, kyD b] := rfl
theorem d_cp (n : Tx) (a : Ky) : (Row.cp n a).d = .tup [.str w_cp, .str n, kyD a] := rfl
theorem d_sy (a : Ky) : (Row.sy a).d = .tup [.str w_sy, kyD a] := rfl
theorem d_go (t : Int) : (Row.go t).d = .tup [.str w_go, .int t] := rfl
theorem d_pt (a : Ky) (t : Int) : (Row.pt a t).d = .tup [.str w_pt, kyD a, .int t] := rfl
theorem d_en : Row.en.d = .tup [.str w_en] := rfl
theorem prs_get : ∀ (l : List D) (k i : Nat), (prs k l)[i]? = (l[i]?).map fun d => .tup [.int ((k + i : Nat) : Int), d]
  | [], k, i => rfl
  | d :: l, k, 0 => rfl
  | d :: l, k, i + 1 => by
    show (prs (k + 1) l)[i]? = _
    rw [prs_get l (k + 1) i, show k + 1 + i = k + (i + 1) by omega]
    rfl
theorem prs_len : ∀ (l : List D) (k : Nat), (prs k l).length = l.length
  | [], k => rfl
  | d :: l, k => by rw [prs, List.length_cons, List.length_cons, prs_len]
@[simp] theorem cut_m2 {α : Type} (a b : α) : cut [a, b] none (some (-1)) = [a] := rfl
@[simp] theorem cut_m3 {α : Type} (a b c : α) : cut [a, b, c] none (some (-1)) = [a, b] := rfl
theorem cut_last {α : Type} (l : List α) (a : α) : cut (l ++ [a]) none (some (-1)) = l := by
  have e : sIx (l ++ [a]).length (l ++ [a]).length (some (-1)) = l.length := by
    unfold sIx
    dsimp only
    rw [if_pos (by decide), List.length_append, List.length_singleton]
    omega
  unfold cut
  rw [e]
  simp [sIx]
@[simp] theorem at_m2 {α : Type} (a b : α) : atI [a, b] (-1) = some b := rfl
@[simp] theorem at_m3 {α : Type} (a b c : α) : atI [a, b, c] (-1) = some c := rfl
/-- lists of single data against one another -/
theorem shp_ks {l : List Ky} (h : l.all kOk = true) : shp (.list (l.map kp)) = true := by
  unfold shp PySem.SeqAt.shaped
  simp [PySem.PyData.canLay0, PySem.PyData.depth, lay_ks h, dep_ks]
theorem eq_lks {m n : Nat} {A B : List Ky} {S : Store} (ha : lstOf S m = some (A.map kyD)) (hb : lstOf S n = some (B.map kyD)) (hA : A.all kOk = true) (hB : B.all kOk = true) : pyEq (.ref m) (.ref n) S = some (decide (A = B)) := by
  have look : ∀ {n A}, lstOf S n = some (List.map kyD A) → lookP 8 S n = some (.list (A.map kp)) := fun {n A} h => by
    unfold lookP
    unfold lstOf at h
    cases hn : S[n]? with
    | none => rw [hn] at h; cases h
    | some o =>
      rw [hn] at h
      cases o with
      | lst l => dsimp only at h ⊢; obtain rfl := Option.some.inj h; rw [toPs_k]; rfl
      | fls l => dsimp only at h ⊢; obtain rfl := Option.some.inj h; rw [toPs_k]; rfl
      | _ => cases h
  unfold pyEq
  have e : scq (.ref m) (.ref n) = none := rfl
  rw [e]
  simp only [pd, toP, look ha, look hb, shp_ks hA, shp_ks hB, and_self, if_true]
  unfold PySem.PyData.eqv
  rw [eqv_ks]
theorem eq_ints {m n : Nat} {A B : List Int} {S : Store} (ha : lstOf S m = some (A.map D.int)) (hb : lstOf S n = some (B.map D.int)) : pyEq (.ref m) (.ref n) S = some (decide (A = B)) := by
  have e : ∀ A : List Int, A.map D.int = (A.map Sum.inl).map kyD := fun A => by rw [List.map_map]; rfl
  have o : ∀ A : List Int, (A.map (Sum.inl : Int → Ky)).all kOk = true := fun A => by rw [List.all_map]; simp [kOk]
  rw [e] at ha hb
  rw [eq_lks ha hb (o A) (o B)]
  congr 1
  rw [decide_eq_decide]
  exact List.map_inj_right fun x y h => by injection h
/-! ### truths in lists -/
theorem toPs_b (rd : Nat → Option PySem.PyData) (l : List Bool) : toPs rd (l.map .bl) = some (l.map .bool) := by
  induction l with
  | nil => rfl
  | cons k r ih => rw [List.map_cons, toPs, toP, Option.bind_some, ih]; rfl
theorem eqv_bs (a b : List Bool) : PySem.PyData.eqvAll (a.map .bool) (b.map .bool) = decide (a = b) := by
  induction a generalizing b with
  | nil => cases b <;> simp [PySem.PyData.eqvAll]
  | cons x r ih =>
    cases b with
    | nil => simp [PySem.PyData.eqvAll]
    | cons y q =>
      have : (x == y) = decide (x = y) := by cases x <;> cases y <;> rfl
      simp [PySem.PyData.eqvAll, PySem.PyData.eqv, this, ih]
theorem shp_bs (l : List Bool) : shp (.list (l.map .bool)) = true := by
  have h1 : PySem.PyData.canLayAll0 (l.map .bool) = true := by
    induction l with
    | nil => simp [PySem.PyData.canLayAll0]
    | cons k r ih => simp [PySem.PyData.canLayAll0, PySem.PyData.canLay0, ih]
  have h2 : PySem.PyData.depthAll (l.map .bool) = 0 := by
    induction l with
    | nil => simp [PySem.PyData.depthAll]
    | cons k r ih =>
      simp only [List.map_cons, PySem.PyData.canLayAll0, PySem.PyData.canLay0, Bool.true_and] at h1
      simp [PySem.PyData.depthAll, PySem.PyData.depth, ih h1]
  unfold shp PySem.SeqAt.shaped
  simp [PySem.PyData.canLay0, PySem.PyData.depth, h1, h2]
theorem eq_bls {m n : Nat} {A B : List Bool} {S : Store} (ha : lstOf S m = some (A.map D.bl)) (hb : lstOf S n = some (B.map D.bl)) : pyEq (.ref m) (.ref n) S = some (decide (A = B)) := by
  have look : ∀ {n A}, lstOf S n = some (List.map D.bl A) → lookP 8 S n = some (.list (A.map .bool)) := fun {n A} h => by
    unfold lookP
    unfold lstOf at h
    cases hn : S[n]? with
    | none => rw [hn] at h; cases h
    | some o =>
      rw [hn] at h
      cases o with
      | lst l => dsimp only at h ⊢; obtain rfl := Option.some.inj h; rw [toPs_b]; rfl
      | fls l => dsimp only at h ⊢; obtain rfl := Option.some.inj h; rw [toPs_b]; rfl
      | _ => cases h
  unfold pyEq
  have e : scq (.ref m) (.ref n) = none := rfl
  rw [e]
  simp only [pd, toP, look ha, look hb, shp_bs, and_self, if_true]
  unfold PySem.PyData.eqv
  rw [eqv_bs]
theorem in_ints (n : Int) (l : List Int) (S : Store) : inSeq (.int n) (l.map .int) S = some (dec (n ∈ l)) := by
  have q := in_ks (.inl n) (l.map .inl) S
  rw [List.map_map] at q
  have e : dec ((Sum.inl n : Ky) ∈ l.map Sum.inl) = dec (n ∈ l) := by
    congr 1
    simp
  rw [e] at q
  exact q
/-! ### ways -/
/-- number j of a list: a row's, and one that the number ahead leads to -/
def At (rows : List Row) (w : List Int) (j : Nat) : Prop := ∃ n, w[j]? = some n ∧ 0 ≤ n ∧ n < rows.length ∧ (0 < j → ∃ (a : Int) (r : Row), w[j - 1]? = some a ∧ rows[a.toNat]? = some r ∧ n ∈ fol a.toNat r)
def IsWay (rows : List Row) (w : List Int) : Prop := w ≠ [] ∧ ∀ j, j < w.length → At rows w j
def IsEnd (rows : List Row) (w : List Int) : Prop := w[0]? = some 0 ∧ ∃ n : Int, w[w.length - 1]? = some n ∧ rows[n.toNat]? = some .en
theorem Prg.fol_in {l : List Tx} {rows : List Row} (h : Prg l rows) {n : Nat} {r : Row} {m : Int} (e : rows[n]? = some r) (f : m ∈ fol n r) : 0 ≤ m ∧ m < rows.length := by
  have hn := (List.getElem?_eq_some_iff.mp e).1
  have nx : r ≠ .en → n + 1 < rows.length := fun ne => by
    obtain ⟨q, rfl⟩ := h.last
    rcases get_snoc e with z | ⟨_, z⟩
    · have := (List.getElem?_eq_some_iff.mp z).1
      rw [List.length_append, List.length_singleton]; omega
    · exact absurd z ne
  cases r with
  | go t => have := h.go n t e; simp only [fol, List.mem_singleton] at f; omega
  | pt a t =>
    have := h.pt n a t e
    have := nx (by simp)
    simp only [fol, List.mem_cons, List.not_mem_nil, or_false] at f
    rcases f with f | f <;> omega
  | en => cases f
  | rk _ _ _ _ => have := nx (by simp); simp only [fol, List.mem_singleton] at f; omega
  | cp _ _ => have := nx (by simp); simp only [fol, List.mem_singleton] at f; omega
  | sy _ => have := nx (by simp); simp only [fol, List.mem_singleton] at f; omega
theorem IsWay.snoc {l : List Tx} {rows : List Row} {w : List Int} (h : IsWay rows w) (p : Prg l rows) {a m : Int} {r : Row} (ha : w[w.length - 1]? = some a) (hr : rows[a.toNat]? = some r) (f : m ∈ fol a.toNat r) : IsWay rows (w ++ [m]) := by
  have hp : 0 < w.length := List.length_pos_iff.mpr h.1
  refine ⟨by simp, fun j hj => ?_⟩
  rw [List.length_append, List.length_singleton] at hj
  have old : ∀ i, i < w.length → (w ++ [m])[i]? = w[i]? := fun i hi => List.getElem?_append_left hi
  by_cases h1 : j < w.length
  · obtain ⟨n, e, a0, a1, q⟩ := h.2 j h1
    refine ⟨n, by rw [old j h1, e], a0, a1, fun h0 => ?_⟩
    obtain ⟨a, r, z, q⟩ := q h0
    exact ⟨a, r, by rw [old _ (by omega), z], q⟩
  · obtain rfl : j = w.length := by omega
    have := p.fol_in hr f
    exact ⟨m, snoc_eq _ _, this.1, this.2, fun _ => ⟨a, r, by rw [old _ (by omega), ha], hr, f⟩⟩
theorem IsWay.one {rows : List Row} {n : Int} (h : 0 ≤ n ∧ n < rows.length) : IsWay rows [n] := by
  refine ⟨by simp, fun j hj => ?_⟩
  have : j = 0 := by simpa using hj
  subst this
  exact ⟨n, rfl, h.1, h.2, fun z => absurd z (by decide)⟩
theorem at_m1 {α : Type} {l : List α} (h : l ≠ []) : atI l (-1) = l[l.length - 1]? := by
  have hp : 0 < l.length := List.length_pos_iff.mpr h
  unfold atI ixN
  rw [if_neg (by decide), if_pos (by omega), Option.bind_some]
  congr 1
  omega
end Mi

set_option Elab.async false
set_option linter.all false
/-! rows come to from one, each by the first that led to it -/
namespace Mi
/-! ### dict displays by simp -/
@[simp] theorem mDis_one (a b : EM) (fr : Fr) (S : Store) : mDis [(a, b)] fr S = (a fr (S ++ [.dK []])).bind fun x S1 => (b fr S1).bind fun y S2 => disK S.length S2 (kvsM [(x, y)]) S2[S.length]? := by
  show ((a fr (S ++ [.dK []])).bind fun x S1 => (b fr S1).bind fun y S2 => (mPairs [] fr S2).bind fun ps S3 => .ok ((x, y) :: ps) S3).bind _ = _
  rw [Res.bind_assoc]
  congr 1; funext x S1
  rw [Res.bind_assoc]
  congr 1
theorem dis_one (n : Nat) (S : Store) (k : Ky) (v : D) (h : S[n]? = some (.dK [])) : disK n S (kvsM [(kyD k, v)]) S[n]? = .ok (.ref n) (S.set n (.dK [(k, v)])) := by
  rw [h]
  unfold kvsM
  rw [kyOf_kyD]
  rfl
/-! ### what a dict of numbers holds -/
def oD : Option Int → D
  | none => .non
  | some a => .int a
abbrev CM := List (Int × Option Int)
def cmD (cm : CM) : O := .dK (cm.map fun p => (.inl p.1, oD p.2))
theorem cm_get (cm : CM) (x : Int) : dGet (cm.map fun p => ((Sum.inl p.1 : Ky), oD p.2)) (.inl x) = (dGet cm x).map oD := by
  unfold dGet
  induction cm with
  | nil => rfl
  | cons p r ih =>
    by_cases h : p.1 = x
    · subst h; simp
    · have h2 : ¬ ((Sum.inl p.1 : Ky) = Sum.inl x) := fun z => h (Sum.inl.inj z)
      simp [List.find?_cons, h]
      simpa using ih
theorem cm_put (cm : CM) (x : Int) (v : Option Int) (h : dGet cm x = none) : dPut (cm.map fun p => ((Sum.inl p.1 : Ky), oD p.2)) (.inl x) (oD v) = (cm ++ [(x, v)]).map fun p => ((Sum.inl p.1 : Ky), oD p.2) := by
  unfold dPut
  rw [if_neg]
  · simp
  · unfold dGet at h
    simp only [Option.map_eq_none_iff, List.find?_eq_none, decide_eq_true_eq] at h
    simp only [List.any_map, List.any_eq_true, Function.comp, decide_eq_true_eq, not_exists, not_and]
    intro p hp z
    exact h p hp (Sum.inl.inj z)
theorem dGet_some {cm : CM} {x : Int} : (dGet cm x).isSome = true ↔ x ∈ cm.map Prod.fst := by
  unfold dGet
  rw [Option.isSome_map, List.find?_isSome]
  simp
theorem dGet_app {cm : CM} {x m : Int} {v : Option Int} (h : x ∈ cm.map Prod.fst) : dGet (cm ++ [(m, v)]) x = dGet cm x := by
  have := dGet_some.mpr h
  unfold dGet at this ⊢
  rw [List.find?_append]
  rw [Option.isSome_map] at this
  obtain ⟨p, hp⟩ := Option.isSome_iff_exists.mp this
  rw [hp]; rfl
theorem dGet_new {cm : CM} {m : Int} {v : Option Int} (h : m ∉ cm.map Prod.fst) : dGet (cm ++ [(m, v)]) m = some v := by
  unfold dGet
  rw [List.find?_append]
  have : cm.find? (fun kv => decide (kv.1 = m)) = none := by
    rw [List.find?_eq_none]
    intro p hp
    simp only [decide_eq_true_eq]
    intro z
    exact h (List.mem_map.mpr ⟨p, hp, z⟩)
  rw [this]
  simp
/-! ### trees -/
inductive Tree (rows : List Row) (st : Int) : CM → Prop
  | base : 0 ≤ st → st < rows.length → Tree rows st [(st, none)]
  | snoc {cm : CM} {h m : Int} {r : Row} : Tree rows st cm → h ∈ cm.map Prod.fst → m ∉ cm.map Prod.fst → rows[h.toNat]? = some r → m ∈ fol h.toNat r → Tree rows st (cm ++ [(m, some h)])
def Up (cm : CM) : List Int → Prop
  | [] => False
  | [x] => dGet cm x = some none
  | x :: y :: r => dGet cm x = some (some y) ∧ Up cm (y :: r)
theorem Up.keys {cm : CM} : ∀ {w : List Int}, Up cm w → ∀ x ∈ w, x ∈ cm.map Prod.fst
  | [], h, _, _ => h.elim
  | [x], h, y, hy => by
    rw [List.mem_singleton.mp hy]
    exact dGet_some.mp (by rw [show dGet cm x = some none from h]; rfl)
  | x :: y :: r, h, z, hz => by
    rcases List.mem_cons.mp hz with e | e
    · rw [e]; exact dGet_some.mp (by rw [h.1]; rfl)
    · exact Up.keys h.2 z e
theorem Up.mono {cm : CM} {m : Int} {v : Option Int} : ∀ {w : List Int}, Up cm w → Up (cm ++ [(m, v)]) w
  | [], h => h
  | [x], h => by
    show dGet _ x = _
    rw [dGet_app (Up.keys (w := [x]) h x (by simp))]; exact h
  | x :: y :: r, h => ⟨by rw [dGet_app (Up.keys h x (by simp))]; exact h.1, Up.mono h.2⟩
theorem Tree.inr {l : List Tx} {rows : List Row} {st : Int} {cm : CM} (t : Tree rows st cm) (pg : Prg l rows) : ∀ x ∈ cm.map Prod.fst, (0 : Int) ≤ x ∧ x < (rows.length : Int) := by
  induction t with
  | base h0 h1 => intro x hx; rw [List.mem_singleton.mp hx]; exact ⟨h0, h1⟩
  | snoc _ _ _ hr hf ih =>
    intro x hx
    rw [List.map_append] at hx
    rcases List.mem_append.mp hx with z | z
    · exact ih x z
    · rw [List.mem_singleton.mp z]; exact pg.fol_in hr hf
theorem Tree.nodup {rows : List Row} {st : Int} {cm : CM} (t : Tree rows st cm) : (cm.map Prod.fst).Nodup := by
  induction t with
  | base => simp
  | @snoc cm h m r _ _ hm _ _ ih =>
    rw [List.map_append, List.nodup_append]
    refine ⟨ih, by simp, ?_⟩
    intro a ha b hb
    rw [List.mem_singleton.mp hb]
    intro z
    have z : a = m := z
    exact hm (z ▸ ha)
theorem nodup_range : ∀ (n : Nat) (l : List Int), l.Nodup → (∀ x ∈ l, 0 ≤ x ∧ x < n) → l.length ≤ n := by
  intro n
  induction n with
  | zero =>
    intro l _ h
    cases l with
    | nil => simp
    | cons x r => have := h x (by simp); omega
  | succ n ih =>
    intro l nd h
    by_cases hn : (n : Int) ∈ l
    · have h2 := ih (l.erase n) (nd.erase _) (fun x hx => by
        have h3 := h x (List.mem_of_mem_erase hx)
        have h4 : x ≠ n := fun z => by
          subst z
          exact (List.Nodup.not_mem_erase nd) hx
        omega)
      have := List.length_erase_of_mem hn
      have : 0 < l.length := List.length_pos_of_mem hn
      omega
    · have h2 := ih l nd (fun x hx => by
        have h3 := h x hx
        have h4 : x ≠ n := fun z => hn (z ▸ hx)
        omega)
      omega
theorem Tree.len {l : List Tx} {rows : List Row} {st : Int} {cm : CM} (t : Tree rows st cm) (pg : Prg l rows) : cm.length ≤ rows.length := by
  have := nodup_range rows.length _ t.nodup (t.inr pg)
  rwa [List.length_map] at this
/-- the way that a tree tells -/
theorem Tree.way {l : List Tx} {rows : List Row} {st : Int} {cm : CM} (t : Tree rows st cm) (pg : Prg l rows) : ∀ n ∈ cm.map Prod.fst, ∃ w, IsWay rows w ∧ w[0]? = some st ∧ w[w.length - 1]? = some n ∧ w.length ≤ cm.length ∧ Up cm w.reverse := by
  induction t with
  | base h0 h1 =>
    intro n hn
    rw [List.mem_singleton.mp hn]
    refine ⟨[st], IsWay.one ⟨h0, h1⟩, rfl, rfl, Nat.le_refl _, ?_⟩
    show dGet [(st, none)] st = some none
    simp [dGet]
  | @snoc cm h m r t hh hm hr hf ih =>
    intro n hn
    rw [List.map_append] at hn
    rcases List.mem_append.mp hn with z | z
    · obtain ⟨w, a, b, c, d, u⟩ := ih n z
      exact ⟨w, a, b, c, by rw [List.length_append, List.length_singleton]; omega, u.mono⟩
    · rw [List.mem_singleton.mp z]
      obtain ⟨w, a, b, c, d, u⟩ := ih h hh
      have hp : 0 < w.length := List.length_pos_iff.mpr a.1
      refine ⟨w ++ [m], a.snoc pg c hr hf, by rw [List.getElem?_append_left hp]; exact b, by simp, by simp; omega, ?_⟩
      rw [List.reverse_append, List.reverse_singleton]
      have hd : w.reverse[0]? = some h := by
        rw [List.getElem?_reverse hp]; exact c
      have um := u.mono (m := m) (v := some h)
      cases hw : w.reverse with
      | nil => rw [hw] at hd; cases hd
      | cons y q =>
        rw [hw] at hd um
        obtain rfl := Option.some.inj hd
        exact ⟨dGet_new hm, um⟩
/-- what is done, what waits -/
structure Bfs (rows : List Row) (st : Int) (cm : CM) (done wt : List Int) : Prop where
  tree : Tree rows st cm
  ks : cm.map Prod.fst = done ++ wt
  cl : ∀ h ∈ done, ∀ r m, rows[h.toNat]? = some r → m ∈ fol h.toNat r → m ∈ cm.map Prod.fst
theorem Tree.st_in {rows : List Row} {st : Int} {cm : CM} (t : Tree rows st cm) : st ∈ cm.map Prod.fst := by
  induction t with
  | base => simp
  | snoc _ _ _ _ _ ih => rw [List.map_append]; exact List.mem_append_left _ ih
/-- nothing waits: all that is reached from a key is a key -/
theorem Bfs.shut_reach {rows : List Row} {cm : CM} {done : List Int} (b : Bfs rows 0 cm done []) {n : Nat} (h : Reach rows n) : (n : Int) ∈ cm.map Prod.fst := by
  have kd := b.ks
  rw [List.append_nil] at kd
  induction h with
  | zero => exact b.tree.st_in
  | @step i j r _ hr hf ih =>
    rw [kd] at ih
    exact b.cl _ ih r _ (by simpa using hr) (by simpa using hf)
theorem Bfs.shut_ends {rows : List Row} {st : Int} {cm : CM} {done : List Int} (b : Bfs rows st cm done []) (ne : ∀ h ∈ done, rows[h.toNat]? ≠ some .en) {n : Nat} (h : Ends rows n) : (n : Int) ∉ cm.map Prod.fst := by
  have kd := b.ks
  rw [List.append_nil] at kd
  induction h with
  | en e => intro z; rw [kd] at z; exact ne _ z (by simpa using e)
  | @step i j r hr hf _ ih =>
    intro z
    rw [kd] at z
    exact ih (b.cl _ z r _ (by simpa using hr) (by simpa using hf))
@[simp] theorem oD_n : oD none = .non := rfl
@[simp] theorem oD_s (a : Int) : oD (some a) = .int a := rfl
theorem cm_put' {cm : CM} {x v : Int} (h : x ∉ cm.map Prod.fst) : dPut (cm.map fun p => ((Sum.inl p.1 : Ky), oD p.2)) (.inl x) (.int v) = (cm ++ [(x, some v)]).map fun p => ((Sum.inl p.1 : Ky), oD p.2) := by
  have : dGet cm x = none := by
    cases e : dGet cm x with
    | none => rfl
    | some y => exact absurd (dGet_some.mp (by rw [e]; rfl)) h
  exact cm_put cm x (some v) this
theorem cm_none {cm : CM} {x : Int} (h : x ∉ cm.map Prod.fst) : dGet cm x = none := by
  cases e : dGet cm x with
  | none => rfl
  | some y => exact absurd (dGet_some.mp (by rw [e]; rfl)) h
end Mi

set_option Elab.async false
set_option linter.all false
/-! what a check of a program finds -/
namespace Mi
abbrev LTS : Tx := [97, 98, 99, 100, 101, 102, 103, 104, 105, 106, 107, 108, 109, 110, 111, 112, 113, 114, 115, 116, 117, 118, 119, 120, 121, 122]
abbrev FG : Tx := [48, 49, 50, 51, 52, 53, 54, 55, 56, 57]
theorem sg_or {c : Nat} (h : c ∈ SG) : c ∈ LTS ∨ c ∈ FG := by
  have : ∀ c ∈ SG, c ∈ LTS ∨ c ∈ FG := by decide
  exact this c h
theorem lt_of {c : Nat} (h : 97 ≤ c ∧ c ≤ 122) : c ∈ LTS := by
  have : ∀ k : Nat, k < 26 → 97 + k ∈ LTS := by decide
  have q := this (c - 97) (by omega)
  rwa [show 97 + (c - 97) = c by omega] at q
theorem snoc_or {α : Type} (l : List α) : l = [] ∨ ∃ q a, l = q ++ [a] := by
  induction l with
  | nil => exact .inl rfl
  | cons x r ih =>
    right
    rcases ih with h | ⟨q, a, h⟩
    · exact ⟨[], x, by rw [h]; rfl⟩
    · exact ⟨x :: q, a, by rw [h]; rfl⟩
/-! ### dicts that keep what was found -/
def bmD (ks : List Int) : O := .dK (ks.map fun x => ((Sum.inl x : Ky), D.bl true))
theorem bm_get (ks : List Int) (x : Int) : (dGet (ks.map fun x => ((Sum.inl x : Ky), D.bl true)) (.inl x)).isSome = dec (x ∈ ks) := by
  by_cases h : x ∈ ks
  · rw [dec_true h]
    unfold dGet
    rw [Option.isSome_map, List.find?_isSome]
    exact ⟨(.inl x, .bl true), List.mem_map.mpr ⟨x, h, rfl⟩, by simp⟩
  · rw [dec_false h]
    unfold dGet
    have : (ks.map fun x => ((Sum.inl x : Ky), D.bl true)).find? (fun kv => decide (kv.1 = .inl x)) = none := by
      rw [List.find?_eq_none]
      intro p hp
      obtain ⟨y, hy, rfl⟩ := List.mem_map.mp hp
      simp only [decide_eq_true_eq]
      intro z
      exact h (Sum.inl.inj z ▸ hy)
    rw [this]; rfl
theorem bm_put {ks : List Int} {x : Int} (h : x ∉ ks) : dPut (ks.map fun x => ((Sum.inl x : Ky), D.bl true)) (.inl x) (.bl true) = (ks ++ [x]).map fun x => ((Sum.inl x : Ky), D.bl true) := by
  unfold dPut
  rw [if_neg]
  · simp
  · simp only [List.any_map, List.any_eq_true, Function.comp, decide_eq_true_eq, not_exists, not_and]
    intro p hp z
    exact h (Sum.inl.inj z ▸ hp)
structure Ks (rows : List Row) (ks : List Int) : Prop where
  nd : ks.Nodup
  rg : ∀ x ∈ ks, (0 : Int) ≤ x ∧ x < (rows.length : Int)
theorem Ks.len {rows : List Row} {ks : List Int} (h : Ks rows ks) : ks.length ≤ rows.length := nodup_range _ _ h.nd h.rg
theorem Ks.snoc {rows : List Row} {ks : List Int} (h : Ks rows ks) {x : Int} (hx : x ∉ ks) (hr : 0 ≤ x ∧ x < (rows.length : Int)) : Ks rows (ks ++ [x]) := by
  refine ⟨?_, ?_⟩
  · rw [List.nodup_append]
    refine ⟨h.nd, by simp, ?_⟩
    intro a ha b hb
    rw [List.mem_singleton.mp hb]
    intro z
    exact hx (z ▸ ha)
  · intro y hy
    rcases List.mem_append.mp hy with z | z
    · exact h.rg y z
    · rw [List.mem_singleton.mp z]; exact hr
structure Dfs (rows : List Row) (ks wt : List Int) : Prop extends Ks rows ks where
  zero : (0 : Int) ∈ ks
  sub : ∀ x ∈ wt, x ∈ ks
  cl : ∀ h ∈ ks, h ∈ wt ∨ ∀ r m, rows[h.toNat]? = some r → m ∈ fol h.toNat r → m ∈ ks
theorem Dfs.all {rows : List Row} {ks : List Int} (h : Dfs rows ks []) {n : Nat} (r : Reach rows n) : (n : Int) ∈ ks := by
  induction r with
  | zero => exact h.zero
  | @step i j r _ hr hf ih =>
    rcases h.cl _ ih with z | z
    · cases z
    · exact z r _ (by simpa using hr) (by simpa using hf)
/-- nothing more leads to an end -/
def Closed (rows : List Row) (ks : List Int) : Prop := ∀ (n : Nat) (r : Row), rows[n]? = some r → (n : Int) ∈ ks ∨ (r ≠ .en ∧ ∀ m ∈ fol n r, m ∉ ks)
theorem Closed.all {rows : List Row} {ks : List Int} (h : Closed rows ks) {n : Nat} (e : Ends rows n) : (n : Int) ∈ ks := by
  induction e with
  | @en n hr =>
    rcases h n _ hr with z | z
    · exact z
    · exact absurd rfl z.1
  | @step i j r hr hf _ ih =>
    rcases h j r hr with z | z
    · exact z
    · exact absurd ih (z.2 _ hf)
end Mi

set_option Elab.async false
set_option linter.all false
/-! texts cut into lines, lines into words -/
namespace Mi
theorem spC_acc (c : Nat) : ∀ (l acc : Tx), spC c acc l = (acc ++ (spC c [] l).headD []) :: (spC c [] l).tail
  | [], acc => by simp [spC]
  | d :: r, acc => by
    by_cases h : d = c
    · simp [spC, h]
    · rw [spC, if_neg h, spC_acc c r (acc ++ [d]), spC, if_neg h, spC_acc c r ([] ++ [d])]
      simp
theorem spC_ne (c : Nat) (l acc : Tx) : spC c acc l ≠ [] := by rw [spC_acc]; simp
theorem spC_app (c : Nat) (y : Tx) : ∀ (x acc : Tx), spC c acc (x ++ c :: y) = spC c acc x ++ spC c [] y
  | [], acc => by simp [spC]
  | d :: r, acc => by
    by_cases h : d = c
    · rw [List.cons_append, spC, if_pos h, spC, if_pos h, spC_app c y r []]; rfl
    · rw [List.cons_append, spC, if_neg h, spC, if_neg h, spC_app c y r _]
theorem spC_free {c : Nat} : ∀ {l : Tx} (acc : Tx), c ∉ l → spC c acc l = [acc ++ l]
  | [], acc, _ => by simp [spC]
  | d :: r, acc, h => by
    have h1 : d ≠ c := fun e => h (by rw [e]; simp)
    rw [spC, if_neg h1, spC_free (acc ++ [d]) fun e => h (List.mem_cons_of_mem _ e)]
    simp
/-- the words of a line -/
def wf (u : Tx) : List Tx := (spC 32 [] u).filter fun w => decide (w ≠ [])
theorem wf_app (x y : Tx) : wf (x ++ 32 :: y) = wf x ++ wf y := by
  unfold wf
  rw [spC_app, List.filter_append]
@[simp] theorem wf_nil : wf [] = [] := rfl
theorem wf_word {w : Tx} (h : 32 ∉ w) (hn : w ≠ []) : wf w = [w] := by
  unfold wf
  rw [spC_free [] h]
  simp [hn]
theorem wf_sp (k : Nat) (y : Tx) : wf (List.replicate k 32 ++ y) = wf y := by
  induction k with
  | zero => rfl
  | succ k ih =>
    rw [List.replicate_succ, List.cons_append]
    have := wf_app [] (List.replicate k 32 ++ y)
    rw [List.nil_append] at this
    rw [this, ih]; rfl
theorem wf_wsp {w : Tx} (h : 32 ∉ w) (hn : w ≠ []) (k : Nat) (y : Tx) : wf (w ++ (List.replicate (k + 1) 32 ++ y)) = w :: wf y := by
  rw [List.replicate_succ, List.cons_append, wf_app, wf_sp, wf_word h hn]; rfl
theorem wf_last {w : Tx} (h : 32 ∉ w) (hn : w ≠ []) (k : Nat) : wf (w ++ List.replicate k 32) = [w] := by
  cases k with
  | zero => rw [List.replicate_zero, List.append_nil]; exact wf_word h hn
  | succ k =>
    have := wf_wsp h hn k []
    rw [List.append_nil] at this
    exact this
/-- what stands before the first # -/
def bef (t : Tx) : Tx := match paC 35 [] t with
  | some (x, _) => x
  | none => t
theorem paC_free {c : Nat} (y : Tx) : ∀ (x acc : Tx), c ∉ x → paC c acc (x ++ c :: y) = some (acc ++ x, y)
  | [], acc, _ => by simp [paC]
  | d :: r, acc, h => by
    have h1 : d ≠ c := fun e => h (by rw [e]; simp)
    rw [List.cons_append, paC, if_neg h1, paC_free y r (acc ++ [d]) fun e => h (List.mem_cons_of_mem _ e)]
    simp
theorem paC_none {c : Nat} : ∀ (x acc : Tx), c ∉ x → paC c acc x = none
  | [], acc, _ => rfl
  | d :: r, acc, h => by
    have h1 : d ≠ c := fun e => h (by rw [e]; simp)
    rw [paC, if_neg h1]
    exact paC_none r _ fun e => h (List.mem_cons_of_mem _ e)
theorem bef_free {x : Tx} (h : 35 ∉ x) : bef x = x := by unfold bef; rw [paC_none x [] h]
theorem bef_app {x : Tx} (y : Tx) (h : 35 ∉ x) : bef (x ++ 35 :: y) = x := by
  unfold bef
  rw [paC_free y x [] h]; rfl
def rdl (t : Tx) : List Tx := wf (bef t)
/-- what is read of a text: the words of each line that has some -/
def rdT (t : Tx) : List (List Tx) := ((spC 10 [] t).map rdl).filter fun w => decide (w ≠ [])
theorem rdT_app (x y : Tx) : rdT (x ++ 10 :: y) = rdT x ++ rdT y := by
  unfold rdT
  rw [spC_app, List.map_append, List.filter_append]
theorem rdT_line {t : Tx} (h : 10 ∉ t) (hn : rdl t ≠ []) : rdT t = [rdl t] := by
  unfold rdT
  rw [spC_free [] h]
  simp [hn]
@[simp] theorem rdT_nil : rdT [] = [] := rfl
theorem rdT_join : ∀ (ts : List Tx), rdT (joinT [10] ts) = ts.flatMap rdT
  | [] => rfl
  | [x] => by simp [joinT]
  | x :: y :: r => by
    rw [joinT, List.append_assoc, List.singleton_append, rdT_app, rdT_join (y :: r)]
    simp [List.flatMap_cons]
/-! ### figures -/
theorem num_dig (n : Nat) : (numT n).all isDig = true := by
  rw [List.all_eq_true]
  intro c hc
  have := TL.numL_digits n c hc
  simp [isDig, this]
theorem num_ne (n : Nat) : numT n ≠ [] := TL.numL_ne n
theorem num_val (n : Nat) : digV (numT n) = n := TL.numL_val n
theorem num_len {n k : Nat} (hk : 0 < k) (h : n < 10 ^ k) : (numT n).length ≤ k := TL.numL_len hk h
theorem num_free {n s : Nat} (h : s < 48 ∨ 57 < s) : s ∉ numT n := TL.numL_free h
theorem num_head : ∀ (n : Nat), (numT n)[0]? = some 48 → numT n = [48] := by
  intro n
  induction n using Nat.strongRecOn with
  | _ n ih =>
    by_cases h : n < 10
    · have e : numT n = [48 + n] := TL.numL_lt h
      rw [e]
      intro z
      simpa using z
    · have e : numT n = numT (n / 10) ++ [48 + n % 10] := TL.numL_step (by omega)
      intro z
      rw [e, List.getElem?_append_left (List.length_pos_iff.mpr (num_ne _))] at z
      have q := ih (n / 10) (by omega) z
      have v := num_val (n / 10)
      rw [q] at v
      have : digV [48] = 0 := rfl
      omega
/-! ### the words of a row -/
def stK' : Ky → Tx
  | .inl i => numT i.toNat
  | .inr t => t
def wrds : Row → List Tx
  | .rk n s a b => [n, [61], stK' a, s, stK' b]
  | .cp n a => [n, [61], stK' a]
  | .sy a => [w_sy, stK' a]
  | .go t => [w_go, numT t.toNat]
  | .pt a t => [w_pt, stK' a, numT t.toNat]
  | .en => [w_en]
/-- a word that stands in a line as it is -/
structure Wd (w : Tx) : Prop where
  ne : w ≠ []
  s : 32 ∉ w
  h : 35 ∉ w
  n : 10 ∉ w
  l : w.length ≤ 30
theorem Nm.wd {t : Tx} (h : Nm t) : Wd t := by
  have no : ∀ c, c ∉ SG → c ∉ t := fun c hc hm => hc (h.all c hm)
  refine ⟨?_, no 32 (by decide), no 35 (by decide), no 10 (by decide), by have := h.hi; omega⟩
  intro z
  have := h.lo
  rw [z] at this
  simp at this
theorem num_wd {n : Nat} (h : n < 10 ^ 25) : Wd (numT n) := ⟨num_ne n, num_free (by omega), num_free (by omega), num_free (by omega), by have := num_len (n := n) (k := 25) (by decide) h; omega⟩
theorem Opd.wd {l : List Tx} {k : Ky} (h : Opd l k) (hl : ∀ t ∈ l, Nm t) : Wd (stK' k) := by
  rcases h with ⟨t, ht, rfl⟩ | ⟨w, rfl, h0, h1⟩
  · exact (hl t ht).wd
  · exact num_wd (n := w.toNat) (by
      have : w.toNat < 18446744073709551616 := by omega
      exact Nat.lt_of_lt_of_le this (by decide))
/-- a row whose line can be read -/
structure Rdb (l : List Tx) (r : Row) : Prop where
  nm : RowN l r
  go : ∀ t, r = .go t → 0 ≤ t ∧ t < 10 ^ 25
  pt : ∀ a t, r = .pt a t → 0 ≤ t ∧ t < 10 ^ 25
theorem Rdb.wd {l : List Tx} {r : Row} (h : Rdb l r) (hl : ∀ t ∈ l, Nm t) : ∀ w ∈ wrds r, Wd w := by
  have kw : ∀ w ∈ [w_sy, w_go, w_pt, w_en, ([61] : Tx)], Wd w := by
    intro w hw
    simp only [List.mem_cons, List.not_mem_nil, or_false] at hw
    rcases hw with rfl | rfl | rfl | rfl | rfl <;> exact ⟨by decide, by decide, by decide, by decide, by decide⟩
  have nn := h.nm
  intro w hw
  cases r with
  | rk n s a b =>
    obtain ⟨h1, h2⟩ := nn
    obtain ⟨c, hc, e⟩ := h2.s1
    have e : s = [c] := by injection e
    subst e
    simp only [wrds, List.mem_cons, List.not_mem_nil, or_false] at hw
    rcases hw with rfl | rfl | rfl | rfl | rfl
    · exact (hl _ h1).wd
    · exact kw _ (by simp)
    · exact h2.a1.wd hl
    · have : ∀ c ∈ S8, c ≠ 32 ∧ c ≠ 35 ∧ c ≠ 10 := by decide
      obtain ⟨q1, q2, q3⟩ := this c hc
      exact ⟨by simp, by simpa using fun z => q1 z.symm, by simpa using fun z => q2 z.symm, by simpa using fun z => q3 z.symm, by simp⟩
    · exact h2.b1.wd hl
  | cp n a =>
    simp only [wrds, List.mem_cons, List.not_mem_nil, or_false] at hw
    rcases hw with rfl | rfl | rfl
    · exact (hl _ nn.1).wd
    · exact kw _ (by simp)
    · exact Opd.wd nn.2 hl
  | sy a =>
    simp only [wrds, List.mem_cons, List.not_mem_nil, or_false] at hw
    rcases hw with rfl | rfl
    · exact kw _ (by simp)
    · exact Opd.wd nn hl
  | go t =>
    simp only [wrds, List.mem_cons, List.not_mem_nil, or_false] at hw
    rcases hw with rfl | rfl
    · exact kw _ (by simp)
    · have := h.go t rfl; exact num_wd (by omega)
  | pt a t =>
    simp only [wrds, List.mem_cons, List.not_mem_nil, or_false] at hw
    rcases hw with rfl | rfl | rfl
    · exact kw _ (by simp)
    · exact Opd.wd nn hl
    · have := h.pt a t rfl; exact num_wd (by omega)
  | en =>
    simp only [wrds, List.mem_cons, List.not_mem_nil, or_false] at hw
    rw [hw]; exact kw _ (by simp)
/-- a line of words with single blanks -/
theorem wf_join : ∀ (ws : List Tx), (∀ w ∈ ws, Wd w) → wf (joinT [32] ws) = ws
  | [], _ => rfl
  | [w], h => by rw [joinT]; exact wf_word (h w (by simp)).s (h w (by simp)).ne
  | w :: v :: r, h => by
    rw [joinT, List.append_assoc, List.singleton_append, wf_app, wf_word (h w (by simp)).s (h w (by simp)).ne, wf_join (v :: r) fun x hx => h x (List.mem_cons_of_mem _ hx)]
    rfl
theorem join_free {c s : Nat} (hs : c ≠ s) : ∀ (ws : List Tx), (∀ w ∈ ws, c ∉ w) → c ∉ joinT [s] ws
  | [], _ => by simp [joinT]
  | [w], h => by rw [joinT]; exact h w (by simp)
  | w :: v :: r, h => by
    rw [joinT, List.mem_append, List.mem_append, List.mem_singleton]
    rintro ((z | z) | z)
    · exact h w (by simp) z
    · exact hs z
    · exact join_free hs (v :: r) (fun x hx => h x (List.mem_cons_of_mem _ hx)) z
theorem wrds_ne (r : Row) : wrds r ≠ [] := by cases r <;> simp [wrds]
theorem rdT_row {l : List Tx} {r : Row} (h : Rdb l r) (hl : ∀ t ∈ l, Nm t) : rdT (joinT [32] (wrds r)) = [wrds r] := by
  have wd := h.wd hl
  have e : rdl (joinT [32] (wrds r)) = wrds r := by
    unfold rdl
    rw [bef_free (join_free (by decide) _ fun w hw => (wd w hw).h), wf_join _ wd]
  rw [rdT_line (join_free (by decide) _ fun w hw => (wd w hw).n) (by rw [e]; exact wrds_ne r), e]
theorem RowN.k {l : List Tx} {r : Row} (h : RowN l r) (hl : ∀ t ∈ l, Nm t) : r.ks.all kOk = true := by
  cases r with
  | rk n s a b =>
    obtain ⟨h1, h2⟩ := h
    obtain ⟨c, hc, e⟩ := h2.s1
    have hs : kOk (.inr s) = true := by
      rw [e]
      have : ∀ c ∈ S8, kOk (.inr [c]) = true := by decide
      exact this c hc
    simp only [Row.ks, List.all_cons, List.all_nil, (hl _ h1).ok, hs, h2.a1.ok hl, h2.b1.ok hl]
    rfl
  | cp n a => simp only [Row.ks, List.all_cons, List.all_nil, (hl _ h.1).ok, Opd.ok h.2 hl]; rfl
  | sy a => simp only [Row.ks, List.all_cons, List.all_nil, Opd.ok h hl]; rfl
  | go t => rfl
  | pt a t => simp only [Row.ks, List.all_cons, List.all_nil, Opd.ok h hl]; rfl
  | en => rfl
end Mi

set_option Elab.async false
set_option linter.all false
/-! k10's own operators by simp -/
namespace Mi
@[simp] theorem oEqX_s (a : Tx) (y : D) (S : Store) : oEqX (.str a) y S = oEq (.str a) y S := (rfl)
@[simp] theorem oEqX_i (a : Int) (y : D) (S : Store) : oEqX (.int a) y S = oEq (.int a) y S := (rfl)
@[simp] theorem oEqX_n (y : D) (S : Store) : oEqX .non y S = oEq .non y S := (rfl)
@[simp] theorem oEqX_b (a : Bool) (y : D) (S : Store) : oEqX (.bl a) y S = oEq (.bl a) y S := (rfl)
@[simp] theorem oEqX_t (a : List D) (y : D) (S : Store) : oEqX (.tup a) y S = oEq (.tup a) y S := (rfl)
def slA3 (x : D) (l : Option Int) (r : Res (Option Int)) : Res D := r.bind fun h S3 => oSlA x l h S3
@[simp] theorem slA3_s (x : D) (l h : Option Int) (S : Store) : slA3 x l (.ok h S) = oSlA x l h S := (rfl)
def slA2 (x : D) (hi : PM) (fr : Fr) (r : Res (Option Int)) : Res D := r.bind fun l S2 => slA3 x l (hi fr S2)
@[simp] theorem slA2_s (x : D) (hi : PM) (fr : Fr) (l : Option Int) (S : Store) : slA2 x hi fr (.ok l S) = slA3 x l (hi fr S) := (rfl)
def slA1 (lo hi : PM) (fr : Fr) (r : Res D) : Res D := r.bind fun x S1 => slA2 x hi fr (lo fr S1)
@[simp] theorem slA1_s (lo hi : PM) (fr : Fr) (x : D) (S : Store) : slA1 lo hi fr (.ok x S) = slA2 x hi fr (lo fr S) := (rfl)
@[simp] theorem mSlA_s (a : EM) (lo hi : PM) (fr : Fr) (S : Store) : mSlA a lo hi fr S = slA1 lo hi fr (a fr S) := (rfl)
@[simp] theorem oSlA_t (l : List D) (lo hi : Option Int) (S : Store) : oSlA (.tup l) lo hi S = .ok (.tup (cut l lo hi)) S := (rfl)
@[simp] theorem oAddA_t (a b : List D) (S : Store) : oAddA (.tup a) (.tup b) S = if a.length + b.length ≤ LINE then .ok (.tup (a ++ b)) S else .bad := (rfl)
@[simp] theorem oAddA_i (a : Int) (y : D) (S : Store) : oAddA (.int a) y S = oAdd (.int a) y S := (rfl)
@[simp] theorem sUpper_s (w : Tx) (S : Store) : sUpper (.str w) [] S = if w ∈ sixW then .ok (.str (w.map fun c => c - 32)) S else .bad := (rfl)
end Mi

set_option Elab.async false
set_option linter.all false
set_option maxHeartbeats 1000000
namespace Lk10
open Mi
/-! ### the script's cells -/
theorem cell_ok {ns : List Int} {S : Store} (h : S[0]? = some (.fls (ns.map .int))) (k : Nat) : ∃ v, m_law_cell [.ref 0, .int k] S = .ok (.int v) S := by
  by_cases hl : k < ns.length
  · refine ⟨ns[k], ?_⟩
    have e : atI (ns.map D.int) (k : Int) = some (.int ns[k]) := at_of (by simp [hl])
    simp [m_law_cell, b_law_cell, h, hl, e]
  · by_cases h0 : ns = []
    · subst h0
      refine ⟨k * 7919, ?_⟩
      have e : mulOk (k : Int) 7919 := .inr (.inl (by decide))
      have e2 : ¬ ((k : Int) < 0) := by omega
      simp [m_law_cell, b_law_cell, h, e, e2]
    · have hp : 0 < ns.length := List.length_pos_iff.mpr h0
      have hm : k % ns.length < ns.length := Nat.mod_lt _ hp
      have e : atI (ns.map D.int) ((k : Int) % (ns.length : Int)) = some (.int ns[k % ns.length]) := by
        rw [← Int.natCast_emod]
        exact at_of (by simp [hm])
      have e3 : ∀ v : Int, mulOk (v % 1000003) ((k : Int) + 2) := fun v => .inl (by
        have := Int.emod_nonneg v (show (1000003 : Int) ≠ 0 by decide)
        have := Int.emod_lt_of_pos v (show (0 : Int) < 1000003 by decide)
        unfold small; constructor <;> omega)
      have e4 : mulOk (k : Int) 7919 := .inr (.inl (by decide))
      refine ⟨(if ns[k % ns.length] < 0 then -ns[k % ns.length] else ns[k % ns.length]) % 1000003 * ((k : Int) + 2) + (k : Int) * 7919, ?_⟩
      simp [m_law_cell, b_law_cell, h, hl, h0, e, hp, e3, e4]
/-! ### the names -/
theorem names_ok (c : Int) (k : Nat) (S : Store) (hk : k ≤ 10) : ∃ (l : List Tx) (m : Nat) (S' : Store), m_law_names [.int c, .int k] S = .ok (.ref m) S' ∧ Pre S S' ∧ S.length ≤ m ∧ S'[m]? = some (.lst (l.map .str)) ∧ l.length = k ∧ ∀ t ∈ l, Nm t := by
  obtain ⟨sz, hsz, hs0, hs8⟩ : ∃ sz : Nat, 1 + c % 8 = (sz : Int) ∧ 1 ≤ sz ∧ sz ≤ 8 := ⟨(1 + c % 8).toNat, by omega, by omega, by omega⟩
  have hszp : (0 : Int) < sz := by omega
  obtain ⟨sp, hsp, hsp8⟩ : ∃ sp : Nat, c / 8 % (sz : Int) = (sp : Int) ∧ sp < sz := by
    have h1 := Int.emod_nonneg (c / 8) (show (sz : Int) ≠ 0 by omega)
    have h2 := Int.emod_lt_of_pos (c / 8) hszp
    exact ⟨(c / 8 % (sz : Int)).toNat, by omega, by omega⟩
  let wd : Nat → Int := fun j => if 0 < j then 36 else 26
  let cv : Nat → Nat := fun j => SG.getD (c / (64 + 5 * (j : Int)) % wd j).toNat 0
  have hcv : ∀ j : Nat, atI SG (c / (64 + 5 * (j : Int)) % wd j) = some (cv j) ∧ cv j ∈ SG ∧ (j = 0 → 97 ≤ cv j ∧ cv j ≤ 122) := fun j => by
    have w0 : 0 < wd j ∧ wd j ≤ 36 ∧ (j = 0 → wd j = 26) := by
      by_cases h : 0 < j
      · simp [wd, h]; omega
      · simp [wd, h]
    have h1 := Int.emod_nonneg (c / (64 + 5 * (j : Int))) (show wd j ≠ 0 by omega)
    have h2 := Int.emod_lt_of_pos (c / (64 + 5 * (j : Int))) w0.1
    obtain ⟨d, e, m, q⟩ := sg_lt h1 (by omega)
    have ed : cv j = d := by
      have : SG[(c / (64 + 5 * (j : Int)) % wd j).toNat]? = some d := by
        unfold atI at e
        rw [ixN_of h1 (by show _ < ((36 : Nat) : Int); omega)] at e
        exact e
      show (SG[(c / (64 + 5 * (j : Int)) % wd j).toNat]?).getD 0 = d
      rw [this]; rfl
    rw [ed]
    exact ⟨e, m, fun h => q (by have := w0.2.2 h; omega)⟩
  let f : D → Option D := fun d => match d with
    | .int j => some (sgn (cv j.toNat))
    | _ => none
  have fsz : far (sz : Int) := by unfold far; omega
  obtain ⟨G1, q1⟩ := lc_is (vs := [6]) (g := gName 6) (t := tYes) (e := e_law_names_1)
    (fr := [some (.int c), some (.int k), some (.str SG), some (.int sz), some (.int sp), none, none, none, none, none]) (l := rng 0 sz) (hs := []) (S := S) f (fun _ h => by cases h) (by rw [rng_len]; exact Nat.le_trans hs8 (by decide)) (by
      intro d hd acc G
      obtain ⟨i, hi⟩ := List.getElem?_of_mem hd
      obtain ⟨hl, rfl⟩ := rng_at hi
      have e0 : (0 : Int) + (i : Int) = (i : Int) := by omega
      have a := hcv i
      have dv : divOk (64 + 5 * (i : Int)) := div_ok (by omega) (by omega)
      have mo : mulOk 5 (i : Int) := mul_l (by decide)
      refine ⟨[some (.int c), some (.int k), some (.str SG), some (.int sz), some (.int sp), none, some (.int i), none, none, none], [.lst [.int 26, .int 36]], by simp [unset, e0], .inr ⟨sgn (cv i), [], by simp [f, e0], by simp [tYes], ?_⟩⟩
      by_cases h : 0 < i
      · have a1 := a.1
        simp only [wd, if_pos h] at a1
        simp [e_law_names_1, h, LINE, mo, dv, get_app, get_len_add, a1]
      · have h0 : i = 0 := by omega
        subst h0
        have a1 := a.1
        simp [wd] at a1
        have dv' : divOk 64 := div_ok (by decide) (by decide)
        have mo' : mulOk 5 0 := mul_l (by decide)
        simp [e_law_names_1, LINE, mo', dv', get_app, get_len_add, a1])
  have q1l : (rng 0 sz).filterMap f = ((List.range sz).map cv).map sgn := by
    unfold rng
    rw [List.filterMap_map, List.map_map]
    have : (f ∘ fun k : Nat => D.int (0 + (k : Int))) = fun k : Nat => some (sgn (cv k)) := by
      funext k
      simp [f]
    rw [this, List.filterMap_eq_map']
    rfl
  rw [q1l] at q1
  have cs0 : Cs ((List.range sz).map cv) := by
    refine ⟨by simpa using hs0, by simpa using hs8, ⟨cv 0, ?_, (hcv 0).2.2 rfl⟩, ?_⟩
    · rw [List.getElem?_map, List.getElem?_range hs0]; rfl
    · intro d hd
      obtain ⟨j, _, rfl⟩ := List.mem_map.mp hd
      exact (hcv j).2.1
  have csl : ((List.range sz).map cv).length = sz := by simp
  generalize (List.range sz).map cv = cs0' at q1 cs0 csl
  obtain ⟨S1, hS1⟩ : ∃ S1 : Store, S1 = S ++ .lst (cs0'.map sgn) :: G1 := ⟨_, rfl⟩
  rw [← hS1] at q1
  have p1 : Pre S S1 := by rw [hS1]; exact Pre.app _ _
  have g1 : S1[S.length]? = some (.lst (cs0'.map sgn)) := by rw [hS1]; exact app_new _ _ _
  have hlen : S.length < S1.length := Pre.lt (S' := S) g1
  have key := loop_inv (hs := []) (turn := turnM (gName 8) l_law_names_2)
    (fun i fr S' => ∃ k8 k9 cs l, fr = [some (.int c), some (.int k), some (.str SG), some (.int sz), some (.int sp), some (.ref S.length), none, some (.ref S1.length), k8, k9] ∧ Pre S S' ∧ S'[S.length]? = some (.lst (cs.map sgn)) ∧ S'[S1.length]? = some (.lst (l.map .str)) ∧ Cs cs ∧ cs.length = sz ∧ l.length = i ∧ ∀ t ∈ l, Nm t)
    (rng 0 k) 0 [some (.int c), some (.int k), some (.str SG), some (.int sz), some (.int sp), some (.ref S.length), none, some (.ref S1.length), none, none] (S1 ++ [.lst []])
    ⟨none, none, cs0', [], rfl, p1.trans (Pre.app _ _), app_get g1, app_new _ _ _, cs0, csl, rfl, by simp⟩ (fun _ _ S _ => stands_nil S) (by
      rintro i d fr S' hd ⟨k8, k9, cs, l, rfl, pr, ga, gb, hcs, hcl, hll, hnm⟩
      obtain ⟨hi, rfl⟩ := rng_at hd
      have e0 : (0 : Int) + (i : Int) = (i : Int) := by omega
      have d64 : divOk 64 := div_ok (by decide) (by decide)
      have h1 : 0 ≤ (c / 64 + (i : Int)) % 26 ∧ (c / 64 + (i : Int)) % 26 < 26 := ⟨Int.emod_nonneg _ (by decide), Int.emod_lt_of_pos _ (by decide)⟩
      obtain ⟨x, ex, mx, qx⟩ := sg_lt h1.1 (by omega)
      have hx := qx h1.2
      have ix : ixN sz (sp : Int) = some sp := by rw [ixN_of (by omega) (by omega)]; simp
      have hcs' := hcs.set sp x hx mx
      have ne : S.length ≠ S1.length := by omega
      have hmap : (cs.map sgn).set sp (sgn x) = (cs.set sp x).map sgn := by rw [List.map_set]
      have gj : (S'.set S.length (.lst ((cs.set sp x).map sgn)))[S.length]? = some (.lst ((cs.set sp x).map sgn)) := set_get ga
      have gk : (S'.set S.length (.lst ((cs.set sp x).map sgn)))[S1.length]? = some (.lst (l.map .str)) := by rw [set_ne ne]; exact gb
      have jo := join_sgn gj (Nat.le_trans hcs'.hi (by decide))
      have nm := hcs'.nm
      have pr2 : Pre S (S'.set S.length (.lst ((cs.set sp x).map sgn))) := pr.set (Nat.le_refl _)
      generalize hT : S'.set S.length (.lst ((cs.set sp x).map sgn)) = T at gj gk jo pr2
      rw [← hmap] at hT
      have hlL : l.length < LINE := by rw [hll]; exact Nat.lt_of_lt_of_le (Nat.lt_of_lt_of_le (by omega) hk) (by decide)
      have hcl8 : (cs.set sp x).length ≤ 8 := hcs'.hi
      refine ⟨[some (.int c), some (.int k), some (.str SG), some (.int sz), some (.int sp), some (.ref S.length), none, some (.ref S1.length), some (.int i), some (.str (nmOf (cs.set sp x)))], T.set S1.length (.lst ((l ++ [nmOf (cs.set sp x)]).map .str)), .inl ?_, _, _, cs.set sp x, l ++ [nmOf (cs.set sp x)], rfl, pr2.set (by omega), ?_, set_get gk, hcs', by simpa using hcl, by simp [hll], ?_⟩
      · simp [turnM_s, l_law_names_2, e0, d64, LINE, ex, ga, ix, hcl, hT, gj, jo, gk]
        by_cases hw : cs.set sp x = w_sy ∨ cs.set sp x = w_go ∨ cs.set sp x = w_pt ∨ cs.set sp x = w_en
        · have : nmOf (cs.set sp x) = cs.set sp x ++ [48] := by unfold nmOf; rw [if_pos hw]
          have hw' : ((w_sy == cs.set sp x) || ((w_go == cs.set sp x) || ((w_pt == cs.set sp x) || (w_en == cs.set sp x)))) = true := by
            simp only [Bool.or_eq_true, beq_iff_eq]
            rcases hw with z | z | z | z <;> simp [z]
          have hl9 : cs.length + 1 ≤ LINE := Nat.le_trans (show cs.length + 1 ≤ 9 by omega) (by decide)
          rw [this]
          simp [hw', hl9, gk, hlL]
        · have : nmOf (cs.set sp x) = cs.set sp x := by unfold nmOf; rw [if_neg hw]
          rw [this]
          have hw' : ((w_sy == cs.set sp x) || ((w_go == cs.set sp x) || ((w_pt == cs.set sp x) || (w_en == cs.set sp x)))) = false := by
            simp only [not_or] at hw
            simp only [Bool.or_eq_false_iff, beq_eq_false_iff_ne, ne_eq]
            exact ⟨fun e => hw.1 e.symm, fun e => hw.2.1 e.symm, fun e => hw.2.2.1 e.symm, fun e => hw.2.2.2 e.symm⟩
          simp [hw', gk, hlL]
      · rw [set_ne ne.symm]; exact gj
      · intro t ht
        rcases List.mem_append.mp ht with z | z
        · exact hnm t z
        · rw [List.mem_singleton.mp z]; exact nm)
  obtain ⟨fr', S', e, k8, k9, cs, l, rfl, pr, ga, gb, hcs, hcl, hll, hnm⟩ := key
  refine ⟨l, S1.length, S', ?_, pr, by omega, gb, by simpa using hll, hnm⟩
  have fk : far (k : Int) := by unfold far; omega
  have d8 : divOk 8 := div_ok (by decide) (by decide)
  have hs0' : 0 < sz := by omega
  simp [m_law_names, b_law_names, hsz, hsp, d8, fk, fsz, hs0']
  rw [q1]
  simp [LINE, get_app, fk]
  rw [e]
  simp
end Lk10

set_option Elab.async false
set_option linter.all false
set_option maxHeartbeats 1000000
namespace Lk10
open Mi
/-! ### things that may be no rows -/
theorem tk_succ {α : Type} {l : List α} {i : Nat} {r : α} (h : l[i]? = some r) : l.take (i + 1) = l.take i ++ [r] := by
  obtain ⟨hi, rfl⟩ := List.getElem?_eq_some_iff.mp h
  rw [List.take_succ_eq_append_getElem hi]
def NmB (x : D) : Prop := ∃ t, x = .str t ∧ Nm t
def WhB (x : D) : Prop := ∃ w : Int, x = .int w ∧ 0 ≤ w
def OpB (x : D) : Prop := NmB x ∨ ∃ w : Int, x = .int w ∧ 0 ≤ w ∧ w < 18446744073709551616
def Okd (S : Store) : D → Prop
  | .str t => t.length ≤ 1000
  | .wtp _ => False
  | .ref n => (∃ l, S[n]? = some (.lst l)) ∨ (∃ k, S[n]? = some (.dK k))
  | _ => True
theorem sg_cases (c : Nat) : (c ∈ LTS ∨ c ∈ FG) ↔ c ∈ SG := by
  constructor
  · intro h
    have h1 : ∀ c ∈ LTS, c ∈ SG := by decide
    have h2 : ∀ c ∈ FG, c ∈ SG := by decide
    rcases h with h | h
    · exact h1 c h
    · exact h2 c h
  · exact sg_or
theorem nm_of {t : Tx} (h1 : 1 ≤ t.length) (h8 : t.length ≤ 8) (ht : ¬ (t = w_sy ∨ t = w_go ∨ t = w_pt ∨ t = w_en)) (ha : ∀ c ∈ t, c ∈ SG) {c : Nat} (hc : t[0]? = some c) (hL : c ∈ LTS) : Nm t := by
  simp only [not_or] at ht
  refine ⟨h1, h8, ⟨c, hc, ?_⟩, ha, ht⟩
  have : ∀ c ∈ LTS, 97 ≤ c ∧ c ≤ 122 := by decide
  exact this c hL
theorem name_loop (t : Tx) (S : Store) : (∀ c ∈ t, c ∈ SG) ∧ (∃ x, loopM [] (turnM (gName 1) l_is_name_1) (t.map fun c => .str [c]) [some (.str t), none] S = .ok (.nx [some (.str t), x]) S) ∨ (¬ ∀ c ∈ t, c ∈ SG) ∧ loopM [] (turnM (gName 1) l_is_name_1) (t.map fun c => .str [c]) [some (.str t), none] S = .ok (.rt (.bl false)) S := by
  have key := loop_ret (hs := []) (turn := turnM (gName 1) l_is_name_1)
    (fun i fr S' => ∃ (x : Option D), fr = [some (.str t), x] ∧ S' = S ∧ ∀ c ∈ t.take i, c ∈ SG)
    (fun x S' => x = .bl false ∧ S' = S ∧ ¬ ∀ c ∈ t, c ∈ SG)
    (t.map fun c => .str [c]) 0 [some (.str t), none] S ⟨none, rfl, rfl, by simp⟩ (fun _ _ S _ => stands_nil S) (by
      rintro i d fr S' hd ⟨x, rfl, rfl, ha⟩
      rw [List.getElem?_map] at hd
      obtain ⟨c, hc, rfl⟩ := Option.map_eq_some_iff.mp hd
      rw [show 0 + i = i by omega] at *
      by_cases h1 : c ∈ LTS
      · left
        have h2 : decide (c ∈ LTS) = true := decide_eq_true h1
        refine ⟨[some (.str t), some (.str [c])], S', .inl ?_, _, rfl, rfl, ?_⟩
        · simp only [turnM_s, l_is_name_1, gName_s, tuK_s, sIf_s, tAnd_s, tBl_s, mOp_s, mVar_s, mC_s, List.set_cons_succ, List.set_cons_zero, List.getElem?_cons_succ, List.getElem?_cons_zero, varK_s, opK1_s, opK2_s, oNotIn_g, isIn_s, eqK_s, blK_s, h2, Bool.not_true, tandK_f, ifK_f, sNx_s]
        · rw [tk_succ hc]
          intro e he
          rcases List.mem_append.mp he with z | z
          · exact ha e z
          · rw [List.mem_singleton.mp z]; exact (sg_cases c).mp (.inl h1)
      · have h2 : decide (c ∈ LTS) = false := decide_eq_false h1
        by_cases h3 : c ∈ FG
        · left
          have h4 : decide (c ∈ FG) = true := decide_eq_true h3
          refine ⟨[some (.str t), some (.str [c])], S', .inl ?_, _, rfl, rfl, ?_⟩
          · simp only [turnM_s, l_is_name_1, gName_s, tuK_s, sIf_s, tAnd_s, tBl_s, mOp_s, mVar_s, mC_s, List.set_cons_succ, List.set_cons_zero, List.getElem?_cons_succ, List.getElem?_cons_zero, varK_s, opK1_s, opK2_s, oNotIn_g, isIn_s, eqK_s, blK_s, h2, h4, Bool.not_true, Bool.not_false, tandK_t, ifK_f, sNx_s]
          · rw [tk_succ hc]
            intro e he
            rcases List.mem_append.mp he with z | z
            · exact ha e z
            · rw [List.mem_singleton.mp z]; exact (sg_cases c).mp (.inr h3)
        · right
          have h4 : decide (c ∈ FG) = false := decide_eq_false h3
          refine ⟨.bl false, S', ?_, rfl, rfl, fun z => ?_⟩
          · simp only [turnM_s, l_is_name_1, gName_s, tuK_s, sIf_s, tAnd_s, tBl_s, mOp_s, mVar_s, mC_s, List.set_cons_succ, List.set_cons_zero, List.getElem?_cons_succ, List.getElem?_cons_zero, varK_s, opK1_s, opK2_s, oNotIn_g, isIn_s, eqK_s, blK_s, h2, h4, Bool.not_false, tandK_t, ifK_t, sRet_s, reK_s]
          · rcases (sg_cases c).mpr (z c (List.mem_of_getElem? hc)) with q | q
            · exact h1 q
            · exact h3 q)
  rcases key with ⟨fr', S', e, x, rfl, rfl, ha⟩ | ⟨x, S', e, rfl, rfl, hn⟩
  · rw [List.length_map, Nat.zero_add, List.take_length] at ha
    exact .inl ⟨ha, x, e⟩
  · exact .inr ⟨hn, e⟩
theorem is_name_dec (x : D) (S : Store) (h : Okd S x) : m_is_name [x] S = .ok (.bl (dec (NmB x))) S := by
  cases x with
  | str t =>
    have l3 : t.length ≤ 16777216 := Nat.le_trans h (by decide)
    have nb : dec (NmB (.str t)) = dec (Nm t) := by
      congr 1
      exact propext ⟨fun ⟨u, e, q⟩ => by injection e with e; rw [e]; exact q, fun q => ⟨t, rfl, q⟩⟩
    rw [nb]
    by_cases h1 : 1 ≤ t.length
    · by_cases h8 : t.length ≤ 8
      · have l1 : (1 : Int) ≤ (t.length : Int) := by omega
        have l2 : (t.length : Int) ≤ 8 := by omega
        have inT : inSeq (.str t) w_TAKEN S = some (dec (t = w_sy ∨ t = w_go ∨ t = w_pt ∨ t = w_en)) := by
          have q := in_ks (.inr t) [.inr w_sy, .inr w_go, .inr w_pt, .inr w_en] S
          have e : dec ((Sum.inr t : Ky) ∈ [Sum.inr w_sy, .inr w_go, .inr w_pt, .inr w_en]) = dec (t = w_sy ∨ t = w_go ∨ t = w_pt ∨ t = w_en) := by
            congr 1
            simp
          rw [e] at q
          exact q
        by_cases hT : t = w_sy ∨ t = w_go ∨ t = w_pt ∨ t = w_en
        · rw [dec_true hT] at inT
          rw [dec_false fun q => by rcases hT with z | z | z | z <;> simp [z] at q <;> first | exact q.no.1 rfl | exact q.no.2.1 rfl | exact q.no.2.2.1 rfl | exact q.no.2.2.2 rfl]
          simp [-inSeq_cons, m_is_name, b_is_name, LINE, l3, h1, h8, l1, l2, inT]
        · rw [dec_false hT] at inT
          rcases name_loop t S with ⟨ha, x, e⟩ | ⟨hn, e⟩
          · obtain ⟨c, hc⟩ : ∃ c, t[0]? = some c := ⟨_, List.getElem?_eq_getElem h1⟩
            have e0 : atI t 0 = some c := at_of (k := 0) hc
            have lst : oIn (.str [c]) (.str t_x0_abcdefghijkl) S = .ok (.bl (decide (c ∈ LTS))) S := by rw [oIn_g, isIn_s]; rfl
            have fin : dec (Nm t) = decide (c ∈ LTS) := by
              by_cases hL : c ∈ LTS
              · rw [decide_eq_true hL, dec_true (nm_of h1 h8 hT ha hc hL)]
              · rw [decide_eq_false hL, dec_false fun q => by
                  obtain ⟨c', hc', q1, q2⟩ := q.fst
                  rw [hc] at hc'
                  obtain rfl := Option.some.inj hc'
                  exact hL (lt_of ⟨q1, q2⟩)]
            rw [fin]
            simp [-inSeq_cons, m_is_name, b_is_name, LINE, l3, h1, h8, l1, l2, inT]
            rw [e]
            simp [-oIn_g, LINE, l3, e0]
            simp only [lst]
            simp
          · rw [dec_false fun q => hn q.all]
            simp [-inSeq_cons, m_is_name, b_is_name, LINE, l3, h1, h8, l1, l2, inT]
            rw [e]
            simp
      · have l1 : (1 : Int) ≤ (t.length : Int) := by omega
        have l2 : ¬ (t.length : Int) ≤ 8 := by omega
        rw [dec_false fun q => h8 q.hi]
        simp [-inSeq_cons, m_is_name, b_is_name, LINE, l3, h1, h8, l1, l2]
    · have l1 : ¬ (1 : Int) ≤ (t.length : Int) := by omega
      rw [dec_false fun q => h1 q.lo]
      simp [-inSeq_cons, m_is_name, b_is_name, LINE, l3, h1, l1]
  | wtp l => exact h.elim
  | ref n =>
    rw [dec_false fun ⟨_, e, _⟩ => by cases e]
    rcases h with ⟨l, g⟩ | ⟨k, g⟩ <;> simp [m_is_name, b_is_name, g]
  | non => rw [dec_false fun ⟨_, e, _⟩ => by cases e]; simp [m_is_name, b_is_name]
  | bl b => rw [dec_false fun ⟨_, e, _⟩ => by cases e]; simp [m_is_name, b_is_name]
  | int i => rw [dec_false fun ⟨_, e, _⟩ => by cases e]; simp [m_is_name, b_is_name]
  | tup l => rw [dec_false fun ⟨_, e, _⟩ => by cases e]; simp [m_is_name, b_is_name]
theorem is_whole_dec (x : D) (S : Store) (h : Okd S x) : m_is_whole_number [x] S = .ok (.bl (dec (WhB x))) S := by
  cases x with
  | int i =>
    by_cases h0 : 0 ≤ i
    · rw [dec_true ⟨i, rfl, h0⟩]; simp [m_is_whole_number, b_is_whole_number, h0]
    · rw [dec_false fun ⟨w, e, q⟩ => by injection e with e; omega]; simp [m_is_whole_number, b_is_whole_number, h0]
  | wtp l => exact h.elim
  | ref n =>
    rw [dec_false fun ⟨_, e, _⟩ => by cases e]
    rcases h with ⟨l, g⟩ | ⟨k, g⟩ <;> simp [m_is_whole_number, b_is_whole_number, g]
  | str t => rw [dec_false fun ⟨_, e, _⟩ => by cases e]; simp [m_is_whole_number, b_is_whole_number]
  | non => rw [dec_false fun ⟨_, e, _⟩ => by cases e]; simp [m_is_whole_number, b_is_whole_number]
  | bl b => rw [dec_false fun ⟨_, e, _⟩ => by cases e]; simp [m_is_whole_number, b_is_whole_number]
  | tup l => rw [dec_false fun ⟨_, e, _⟩ => by cases e]; simp [m_is_whole_number, b_is_whole_number]
theorem is_operand_dec (x : D) (S : Store) (h : Okd S x) : m_is_operand [x] S = .ok (.bl (dec (OpB x))) S := by
  have q1 := is_name_dec x S h
  have q2 := is_whole_dec x S h
  by_cases hn : NmB x
  · rw [dec_true hn] at q1
    rw [dec_true (.inl hn)]
    simp [m_is_operand, b_is_operand, q1]
  · rw [dec_false hn] at q1
    by_cases hw : WhB x
    · rw [dec_true hw] at q2
      obtain ⟨w, rfl, h0⟩ := hw
      by_cases h1 : w < 18446744073709551616
      · rw [dec_true (.inr ⟨w, rfl, h0, h1⟩)]
        simp [m_is_operand, b_is_operand, q1, m_is_worth, b_is_worth, q2, h1]
      · rw [dec_false (by
          rintro (z | ⟨w', e, _, z⟩)
          · exact hn z
          · injection e with e; omega)]
        simp [m_is_operand, b_is_operand, q1, m_is_worth, b_is_worth, q2, h1]
    · rw [dec_false hw] at q2
      rw [dec_false (by
        rintro (z | ⟨w', e, z, _⟩)
        · exact hn z
        · exact hw ⟨w', e, z⟩)]
      simp [m_is_operand, b_is_operand, q1, m_is_worth, b_is_worth, q2]
end Lk10

set_option Elab.async false
set_option linter.all false
set_option maxHeartbeats 1000000
namespace Lk10
open Mi
def RowB (l : List D) : Prop :=
  (∃ n c a b, l = [.str w_rk, n, .str [c], a, b] ∧ c ∈ S8 ∧ NmB n ∧ OpB a ∧ OpB b) ∨ (∃ n a, l = [.str w_cp, n, a] ∧ NmB n ∧ OpB a) ∨ (∃ a, l = [.str w_sy, a] ∧ OpB a) ∨ (∃ t, l = [.str w_go, t] ∧ WhB t) ∨ (∃ a t, l = [.str w_pt, a, t] ∧ OpB a ∧ WhB t) ∨ l = [.str w_en]
/-- what a first thing may be -/
def Hd (S : Store) (k : D) : Prop := (∃ t, k = .str t) ∨ ((∀ t, k ≠ .str t) ∧ ∀ w ∈ sixW, oEqX k (.str w) S = .ok (.bl false) S)
theorem isStr_dec (x : D) (S : Store) (h : Okd S x) : bIsI .str x S = .ok (.bl (dec (∃ t, x = .str t))) S := by
  cases x with
  | str t => rw [dec_true ⟨t, rfl⟩]; simp
  | wtp l => exact h.elim
  | ref n =>
    rw [dec_false fun ⟨_, e⟩ => by cases e]
    rcases h with ⟨l, g⟩ | ⟨k, g⟩ <;> simp [g]
  | non => rw [dec_false fun ⟨_, e⟩ => by cases e]; simp
  | bl b => rw [dec_false fun ⟨_, e⟩ => by cases e]; simp
  | int i => rw [dec_false fun ⟨_, e⟩ => by cases e]; simp
  | tup l => rw [dec_false fun ⟨_, e⟩ => by cases e]; simp
theorem signs_in (q : Tx) (S : Store) : oNotIn (.str q) (.wtp w_SIGNS) S = .ok (.bl (!dec (∃ c, c ∈ S8 ∧ q = [c]))) S := by
  have z := in_ks (.inr q) [.inr [43], .inr [45], .inr [42], .inr [38], .inr [124], .inr [94], .inr [60], .inr [61]] S
  have e : dec ((Sum.inr q : Ky) ∈ [Sum.inr [43], .inr [45], .inr [42], .inr [38], .inr [124], .inr [94], .inr [60], .inr [61]]) = dec (∃ c, c ∈ S8 ∧ q = [c]) := by
    congr 1
    refine propext ⟨fun h => ?_, fun ⟨c, hc, h⟩ => ?_⟩
    · simp only [List.mem_cons, List.not_mem_nil, or_false] at h
      rcases h with h | h | h | h | h | h | h | h <;> (injection h with h; exact ⟨_, by decide, h⟩)
    · subst h
      simp only [S8, List.mem_cons, List.not_mem_nil, or_false] at hc
      rcases hc with rfl | rfl | rfl | rfl | rfl | rfl | rfl | rfl <;> simp
  rw [e] at z
  have q' : inSeq (.str q) w_SIGNS S = some (dec (∃ c, c ∈ S8 ∧ q = [c])) := z
  rw [oNotIn_g, isIn_w, q']; rfl
theorem is_row_no (x : D) (S : Store) (h : Okd S x) (ht : ∀ l, x ≠ .tup l) : m_is_row [x] S = .ok (.bl false) S := by
  cases x with
  | tup l => exact absurd rfl (ht l)
  | wtp l => exact h.elim
  | ref n => rcases h with ⟨l, g⟩ | ⟨k, g⟩ <;> simp [m_is_row, b_is_row, g]
  | str t => simp [m_is_row, b_is_row]
  | non => simp [m_is_row, b_is_row]
  | bl b => simp [m_is_row, b_is_row]
  | int i => simp [m_is_row, b_is_row]
theorem is_row_dec (l : List D) (S : Store) (h : ∀ x ∈ l, Okd S x) (hh : ∀ k, l[0]? = some k → Hd S k) : m_is_row [.tup l] S = .ok (.bl (dec (RowB l))) S := by
  cases l with
  | nil =>
    rw [dec_false (by
      rintro (⟨_, _, _, _, e, _⟩ | ⟨_, _, e, _⟩ | ⟨_, e, _⟩ | ⟨_, e, _⟩ | ⟨_, _, e, _⟩ | e) <;> cases e)]
    simp [m_is_row, b_is_row]
  | cons k r =>
    have hl0 : ¬ ((r.length : Int) + 1 = 0) := by omega
    rcases hh k rfl with ⟨t, rfl⟩ | hk
    · by_cases h1 : t = w_rk
      · subst h1
        by_cases hl : r.length = 4
        · match r, hl with
          | [n, s, a, b], _ =>
            have q1 := is_name_dec n S (h n (by simp))
            have q2 := is_operand_dec a S (h a (by simp))
            have q3 := is_operand_dec b S (h b (by simp))
            have q4 := isStr_dec s S (h s (by simp))
            by_cases hs : ∃ t, s = .str t
            · obtain ⟨q, rfl⟩ := hs
              have q5 := signs_in q S
              by_cases hc : ∃ c, c ∈ S8 ∧ q = [c]
              · rw [dec_true hc] at q5
                obtain ⟨c, hc, rfl⟩ := hc
                by_cases hn : NmB n
                · rw [dec_true hn] at q1
                  by_cases ha : OpB a
                  · rw [dec_true ha] at q2
                    by_cases hb : OpB b
                    · rw [dec_true hb] at q3
                      rw [dec_true (.inl ⟨n, c, a, b, rfl, hc, hn, ha, hb⟩)]
                      simp [-oNotIn_g, m_is_row, b_is_row, q5, q1, q2, q3]
                    · rw [dec_false hb] at q3
                      rw [dec_false (by
                        rintro (⟨_, _, _, _, e, _, _, _, z⟩ | ⟨_, _, e, _⟩ | ⟨_, e, _⟩ | ⟨_, e, _⟩ | ⟨_, _, e, _⟩ | e) <;> first | (cases e; exact hb z) | cases e)]
                      simp [-oNotIn_g, m_is_row, b_is_row, q5, q1, q2, q3]
                  · rw [dec_false ha] at q2
                    rw [dec_false (by
                      rintro (⟨_, _, _, _, e, _, _, z, _⟩ | ⟨_, _, e, _⟩ | ⟨_, e, _⟩ | ⟨_, e, _⟩ | ⟨_, _, e, _⟩ | e) <;> first | (cases e; exact ha z) | cases e)]
                    simp [-oNotIn_g, m_is_row, b_is_row, q5, q1, q2]
                · rw [dec_false hn] at q1
                  rw [dec_false (by
                    rintro (⟨_, _, _, _, e, _, z, _⟩ | ⟨_, _, e, _⟩ | ⟨_, e, _⟩ | ⟨_, e, _⟩ | ⟨_, _, e, _⟩ | e) <;> first | (cases e; exact hn z) | cases e)]
                  simp [-oNotIn_g, m_is_row, b_is_row, q5, q1]
              · rw [dec_false hc] at q5
                rw [dec_false (by
                  rintro (⟨_, c, _, _, e, z, _⟩ | ⟨_, _, e, _⟩ | ⟨_, e, _⟩ | ⟨_, e, _⟩ | ⟨_, _, e, _⟩ | e) <;> first | (cases e; exact hc ⟨c, z, rfl⟩) | cases e)]
                simp [-oNotIn_g, m_is_row, b_is_row, q5]
            · rw [dec_false hs] at q4
              rw [dec_false (by
                rintro (⟨_, c, _, _, e, z, _⟩ | ⟨_, _, e, _⟩ | ⟨_, e, _⟩ | ⟨_, e, _⟩ | ⟨_, _, e, _⟩ | e) <;> first | (cases e; exact hs ⟨_, rfl⟩) | cases e)]
              simp only [bIsI_s] at q4
              simp [m_is_row, b_is_row, q4]
        · have hl2 : ¬ ((r.length : Int) + 1 = 5) := by omega
          rw [dec_false (by
            rintro (⟨_, _, _, _, e, _⟩ | ⟨_, _, e, _⟩ | ⟨_, e, _⟩ | ⟨_, e, _⟩ | ⟨_, _, e, _⟩ | e) <;> first | (cases e; exact hl rfl) | cases e)]
          simp [m_is_row, b_is_row, hl0, hl2]
      · by_cases h2 : t = w_cp
        · subst h2
          by_cases hl : r.length = 2
          · match r, hl with
            | [n, a], _ =>
              have q1 := is_name_dec n S (h n (by simp))
              have q2 := is_operand_dec a S (h a (by simp))
              by_cases hn : NmB n
              · rw [dec_true hn] at q1
                by_cases ha : OpB a
                · rw [dec_true ha] at q2
                  rw [dec_true (.inr (.inl ⟨n, a, rfl, hn, ha⟩))]
                  simp [m_is_row, b_is_row, q1, q2]
                · rw [dec_false ha] at q2
                  rw [dec_false (by
                    rintro (⟨_, _, _, _, e, _⟩ | ⟨_, _, e, _, z⟩ | ⟨_, e, _⟩ | ⟨_, e, _⟩ | ⟨_, _, e, _⟩ | e) <;> first | (cases e; exact ha z) | cases e)]
                  simp [m_is_row, b_is_row, q1, q2]
              · rw [dec_false hn] at q1
                rw [dec_false (by
                  rintro (⟨_, _, _, _, e, _⟩ | ⟨_, _, e, z, _⟩ | ⟨_, e, _⟩ | ⟨_, e, _⟩ | ⟨_, _, e, _⟩ | e) <;> first | (cases e; exact hn z) | cases e)]
                simp [m_is_row, b_is_row, q1]
          · have hl2 : ¬ ((r.length : Int) + 1 = 3) := by omega
            rw [dec_false (by
              rintro (⟨_, _, _, _, e, _⟩ | ⟨_, _, e, _⟩ | ⟨_, e, _⟩ | ⟨_, e, _⟩ | ⟨_, _, e, _⟩ | e) <;> first | (cases e; exact hl rfl) | cases e)]
            simp [m_is_row, b_is_row, hl0, hl2]
        · by_cases h3 : t = w_sy
          · subst h3
            by_cases hl : r.length = 1
            · match r, hl with
              | [a], _ =>
                have q2 := is_operand_dec a S (h a (by simp))
                by_cases ha : OpB a
                · rw [dec_true ha] at q2
                  rw [dec_true (.inr (.inr (.inl ⟨a, rfl, ha⟩)))]
                  simp [m_is_row, b_is_row, q2]
                · rw [dec_false ha] at q2
                  rw [dec_false (by
                    rintro (⟨_, _, _, _, e, _⟩ | ⟨_, _, e, _⟩ | ⟨_, e, z⟩ | ⟨_, e, _⟩ | ⟨_, _, e, _⟩ | e) <;> first | (cases e; exact ha z) | cases e)]
                  simp [m_is_row, b_is_row, q2]
            · have hl2 : ¬ ((r.length : Int) + 1 = 2) := by omega
              rw [dec_false (by
                rintro (⟨_, _, _, _, e, _⟩ | ⟨_, _, e, _⟩ | ⟨_, e, _⟩ | ⟨_, e, _⟩ | ⟨_, _, e, _⟩ | e) <;> first | (cases e; exact hl rfl) | cases e)]
              simp [m_is_row, b_is_row, hl0, hl2]
          · by_cases h4 : t = w_go
            · subst h4
              by_cases hl : r.length = 1
              · match r, hl with
                | [a], _ =>
                  have q2 := is_whole_dec a S (h a (by simp))
                  by_cases ha : WhB a
                  · rw [dec_true ha] at q2
                    rw [dec_true (.inr (.inr (.inr (.inl ⟨a, rfl, ha⟩))))]
                    simp [m_is_row, b_is_row, q2]
                  · rw [dec_false ha] at q2
                    rw [dec_false (by
                      rintro (⟨_, _, _, _, e, _⟩ | ⟨_, _, e, _⟩ | ⟨_, e, _⟩ | ⟨_, e, z⟩ | ⟨_, _, e, _⟩ | e) <;> first | (cases e; exact ha z) | cases e)]
                    simp [m_is_row, b_is_row, q2]
              · have hl2 : ¬ ((r.length : Int) + 1 = 2) := by omega
                rw [dec_false (by
                  rintro (⟨_, _, _, _, e, _⟩ | ⟨_, _, e, _⟩ | ⟨_, e, _⟩ | ⟨_, e, _⟩ | ⟨_, _, e, _⟩ | e) <;> first | (cases e; exact hl rfl) | cases e)]
                simp [m_is_row, b_is_row, hl0, hl2]
            · by_cases h5 : t = w_pt
              · subst h5
                by_cases hl : r.length = 2
                · match r, hl with
                  | [n, a], _ =>
                    have q1 := is_operand_dec n S (h n (by simp))
                    have q2 := is_whole_dec a S (h a (by simp))
                    by_cases hn : OpB n
                    · rw [dec_true hn] at q1
                      by_cases ha : WhB a
                      · rw [dec_true ha] at q2
                        rw [dec_true (.inr (.inr (.inr (.inr (.inl ⟨n, a, rfl, hn, ha⟩)))))]
                        simp [m_is_row, b_is_row, q1, q2]
                      · rw [dec_false ha] at q2
                        rw [dec_false (by
                          rintro (⟨_, _, _, _, e, _⟩ | ⟨_, _, e, _⟩ | ⟨_, e, _⟩ | ⟨_, e, _⟩ | ⟨_, _, e, _, z⟩ | e) <;> first | (cases e; exact ha z) | cases e)]
                        simp [m_is_row, b_is_row, q1, q2]
                    · rw [dec_false hn] at q1
                      rw [dec_false (by
                        rintro (⟨_, _, _, _, e, _⟩ | ⟨_, _, e, _⟩ | ⟨_, e, _⟩ | ⟨_, e, _⟩ | ⟨_, _, e, z, _⟩ | e) <;> first | (cases e; exact hn z) | cases e)]
                      simp [m_is_row, b_is_row, q1]
                · have hl2 : ¬ ((r.length : Int) + 1 = 3) := by omega
                  rw [dec_false (by
                    rintro (⟨_, _, _, _, e, _⟩ | ⟨_, _, e, _⟩ | ⟨_, e, _⟩ | ⟨_, e, _⟩ | ⟨_, _, e, _⟩ | e) <;> first | (cases e; exact hl rfl) | cases e)]
                  simp [m_is_row, b_is_row, hl0, hl2]
              · by_cases h6 : t = w_en
                · subst h6
                  by_cases hl : r = []
                  · subst hl
                    rw [dec_true (.inr (.inr (.inr (.inr (.inr rfl)))))]
                    simp [m_is_row, b_is_row]
                  · have hl2 : ¬ ((r.length : Int) + 1 = 1) := by have := List.length_pos_iff.mpr hl; omega
                    rw [dec_false (by
                      rintro (⟨_, _, _, _, e, _⟩ | ⟨_, _, e, _⟩ | ⟨_, e, _⟩ | ⟨_, e, _⟩ | ⟨_, _, e, _⟩ | e) <;> first | (cases e; exact hl rfl) | cases e)]
                    simp [m_is_row, b_is_row, hl0, hl2, hl]
                · rw [dec_false (by
                    rintro (⟨_, _, _, _, e, _⟩ | ⟨_, _, e, _⟩ | ⟨_, e, _⟩ | ⟨_, e, _⟩ | ⟨_, _, e, _⟩ | e) <;> (injection e with e _; injection e with e; contradiction))]
                  simp [m_is_row, b_is_row, hl0, h1, h2, h3, h4, h5, h6]
    · obtain ⟨hs, hk⟩ := hk
      have k1 := hk w_rk (by decide)
      have k2 := hk w_cp (by decide)
      have k3 := hk w_sy (by decide)
      have k4 := hk w_go (by decide)
      have k5 := hk w_pt (by decide)
      have k6 := hk w_en (by decide)
      rw [dec_false (by
        rintro (⟨_, _, _, _, e, _⟩ | ⟨_, _, e, _⟩ | ⟨_, e, _⟩ | ⟨_, e, _⟩ | ⟨_, _, e, _⟩ | e) <;> (injection e with e _; exact hs _ e))]
      simp [m_is_row, b_is_row, hl0, k1, k2, k3, k4, k5, k6]
end Lk10

set_option Elab.async false
set_option linter.all false
set_option maxHeartbeats 1000000
namespace Lk10
open Mi
theorem oEqX_rr (m n : Nat) (S : Store) : oEqX (.ref m) (.ref n) S = oEq (.ref m) (.ref n) S := rfl
theorem good_ok (x : D) (p q : Bool) (S : Store) (h1 : m_is_name [x] S = .ok (.bl p) S) (h2 : m_is_row [x] S = .ok (.bl q) S) : m_law_good [x, .bl p, .bl q] S = .ok (.bl true) (S ++ [.lst [.bl p, .bl q], .lst [.bl p, .bl q]]) := by
  have e : oEqX (.ref S.length) (.ref (S.length + 1)) (S ++ [.lst [.bl p, .bl q], .lst [.bl p, .bl q]]) = .ok (.bl true) (S ++ [.lst [.bl p, .bl q], .lst [.bl p, .bl q]]) := by
    have g1 : (S ++ [O.lst [.bl p, .bl q], .lst [.bl p, .bl q]])[S.length]? = some (.lst ([p, q].map D.bl)) := app_new _ _ _
    have g2 : (S ++ [O.lst [.bl p, .bl q], .lst [.bl p, .bl q]])[S.length + 1]? = some (.lst ([p, q].map D.bl)) := by simp [get_app]
    rw [oEqX_rr, oEq_g, eq_bls (lst_of g1) (lst_of g2)]; simp
  simp [m_law_good, b_law_good, h1, h2, LINE, e]
theorem due_loop (t : Tx) (S : Store) : (∀ c ∈ t, c ∈ SG) ∧ (∃ x, loopM [] (turnM (gName 1) l_law_due_name_1) (t.map fun c => .str [c]) [some (.str t), none] S = .ok (.nx [some (.str t), x]) S) ∨ (¬ ∀ c ∈ t, c ∈ SG) ∧ loopM [] (turnM (gName 1) l_law_due_name_1) (t.map fun c => .str [c]) [some (.str t), none] S = .ok (.rt (.bl false)) S := by
  have key := loop_ret (hs := []) (turn := turnM (gName 1) l_law_due_name_1)
    (fun i fr S' => ∃ (x : Option D), fr = [some (.str t), x] ∧ S' = S ∧ ∀ c ∈ t.take i, c ∈ SG)
    (fun x S' => x = .bl false ∧ S' = S ∧ ¬ ∀ c ∈ t, c ∈ SG)
    (t.map fun c => .str [c]) 0 [some (.str t), none] S ⟨none, rfl, rfl, by simp⟩ (fun _ _ S _ => stands_nil S) (by
      rintro i d fr S' hd ⟨x, rfl, rfl, ha⟩
      rw [List.getElem?_map] at hd
      obtain ⟨c, hc, rfl⟩ := Option.map_eq_some_iff.mp hd
      rw [show 0 + i = i by omega] at *
      by_cases h1 : c ∈ SG
      · left
        have h2 : decide (c ∈ SG) = true := decide_eq_true h1
        refine ⟨[some (.str t), some (.str [c])], S', .inl ?_, _, rfl, rfl, ?_⟩
        · simp only [turnM_s, l_law_due_name_1, gName_s, tuK_s, sIf_s, tBl_s, mOp_s, mVar_s, mC_s, List.set_cons_succ, List.set_cons_zero, List.getElem?_cons_succ, List.getElem?_cons_zero, varK_s, opK1_s, opK2_s, oNotIn_g, isIn_s, eqK_s, blK_s, h2, Bool.not_true, ifK_f, sNx_s]
        · rw [tk_succ hc]
          intro e he
          rcases List.mem_append.mp he with z | z
          · exact ha e z
          · rw [List.mem_singleton.mp z]; exact h1
      · right
        have h2 : decide (c ∈ SG) = false := decide_eq_false h1
        refine ⟨.bl false, S', ?_, rfl, rfl, fun z => h1 (z c (List.mem_of_getElem? hc))⟩
        simp only [turnM_s, l_law_due_name_1, gName_s, tuK_s, sIf_s, tBl_s, mOp_s, mVar_s, mC_s, List.set_cons_succ, List.set_cons_zero, List.getElem?_cons_succ, List.getElem?_cons_zero, varK_s, opK1_s, opK2_s, oNotIn_g, isIn_s, eqK_s, blK_s, h2, Bool.not_false, ifK_t, sRet_s, reK_s])
  rcases key with ⟨fr', S', e, x, rfl, rfl, ha⟩ | ⟨x, S', e, rfl, rfl, hn⟩
  · rw [List.length_map, Nat.zero_add, List.take_length] at ha
    exact .inl ⟨ha, x, e⟩
  · exact .inr ⟨hn, e⟩
theorem due_ok (t : Tx) (S : Store) (h : t.length ≤ 1000) : m_law_due_name [.str t] S = .ok (.bl (dec (Nm t))) S := by
  have l3 : t.length ≤ 16777216 := by omega
  have inT : inSeq (.str t) [.str w_sy, .str w_go, .str w_pt, .str w_en] S = some (dec (t = w_sy ∨ t = w_go ∨ t = w_pt ∨ t = w_en)) := by
    have q := in_ks (.inr t) [.inr w_sy, .inr w_go, .inr w_pt, .inr w_en] S
    have e : dec ((Sum.inr t : Ky) ∈ [Sum.inr w_sy, .inr w_go, .inr w_pt, .inr w_en]) = dec (t = w_sy ∨ t = w_go ∨ t = w_pt ∨ t = w_en) := by
      congr 1
      simp
    rw [e] at q
    exact q
  by_cases hT : t = w_sy ∨ t = w_go ∨ t = w_pt ∨ t = w_en
  · rw [dec_true hT] at inT
    rw [dec_false fun q => by rcases hT with z | z | z | z <;> simp [z] at q <;> first | exact q.no.1 rfl | exact q.no.2.1 rfl | exact q.no.2.2.1 rfl | exact q.no.2.2.2 rfl]
    simp [-inSeq_cons, m_law_due_name, b_law_due_name, LINE, inT]
  · rw [dec_false hT] at inT
    by_cases h1 : 1 ≤ t.length
    · have l1 : (1 : Int) ≤ (t.length : Int) := by omega
      by_cases h8 : t.length ≤ 8
      · have l2 : (t.length : Int) ≤ 8 := by omega
        obtain ⟨c, hc⟩ : ∃ c, t[0]? = some c := ⟨_, List.getElem?_eq_getElem h1⟩
        have e0 : atI t 0 = some c := at_of (k := 0) hc
        have lst : oIn (.str [c]) (.str t_x1_0123456789) S = .ok (.bl (decide (c ∈ FG))) S := by rw [oIn_g, isIn_s]; rfl
        have disj : c ∈ LTS → c ∉ FG := fun h1 h2 => by
          have a1 : ∀ c ∈ LTS, 97 ≤ c := by decide
          have a2 : ∀ c ∈ FG, c ≤ 57 := by decide
          have := a1 c h1
          have := a2 c h2
          omega
        have oT : oIn (.str t) (.tup [.str w_sy, .str w_go, .str w_pt, .str w_en]) S = .ok (.bl false) S := by rw [oIn_g, isIn_t, inT]; rfl
        by_cases hF : c ∈ FG
        · rw [decide_eq_true hF] at lst
          rw [dec_false fun q => by
            obtain ⟨c', hc', q1, q2⟩ := q.fst
            rw [hc] at hc'
            obtain rfl := Option.some.inj hc'
            exact disj (lt_of ⟨q1, q2⟩) hF]
          simp [-oIn_g, m_law_due_name, b_law_due_name, LINE, l3, h1, h8, l1, l2, e0]
          simp only [show oIn (.str t) (.tup [.str t_say, .str t_go, .str t_part, .str t_end]) S = .ok (.bl false) S from oT, lst]
          simp [-oIn_g, LINE, l3, h1, h8, l1, l2, e0, lst]
        · rw [decide_eq_false hF] at lst
          rcases due_loop t S with ⟨ha, x, e⟩ | ⟨hn, e⟩
          · have hL : c ∈ LTS := ((sg_cases c).mpr (ha c (List.mem_of_getElem? hc))).resolve_right hF
            rw [dec_true (nm_of h1 h8 hT ha hc hL)]
            simp [-oIn_g, m_law_due_name, b_law_due_name, LINE, l3, h1, h8, l1, l2, e0]
            simp only [show oIn (.str t) (.tup [.str t_say, .str t_go, .str t_part, .str t_end]) S = .ok (.bl false) S from oT, lst]
            simp [-oIn_g, LINE, l3, h1, h8, l1, l2, e0, lst]
            rw [e]
            simp
          · rw [dec_false fun q => hn q.all]
            simp [-oIn_g, m_law_due_name, b_law_due_name, LINE, l3, h1, h8, l1, l2, e0]
            simp only [show oIn (.str t) (.tup [.str t_say, .str t_go, .str t_part, .str t_end]) S = .ok (.bl false) S from oT, lst]
            simp [-oIn_g, LINE, l3, h1, h8, l1, l2, e0, lst]
            rw [e]
            simp
      · have l2 : ¬ (t.length : Int) ≤ 8 := by omega
        rw [dec_false fun q => h8 q.hi]
        simp [-inSeq_cons, m_law_due_name, b_law_due_name, LINE, l3, h1, h8, l1, l2, inT]
    · have l1 : ¬ (1 : Int) ≤ (t.length : Int) := by omega
      rw [dec_false fun q => h1 q.lo]
      simp [-inSeq_cons, m_law_due_name, b_law_due_name, LINE, l3, h1, l1, inT]
/-! ### the text -/
theorem any_sign_ok (c : Int) (S : Store) : ∃ x : Nat, m_law_any_sign [.int c] S = .ok (.str [x]) S ∧ x < 1114112 := by
  have h : 0 ≤ c % 95 ∧ c % 95 < 95 := ⟨Int.emod_nonneg _ (by decide), Int.emod_lt_of_pos _ (by decide)⟩
  have hl : (c % 95).toNat < t_x11_0123456789ab.length := by show (c % 95).toNat < 95; omega
  have e : atI t_x11_0123456789ab (c % 95) = some t_x11_0123456789ab[(c % 95).toNat] := at_nat h.1 (List.getElem?_eq_getElem hl)
  have lt : ∀ x ∈ t_x11_0123456789ab, x < 1114112 := by decide
  have hm : t_x11_0123456789ab[(c % 95).toNat] ∈ t_x11_0123456789ab := List.getElem_mem hl
  refine ⟨t_x11_0123456789ab[(c % 95).toNat], ?_, lt _ hm⟩
  clear hm
  generalize t_x11_0123456789ab[(c % 95).toNat] = x at *
  have l95 : t_x11_0123456789ab.length ≤ 16777216 := by show 95 ≤ 16777216; decide
  simp [m_law_any_sign, b_law_any_sign, LINE, e]
theorem kOk_of {t : Tx} (h : ∀ c ∈ t, c < 1114112) : kOk (.inr t) = true := by
  show t.all _ = true
  rw [List.all_eq_true]
  intro c hc
  simpa using h c hc
theorem text_ok {ns : List Int} {S : Store} (h : S[0]? = some (.fls (ns.map .int))) : ∃ (t : Tx) (S' : Store), m_law_text [.ref 0] S = .ok (.str t) S' ∧ Pre S S' ∧ t.length ≤ 10 ∧ kOk (.inr t) = true := by
  have sgl : ∀ k ∈ SG, k < 1114112 := by decide
  obtain ⟨c, c0⟩ := cell_ok h 0
  have c0' : m_law_cell [.ref 0, .int 0] S = .ok (.int c) S := c0
  obtain ⟨n, hn, hn10⟩ : ∃ n : Nat, c / 2 % 11 = (n : Int) ∧ n ≤ 10 := ⟨(c / 2 % 11).toNat, by omega, by omega⟩
  obtain ⟨xs, S1, e1, p1, g1, hxl, hx⟩ := lc_rel (vs := [4]) (g := gName 4) (e := e_law_text_1) (fr := [some (.ref 0), some (.str SG), some (.int c), none, none]) (l := rng 0 n) (hs := []) (S := S) (fun _ x => ∃ k : Nat, x = sgn k ∧ k < 1114112) (fun _ h => by cases h) (by rw [rng_len]; exact Nat.le_trans hn10 (by decide)) (by
    intro d hd S' pr
    obtain ⟨i, hi⟩ := List.getElem?_of_mem hd
    obtain ⟨hlt, rfl⟩ := rng_at hi
    obtain ⟨v, cv⟩ := cell_ok (pr.get h) (3 + i)
    rw [show ((3 + i : Nat) : Int) = 3 + (i : Int) by omega] at cv
    obtain ⟨k, ek, km, _⟩ := sg_lt (i := v % 36) (Int.emod_nonneg _ (by decide)) (Int.emod_lt_of_pos _ (by decide))
    have e0 : (0 : Int) + (i : Int) = (i : Int) := by omega
    exact ⟨_, S', rfl, sgn k, by simp [e_law_text_1, unset, e0, cv, ek, LINE], Pre.refl _, k, rfl, sgl k km⟩)
  obtain ⟨cs, rfl, hcl, hcs⟩ := of_rel (f := sgn) (Q := fun k => k < 1114112) hxl hx
  rw [rng_len] at hcl
  have d2 : divOk 2 := div_ok (by decide) (by decide)
  have d22 : divOk 22 := div_ok (by decide) (by decide)
  have fn : far (n : Int) := by unfold far; omega
  by_cases hc : c % 2 = 1 ∧ 0 < cs.length
  · obtain ⟨w, cw⟩ := cell_ok (p1.get h) 1
    have cw' : m_law_cell [.ref 0, .int 1] S1 = .ok (.int w) S1 := cw
    obtain ⟨x, ex, xl⟩ := any_sign_ok w S1
    obtain ⟨k, hk, hkl⟩ : ∃ k : Nat, c / 22 % (cs.length : Int) = (k : Int) ∧ k < cs.length := by
      have h1 := Int.emod_nonneg (c / 22) (show (cs.length : Int) ≠ 0 by omega)
      have h2 := Int.emod_lt_of_pos (c / 22) (show (0 : Int) < cs.length by omega)
      exact ⟨(c / 22 % (cs.length : Int)).toNat, by omega, by omega⟩
    have ix : ixN cs.length (k : Int) = some k := by rw [ixN_of (by omega) (by omega)]; simp
    have gj : (S1.set S.length (.lst ((cs.set k x).map sgn)))[S.length]? = some (.lst ((cs.set k x).map sgn)) := set_get g1
    have jo := join_sgn gj (by rw [List.length_set]; exact Nat.le_trans (show cs.length ≤ 10 by omega) (by decide))
    refine ⟨cs.set k x, S1.set S.length (.lst ((cs.set k x).map sgn)), ?_, p1.set (Nat.le_refl _), by rw [List.length_set]; omega, kOk_of fun y hy => ?k⟩
    case k =>
      rcases List.mem_or_eq_of_mem_set hy with z | z
      · exact hcs y z
      · rw [z]; exact xl
    generalize hT : S1.set S.length (.lst ((cs.set k x).map sgn)) = T at *
    rw [List.map_set] at hT
    have hcp := hc.2
    simp [-sJoin_s, m_law_text, b_law_text, c0', d2, hn, fn]
    rw [e1]
    simp [-sJoin_s, hc.1, g1, hcp, cw', ex, d22, hk, ix, hT, jo]
  · have jo := join_sgn g1 (Nat.le_trans (show cs.length ≤ 10 by omega) (by decide))
    refine ⟨cs, S1, ?_, p1, by omega, kOk_of hcs⟩
    by_cases h1 : c % 2 = 1
    · have h0 : ¬ 0 < cs.length := fun z => hc ⟨h1, z⟩
      have h0' : cs = [] := by cases cs with | nil => rfl | cons _ _ => simp at h0
      simp [-sJoin_s, m_law_text, b_law_text, c0', d2, hn, fn]
      rw [e1]
      subst h0'
      simp at g1
      simp [-sJoin_s, h1, g1, jo]
    · simp [-sJoin_s, m_law_text, b_law_text, c0', d2, hn, fn]
      rw [e1]
      simp [-sJoin_s, h1, jo]
end Lk10

set_option Elab.async false
set_option linter.all false
set_option maxHeartbeats 1000000
namespace Lk10
open Mi
/-! ### rows, made wrong -/
theorem cut_take {α : Type} (l : List α) (n : Nat) (h : n ≤ l.length) : cut l none (some (n : Int)) = l.take n := by
  unfold cut
  have e : sIx l.length l.length (some (n : Int)) = n := by
    unfold sIx
    dsimp only
    rw [if_neg (by omega), Int.toNat_natCast, Nat.min_eq_left h]
  rw [e]
  simp [sIx]
theorem cut_drop {α : Type} (l : List α) (n : Nat) (h : n ≤ l.length) : cut l (some (n : Int)) none = l.drop n := by
  unfold cut
  have e : sIx l.length 0 (some (n : Int)) = n := by
    unfold sIx
    dsimp only
    rw [if_neg (by omega), Int.toNat_natCast, Nat.min_eq_left h]
  rw [e]
  simp [sIx]
  exact List.take_of_length_le (by rw [List.length_drop]; omega)
def ari (w : Tx) : Nat := if w = w_rk then 5 else if w = w_cp then 3 else if w = w_sy then 2 else if w = w_go then 2 else if w = w_pt then 3 else if w = w_en then 1 else 0
theorem RowB.ari {l : List D} (h : RowB l) : ∃ w, l[0]? = some (.str w) ∧ l.length = ari w ∧ w ∈ sixW := by
  rcases h with ⟨_, _, _, _, rfl, _⟩ | ⟨_, _, rfl, _⟩ | ⟨_, rfl, _⟩ | ⟨_, rfl, _⟩ | ⟨_, _, rfl, _⟩ | rfl
  · exact ⟨w_rk, rfl, rfl, by decide⟩
  · exact ⟨w_cp, rfl, rfl, by decide⟩
  · exact ⟨w_sy, rfl, rfl, by decide⟩
  · exact ⟨w_go, rfl, rfl, by decide⟩
  · exact ⟨w_pt, rfl, rfl, by decide⟩
  · exact ⟨w_en, rfl, rfl, by decide⟩
/-- a good row of the law -/
structure Gr (l : List Tx) (r : Row) : Prop where
  nm : RowN l r
  go : ∀ t, r = .go t → 0 ≤ t
  pt : ∀ a t, r = .pt a t → 0 ≤ t
theorem Opd.b {l : List Tx} {k : Ky} (h : Opd l k) (hl : ∀ t ∈ l, Nm t) : OpB (kyD k) := by
  rcases h with ⟨t, ht, rfl⟩ | ⟨w, rfl, h0, h1⟩
  · exact .inl ⟨t, rfl, hl t ht⟩
  · exact .inr ⟨w, rfl, h0, h1⟩
theorem Gr.b {l : List Tx} {r : Row} (h : Gr l r) (hl : ∀ t ∈ l, Nm t) : RowB (r.ks.map kyD) := by
  have nn := h.nm
  cases r with
  | rk n s a b =>
    obtain ⟨h1, h2⟩ := nn
    obtain ⟨c, hc, e⟩ := h2.s1
    have e : s = [c] := by injection e
    subst e
    exact .inl ⟨_, c, _, _, rfl, hc, ⟨n, rfl, hl n h1⟩, Opd.b h2.a1 hl, Opd.b h2.b1 hl⟩
  | cp n a => exact .inr (.inl ⟨_, _, rfl, ⟨n, rfl, hl n nn.1⟩, Opd.b nn.2 hl⟩)
  | sy a => exact .inr (.inr (.inl ⟨_, rfl, Opd.b nn hl⟩))
  | go t => exact .inr (.inr (.inr (.inl ⟨_, rfl, t, rfl, h.go t rfl⟩)))
  | pt a t => exact .inr (.inr (.inr (.inr (.inl ⟨_, _, rfl, Opd.b nn hl, t, rfl, h.pt a t rfl⟩))))
  | en => exact .inr (.inr (.inr (.inr (.inr rfl))))
/-- the head and the size of a row's list -/
theorem row_ari (r : Row) : ∃ w, (r.ks.map kyD)[0]? = some (.str w) ∧ (r.ks.map kyD).length = ari w ∧ 1 ≤ ari w := by
  cases r with
  | rk n s a b => exact ⟨w_rk, rfl, rfl, by decide⟩
  | cp n a => exact ⟨w_cp, rfl, rfl, by decide⟩
  | sy a => exact ⟨w_sy, rfl, rfl, by decide⟩
  | go t => exact ⟨w_go, rfl, rfl, by decide⟩
  | pt a t => exact ⟨w_pt, rfl, rfl, by decide⟩
  | en => exact ⟨w_en, rfl, rfl, by decide⟩
/-- the same head, another size -/
theorem no_row {r : Row} {l : List D} (h0 : l[0]? = (r.ks.map kyD)[0]?) (hl : l.length ≠ (r.ks.map kyD).length) : ¬ RowB l := fun h => by
  obtain ⟨w, e1, e2, _⟩ := h.ari
  obtain ⟨w', f1, f2, _⟩ := row_ari r
  rw [h0, f1] at e1
  injection e1 with e1
  injection e1 with e1
  subst e1
  exact hl (by rw [e2, f2])
theorem ari4 (w : Tx) : ari w ≠ 4 := by
  unfold ari
  repeat' split
  all_goals decide
theorem opd_head {l : List Tx} {k : Ky} (h : Opd l k) (hl : ∀ t ∈ l, Nm t) {w : Tx} (e : kyD k = .str w) : w ≠ w_sy ∧ w ≠ w_go ∧ w ≠ w_pt ∧ w ≠ w_en := by
  rcases h with ⟨t, ht, rfl⟩ | ⟨v, rfl, _⟩
  · injection e with e; subst e; exact (hl t ht).no
  · cases e
theorem ari2 {w : Tx} (h : ari w = 2) : w = w_sy ∨ w = w_go := by
  unfold ari at h
  repeat' split at h
  all_goals first | (left; assumption) | (right; assumption) | omega
theorem ari1 {w : Tx} (h : ari w = 1) : w = w_en := by
  unfold ari at h
  repeat' split at h
  all_goals first | assumption | omega
/-- a row without its first thing -/
theorem tail_no {l : List Tx} {r : Row} (h : Gr l r) (hl : ∀ t ∈ l, Nm t) : ¬ RowB ((r.ks.map kyD).drop 1) := fun q => by
  obtain ⟨w, e1, e2, _⟩ := q.ari
  have nn := h.nm
  cases r with
  | rk n s a b => exact ari4 w e2.symm
  | cp n a =>
    have e1 : kyD (.inr n) = .str w := Option.some.inj e1
    have nm := (hl n nn.1).no
    injection e1 with e1
    subst e1
    rcases ari2 e2.symm with z | z
    · exact nm.1 z
    · exact nm.2.1 z
  | sy a =>
    have e1 : kyD a = .str w := Option.some.inj e1
    exact (opd_head nn hl e1).2.2.2 (ari1 e2.symm)
  | go t => have e1 : D.int t = .str w := Option.some.inj e1; cases e1
  | pt a t =>
    have e1 : kyD a = .str w := Option.some.inj e1
    rcases ari2 e2.symm with z | z
    · exact (opd_head nn hl e1).1 z
    · exact (opd_head nn hl e1).2.1 z
  | en => cases e1
theorem okd_k {S : Store} {k : Ky} (h : ∀ t, k = .inr t → t.length ≤ 1000) : Okd S (kyD k) := by
  cases k with
  | inl i => trivial
  | inr t => exact h t rfl
theorem Gr.okd {l : List Tx} {r : Row} (h : Gr l r) (hl : ∀ t ∈ l, Nm t) (S : Store) : ∀ x ∈ r.ks.map kyD, Okd S x := by
  have nn := h.nm
  have kn : ∀ t ∈ l, t.length ≤ 1000 := fun t ht => by have := (hl t ht).hi; omega
  have ko : ∀ k, Opd l k → Okd S (kyD k) := fun k hk => okd_k fun t e => by
    rcases hk with ⟨u, hu, rfl⟩ | ⟨w, rfl, _⟩
    · injection e with e; subst e; exact kn _ hu
    · cases e
  intro x hx
  obtain ⟨k, hk, rfl⟩ := List.mem_map.mp hx
  cases r with
  | rk n s a b =>
    obtain ⟨h1, h2⟩ := nn
    obtain ⟨c, hc, e⟩ := h2.s1
    have e : s = [c] := by injection e
    subst e
    simp only [Row.ks, List.mem_cons, List.not_mem_nil, or_false] at hk
    rcases hk with rfl | rfl | rfl | rfl | rfl
    · show w_rk.length ≤ 1000; decide
    · exact kn _ h1
    · show [c].length ≤ 1000; simp
    · exact ko _ h2.a1
    · exact ko _ h2.b1
  | cp n a =>
    simp only [Row.ks, List.mem_cons, List.not_mem_nil, or_false] at hk
    rcases hk with rfl | rfl | rfl
    · show w_cp.length ≤ 1000; decide
    · exact kn _ nn.1
    · exact ko _ nn.2
  | sy a =>
    simp only [Row.ks, List.mem_cons, List.not_mem_nil, or_false] at hk
    rcases hk with rfl | rfl
    · show w_sy.length ≤ 1000; decide
    · exact ko _ nn
  | go t =>
    simp only [Row.ks, List.mem_cons, List.not_mem_nil, or_false] at hk
    rcases hk with rfl | rfl
    · show w_go.length ≤ 1000; decide
    · trivial
  | pt a t =>
    simp only [Row.ks, List.mem_cons, List.not_mem_nil, or_false] at hk
    rcases hk with rfl | rfl | rfl
    · show w_pt.length ≤ 1000; decide
    · exact ko _ nn
    · trivial
  | en =>
    simp only [Row.ks, List.mem_cons, List.not_mem_nil, or_false] at hk
    rw [hk]; show w_en.length ≤ 1000; decide
end Lk10

set_option Elab.async false
set_option linter.all false
set_option maxHeartbeats 1000000
namespace Lk10
open Mi
theorem operand_ok10 (c : Int) (N : Nat) (l : List Tx) (S : Store) (hN : S[N]? = some (.lst (l.map .str))) (h0 : 0 < l.length) : ∃ (k : Ky) (S' : Store), m_law_operand [.int c, .ref N] S = .ok (kyD k) S' ∧ Pre S S' ∧ Opd l k := by
  have d4 : divOk 4 := div_ok (by decide) (by decide)
  obtain ⟨j, hj, hjl⟩ : ∃ j : Nat, c / 4 % (l.length : Int) = (j : Int) ∧ j < l.length := by
    have h1 := Int.emod_nonneg (c / 4) (show (l.length : Int) ≠ 0 by omega)
    have h2 := Int.emod_lt_of_pos (c / 4) (show (0 : Int) < l.length by omega)
    exact ⟨(c / 4 % (l.length : Int)).toNat, by omega, by omega⟩
  have ej : atI (l.map D.str) (j : Int) = some (.str l[j]) := at_of (by rw [List.getElem?_map, List.getElem?_eq_getElem hjl]; rfl)
  have hm : l[j] ∈ l := List.getElem_mem hjl
  generalize l[j] = nm at *
  have h4 : c % 4 = 0 ∨ c % 4 = 1 ∨ c % 4 = 2 ∨ c % 4 = 3 := by omega
  obtain ⟨k, hk, ok⟩ : ∃ k : Ky, atI [D.str nm, D.int (c / 4 % 18446744073709551616), D.int (c / 4 % 3), D.int 18446744073709551615] (c % 4) = some (kyD k) ∧ Opd l k := by
    rcases h4 with h | h | h | h <;> rw [h]
    · exact ⟨.inr nm, at0 _ _, .inl ⟨nm, hm, rfl⟩⟩
    · exact ⟨.inl (c / 4 % 18446744073709551616), at1 _ _ _, .inr ⟨_, rfl, by omega, by omega⟩⟩
    · exact ⟨.inl (c / 4 % 3), at2 _ _ _ _, .inr ⟨_, rfl, by omega, by omega⟩⟩
    · exact ⟨.inl 18446744073709551615, at3 _ _ _ _ _, .inr ⟨_, rfl, by omega, by omega⟩⟩
  refine ⟨k, S ++ [.lst [D.str nm, D.int (c / 4 % 18446744073709551616), D.int (c / 4 % 3), D.int 18446744073709551615]], ?_, Pre.app _ _, ok⟩
  simp [m_law_operand, b_law_operand, d4, hN, h0, hj, ej, LINE, get_len, hk]
def kdR : Row → Int
  | .rk .. => 0
  | .cp .. => 1
  | .sy _ => 2
  | .go _ => 3
  | .pt .. => 4
  | .en => 5
theorem row_ok10 (k : Int) (C N : Nat) (a b c d : Int) (l : List Tx) (S : Store) (hk : 0 ≤ k ∧ k < 6) (hC : S[C]? = some (.lst [.int a, .int b, .int c, .int d])) (hN : S[N]? = some (.lst (l.map .str))) (h0 : 0 < l.length) : ∃ (r : Row) (S' : Store), m_law_row [.int k, .ref C, .ref N] S = .ok r.d S' ∧ Pre S S' ∧ Gr l r ∧ kdR r = k := by
  obtain ⟨j, hj, hjl⟩ : ∃ j : Nat, a % (l.length : Int) = (j : Int) ∧ j < l.length := by
    have h1 := Int.emod_nonneg a (show (l.length : Int) ≠ 0 by omega)
    have h2 := Int.emod_lt_of_pos a (show (0 : Int) < l.length by omega)
    exact ⟨(a % (l.length : Int)).toNat, by omega, by omega⟩
  have ej : atI (l.map D.str) (j : Int) = some (.str l[j]) := at_of (by rw [List.getElem?_map, List.getElem?_eq_getElem hjl]; rfl)
  have hm : l[j] ∈ l := List.getElem_mem hjl
  generalize l[j] = nm at *
  obtain ⟨k1, S1, e1, p1, o1⟩ := operand_ok10 b N l S hN h0
  obtain ⟨k2, S2, e2, p2, o2⟩ := operand_ok10 c N l S1 (p1.get hN) h0
  have hC1 := p1.get hC
  have hC2 := p2.get hC1
  have p12 := p1.trans p2
  have p20 : powOk 10 20 := ⟨by decide, by decide, by decide⟩
  have m20 : 0 ≤ d % 100000000000000000000 := Int.emod_nonneg _ (by decide)
  obtain ⟨s, es, hs⟩ : ∃ s, atI S8 (d % 8) = some s ∧ s ∈ S8 := by
    have h : 0 ≤ d % 8 ∧ d % 8 < 8 := ⟨Int.emod_nonneg _ (by decide), Int.emod_lt_of_pos _ (by decide)⟩
    have hl : (d % 8).toNat < S8.length := by show (d % 8).toNat < 8; omega
    exact ⟨_, at_nat h.1 (List.getElem?_eq_getElem hl), List.getElem_mem _⟩
  have h6 : k = 0 ∨ k = 1 ∨ k = 2 ∨ k = 3 ∨ k = 4 ∨ k = 5 := by omega
  rcases h6 with rfl | rfl | rfl | rfl | rfl | rfl
  · refine ⟨.rk nm [s] k1 k2, S2, ?_, p12, ⟨⟨hm, ⟨⟨s, hs, rfl⟩, o1, o2⟩⟩, (fun _ e => by cases e), (fun _ _ e => by cases e)⟩, rfl⟩
    simp [m_law_row, b_law_row, hC, hN, h0, hj, ej, hC1, e1, e2, hC2, LINE, es, d_rk]
  · refine ⟨.cp nm k1, S2, ?_, p12, ⟨⟨hm, o1⟩, (fun _ e => by cases e), (fun _ _ e => by cases e)⟩, rfl⟩
    simp [m_law_row, b_law_row, hC, hN, h0, hj, ej, hC1, e1, e2, hC2, LINE, d_cp]
  · refine ⟨.sy k1, S2, ?_, p12, ⟨o1, (fun _ e => by cases e), (fun _ _ e => by cases e)⟩, rfl⟩
    simp [m_law_row, b_law_row, hC, hN, h0, hj, ej, hC1, e1, e2, hC2, LINE, d_sy]
  · refine ⟨.go (d % 100000000000000000000), S2, ?_, p12, ⟨trivial, (fun _ e => by injection e with e; omega), (fun _ _ e => by cases e)⟩, rfl⟩
    simp [m_law_row, b_law_row, hC, hN, h0, hj, ej, hC1, e1, e2, hC2, LINE, p20, d_go]
  · refine ⟨.pt k1 (d % 100000000000000000000), S2 ++ [.lst [Row.d (.pt k1 (d % 100000000000000000000)), Row.d .en]], ?_, p12.trans (Pre.app _ _), ⟨o1, (fun _ e => by cases e), (fun _ _ e => by injection e with _ e; omega)⟩, rfl⟩
    simp [m_law_row, b_law_row, hC, hN, h0, hj, ej, hC1, e1, e2, hC2, LINE, p20, get_len, d_pt, d_en]
  · refine ⟨.en, S2 ++ [.lst [Row.d (.pt k1 (d % 100000000000000000000)), Row.d .en]], ?_, p12.trans (Pre.app _ _), ⟨trivial, (fun _ e => by cases e), (fun _ _ e => by cases e)⟩, rfl⟩
    simp [m_law_row, b_law_row, hC, hN, h0, hj, ej, hC1, e1, e2, hC2, LINE, p20, get_len, d_pt, d_en]
/-! ### no operands -/
theorem not_nm {t : Tx} (h : t.length = 0 ∨ 8 < t.length ∨ (∃ c, t[0]? = some c ∧ (c < 97 ∨ 122 < c)) ∨ t = w_sy ∨ t = w_go ∨ t = w_pt ∨ t = w_en) : ¬ Nm t := fun q => by
  rcases h with h | h | ⟨c, hc, h⟩ | h | h | h | h
  · have := q.lo; omega
  · have := q.hi; omega
  · obtain ⟨c', hc', h'⟩ := q.fst
    rw [hc] at hc'
    obtain rfl := Option.some.inj hc'
    omega
  · exact q.no.1 h
  · exact q.no.2.1 h
  · exact q.no.2.2.1 h
  · exact q.no.2.2.2 h
theorem nmB_str {t : Tx} (h : ¬ Nm t) : ¬ NmB (.str t) := fun ⟨u, e, q⟩ => by injection e with e; subst e; exact h q
theorem opB_str {t : Tx} (h : ¬ Nm t) : ¬ OpB (.str t) := by
  rintro (z | ⟨_, e, _⟩)
  · exact nmB_str h z
  · cases e
theorem opB_int {i : Int} (h : i < 0 ∨ 18446744073709551616 ≤ i) : ¬ OpB (.int i) := by
  rintro (⟨_, e, _⟩ | ⟨w, e, h0, h1⟩)
  · cases e
  · injection e with e; omega
theorem opB_other {x : D} (h1 : ∀ t, x ≠ .str t) (h2 : ∀ i, x ≠ .int i) : ¬ OpB x := by
  rintro (⟨_, e, _⟩ | ⟨w, e, _⟩)
  · exact h1 _ e
  · exact h2 _ e
theorem Okd.mono {S S' : Store} (p : Pre S S') {x : D} (h : Okd S x) : Okd S' x := by
  cases x with
  | ref n =>
    rcases h with ⟨l, g⟩ | ⟨k, g⟩
    · exact .inl ⟨l, p.get g⟩
    · exact .inr ⟨k, p.get g⟩
  | _ => exact h
theorem no_operand_ok (c : Int) (S : Store) : ∃ (x : D) (S' : Store), m_law_no_operand [.int c] S = .ok x S' ∧ Pre S S' ∧ Okd S' x ∧ ¬ OpB x := by
  have d12 : divOk 12 := div_ok (by decide) (by decide)
  have p30 : powOk 10 30 := ⟨by decide, by decide, by decide⟩
  obtain ⟨m, hm, m0⟩ : ∃ m : Int, m = c / 12 % 1000000000000000000000000000000 ∧ 0 ≤ m := ⟨_, rfl, Int.emod_nonneg _ (by decide)⟩
  let L1 : List D := [.non, .bl true, .int (-1 - m), .int (18446744073709551616 + m), .int 18446744073709551616, .str [65], .str [], .str [57, 97], .str w_pt, .str [97, 98, 99, 100, 101, 102, 103, 104, 105]]
  obtain ⟨S', eS⟩ : ∃ S' : Store, S' = S ++ [.lst L1, .lst [.str [97]], .lst [.tup [.str [97]], .ref (S.length + 1)], .lst (L1 ++ [.tup [.str [97]], .ref (S.length + 1)])] := ⟨_, rfl⟩
  have pS : Pre S S' := by rw [eS]; exact Pre.app _ _
  have gR : S'[S.length + 1]? = some (.lst [.str [97]]) := by rw [eS]; simp [get_app]
  have h12 : 0 ≤ c % 12 ∧ c % 12 < 12 := ⟨Int.emod_nonneg _ (by decide), Int.emod_lt_of_pos _ (by decide)⟩
  have hl : (c % 12).toNat < (L1 ++ [D.tup [.str [97]], .ref (S.length + 1)]).length := by show (c % 12).toNat < 12; omega
  have e : atI (L1 ++ [D.tup [.str [97]], .ref (S.length + 1)]) (c % 12) = some (L1 ++ [D.tup [.str [97]], .ref (S.length + 1)])[(c % 12).toNat] := at_nat h12.1 (List.getElem?_eq_getElem hl)
  have hin : (L1 ++ [D.tup [.str [97]], .ref (S.length + 1)])[(c % 12).toNat] ∈ L1 ++ [D.tup [.str [97]], .ref (S.length + 1)] := List.getElem_mem hl
  generalize (L1 ++ [D.tup [.str [97]], .ref (S.length + 1)])[(c % 12).toNat] = x at *
  have good : ∀ x ∈ L1 ++ [D.tup [.str [97]], .ref (S.length + 1)], Okd S' x ∧ ¬ OpB x := by
    intro x hx
    simp only [L1, List.cons_append, List.nil_append, List.mem_cons, List.not_mem_nil, or_false] at hx
    rcases hx with rfl | rfl | rfl | rfl | rfl | rfl | rfl | rfl | rfl | rfl | rfl | rfl
    · exact ⟨trivial, opB_other (by simp) (by simp)⟩
    · exact ⟨trivial, opB_other (by simp) (by simp)⟩
    · exact ⟨trivial, opB_int (.inl (by omega))⟩
    · exact ⟨trivial, opB_int (.inr (by omega))⟩
    · exact ⟨trivial, opB_int (.inr (by omega))⟩
    · exact ⟨show [65].length ≤ 1000 by decide, opB_str (not_nm (.inr (.inr (.inl ⟨65, rfl, by decide⟩))))⟩
    · exact ⟨show ([] : Tx).length ≤ 1000 by decide, opB_str (not_nm (.inl rfl))⟩
    · exact ⟨show [57, 97].length ≤ 1000 by decide, opB_str (not_nm (.inr (.inr (.inl ⟨57, rfl, by decide⟩))))⟩
    · exact ⟨show w_pt.length ≤ 1000 by decide, opB_str (not_nm (by simp))⟩
    · exact ⟨show [97, 98, 99, 100, 101, 102, 103, 104, 105].length ≤ 1000 by decide, opB_str (not_nm (.inr (.inl (by decide))))⟩
    · exact ⟨trivial, opB_other (by simp) (by simp)⟩
    · exact ⟨.inl ⟨_, gR⟩, opB_other (by simp) (by simp)⟩
  obtain ⟨g1, g2⟩ := good x hin
  refine ⟨x, S', ?_, pS, g1, g2⟩
  subst eS
  simp only [L1, List.cons_append, List.nil_append] at e
  simp [m_law_no_operand, b_law_no_operand, d12, p30, LINE, get_app, get_len, ← hm, L1, e]
end Lk10

set_option Elab.async false
set_option linter.all false
set_option maxHeartbeats 1000000
namespace Lk10
open Mi
/-- what a first thing may be, by its form -/
def HdS (S : Store) : D → Prop
  | .tup l => ∃ ks : List Ky, l = ks.map kyD ∧ ks.all kOk = true
  | .ref n => (∃ ks : List Ky, S[n]? = some (.lst (ks.map kyD)) ∧ ks.all kOk = true) ∨ ∃ k, S[n]? = some (.dK k)
  | .wtp _ => False
  | _ => True
theorem six_ok : ∀ w ∈ sixW, kOk (.inr w) = true := by decide
theorem pd_str (w : Tx) (S : Store) : pd S (.str w) = some (kp (.inr w)) := rfl
theorem shp_k {k : Ky} (h : kOk k = true) : shp (kp k) = true := by
  unfold shp PySem.SeqAt.shaped
  cases k <;> simp [lay_k h, PySem.PyData.depth] <;> exact lay_k h
theorem HdS.hd {S : Store} {k : D} (h : HdS S k) : Hd S k := by
  cases k with
  | str t => exact .inl ⟨t, rfl⟩
  | non => exact .inr ⟨by simp, fun w _ => by simp⟩
  | int i => exact .inr ⟨by simp, fun w _ => by simp⟩
  | bl b => exact .inr ⟨by simp, fun w _ => rfl⟩
  | wtp l => exact h.elim
  | tup l =>
    obtain ⟨ks, rfl, ok⟩ := h
    refine .inr ⟨by simp, fun w hw => ?_⟩
    have e : scq (.tup (ks.map kyD)) (.str w) = none := rfl
    rw [oEqX_t, oEq_g]
    unfold pyEq
    rw [e]
    have e2 : pd S (.tup (ks.map kyD)) = some (.tuple (ks.map kp)) := toP_kt _ ks
    simp only [e2, pd_str, shp_kt ok, shp_k (six_ok w hw), and_self, if_true]
    simp [PySem.PyData.eqv]
  | ref n =>
    refine .inr ⟨by simp, fun w hw => ?_⟩
    rcases h with ⟨ks, g, ok⟩ | ⟨kv, g⟩
    · have q : oEqX (.ref n) (.str w) S = oEq (.ref n) (.str w) S := by
        show (match S[n]? with | some (.dK _) => (.ok (.bl false) S : Res D) | _ => oEq (.ref n) (.str w) S) = _
        rw [g]
      have e : scq (.ref n) (.str w) = none := rfl
      have e2 : pd S (.ref n) = some (.list (ks.map kp)) := by
        show lookP 8 S n = _
        unfold lookP
        rw [g]
        dsimp only
        rw [toPs_k]; rfl
      rw [q, oEq_g]
      unfold pyEq
      rw [e]
      simp only [e2, pd_str, shp_ks ok, shp_k (six_ok w hw), and_self, if_true]
      simp [PySem.PyData.eqv]
    · show (match S[n]? with | some (.dK _) => (.ok (.bl false) S : Res D) | _ => oEq (.ref n) (.str w) S) = _
      rw [g]
theorem HdS.mono {S S' : Store} (p : Pre S S') {x : D} (h : HdS S x) : HdS S' x := by
  cases x with
  | ref n =>
    rcases h with ⟨ks, g, ok⟩ | ⟨k, g⟩
    · exact .inl ⟨ks, p.get g, ok⟩
    · exact .inr ⟨k, p.get g⟩
  | _ => exact h
/-- no row -/
structure Bd (S : Store) (x : D) : Prop where
  ok : Okd S x
  el : ∀ l, x = .tup l → ∀ y ∈ l, Okd S y
  hd : ∀ l, x = .tup l → ∀ k, l[0]? = some k → HdS S k
  no : ∀ l, x = .tup l → ¬ RowB l
theorem Bd.mono {S S' : Store} (p : Pre S S') {x : D} (h : Bd S x) : Bd S' x :=
  ⟨h.ok.mono p, fun l e y hy => (h.el l e y hy).mono p, fun l e k hk => (h.hd l e k hk).mono p, h.no⟩
theorem Bd.row {S : Store} {x : D} (h : Bd S x) : m_is_row [x] S = .ok (.bl false) S := by
  by_cases ht : ∃ l, x = .tup l
  · obtain ⟨l, rfl⟩ := ht
    rw [is_row_dec l S (h.el l rfl) fun k hk => (h.hd l rfl k hk).hd, dec_false (h.no l rfl)]
  · exact is_row_no x S h.ok fun l e => ht ⟨l, e⟩
theorem Bd.good {S : Store} {x : D} (h : Bd S x) : ∃ S', m_law_good [x, .bl (dec (NmB x)), .bl false] S = .ok (.bl true) S' ∧ Pre S S' := ⟨_, good_ok x _ false S (is_name_dec x S h.ok) h.row, Pre.app _ _⟩
end Lk10

set_option Elab.async false
set_option linter.all false
set_option maxHeartbeats 1000000
namespace Lk10
open Mi
/-! ### wrong things -/
def wd6 : List D := [.str w_rk, .str w_cp, .str w_sy, .str w_go, .str w_pt, .str w_en]
theorem wrong0 (k c : Int) (S : Store) (hk : 0 ≤ k ∧ k < 6) : ∃ (x : D) (S' : Store), m_law_wrong [.int k, .int 0, .int c] S = .ok x S' ∧ Pre S S' ∧ Okd S' x ∧ HdS S' x ∧ ∀ t, x = .str t → t ∉ sixW := by
  obtain ⟨w, hw, ew⟩ : ∃ w : Tx, w ∈ sixW ∧ atI wd6 k = some (.str w) := by
    have h6 : k = 0 ∨ k = 1 ∨ k = 2 ∨ k = 3 ∨ k = 4 ∨ k = 5 := by omega
    rcases h6 with rfl | rfl | rfl | rfl | rfl | rfl
    · exact ⟨w_rk, by decide, rfl⟩
    · exact ⟨w_cp, by decide, rfl⟩
    · exact ⟨w_sy, by decide, rfl⟩
    · exact ⟨w_go, by decide, rfl⟩
    · exact ⟨w_pt, by decide, rfl⟩
    · exact ⟨w_en, by decide, rfl⟩
  have wl : w.length ≤ 6 := by have : ∀ w ∈ sixW, w.length ≤ 6 := by decide
                               exact this w hw
  have wk : kOk (.inr w) = true := six_ok w hw
  have n1 : w ++ [115] ∉ sixW := by have : ∀ w ∈ sixW, w ++ [115] ∉ sixW := by decide
                                    exact this w hw
  have n2 : (w.map fun c => c - 32) ∉ sixW := by have : ∀ w ∈ sixW, (w.map fun c => c - 32) ∉ sixW := by decide
                                                 exact this w hw
  have n3 : ([] : Tx) ∉ sixW := by decide
  have n4 : cut w none (some (-1)) ∉ sixW := by have : ∀ w ∈ sixW, cut w none (some (-1)) ∉ sixW := by decide
                                                exact this w hw
  have n5 : (cut w none (some (-1))).length ≤ 1000 := by have : ∀ w ∈ sixW, (cut w none (some (-1))).length ≤ 1000 := by decide
                                                         exact this w hw
  let L : List D := [.str (w ++ [115]), .str (w.map fun c => c - 32), .str [], .str (cut w none (some (-1))), .non, .tup [.str w], .int 0, .ref (S.length + 1), .ref (S.length + 2)]
  obtain ⟨S', eS⟩ : ∃ S' : Store, S' = S ++ [.lst wd6, .lst [.str w], .dK [], .lst L] := ⟨_, rfl⟩
  have pS : Pre S S' := by rw [eS]; exact Pre.app _ _
  have g1 : S'[S.length + 1]? = some (.lst [.str w]) := by rw [eS]; simp [get_app]
  have g2 : S'[S.length + 2]? = some (.dK []) := by rw [eS]; simp [get_app]
  have h9 : 0 ≤ c % 9 ∧ c % 9 < 9 := ⟨Int.emod_nonneg _ (by decide), Int.emod_lt_of_pos _ (by decide)⟩
  have hl : (c % 9).toNat < L.length := by show (c % 9).toNat < 9; omega
  have e : atI L (c % 9) = some L[(c % 9).toNat] := at_nat h9.1 (List.getElem?_eq_getElem hl)
  have hin : L[(c % 9).toNat] ∈ L := List.getElem_mem hl
  generalize L[(c % 9).toNat] = x at *
  have good : ∀ x ∈ L, Okd S' x ∧ HdS S' x ∧ ∀ t, x = .str t → t ∉ sixW := by
    intro x hx
    simp only [L, List.mem_cons, List.not_mem_nil, or_false] at hx
    rcases hx with rfl | rfl | rfl | rfl | rfl | rfl | rfl | rfl | rfl
    · exact ⟨show (w ++ [115]).length ≤ 1000 by simp; omega, trivial, fun t e => by injection e with e; subst e; exact n1⟩
    · exact ⟨show (w.map fun c => c - 32).length ≤ 1000 by simp; omega, trivial, fun t e => by injection e with e; subst e; exact n2⟩
    · exact ⟨show ([] : Tx).length ≤ 1000 by decide, trivial, fun t e => by injection e with e; subst e; exact n3⟩
    · exact ⟨n5, trivial, fun t e => by injection e with e; subst e; exact n4⟩
    · exact ⟨trivial, trivial, fun t e => by cases e⟩
    · exact ⟨trivial, ⟨[.inr w], rfl, by simp [wk]⟩, fun t e => by cases e⟩
    · exact ⟨trivial, trivial, fun t e => by cases e⟩
    · exact ⟨.inl ⟨_, g1⟩, .inl ⟨[.inr w], g1, by simp [wk]⟩, fun t e => by cases e⟩
    · exact ⟨.inr ⟨_, g2⟩, .inr ⟨_, g2⟩, fun t e => by cases e⟩
  obtain ⟨q1, q2, q3⟩ := good x hin
  refine ⟨x, S', ?_, pS, q1, q2, q3⟩
  subst eS
  have w1 : w.length ≤ 16777216 := by omega
  have w2 : w.length + 1 ≤ 16777216 := by omega
  simp only [wd6] at ew
  simp only [L] at e
  simp [m_law_wrong, b_law_wrong, LINE, get_app, get_len, ew, hw, w1, w2, L, e, wd6]
theorem wrong1 (k c : Int) (S : Store) (hk : k = 0 ∨ k = 1) : ∃ (x : D) (S' : Store), m_law_wrong [.int k, .int 1, .int c] S = .ok x S' ∧ Pre S S' ∧ Okd S' x ∧ ¬ NmB x := by
  obtain ⟨w, ew⟩ : ∃ w : Tx, atI wd6 k = some (.str w) := by
    rcases hk with rfl | rfl
    · exact ⟨w_rk, rfl⟩
    · exact ⟨w_cp, rfl⟩
  have k2 : k < 2 := by omega
  have d12 : divOk 12 := div_ok (by decide) (by decide)
  have d3 : divOk 3 := div_ok (by decide) (by decide)
  obtain ⟨y, S1, e1, p1, o1, n1⟩ := no_operand_ok c (S ++ [.lst wd6])
  have h2 : c / 3 % 2 = 0 ∨ c / 3 % 2 = 1 := by omega
  simp only [wd6] at ew e1
  rcases h2 with h | h
  · refine ⟨.int (c / 12 % 3), S1 ++ [.lst [.int (c / 12 % 3), y]], ?_, ((Pre.app _ _).trans p1).trans (Pre.app _ _), trivial, fun ⟨_, e, _⟩ => by cases e⟩
    simp [m_law_wrong, b_law_wrong, LINE, get_app, get_len, ew, k2, d12, d3, e1, h]
  · refine ⟨y, S1 ++ [.lst [.int (c / 12 % 3), y]], ?_, ((Pre.app _ _).trans p1).trans (Pre.app _ _), o1.mono (Pre.app _ _), fun q => n1 (.inl q)⟩
    simp [m_law_wrong, b_law_wrong, LINE, get_app, get_len, ew, k2, d12, d3, e1, h]
theorem wrong2 (c : Int) (S : Store) : ∃ (x : D) (S' : Store), m_law_wrong [.int 0, .int 2, .int c] S = .ok x S' ∧ Pre S S' ∧ Okd S' x ∧ ∀ t, x = .str [t] → t ∉ S8 := by
  let L : List D := [.str [47], .str [42, 42], .str [], .str [43, 45], .non, .int 3, .str [62], .tup [.str [43]], .str [97], .ref (S.length + 1)]
  obtain ⟨S', eS⟩ : ∃ S' : Store, S' = S ++ [.lst wd6, .lst [.str [43]], .lst L] := ⟨_, rfl⟩
  have pS : Pre S S' := by rw [eS]; exact Pre.app _ _
  have g1 : S'[S.length + 1]? = some (.lst [.str [43]]) := by rw [eS]; simp [get_app]
  have h9 : 0 ≤ c % 10 ∧ c % 10 < 10 := ⟨Int.emod_nonneg _ (by decide), Int.emod_lt_of_pos _ (by decide)⟩
  have hl : (c % 10).toNat < L.length := by show (c % 10).toNat < 10; omega
  have e : atI L (c % 10) = some L[(c % 10).toNat] := at_nat h9.1 (List.getElem?_eq_getElem hl)
  have hin : L[(c % 10).toNat] ∈ L := List.getElem_mem hl
  generalize L[(c % 10).toNat] = x at *
  have good : ∀ x ∈ L, Okd S' x ∧ ∀ t, x = .str [t] → t ∉ S8 := by
    intro x hx
    simp only [L, List.mem_cons, List.not_mem_nil, or_false] at hx
    rcases hx with rfl | rfl | rfl | rfl | rfl | rfl | rfl | rfl | rfl | rfl
    · exact ⟨show [47].length ≤ 1000 by decide, fun t e => by injection e with e; injection e with e; subst e; decide⟩
    · exact ⟨show [42, 42].length ≤ 1000 by decide, fun t e => by simp at e⟩
    · exact ⟨show ([] : Tx).length ≤ 1000 by decide, fun t e => by simp at e⟩
    · exact ⟨show [43, 45].length ≤ 1000 by decide, fun t e => by simp at e⟩
    · exact ⟨trivial, fun t e => by cases e⟩
    · exact ⟨trivial, fun t e => by cases e⟩
    · exact ⟨show [62].length ≤ 1000 by decide, fun t e => by injection e with e; injection e with e; subst e; decide⟩
    · exact ⟨trivial, fun t e => by cases e⟩
    · exact ⟨show [97].length ≤ 1000 by decide, fun t e => by injection e with e; injection e with e; subst e; decide⟩
    · exact ⟨.inl ⟨_, g1⟩, fun t e => by cases e⟩
  obtain ⟨q1, q2⟩ := good x hin
  refine ⟨x, S', ?_, pS, q1, q2⟩
  subst eS
  simp only [L] at e
  simp [m_law_wrong, b_law_wrong, LINE, get_app, get_len, L, e, wd6]
theorem wrong3 (k s c : Int) (S : Store) (hk : k = 3 ∧ s = 1 ∨ k = 4 ∧ s = 2) : ∃ (x : D) (S' : Store), m_law_wrong [.int k, .int s, .int c] S = .ok x S' ∧ Pre S S' ∧ Okd S' x ∧ ¬ WhB x := by
  have d5 : divOk 5 := div_ok (by decide) (by decide)
  have p30 : powOk 10 30 := ⟨by decide, by decide, by decide⟩
  obtain ⟨m, hm, m0⟩ : ∃ m : Int, m = c / 5 % 1000000000000000000000000000000 ∧ 0 ≤ m := ⟨_, rfl, Int.emod_nonneg _ (by decide)⟩
  let L : List D := [.non, .bl true, .int (-1 - m), .str [48], .str [97]]
  have h5 : 0 ≤ c % 5 ∧ c % 5 < 5 := ⟨Int.emod_nonneg _ (by decide), Int.emod_lt_of_pos _ (by decide)⟩
  have hl : (c % 5).toNat < L.length := by show (c % 5).toNat < 5; omega
  have e : atI L (c % 5) = some L[(c % 5).toNat] := at_nat h5.1 (List.getElem?_eq_getElem hl)
  have hin : L[(c % 5).toNat] ∈ L := List.getElem_mem hl
  generalize L[(c % 5).toNat] = x at *
  have good : ∀ x ∈ L, (∀ S' : Store, Okd S' x) ∧ ¬ WhB x := by
    intro x hx
    simp only [L, List.mem_cons, List.not_mem_nil, or_false] at hx
    rcases hx with rfl | rfl | rfl | rfl | rfl
    · exact ⟨fun _ => trivial, fun ⟨_, e, _⟩ => by cases e⟩
    · exact ⟨fun _ => trivial, fun ⟨_, e, _⟩ => by cases e⟩
    · exact ⟨fun _ => trivial, fun ⟨_, e, _⟩ => by injection e with e; omega⟩
    · exact ⟨fun _ => show [48].length ≤ 1000 by decide, fun ⟨_, e, _⟩ => by cases e⟩
    · exact ⟨fun _ => show [97].length ≤ 1000 by decide, fun ⟨_, e, _⟩ => by cases e⟩
  obtain ⟨q1, q2⟩ := good x hin
  simp only [L] at e
  refine ⟨x, S ++ [.lst wd6, .lst L], ?_, Pre.app _ _, q1 _, q2⟩
  rcases hk with ⟨rfl, rfl⟩ | ⟨rfl, rfl⟩
  · simp [m_law_wrong, b_law_wrong, LINE, get_app, get_len, d5, p30, ← hm, L, e, wd6]
  · simp [m_law_wrong, b_law_wrong, LINE, get_app, get_len, d5, p30, ← hm, L, e, wd6]
theorem wrong4 (k s c : Int) (S : Store) (hk : k = 0 ∧ (s = 3 ∨ s = 4) ∨ k = 1 ∧ s = 2 ∨ k = 2 ∧ s = 1 ∨ k = 4 ∧ s = 1) : ∃ (x : D) (S' : Store), m_law_wrong [.int k, .int s, .int c] S = .ok x S' ∧ Pre S S' ∧ Okd S' x ∧ ¬ OpB x := by
  obtain ⟨y, S1, e1, p1, o1, n1⟩ := no_operand_ok c (S ++ [.lst wd6])
  simp only [wd6] at e1
  refine ⟨y, S1, ?_, (Pre.app _ _).trans p1, o1, n1⟩
  rcases hk with ⟨rfl, rfl | rfl⟩ | ⟨rfl, rfl⟩ | ⟨rfl, rfl⟩ | ⟨rfl, rfl⟩
  · simp [m_law_wrong, b_law_wrong, LINE, get_app, get_len, e1]
  · simp [m_law_wrong, b_law_wrong, LINE, get_app, get_len, e1]
  · simp [m_law_wrong, b_law_wrong, LINE, get_app, get_len, e1]
  · simp [m_law_wrong, b_law_wrong, LINE, get_app, get_len, e1]
  · simp [m_law_wrong, b_law_wrong, LINE, get_app, get_len, e1]
end Lk10

set_option Elab.async false
set_option linter.all false
set_option maxHeartbeats 1000000
namespace Lk10
open Mi
/-! ### things made out of rows -/
theorem HdS.k (S : Store) (k : Ky) : HdS S (kyD k) := by cases k <;> trivial
theorem ari_w {l : List D} (h : RowB l) : ∀ x, l[0]? = some x → ∃ w, x = .str w ∧ w ∈ sixW := fun x e => by
  obtain ⟨w, e1, _, hw⟩ := h.ari
  rw [e] at e1
  exact ⟨w, Option.some.inj e1, hw⟩
theorem row_rk {n s a b : D} (h : RowB [.str w_rk, n, s, a, b]) : NmB n ∧ (∃ c, s = .str [c] ∧ c ∈ S8) ∧ OpB a ∧ OpB b := by
  rcases h with ⟨_, _, _, _, e, h1, h2, h3, h4⟩ | ⟨_, _, e, _⟩ | ⟨_, e, _⟩ | ⟨_, e, _⟩ | ⟨_, _, e, _⟩ | e
  · injection e with _ e; injection e with e1 e; injection e with e2 e; injection e with e3 e; injection e with e4 e
    subst e1; subst e2; subst e3; subst e4
    exact ⟨h2, ⟨_, rfl, h1⟩, h3, h4⟩
  all_goals exact absurd (congrArg List.length e) (by simp)
theorem row_cp {n a : D} (h : RowB [.str w_cp, n, a]) : NmB n ∧ OpB a := by
  rcases h with ⟨_, _, _, _, e, _⟩ | ⟨_, _, e, h1, h2⟩ | ⟨_, e, _⟩ | ⟨_, e, _⟩ | ⟨_, _, e, _⟩ | e
  · exact absurd (congrArg List.length e) (by simp)
  · injection e with _ e; injection e with e1 e; injection e with e2 e
    subst e1; subst e2
    exact ⟨h1, h2⟩
  · exact absurd (congrArg List.length e) (by simp)
  · exact absurd (congrArg List.length e) (by simp)
  · injection e with e _; injection e with e; exact absurd e (by decide)
  · exact absurd (congrArg List.length e) (by simp)
theorem row_pt {a t : D} (h : RowB [.str w_pt, a, t]) : OpB a ∧ WhB t := by
  rcases h with ⟨_, _, _, _, e, _⟩ | ⟨_, _, e, _⟩ | ⟨_, e, _⟩ | ⟨_, e, _⟩ | ⟨_, _, e, h1, h2⟩ | e
  · exact absurd (congrArg List.length e) (by simp)
  · injection e with e _; injection e with e; exact absurd e (by decide)
  · exact absurd (congrArg List.length e) (by simp)
  · exact absurd (congrArg List.length e) (by simp)
  · injection e with _ e; injection e with e1 e; injection e with e2 e
    subst e1; subst e2
    exact ⟨h1, h2⟩
  · exact absurd (congrArg List.length e) (by simp)
theorem row_sy {a : D} (h : RowB [.str w_sy, a]) : OpB a := by
  rcases h with ⟨_, _, _, _, e, _⟩ | ⟨_, _, e, _⟩ | ⟨_, e, h1⟩ | ⟨_, e, _⟩ | ⟨_, _, e, _⟩ | e
  · exact absurd (congrArg List.length e) (by simp)
  · exact absurd (congrArg List.length e) (by simp)
  · injection e with _ e; injection e with e1 e; subst e1; exact h1
  · injection e with e _; injection e with e; exact absurd e (by decide)
  · exact absurd (congrArg List.length e) (by simp)
  · exact absurd (congrArg List.length e) (by simp)
theorem row_go {a : D} (h : RowB [.str w_go, a]) : WhB a := by
  rcases h with ⟨_, _, _, _, e, _⟩ | ⟨_, _, e, _⟩ | ⟨_, e, _⟩ | ⟨_, e, h1⟩ | ⟨_, _, e, _⟩ | e
  · exact absurd (congrArg List.length e) (by simp)
  · exact absurd (congrArg List.length e) (by simp)
  · injection e with e _; injection e with e; exact absurd e (by decide)
  · injection e with _ e; injection e with e1 e; subst e1; exact h1
  · exact absurd (congrArg List.length e) (by simp)
  · exact absurd (congrArg List.length e) (by simp)
/-- one thing of a row, made wrong -/
theorem wrong_ok (r : Row) (l : List Tx) (n : Nat) (c : Int) (S : Store) (hn : n < (r.ks.map kyD).length) : ∃ (x : D) (S' : Store), m_law_wrong [.int (kdR r), .int n, .int c] S = .ok x S' ∧ Pre S S' ∧ Okd S' x ∧ (n = 0 → HdS S' x) ∧ ¬ RowB ((r.ks.map kyD).take n ++ x :: (r.ks.map kyD).drop (n + 1)) := by
  have hk : 0 ≤ kdR r ∧ kdR r < 6 := by cases r <;> simp [kdR]
  match n, hn with
  | 0, _ =>
    obtain ⟨x, S', e, p, o, h, nx⟩ := wrong0 (kdR r) c S hk
    refine ⟨x, S', e, p, o, fun _ => h, fun q => ?_⟩
    obtain ⟨w, e, hw⟩ := ari_w q x rfl
    exact nx w e hw
  | n + 1, hn =>
    cases r with
    | rk nm s a b =>
      match n, hn with
      | 0, _ =>
        obtain ⟨x, S', e, p, o, nx⟩ := wrong1 0 c S (.inl rfl)
        exact ⟨x, S', e, p, o, (fun z => by cases z), fun q => nx (row_rk q).1⟩
      | 1, _ =>
        obtain ⟨x, S', e, p, o, nx⟩ := wrong2 c S
        exact ⟨x, S', e, p, o, (fun z => by cases z), fun q => by obtain ⟨t, e, ht⟩ := (row_rk q).2.1; exact nx t e ht⟩
      | 2, _ =>
        obtain ⟨x, S', e, p, o, nx⟩ := wrong4 0 3 c S (.inl ⟨rfl, .inl rfl⟩)
        exact ⟨x, S', e, p, o, (fun z => by cases z), fun q => nx (row_rk q).2.2.1⟩
      | 3, _ =>
        obtain ⟨x, S', e, p, o, nx⟩ := wrong4 0 4 c S (.inl ⟨rfl, .inr rfl⟩)
        exact ⟨x, S', e, p, o, (fun z => by cases z), fun q => nx (row_rk q).2.2.2⟩
      | n + 4, hn => simp [Row.ks] at hn; omega
    | cp nm a =>
      match n, hn with
      | 0, _ =>
        obtain ⟨x, S', e, p, o, nx⟩ := wrong1 1 c S (.inr rfl)
        exact ⟨x, S', e, p, o, (fun z => by cases z), fun q => nx (row_cp q).1⟩
      | 1, _ =>
        obtain ⟨x, S', e, p, o, nx⟩ := wrong4 1 2 c S (.inr (.inl ⟨rfl, rfl⟩))
        exact ⟨x, S', e, p, o, (fun z => by cases z), fun q => nx (row_cp q).2⟩
      | n + 2, hn => simp [Row.ks] at hn; omega
    | sy a =>
      match n, hn with
      | 0, _ =>
        obtain ⟨x, S', e, p, o, nx⟩ := wrong4 2 1 c S (.inr (.inr (.inl ⟨rfl, rfl⟩)))
        exact ⟨x, S', e, p, o, (fun z => by cases z), fun q => nx (row_sy q)⟩
      | n + 1, hn => simp [Row.ks] at hn; omega
    | go t =>
      match n, hn with
      | 0, _ =>
        obtain ⟨x, S', e, p, o, nx⟩ := wrong3 3 1 c S (.inl ⟨rfl, rfl⟩)
        exact ⟨x, S', e, p, o, (fun z => by cases z), fun q => nx (row_go q)⟩
      | n + 1, hn => simp [Row.ks] at hn; omega
    | pt a t =>
      match n, hn with
      | 0, _ =>
        obtain ⟨x, S', e, p, o, nx⟩ := wrong4 4 1 c S (.inr (.inr (.inr ⟨rfl, rfl⟩)))
        exact ⟨x, S', e, p, o, (fun z => by cases z), fun q => nx (row_pt q).1⟩
      | 1, _ =>
        obtain ⟨x, S', e, p, o, nx⟩ := wrong3 4 2 c S (.inr ⟨rfl, rfl⟩)
        exact ⟨x, S', e, p, o, (fun z => by cases z), fun q => nx (row_pt q).2⟩
      | n + 2, hn => simp [Row.ks] at hn; omega
    | en => simp [Row.ks] at hn
theorem made_ok (r : Row) (l : List Tx) (way c : Int) (S : Store) (h : Gr l r) (hl : ∀ t ∈ l, Nm t) (hw : 0 ≤ way ∧ way < 5) : ∃ (x : D) (S' : Store), m_law_made [r.d, .int (kdR r), .int way, .int c] S = .ok x S' ∧ Pre S S' ∧ Bd S' x ∧ (way = 4 → ∃ l, x = .tup l) := by
  obtain ⟨w, hw0, hwl, hw1⟩ := row_ari r
  have hks : r.ks.all kOk = true := h.nm.k hl
  have hok := h.okd hl
  have hd : r.d = .tup (r.ks.map kyD) := rfl
  have hhd : ∀ (S : Store) (x : D), x ∈ r.ks.map kyD → HdS S x := fun S x hx => by
    obtain ⟨k, _, rfl⟩ := List.mem_map.mp hx
    exact HdS.k S k
  have htail : ¬ RowB ((r.ks.map kyD).drop 1) := tail_no h hl
  have wr := wrong_ok r l
  have nr := @no_row r
  obtain ⟨K, hK⟩ : ∃ K, K = kdR r := ⟨_, rfl⟩
  rw [← hK] at wr ⊢
  rw [hd]
  have hlen : 1 ≤ (r.ks.map kyD).length := by omega
  have hlen9 : (r.ks.map kyD).length ≤ 5 := by cases r <;> simp [Row.ks]
  obtain ⟨R, hR⟩ : ∃ R, R = r.ks.map kyD := ⟨_, rfl⟩
  have hR2 : ∃ ks : List Ky, R = ks.map kyD ∧ ks.all kOk = true := ⟨_, hR, hks⟩
  rw [← hR] at hw0 hwl hok hhd htail wr nr hlen hlen9 ⊢
  have hRw : RowB [D.tup R] → False := fun q => by
    obtain ⟨w, e, _⟩ := ari_w q _ rfl
    cases e
  have d5 : divOk 5 := div_ok (by decide) (by decide)
  have d25 : divOk 25 := div_ok (by decide) (by decide)
  obtain ⟨n, hn, hnl⟩ : ∃ n : Nat, c / 5 % (R.length : Int) = (n : Int) ∧ n < R.length := by
    have h1 := Int.emod_nonneg (c / 5) (show (R.length : Int) ≠ 0 by omega)
    have h2 := Int.emod_lt_of_pos (c / 5) (show (0 : Int) < R.length by omega)
    exact ⟨(c / 5 % (R.length : Int)).toNat, by omega, by omega⟩
  have ct := cut_take R n (by omega)
  have ct1 := cut_take R (n + 1) (by omega)
  have cd := cut_drop R (n + 1) (by omega)
  rw [show ((n + 1 : Nat) : Int) = (n : Int) + 1 by omega] at ct1 cd
  have hR0 : 0 < R.length := by omega
  have mt : ∀ (m : Nat) (x : D), x ∈ R.take m → x ∈ R := fun m x hx => List.mem_of_mem_take hx
  have md : ∀ (m : Nat) (x : D), x ∈ R.drop m → x ∈ R := fun m x hx => List.mem_of_mem_drop hx
  have h5 : way = 1 ∨ way = 2 ∨ way = 3 ∨ (way = 0 ∨ way = 4) := by omega
  rcases h5 with rfl | rfl | rfl | h04
  · have sz : (R.take n).length + (R.drop (n + 1)).length ≤ 16777216 := by
      rw [List.length_take, List.length_drop]; omega
    refine ⟨.tup (R.take n ++ R.drop (n + 1)), S, ?_, Pre.refl _, ⟨trivial, ?_, ?_, ?_⟩, fun e => absurd e (by decide)⟩
    · simp only [List.length_take, List.length_drop] at sz
      simp [m_law_made, b_law_made, d5, hR0, hn, ct, cd, LINE, sz]
    · intro l e y hy
      injection e with e; subst e
      rcases List.mem_append.mp hy with z | z
      · exact hok _ _ (mt _ _ z)
      · exact hok _ _ (md _ _ z)
    · intro l e k hk
      injection e with e; subst e
      rcases List.mem_append.mp (List.mem_of_getElem? hk) with z | z
      · exact hhd _ _ (mt _ _ z)
      · exact hhd _ _ (md _ _ z)
    · intro l e
      injection e with e; subst e
      cases n with
      | zero => simpa using htail
      | succ n =>
        refine nr ?_ ?_
        · rw [List.getElem?_append_left (by rw [List.length_take]; omega), List.getElem?_take_of_lt (by omega)]
        · rw [List.length_append, List.length_take, List.length_drop]; omega
  · obtain ⟨S1, e1⟩ : ∃ S1 : Store, S1 = S ++ [.lst [.str [97]]] := ⟨_, rfl⟩
    have p1 : Pre S S1 := by rw [e1]; exact Pre.app _ _
    have g1 : S1[S.length]? = some (.lst (([[97]] : List Tx).map .str)) := by rw [e1]; exact app_new _ _ _
    obtain ⟨k, S2, e2, p2, ok⟩ := operand_ok10 c S.length [[97]] S1 g1 (by decide)
    have na : ∀ t ∈ ([[97]] : List Tx), Nm t := by
      intro t ht
      rw [List.mem_singleton.mp ht]
      exact ⟨by decide, by decide, ⟨97, rfl, by decide⟩, by decide, by decide⟩
    have kok : ∀ S, Okd S (kyD k) := fun S => okd_k fun t e => by
      rcases ok with ⟨u, hu, rfl⟩ | ⟨w, rfl, _⟩
      · injection e with e; subst e; rw [List.mem_singleton.mp hu]; decide
      · cases e
    have sz : (R.take (n + 1)).length + 1 ≤ 16777216 := by
      rw [List.length_take]; omega
    have sz2 : (R.take (n + 1)).length + 1 + (R.drop (n + 1)).length ≤ 16777216 := by
      rw [List.length_take, List.length_drop]; omega
    refine ⟨.tup (R.take (n + 1) ++ kyD k :: R.drop (n + 1)), S2, ?_, p1.trans p2, ⟨trivial, ?_, ?_, ?_⟩, fun e => absurd e (by decide)⟩
    · simp only [List.length_take, List.length_drop] at sz sz2
      simp [m_law_made, b_law_made, d5, hR0, hn, ct1, cd, LINE, sz, sz2, ← e1, e2]
    · intro l e y hy
      injection e with e; subst e
      rcases List.mem_append.mp hy with z | z
      · exact hok _ _ (mt _ _ z)
      · rcases List.mem_cons.mp z with rfl | z
        · exact kok _
        · exact hok _ _ (md _ _ z)
    · intro l e x hk
      injection e with e; subst e
      rcases List.mem_append.mp (List.mem_of_getElem? hk) with z | z
      · exact hhd _ _ (mt _ _ z)
      · rcases List.mem_cons.mp z with rfl | z
        · exact HdS.k _ _
        · exact hhd _ _ (md _ _ z)
    · intro l e
      injection e with e; subst e
      refine nr ?_ ?_
      · rw [List.getElem?_append_left (by rw [List.length_take]; omega), List.getElem?_take_of_lt (by omega)]
      · rw [List.length_append, List.length_cons, List.length_take, List.length_drop]; omega
  · obtain ⟨L, hL⟩ : ∃ L : List D, L = [.ref S.length, .str w, .tup [.tup R], .non, .ref (S.length + 1)] := ⟨_, rfl⟩
    obtain ⟨S', eS⟩ : ∃ S' : Store, S' = S ++ [.lst R, .dK [], .lst L] := ⟨_, rfl⟩
    have pS : Pre S S' := by rw [eS]; exact Pre.app _ _
    have g1 : S'[S.length]? = some (.lst R) := by rw [eS]; exact app_new _ _ _
    have g2 : S'[S.length + 1]? = some (.dK []) := by rw [eS]; simp [get_app]
    have hm : 0 ≤ c / 25 % 5 ∧ c / 25 % 5 < 5 := ⟨Int.emod_nonneg _ (by decide), Int.emod_lt_of_pos _ (by decide)⟩
    have hl' : (c / 25 % 5).toNat < L.length := by rw [hL]; show (c / 25 % 5).toNat < 5; omega
    have e : atI L (c / 25 % 5) = some L[(c / 25 % 5).toNat] := at_nat hm.1 (List.getElem?_eq_getElem hl')
    have hin : L[(c / 25 % 5).toNat] ∈ L := List.getElem_mem hl'
    generalize L[(c / 25 % 5).toNat] = x at *
    have wl : w.length ≤ 1000 := hok S (.str w) (List.mem_of_getElem? hw0)
    have a0 : atI R 0 = some (.str w) := at_of (k := 0) hw0
    have good : ∀ x ∈ L, Bd S' x := by
      intro x hx
      rw [hL] at hx
      simp only [List.mem_cons, List.not_mem_nil, or_false] at hx
      rcases hx with rfl | rfl | rfl | rfl | rfl
      · exact ⟨.inl ⟨_, g1⟩, (fun _ e => by cases e), (fun _ e => by cases e), (fun _ e => by cases e)⟩
      · exact ⟨wl, (fun _ e => by cases e), (fun _ e => by cases e), (fun _ e => by cases e)⟩
      · refine ⟨trivial, ?_, ?_, ?_⟩
        · intro l e y hy
          injection e with e; subst e
          rw [List.mem_singleton.mp hy]; trivial
        · intro l e y hy
          injection e with e; subst e
          rw [← Option.some.inj hy]; exact hR2
        · intro l e
          injection e with e; subst e
          exact hRw
      · exact ⟨trivial, (fun _ e => by cases e), (fun _ e => by cases e), (fun _ e => by cases e)⟩
      · exact ⟨.inr ⟨_, g2⟩, (fun _ e => by cases e), (fun _ e => by cases e), (fun _ e => by cases e)⟩
    refine ⟨x, S', ?_, pS, good x hin, fun e => absurd e (by decide)⟩
    have bl : bList [.tup R] S = .ok (.ref S.length) (S ++ [.lst R]) := bList_q _ rfl
    rw [hL] at e
    subst eS
    simp [m_law_made, b_law_made, d5, d25, hR0, hn, bl, a0, LINE, get_app, get_len, e, hL]
  · obtain ⟨x, S1, e1, p1, o1, hx, nx⟩ := wr n (c / 25) S hnl
    have sz : (R.take n).length + 1 ≤ 16777216 := by
      rw [List.length_take]; omega
    have sz2 : (R.take n).length + 1 + (R.drop (n + 1)).length ≤ 16777216 := by
      rw [List.length_take, List.length_drop]; omega
    refine ⟨.tup (R.take n ++ x :: R.drop (n + 1)), S1, ?_, p1, ⟨trivial, ?_, ?_, ?_⟩, fun _ => ⟨_, rfl⟩⟩
    · simp only [List.length_take, List.length_drop] at sz sz2
      rcases h04 with rfl | rfl
      · simp [m_law_made, b_law_made, d5, d25, hR0, hn, ct, cd, LINE, sz, sz2, e1]
      · simp [m_law_made, b_law_made, d5, d25, hR0, hn, ct, cd, LINE, sz, sz2, e1]
    · intro l e y hy
      injection e with e; subst e
      rcases List.mem_append.mp hy with z | z
      · exact hok _ _ (mt _ _ z)
      · rcases List.mem_cons.mp z with rfl | z
        · exact o1
        · exact hok _ _ (md _ _ z)
    · intro l e y hk
      injection e with e; subst e
      cases n with
      | zero => rw [← Option.some.inj hk]; exact hx rfl
      | succ n =>
        rw [List.getElem?_append_left (by rw [List.length_take]; omega)] at hk
        exact hhd _ _ (mt _ _ (List.mem_of_getElem? hk))
    · intro l e
      injection e with e; subst e
      exact nx
end Lk10

set_option Elab.async false
set_option linter.all false
set_option maxHeartbeats 1000000
namespace Lk10
open Mi
/-! ### the law's own turns -/
theorem Bd.one {S : Store} {x : D} (h : Okd S x) (ht : ∀ l, x ≠ .tup l) : Bd S x :=
  ⟨h, fun l e => absurd e (ht l), fun l e => absurd e (ht l), fun l e => absurd e (ht l)⟩
theorem Bd.good_f {S : Store} {x : D} (h : Bd S x) (hn : ¬ NmB x) : ∃ S', m_law_good [x, .bl false, .bl false] S = .ok (.bl true) S' ∧ Pre S S' := by
  have := h.good
  rw [dec_false hn] at this
  exact this
theorem dec_nmB (t : Tx) : dec (NmB (.str t)) = dec (Nm t) := by
  by_cases h : Nm t
  · rw [dec_true h, dec_true ⟨t, rfl, h⟩]
  · rw [dec_false h, dec_false (nmB_str h)]
theorem good_row {l : List Tx} {r : Row} (h : Gr l r) (hl : ∀ t ∈ l, Nm t) (S : Store) : ∃ S', m_law_good [r.d, .bl false, .bl true] S = .ok (.bl true) S' ∧ Pre S S' := by
  have e1 := is_name_dec r.d S trivial
  rw [dec_false (fun ⟨_, e, _⟩ => by cases e)] at e1
  have e2 := is_row_dec (r.ks.map kyD) S (h.okd hl S) (fun k hk => by
    obtain ⟨q, _, rfl⟩ := List.mem_map.mp (List.mem_of_getElem? hk)
    exact (HdS.k S q).hd)
  rw [dec_true (h.b hl)] at e2
  exact ⟨_, good_ok r.d false true S e1 e2, Pre.app _ _⟩
theorem things_ok (t : Tx) (ht : t.length ≤ 1000) (hk : kOk (.inr t) = true) (a0 a2 a3 a4 a5 a6 a7 a8 a9 : Option D) (S : Store) : ∃ (S' : Store) (y : Option D), sFor (iSeq (mLst (aCons (mC .non) (aCons (mC (.bl true)) (aCons (mC (.int 7)) (aCons (mLst (aCons (mVar 1) aNil)) (aCons (mTup (aCons (mTup (aCons (mVar 1) aNil)) aNil)) (aCons (mNewK) (aCons (mTup (aNil)) (aCons (mLst (aNil)) (aCons (mTup (aCons (mC (.str t_go)) aNil)) (aCons (mTup (aCons (mC (.str t_end)) (aCons (mC (.int 0)) aNil))) (aCons (mC (.str t_say)) (aCons (mC (.str t_go)) (aCons (mC (.str t_part)) (aCons (mC (.str t_end)) aNil)))))))))))))))) (gName 9) (l_law_2) [a0, some (.str t), a2, a3, a4, a5, a6, a7, a8, a9] S = .ok (.nx [a0, some (.str t), a2, a3, a4, a5, a6, a7, a8, y]) S' ∧ Pre S S' := by
  obtain ⟨L, hL⟩ : ∃ L : List D, L = [.non, .bl true, .int 7, .ref S.length, .tup [.tup [.str t]], .ref (S.length + 1), .tup [], .ref (S.length + 2), .tup [.str w_go], .tup [.str w_en, .int 0], .str w_sy, .str w_go, .str w_pt, .str w_en] := ⟨_, rfl⟩
  obtain ⟨S1, e1⟩ : ∃ S1 : Store, S1 = S ++ [.lst [.str t], .dK [], .lst [], .lst L] := ⟨_, rfl⟩
  have p1 : Pre S S1 := by rw [e1]; exact Pre.app _ _
  have g1 : S1[S.length]? = some (.lst [.str t]) := by rw [e1]; exact app_new _ _ _
  have g2 : S1[S.length + 1]? = some (.dK []) := by rw [e1]; simp [get_app]
  have g3 : S1[S.length + 2]? = some (.lst []) := by rw [e1]; simp [get_app]
  have g4 : S1[S.length + 3]? = some (.lst L) := by rw [e1]; simp [get_app]
  have strb : ∀ w : Tx, w.length ≤ 1000 → (w = w_sy ∨ w = w_go ∨ w = w_pt ∨ w = w_en) → Bd S1 (.str w) ∧ ¬ NmB (.str w) := fun w hw hq => ⟨Bd.one hw (fun _ e => by cases e), nmB_str (not_nm (.inr (.inr (.inr hq))))⟩
  have good : ∀ x ∈ L, Bd S1 x ∧ ¬ NmB x := by
    intro x hx
    rw [hL] at hx
    simp only [List.mem_cons, List.not_mem_nil, or_false] at hx
    rcases hx with rfl | rfl | rfl | rfl | rfl | rfl | rfl | rfl | rfl | rfl | rfl | rfl | rfl | rfl
    · exact ⟨Bd.one trivial (fun _ e => by cases e), fun ⟨_, e, _⟩ => by cases e⟩
    · exact ⟨Bd.one trivial (fun _ e => by cases e), fun ⟨_, e, _⟩ => by cases e⟩
    · exact ⟨Bd.one trivial (fun _ e => by cases e), fun ⟨_, e, _⟩ => by cases e⟩
    · exact ⟨Bd.one (.inl ⟨_, g1⟩) (fun _ e => by cases e), fun ⟨_, e, _⟩ => by cases e⟩
    · refine ⟨⟨trivial, ?_, ?_, ?_⟩, fun ⟨_, e, _⟩ => by cases e⟩
      · intro l e y hy
        injection e with e; subst e
        rw [List.mem_singleton.mp hy]; trivial
      · intro l e y hy
        injection e with e; subst e
        rw [← Option.some.inj hy]
        exact ⟨[.inr t], rfl, by simp [hk]⟩
      · intro l e q
        injection e with e; subst e
        obtain ⟨w, e, _⟩ := ari_w q _ rfl
        cases e
    · exact ⟨Bd.one (.inr ⟨_, g2⟩) (fun _ e => by cases e), fun ⟨_, e, _⟩ => by cases e⟩
    · refine ⟨⟨trivial, ?_, ?_, ?_⟩, fun ⟨_, e, _⟩ => by cases e⟩
      · intro l e y hy
        injection e with e; subst e
        cases hy
      · intro l e y hy
        injection e with e; subst e
        cases hy
      · intro l e q
        injection e with e; subst e
        obtain ⟨w, e, _⟩ := q.ari
        cases e
    · exact ⟨Bd.one (.inl ⟨_, g3⟩) (fun _ e => by cases e), fun ⟨_, e, _⟩ => by cases e⟩
    · refine ⟨⟨trivial, ?_, ?_, ?_⟩, fun ⟨_, e, _⟩ => by cases e⟩
      · intro l e y hy
        injection e with e; subst e
        rw [List.mem_singleton.mp hy]; show w_go.length ≤ 1000; decide
      · intro l e y hy
        injection e with e; subst e
        rw [← Option.some.inj hy]; trivial
      · intro l e
        injection e with e; subst e
        exact no_row (r := .go 0) rfl (by decide)
    · refine ⟨⟨trivial, ?_, ?_, ?_⟩, fun ⟨_, e, _⟩ => by cases e⟩
      · intro l e y hy
        injection e with e; subst e
        simp only [List.mem_cons, List.not_mem_nil, or_false] at hy
        rcases hy with rfl | rfl
        · show w_en.length ≤ 1000; decide
        · trivial
      · intro l e y hy
        injection e with e; subst e
        rw [← Option.some.inj hy]; trivial
      · intro l e
        injection e with e; subst e
        exact no_row (r := .en) rfl (by decide)
    · exact strb _ (by decide) (by simp)
    · exact strb _ (by decide) (by simp)
    · exact strb _ (by decide) (by simp)
    · exact strb _ (by decide) (by simp)
  obtain ⟨fr', S2, e2, y, rfl, p2⟩ := loop_inv (hs := [(S.length + 3, L)]) (turn := turnM (gName 9) l_law_2)
    (fun i fr S' => ∃ (y : Option D), fr = [a0, some (.str t), a2, a3, a4, a5, a6, a7, a8, y] ∧ Pre S1 S')
    L 0 [a0, some (.str t), a2, a3, a4, a5, a6, a7, a8, a9] S1 ⟨_, rfl, Pre.refl _⟩
    (by
      rintro i fr S' ⟨x, rfl, pr⟩
      exact stands_one (lst_of (pr.get g4)))
    (by
      rintro i d fr S' hd ⟨x, rfl, pr⟩
      obtain ⟨b, n⟩ := good d (List.mem_of_getElem? hd)
      obtain ⟨S3, e3, p3⟩ := (b.mono pr).good_f n
      exact ⟨[a0, some (.str t), a2, a3, a4, a5, a6, a7, a8, some d], S3, .inl (by simp [turnM_s, l_law_2, e3]), _, rfl, pr.trans p3⟩)
  refine ⟨S2, y, ?_, p1.trans p2⟩
  rw [hL] at e1 e2
  have e1' := e1
  simp [get_len, LINE] at e1' ⊢
  rw [← e1', e2]
end Lk10

set_option Elab.async false
set_option linter.all false
set_option maxHeartbeats 1000000
namespace Lk10
open Mi
theorem turn_ok (t : Tx) (ht : t.length ≤ 10) (hk : kOk (.inr t) = true) (l : List Tx) (r : Row) (hg : Gr l r) (hl : ∀ t ∈ l, Nm t) (way : Int) (hw : 0 ≤ way ∧ way < 5) (bad : D) (a0 a2 a3 a5 a8 a9 : Option D) (S : Store) (hb : Bd S bad) (h4 : way = 4 → ∃ l, bad = .tup l) : ∃ (S' : Store) (y : Option D), l_law_3 [a0, some (.str t), a2, a3, some r.d, a5, some (.int way), some bad, a8, a9] S = .ok (.nx [a0, some (.str t), a2, a3, some r.d, a5, some (.int way), some bad, a8, y]) S' ∧ Pre S S' := by
  have ht' : t.length ≤ 1000 := by omega
  have q1 := due_ok t S ht'
  obtain ⟨S1, e1, p1⟩ := (Bd.one (S := S) (x := .str t) ht' (fun _ e => by cases e)).good
  rw [dec_nmB] at e1
  obtain ⟨S2, e2, p2⟩ := good_row hg hl S1
  have hb2 := hb.mono (p1.trans p2)
  obtain ⟨S3, e3, p3⟩ := hb2.good
  obtain ⟨S4, y, e4, p4⟩ := things_ok t ht' hk a0 a2 a3 (some r.d) a5 (some (.int way)) (some bad) a8 a9 S3
  obtain ⟨S4', y', e4', p4'⟩ := things_ok t ht' hk a0 a2 a3 (some r.d) a5 (some (.int way)) (some bad) a8 a9 S2
  have fin : ∀ S : Store, ∃ S5 S6, m_law_good [.str t_abcdefgh, .bl true, .bl false] S = .ok (.bl true) S5 ∧ Pre S S5 ∧ m_law_good [.tup [.str w_en], .bl false, .bl true] S5 = .ok (.bl true) S6 ∧ Pre S5 S6 := fun S => by
    obtain ⟨S5, e5, p5⟩ := (Bd.one (S := S) (x := .str t_abcdefgh) (show t_abcdefgh.length ≤ 1000 by decide) (fun _ e => by cases e)).good
    rw [dec_nmB, dec_true (show Nm t_abcdefgh from ⟨by decide, by decide, ⟨97, rfl, by decide⟩, by decide, by decide⟩)] at e5
    obtain ⟨S6, e6, p6⟩ := good_row (l := []) (r := .en) ⟨trivial, (fun _ e => by cases e), (fun _ _ e => by cases e)⟩ (fun _ h => by cases h) S5
    exact ⟨S5, S6, e5, p5, e6, p6⟩
  by_cases hw0 : way = 0
  · subst hw0
    obtain ⟨S5, S6, e5, p5, e6, p6⟩ := fin S4'
    refine ⟨S6, y', ?_, p1.trans (p2.trans (p4'.trans (p5.trans p6)))⟩
    simp [LINE, get_len] at e4'
    simp [l_law_3, q1, e1, e2, LINE, get_len]
    rw [e4']
    simp [e5, e6, LINE]
  · obtain ⟨S5, S6, e5, p5, e6, p6⟩ := fin S4
    have pp := p1.trans (p2.trans (p3.trans (p4.trans (p5.trans p6))))
    by_cases hw4 : way = 4
    · obtain ⟨L, hL⟩ := h4 hw4
      subst hw4
      rw [dec_false (show ¬ NmB bad from fun ⟨_, e, _⟩ => by rw [hL] at e; cases e)] at e3
      refine ⟨S6, y, ?_, pp⟩
      simp [LINE, get_len] at e4
      simp [l_law_3, q1, e1, e2, e3, LINE, get_len]
      rw [e4]
      simp [e5, e6, LINE]
    · have w0 : 0 < way := by omega
      have w4 : way < 4 := by omega
      have is := isStr_dec bad S2 hb2.ok
      refine ⟨S6, y, ?_, pp⟩
      by_cases hs : ∃ u, bad = .str u
      · obtain ⟨u, rfl⟩ := hs
        have q2 := due_ok u S2 hb2.ok
        rw [dec_nmB] at e3
        simp [LINE, get_len] at e4
        simp [l_law_3, q1, e1, e2, w0, w4, hw4, q2, e3, LINE, get_len]
        rw [e4]
        simp [e5, e6, LINE]
      · rw [dec_false hs] at is
        rw [dec_false (show ¬ NmB bad from fun ⟨u, e, _⟩ => hs ⟨u, e⟩)] at e3
        simp [LINE, get_len] at e4
        simp [-bIsI_s, l_law_3, q1, e1, e2, w0, w4, hw4, is, e3, LINE, get_len]
        rw [e4]
        simp [e5, e6, LINE]
theorem law_pure (ns : List Int) (hn : ns.length ≤ 63) : ∃ S, m_law [.ref 0] [.fls (ns.map .int)] = .ok (.bl true) S := by
  obtain ⟨S0, e0⟩ : ∃ S : Store, S = [.fls (ns.map .int)] := ⟨_, rfl⟩
  have s00 : S0[0]? = some (.fls (ns.map .int)) := by rw [e0]; rfl
  rw [← e0]
  obtain ⟨t, S1, e1, p1, ht, hk⟩ := text_ok s00
  have s10 := p1.get s00
  obtain ⟨v1, c1⟩ := cell_ok s10 1
  obtain ⟨l, m, S2, en, p2, hm, gm, hl5, hnm⟩ := names_ok v1 5 S1 (by decide)
  have s20 := p2.get s10
  obtain ⟨v2, c2⟩ := cell_ok s20 2
  obtain ⟨xs, S3, e3, p3, g3, hxl, hx⟩ := lc_rel (vs := [5]) (g := gName 5) (e := e_law_1) (fr := [some (.ref 0), some (.str t), some (.ref m), some (.int (v2 % 6)), none, none, none, none, none, none]) (l := rng 0 4) (hs := []) (S := S2) (fun _ x => ∃ k : Int, x = .int k ∧ True) (fun _ h => by cases h) (by rw [rng_len]; decide) (by
    intro d hd S' pr
    obtain ⟨i, hi⟩ := List.getElem?_of_mem hd
    obtain ⟨hlt, rfl⟩ := rng_at hi
    obtain ⟨v, cv⟩ := cell_ok (pr.get s20) (3 + i)
    rw [show ((3 + i : Nat) : Int) = 3 + (i : Int) by omega] at cv
    have e0 : (0 : Int) + (i : Int) = (i : Int) := by omega
    exact ⟨_, S', rfl, .int v, by simp [e_law_1, unset, e0, cv, LINE], Pre.refl _, v, rfl, trivial⟩)
  obtain ⟨cs, rfl, hcl, _⟩ := of_rel (f := D.int) (Q := fun _ => True) hxl hx
  rw [rng_len] at hcl
  match cs, hcl with
  | [a, b, c, d], _ =>
    have s30 := p3.get s20
    obtain ⟨r, S4, e4, p4, hg, hkd⟩ := row_ok10 (v2 % 6) S2.length m a b c d l S3 ⟨Int.emod_nonneg _ (by decide), Int.emod_lt_of_pos _ (by decide)⟩ g3 (p3.get gm) (by omega)
    have s40 := p4.get s30
    obtain ⟨v2', c2'⟩ := cell_ok s40 2
    obtain ⟨v7, c7⟩ := cell_ok s40 7
    obtain ⟨bad, S5, e5, p5, hb, hb4⟩ := made_ok r l (v2' / 6 % 5) v7 S4 hg hnm ⟨Int.emod_nonneg _ (by decide), Int.emod_lt_of_pos _ (by decide)⟩
    rw [hkd] at e5
    obtain ⟨fr', S6, e6, x, y, rfl, p6⟩ := loop_inv (hs := []) (turn := turnM (gName 8) l_law_3)
      (fun i fr S' => ∃ (x y : Option D), fr = [some (.ref 0), some (.str t), some (.ref m), some (.int (v2 % 6)), some r.d, none, some (.int (v2' / 6 % 5)), some bad, x, y] ∧ Pre S5 S')
      (rng 0 2) 0 [some (.ref 0), some (.str t), some (.ref m), some (.int (v2 % 6)), some r.d, none, some (.int (v2' / 6 % 5)), some bad, none, none] S5 ⟨_, _, rfl, Pre.refl _⟩
      (fun _ _ S _ => stands_nil S)
      (by
        rintro i d fr S' hd ⟨x, y, rfl, pr⟩
        obtain ⟨S7, y', e7, p7⟩ := turn_ok t ht hk l r hg hnm (v2' / 6 % 5) ⟨Int.emod_nonneg _ (by decide), Int.emod_lt_of_pos _ (by decide)⟩ bad (some (.ref 0)) (some (.ref m)) (some (.int (v2 % 6))) none (some d) y S' (hb.mono pr) hb4
        exact ⟨[some (.ref 0), some (.str t), some (.ref m), some (.int (v2 % 6)), some r.d, none, some (.int (v2' / 6 % 5)), some bad, some d, y'], S7, .inl (by simp [turnM_s, e7]), some d, y', rfl, pr.trans p7⟩)
    refine ⟨S6, ?_⟩
    have c1' : m_law_cell [.ref 0, .int 1] S1 = .ok (.int v1) S1 := c1
    have c2a : m_law_cell [.ref 0, .int 2] S2 = .ok (.int v2) S2 := c2
    have c2b : m_law_cell [.ref 0, .int 2] S4 = .ok (.int v2') S4 := c2'
    have c7' : m_law_cell [.ref 0, .int 7] S4 = .ok (.int v7) S4 := c7
    have en' : m_law_names [.int v1, .int 5] S1 = .ok (.ref m) S2 := en
    have f4 : far 4 := by unfold far; omega
    have f2 : far 2 := by unfold far; omega
    have d6 : divOk 6 := div_ok (by decide) (by decide)
    simp [m_law, b_law, e1, c1', en', c2a, LINE, f4]
    rw [e3]
    simp [e4, c2b, d6, e5, c7', LINE, f2]
    rw [e6]
    simp
end Lk10

set_option Elab.async false
set_option linter.all false
set_option maxRecDepth 100000
set_option maxHeartbeats 4000000
/-! that the text is these steps (printed by gen.py) -/
namespace Lk10
open PySem PySem.Spec PyProof.Rows L2 Mi Sm
def topS (i : Nat) : Stmt := PySem.Challenge.pw_lazyhoist_k10_names_and_rows.main.body.getD i (.Pass ⟨0, 0, 0, 0⟩)
theorem q_x0_abcdefghijkl : ("abcdefghijklmnopqrstuvwxyz" : Str) = sOf t_x0_abcdefghijkl := by decide +kernel
theorem q_x1_0123456789 : ("0123456789" : Str) = sOf t_x1_0123456789 := by decide +kernel
theorem q_reckon : ("reckon" : Str) = sOf t_reckon := by decide +kernel
theorem q_copy : ("copy" : Str) = sOf t_copy := by decide +kernel
theorem q_say : ("say" : Str) = sOf t_say := by decide +kernel
theorem q_go : ("go" : Str) = sOf t_go := by decide +kernel
theorem q_part : ("part" : Str) = sOf t_part := by decide +kernel
theorem q_end : ("end" : Str) = sOf t_end := by decide +kernel
theorem q_x8_abcdefghijkl : ("abcdefghijklmnopqrstuvwxyz0123456789" : Str) = sOf t_x8_abcdefghijkl := by decide +kernel
theorem q_x9_ : ("" : Str) = sOf t_x9_ := by decide +kernel
theorem q_x10_0 : ("0" : Str) = sOf t_x10_0 := by decide +kernel
theorem q_x11_0123456789ab : ("!\"#$&'()*+,-./0123456789:;<=>?@ABCDEFGHIJKLMNOPQRSTUVWXYZ[\\]^_`abcdefghijklmnopqrstuvwxyz{|}~ \n" : Str) = sOf t_x11_0123456789ab := by decide +kernel
theorem q_abcdefghi : ("abcdefghi" : Str) = sOf t_abcdefghi := by decide +kernel
theorem q_x13_9a : ("9a" : Str) = sOf t_x13_9a := by decide +kernel
theorem q_x14_a : ("A" : Str) = sOf t_x14_a := by decide +kernel
theorem q_a : ("a" : Str) = sOf t_a := by decide +kernel
theorem q_x16_ : ("+-*&|^<=" : Str) = sOf t_x16_ := by decide +kernel
theorem q_s : ("s" : Str) = sOf t_s := by decide +kernel
theorem q_x18_ : ("+" : Str) = sOf t_x18_ := by decide +kernel
theorem q_x19_ : (">" : Str) = sOf t_x19_ := by decide +kernel
theorem q_x20_ : ("+-" : Str) = sOf t_x20_ := by decide +kernel
theorem q_x21_ : ("**" : Str) = sOf t_x21_ := by decide +kernel
theorem q_x22_ : ("/" : Str) = sOf t_x22_ := by decide +kernel
theorem q_abcdefgh : ("abcdefgh" : Str) = sOf t_abcdefgh := by decide +kernel
theorem q_x24_ : ("-" : Str) = sOf t_x24_ := by decide +kernel
theorem q_x25_ : ("*" : Str) = sOf t_x25_ := by decide +kernel
theorem q_x26_ : ("&" : Str) = sOf t_x26_ := by decide +kernel
theorem q_x27_ : ("|" : Str) = sOf t_x27_ := by decide +kernel
theorem q_x28_ : ("^" : Str) = sOf t_x28_ := by decide +kernel
theorem q_x29_ : ("<" : Str) = sOf t_x29_ := by decide +kernel
theorem q_x30_ : ("=" : Str) = sOf t_x30_ := by decide +kernel
abbrev s_is_name : Stmt := topS 7
abbrev n_is_name : List Str := ["thing", "sign"]
theorem sc_is_name : FnScope n_is_name ["thing"] (defScope s_is_name) := ⟨rfl, rfl, rfl, by decide +kernel, rfl, by decide +kernel, by decide +kernel⟩
abbrev s_is_whole_number : Stmt := topS 8
abbrev n_is_whole_number : List Str := ["thing"]
theorem sc_is_whole_number : FnScope n_is_whole_number ["thing"] (defScope s_is_whole_number) := ⟨rfl, rfl, rfl, by decide +kernel, rfl, by decide +kernel, by decide +kernel⟩
abbrev s_is_worth : Stmt := topS 9
abbrev n_is_worth : List Str := ["thing"]
theorem sc_is_worth : FnScope n_is_worth ["thing"] (defScope s_is_worth) := ⟨rfl, rfl, rfl, by decide +kernel, rfl, by decide +kernel, by decide +kernel⟩
abbrev s_is_operand : Stmt := topS 10
abbrev n_is_operand : List Str := ["thing"]
theorem sc_is_operand : FnScope n_is_operand ["thing"] (defScope s_is_operand) := ⟨rfl, rfl, rfl, by decide +kernel, rfl, by decide +kernel, by decide +kernel⟩
abbrev s_is_row : Stmt := topS 11
abbrev n_is_row : List Str := ["thing", "kind"]
theorem sc_is_row : FnScope n_is_row ["thing"] (defScope s_is_row) := ⟨rfl, rfl, rfl, by decide +kernel, rfl, by decide +kernel, by decide +kernel⟩
abbrev s_law_cell : Stmt := topS 13
abbrev n_law_cell : List Str := ["_law_script", "_law_k", "_law_many"]
theorem sc_law_cell : FnScope n_law_cell ["_law_script", "_law_k"] (defScope s_law_cell) := ⟨rfl, rfl, rfl, by decide +kernel, rfl, by decide +kernel, by decide +kernel⟩
abbrev s_law_names : Stmt := topS 14
abbrev n_law_names : List Str := ["_law_cell_here", "_law_many", "_law_signs", "_law_size", "_law_spot", "_law_some", "_law_j", "_law_found", "_law_k", "_law_name"]
theorem sc_law_names : FnScope n_law_names ["_law_cell_here", "_law_many"] (defScope s_law_names) := ⟨rfl, rfl, rfl, by decide +kernel, rfl, by decide +kernel, by decide +kernel⟩
abbrev s_law_any_sign : Stmt := topS 15
abbrev n_law_any_sign : List Str := ["_law_cell_here", "_law_signs"]
theorem sc_law_any_sign : FnScope n_law_any_sign ["_law_cell_here"] (defScope s_law_any_sign) := ⟨rfl, rfl, rfl, by decide +kernel, rfl, by decide +kernel, by decide +kernel⟩
abbrev s_law_text : Stmt := topS 16
abbrev n_law_text : List Str := ["_law_script", "_law_signs", "_law_cell_here", "_law_some", "_law_k"]
theorem sc_law_text : FnScope n_law_text ["_law_script"] (defScope s_law_text) := ⟨rfl, rfl, rfl, by decide +kernel, rfl, by decide +kernel, by decide +kernel⟩
abbrev s_law_due_name : Stmt := topS 17
abbrev n_law_due_name : List Str := ["_law_text_here", "_law_sign"]
theorem sc_law_due_name : FnScope n_law_due_name ["_law_text_here"] (defScope s_law_due_name) := ⟨rfl, rfl, rfl, by decide +kernel, rfl, by decide +kernel, by decide +kernel⟩
abbrev s_law_operand : Stmt := topS 18
abbrev n_law_operand : List Str := ["_law_cell_here", "_law_names_here", "_law_some"]
theorem sc_law_operand : FnScope n_law_operand ["_law_cell_here", "_law_names_here"] (defScope s_law_operand) := ⟨rfl, rfl, rfl, by decide +kernel, rfl, by decide +kernel, by decide +kernel⟩
abbrev s_law_no_operand : Stmt := topS 19
abbrev n_law_no_operand : List Str := ["_law_cell_here", "_law_far", "_law_some"]
theorem sc_law_no_operand : FnScope n_law_no_operand ["_law_cell_here"] (defScope s_law_no_operand) := ⟨rfl, rfl, rfl, by decide +kernel, rfl, by decide +kernel, by decide +kernel⟩
abbrev s_law_row : Stmt := topS 20
abbrev n_law_row : List Str := ["_law_kind", "_law_cells", "_law_names_here", "_law_x", "_law_one", "_law_other"]
theorem sc_law_row : FnScope n_law_row ["_law_kind", "_law_cells", "_law_names_here"] (defScope s_law_row) := ⟨rfl, rfl, rfl, by decide +kernel, rfl, by decide +kernel, by decide +kernel⟩
abbrev s_law_wrong : Stmt := topS 21
abbrev n_law_wrong : List Str := ["_law_kind", "_law_spot", "_law_cell_here", "_law_word"]
theorem sc_law_wrong : FnScope n_law_wrong ["_law_kind", "_law_spot", "_law_cell_here"] (defScope s_law_wrong) := ⟨rfl, rfl, rfl, by decide +kernel, rfl, by decide +kernel, by decide +kernel⟩
abbrev s_law_made : Stmt := topS 22
abbrev n_law_made : List Str := ["_law_row_here", "_law_kind", "_law_way", "_law_cell_here", "_law_spot"]
theorem sc_law_made : FnScope n_law_made ["_law_row_here", "_law_kind", "_law_way", "_law_cell_here"] (defScope s_law_made) := ⟨rfl, rfl, rfl, by decide +kernel, rfl, by decide +kernel, by decide +kernel⟩
abbrev s_law_good : Stmt := topS 23
abbrev n_law_good : List Str := ["_law_thing", "_law_name", "_law_row_here", "_law_one", "_law_other"]
theorem sc_law_good : FnScope n_law_good ["_law_thing", "_law_name", "_law_row_here"] (defScope s_law_good) := ⟨rfl, rfl, rfl, by decide +kernel, rfl, by decide +kernel, by decide +kernel⟩
abbrev s_law : Stmt := topS 24
abbrev n_law : List Str := ["_law_script", "_law_text_here", "_law_names_here", "_law_kind", "_law_row_here", "_law_k", "_law_way", "_law_bad", "_law_turn", "_law_thing"]
theorem sc_law : FnScope n_law ["_law_script"] (defScope s_law) := ⟨rfl, rfl, rfl, by decide +kernel, rfl, by decide +kernel, by decide +kernel⟩
theorem bo_abs : bootBuiltins "abs" = some (.builtin "abs") := by decide +kernel
theorem bo_bool : bootBuiltins "bool" = some (.type "bool") := by decide +kernel
theorem bo_int : bootBuiltins "int" = some (.type "int") := by decide +kernel
theorem bo_isinstance : bootBuiltins "isinstance" = some (.builtin "isinstance") := by decide +kernel
theorem bo_len : bootBuiltins "len" = some (.builtin "len") := by decide +kernel
theorem bo_list : bootBuiltins "list" = some (.type "list") := by decide +kernel
theorem bo_range : bootBuiltins "range" = some (.type "range") := by decide +kernel
theorem bo_str : bootBuiltins "str" = some (.type "str") := by decide +kernel
theorem bo_tuple : bootBuiltins "tuple" = some (.type "tuple") := by decide +kernel
structure Txt (K : PySem.W.Frag) (mg : Str → Option Value) where
  f_is_name : Addr
  fd_is_name : FuncData
  F_is_name : Fun K "is_name" "is_name" s_is_name f_is_name fd_is_name
  g_is_name : mg "is_name" = some (.ref f_is_name)
  b_is_name : Binds K fd_is_name ["thing"] []
  f_is_whole_number : Addr
  fd_is_whole_number : FuncData
  F_is_whole_number : Fun K "is_whole_number" "is_whole_number" s_is_whole_number f_is_whole_number fd_is_whole_number
  g_is_whole_number : mg "is_whole_number" = some (.ref f_is_whole_number)
  b_is_whole_number : Binds K fd_is_whole_number ["thing"] []
  f_is_worth : Addr
  fd_is_worth : FuncData
  F_is_worth : Fun K "is_worth" "is_worth" s_is_worth f_is_worth fd_is_worth
  g_is_worth : mg "is_worth" = some (.ref f_is_worth)
  b_is_worth : Binds K fd_is_worth ["thing"] []
  f_is_operand : Addr
  fd_is_operand : FuncData
  F_is_operand : Fun K "is_operand" "is_operand" s_is_operand f_is_operand fd_is_operand
  g_is_operand : mg "is_operand" = some (.ref f_is_operand)
  b_is_operand : Binds K fd_is_operand ["thing"] []
  f_is_row : Addr
  fd_is_row : FuncData
  F_is_row : Fun K "is_row" "is_row" s_is_row f_is_row fd_is_row
  g_is_row : mg "is_row" = some (.ref f_is_row)
  b_is_row : Binds K fd_is_row ["thing"] []
  f_law_cell : Addr
  fd_law_cell : FuncData
  F_law_cell : Fun K "_law_cell" "_law_cell" s_law_cell f_law_cell fd_law_cell
  g_law_cell : mg "_law_cell" = some (.ref f_law_cell)
  b_law_cell : Binds K fd_law_cell ["_law_script", "_law_k"] []
  f_law_names : Addr
  fd_law_names : FuncData
  F_law_names : Fun K "_law_names" "_law_names" s_law_names f_law_names fd_law_names
  g_law_names : mg "_law_names" = some (.ref f_law_names)
  b_law_names : Binds K fd_law_names ["_law_cell_here", "_law_many"] []
  f_law_any_sign : Addr
  fd_law_any_sign : FuncData
  F_law_any_sign : Fun K "_law_any_sign" "_law_any_sign" s_law_any_sign f_law_any_sign fd_law_any_sign
  g_law_any_sign : mg "_law_any_sign" = some (.ref f_law_any_sign)
  b_law_any_sign : Binds K fd_law_any_sign ["_law_cell_here"] []
  f_law_text : Addr
  fd_law_text : FuncData
  F_law_text : Fun K "_law_text" "_law_text" s_law_text f_law_text fd_law_text
  g_law_text : mg "_law_text" = some (.ref f_law_text)
  b_law_text : Binds K fd_law_text ["_law_script"] []
  f_law_due_name : Addr
  fd_law_due_name : FuncData
  F_law_due_name : Fun K "_law_due_name" "_law_due_name" s_law_due_name f_law_due_name fd_law_due_name
  g_law_due_name : mg "_law_due_name" = some (.ref f_law_due_name)
  b_law_due_name : Binds K fd_law_due_name ["_law_text_here"] []
  f_law_operand : Addr
  fd_law_operand : FuncData
  F_law_operand : Fun K "_law_operand" "_law_operand" s_law_operand f_law_operand fd_law_operand
  g_law_operand : mg "_law_operand" = some (.ref f_law_operand)
  b_law_operand : Binds K fd_law_operand ["_law_cell_here", "_law_names_here"] []
  f_law_no_operand : Addr
  fd_law_no_operand : FuncData
  F_law_no_operand : Fun K "_law_no_operand" "_law_no_operand" s_law_no_operand f_law_no_operand fd_law_no_operand
  g_law_no_operand : mg "_law_no_operand" = some (.ref f_law_no_operand)
  b_law_no_operand : Binds K fd_law_no_operand ["_law_cell_here"] []
  f_law_row : Addr
  fd_law_row : FuncData
  F_law_row : Fun K "_law_row" "_law_row" s_law_row f_law_row fd_law_row
  g_law_row : mg "_law_row" = some (.ref f_law_row)
  b_law_row : Binds K fd_law_row ["_law_kind", "_law_cells", "_law_names_here"] []
  f_law_wrong : Addr
  fd_law_wrong : FuncData
  F_law_wrong : Fun K "_law_wrong" "_law_wrong" s_law_wrong f_law_wrong fd_law_wrong
  g_law_wrong : mg "_law_wrong" = some (.ref f_law_wrong)
  b_law_wrong : Binds K fd_law_wrong ["_law_kind", "_law_spot", "_law_cell_here"] []
  f_law_made : Addr
  fd_law_made : FuncData
  F_law_made : Fun K "_law_made" "_law_made" s_law_made f_law_made fd_law_made
  g_law_made : mg "_law_made" = some (.ref f_law_made)
  b_law_made : Binds K fd_law_made ["_law_row_here", "_law_kind", "_law_way", "_law_cell_here"] []
  f_law_good : Addr
  fd_law_good : FuncData
  F_law_good : Fun K "_law_good" "_law_good" s_law_good f_law_good fd_law_good
  g_law_good : mg "_law_good" = some (.ref f_law_good)
  b_law_good : Binds K fd_law_good ["_law_thing", "_law_name", "_law_row_here"] []
  f_law : Addr
  fd_law : FuncData
  F_law : Fun K "law" "law" s_law f_law fd_law
  g_law : mg "law" = some (.ref f_law)
  b_law : Binds K fd_law ["_law_script"] []
  z_abs : mg "abs" = none
  z_bool : mg "bool" = none
  z_int : mg "int" = none
  z_isinstance : mg "isinstance" = none
  z_len : mg "len" = none
  z_list : mg "list" = none
  z_range : mg "range" = none
  z_str : mg "str" = none
  z_tuple : mg "tuple" = none
  tk_FIGURES : Tok
  g_FIGURES : mg "FIGURES" = some (.str "0123456789" tk_FIGURES)
  tk_LETTERS : Tok
  g_LETTERS : mg "LETTERS" = some (.str "abcdefghijklmnopqrstuvwxyz" tk_LETTERS)
  tk_LONGEST : Tok
  g_LONGEST : mg "LONGEST" = some (.int 8 tk_LONGEST)
  a_SIGNS : Addr
  xs_SIGNS : List V
  g_SIGNS : mg "SIGNS" = some (.ref a_SIGNS)
  k_SIGNS : SqT K H0 a_SIGNS xs_SIGNS
  r_SIGNS : RelL K H0 [] w_SIGNS xs_SIGNS
  a_TAKEN : Addr
  xs_TAKEN : List V
  g_TAKEN : mg "TAKEN" = some (.ref a_TAKEN)
  k_TAKEN : SqT K H0 a_TAKEN xs_TAKEN
  r_TAKEN : RelL K H0 [] w_TAKEN xs_TAKEN
  tk_WORTHS : Tok
  g_WORTHS : mg "WORTHS" = some (.int 18446744073709551616 tk_WORTHS)
section
variable {P : Program} {w : World} {K : PySem.W.Frag} {mg : Str → Option Value} {base : Heap}
theorem ok_is_name (T : Txt K mg) : FnOk P w K mg base CX0 1 T.f_is_name T.fd_is_name ["thing"] (spM ⟨K, mg⟩ m_is_name) :=
  fn_ok (N := n_is_name) (b := b_is_name) T.F_is_name sc_is_name fun cdv A outer s H E hr =>
    (sss_cons (ss_if (st_w (sw_or (st_not (st_tru (se_isi .str (by rfl) T.z_isinstance (by rfl) T.z_str PyProof.Rows.boot_str (se_var 0)))) (sw_or (st_not (st_chain om_le om_le se_int (se_callB cm_len (by rfl) T.z_len bo_len (sa_cons (se_var 0) sa_nil)) (se_gint (by rfl) T.g_LONGEST))) (sw_or1 (st_cmp (om_in (hu65 hr)) (se_var 0) (se_gtup (by rfl) T.g_TAKEN T.k_TAKEN T.r_TAKEN) rfl))))) (sss_one (ss_ret se_bl)) sss_nil) (sss_cons (ss_for PassesOwn.never rfl (si_str (se_var 0)) (sg_name (i := 1) sc_is_name.nd rfl (by first | exact Or.inl rfl | exact Or.inr rfl)) (sss_one (ss_if (st_w (sw_and (st_cmp (om_notin (hu65 hr)) (se_var 1) (se_gstr (by rfl) T.g_LETTERS q_x0_abcdefghijkl) rfl) (sw_and1 (st_cmp (om_notin (hu65 hr)) (se_var 1) (se_gstr (by rfl) T.g_FIGURES q_x1_0123456789) rfl)))) (sss_one (ss_ret se_bl)) sss_nil))) (sss_one (ss_ret (se_cmp (om_in (hu65 hr)) (se_ix (im_ix (hu65 hr)) (se_var 0) se_int (fun _ _ => rfl)) (se_gstr (by rfl) T.g_LETTERS q_x0_abcdefghijkl) rfl)))))
theorem ok_is_whole_number (T : Txt K mg) : FnOk P w K mg base CX0 1 T.f_is_whole_number T.fd_is_whole_number ["thing"] (spM ⟨K, mg⟩ m_is_whole_number) :=
  fn_ok (N := n_is_whole_number) (b := b_is_whole_number) T.F_is_whole_number sc_is_whole_number fun cdv A outer s H E hr =>
    (sss_one (ss_ret (se_and (se_isi .int (by rfl) T.z_isinstance (by rfl) T.z_int PyProof.Rows.boot_int (se_var 0)) (se_and (se_not (se_isi .bool (by rfl) T.z_isinstance (by rfl) T.z_bool PyProof.Rows.boot_bool (se_var 0))) (se_one (se_cmp om_ge (se_var 0) se_int (nomark _)))))))
theorem ok_is_worth (T : Txt K mg) : FnOk P w K mg base CX0 2 T.f_is_worth T.fd_is_worth ["thing"] (spM ⟨K, mg⟩ m_is_worth) :=
  fn_ok (N := n_is_worth) (b := b_is_worth) T.F_is_worth sc_is_worth fun cdv A outer s H E hr =>
    (sss_one (ss_ret (se_and (se_call (ok_is_whole_number T) (hr.mono (by decide)) (by rfl) T.g_is_whole_number T.F_is_whole_number.kp T.b_is_whole_number pass0 (sa_cons (se_var 0) sa_nil)) (se_one (se_cmp om_lt (se_var 0) (se_gint (by rfl) T.g_WORTHS) (nomark _))))))
theorem ok_is_operand (T : Txt K mg) : FnOk P w K mg base CX0 3 T.f_is_operand T.fd_is_operand ["thing"] (spM ⟨K, mg⟩ m_is_operand) :=
  fn_ok (N := n_is_operand) (b := b_is_operand) T.F_is_operand sc_is_operand fun cdv A outer s H E hr =>
    (sss_one (ss_ret (se_or (se_call (ok_is_name T) (hr.mono (by decide)) (by rfl) T.g_is_name T.F_is_name.kp T.b_is_name pass0 (sa_cons (se_var 0) sa_nil)) (se_one (se_call (ok_is_worth T) (hr.mono (by decide)) (by rfl) T.g_is_worth T.F_is_worth.kp T.b_is_worth pass0 (sa_cons (se_var 0) sa_nil))))))
theorem ok_is_row (T : Txt K mg) : FnOk P w K mg base CX0 4 T.f_is_row T.fd_is_row ["thing"] (spM ⟨K, mg⟩ m_is_row) :=
  fn_ok (N := n_is_row) (b := b_is_row) T.F_is_row sc_is_row fun cdv A outer s H E hr =>
    (sss_cons (ss_if (st_w (sw_or (st_not (st_tru (se_isi .tuple (by rfl) T.z_isinstance (by rfl) T.z_tuple PyProof.Rows.boot_tuple (se_var 0)))) (sw_or1 (st_cmp (om_eqX (hu65 hr)) (se_callB cm_len (by rfl) T.z_len bo_len (sa_cons (se_var 0) sa_nil)) se_int (nomark _))))) (sss_one (ss_ret se_bl)) sss_nil) (sss_cons (ss_set (i := 1) sc_is_row.nd rfl (by first | exact Or.inl rfl | exact Or.inr rfl) (se_ix (im_ix (hu65 hr)) (se_var 0) se_int (fun _ _ => rfl))) (sss_cons (ss_if (st_cmp (om_eqX (hu65 hr)) (se_var 1) (se_str q_reckon) (nomark _)) (sss_cons (ss_if (st_w (sw_or (st_cmp (om_ne (hu65 hr)) (se_callB cm_len (by rfl) T.z_len bo_len (sa_cons (se_var 0) sa_nil)) se_int (nomark _)) (sw_or (st_not (st_tru (se_isi .str (by rfl) T.z_isinstance (by rfl) T.z_str PyProof.Rows.boot_str (se_ix (im_ix (hu65 hr)) (se_var 0) se_int (fun _ _ => rfl))))) (sw_or1 (st_cmp (om_notin (hu65 hr)) (se_ix (im_ix (hu65 hr)) (se_var 0) se_int (fun _ _ => rfl)) (se_gtup (by rfl) T.g_SIGNS T.k_SIGNS T.r_SIGNS) rfl))))) (sss_one (ss_ret se_bl)) sss_nil) (sss_one (ss_ret (se_and (se_call (ok_is_name T) (hr.mono (by decide)) (by rfl) T.g_is_name T.F_is_name.kp T.b_is_name pass0 (sa_cons (se_ix (im_ix (hu65 hr)) (se_var 0) se_int (fun _ _ => rfl)) sa_nil)) (se_and (se_call (ok_is_operand T) (hr.mono (by decide)) (by rfl) T.g_is_operand T.F_is_operand.kp T.b_is_operand pass0 (sa_cons (se_ix (im_ix (hu65 hr)) (se_var 0) se_int (fun _ _ => rfl)) sa_nil)) (se_one (se_call (ok_is_operand T) (hr.mono (by decide)) (by rfl) T.g_is_operand T.F_is_operand.kp T.b_is_operand pass0 (sa_cons (se_ix (im_ix (hu65 hr)) (se_var 0) se_int (fun _ _ => rfl)) sa_nil)))))))) sss_nil) (sss_cons (ss_if (st_cmp (om_eqX (hu65 hr)) (se_var 1) (se_str q_copy) (nomark _)) (sss_one (ss_ret (se_and (se_cmp (om_eqX (hu65 hr)) (se_callB cm_len (by rfl) T.z_len bo_len (sa_cons (se_var 0) sa_nil)) se_int (nomark _)) (se_and (se_call (ok_is_name T) (hr.mono (by decide)) (by rfl) T.g_is_name T.F_is_name.kp T.b_is_name pass0 (sa_cons (se_ix (im_ix (hu65 hr)) (se_var 0) se_int (fun _ _ => rfl)) sa_nil)) (se_one (se_call (ok_is_operand T) (hr.mono (by decide)) (by rfl) T.g_is_operand T.F_is_operand.kp T.b_is_operand pass0 (sa_cons (se_ix (im_ix (hu65 hr)) (se_var 0) se_int (fun _ _ => rfl)) sa_nil))))))) sss_nil) (sss_cons (ss_if (st_cmp (om_eqX (hu65 hr)) (se_var 1) (se_str q_say) (nomark _)) (sss_one (ss_ret (se_and (se_cmp (om_eqX (hu65 hr)) (se_callB cm_len (by rfl) T.z_len bo_len (sa_cons (se_var 0) sa_nil)) se_int (nomark _)) (se_one (se_call (ok_is_operand T) (hr.mono (by decide)) (by rfl) T.g_is_operand T.F_is_operand.kp T.b_is_operand pass0 (sa_cons (se_ix (im_ix (hu65 hr)) (se_var 0) se_int (fun _ _ => rfl)) sa_nil)))))) sss_nil) (sss_cons (ss_if (st_cmp (om_eqX (hu65 hr)) (se_var 1) (se_str q_go) (nomark _)) (sss_one (ss_ret (se_and (se_cmp (om_eqX (hu65 hr)) (se_callB cm_len (by rfl) T.z_len bo_len (sa_cons (se_var 0) sa_nil)) se_int (nomark _)) (se_one (se_call (ok_is_whole_number T) (hr.mono (by decide)) (by rfl) T.g_is_whole_number T.F_is_whole_number.kp T.b_is_whole_number pass0 (sa_cons (se_ix (im_ix (hu65 hr)) (se_var 0) se_int (fun _ _ => rfl)) sa_nil)))))) sss_nil) (sss_cons (ss_if (st_cmp (om_eqX (hu65 hr)) (se_var 1) (se_str q_part) (nomark _)) (sss_one (ss_ret (se_and (se_cmp (om_eqX (hu65 hr)) (se_callB cm_len (by rfl) T.z_len bo_len (sa_cons (se_var 0) sa_nil)) se_int (nomark _)) (se_and (se_call (ok_is_operand T) (hr.mono (by decide)) (by rfl) T.g_is_operand T.F_is_operand.kp T.b_is_operand pass0 (sa_cons (se_ix (im_ix (hu65 hr)) (se_var 0) se_int (fun _ _ => rfl)) sa_nil)) (se_one (se_call (ok_is_whole_number T) (hr.mono (by decide)) (by rfl) T.g_is_whole_number T.F_is_whole_number.kp T.b_is_whole_number pass0 (sa_cons (se_ix (im_ix (hu65 hr)) (se_var 0) se_int (fun _ _ => rfl)) sa_nil))))))) sss_nil) (sss_one (ss_ret (se_and (se_cmp (om_eqX (hu65 hr)) (se_var 1) (se_str q_end) (nomark _)) (se_one (se_cmp (om_eqX (hu65 hr)) (se_callB cm_len (by rfl) T.z_len bo_len (sa_cons (se_var 0) sa_nil)) se_int (nomark _)))))))))))))
theorem ok_law_cell (T : Txt K mg) : FnOk P w K mg base CX0 1 T.f_law_cell T.fd_law_cell ["_law_script", "_law_k"] (spM ⟨K, mg⟩ m_law_cell) :=
  fn_ok (N := n_law_cell) (b := b_law_cell) T.F_law_cell sc_law_cell fun cdv A outer s H E hr =>
    (sss_cons (ss_if (st_cmp om_lt (se_var 1) (se_callB cm_len (by rfl) T.z_len bo_len (sa_cons (se_var 0) sa_nil)) (nomark _)) (sss_one (ss_ret (se_ix (im_ix (hu65 hr)) (se_var 0) (se_var 1) (fun _ _ => rfl)))) sss_nil) (sss_cons (ss_set (i := 2) sc_law_cell.nd rfl (by first | exact Or.inl rfl | exact Or.inr rfl) (se_callB cm_len (by rfl) T.z_len bo_len (sa_cons (se_var 0) sa_nil))) (sss_cons (ss_if (st_cmp (om_eqX (hu65 hr)) (se_var 2) se_int (nomark _)) (sss_one (ss_ret (se_op om_mul (se_var 1) se_int))) sss_nil) (sss_one (ss_ret (se_op om_add (se_op om_mul (se_op om_mod (se_callB cm_abs (by rfl) T.z_abs bo_abs (sa_cons (se_ix (im_ix (hu65 hr)) (se_var 0) (se_op om_mod (se_var 1) (se_var 2)) (fun _ _ => rfl)) sa_nil)) se_int) (se_op om_add (se_var 1) se_int)) (se_op om_mul (se_var 1) se_int)))))))
theorem ok_law_names (T : Txt K mg) : FnOk P w K mg base CX0 1 T.f_law_names T.fd_law_names ["_law_cell_here", "_law_many"] (spM ⟨K, mg⟩ m_law_names) :=
  fn_ok (N := n_law_names) (b := b_law_names) T.F_law_names sc_law_names fun cdv A outer s H E hr =>
    (sss_cons (ss_set (i := 2) sc_law_names.nd rfl (by first | exact Or.inl rfl | exact Or.inr rfl) (se_str q_x8_abcdefghijkl)) (sss_cons (ss_set (i := 3) sc_law_names.nd rfl (by first | exact Or.inl rfl | exact Or.inr rfl) (se_op om_add se_int (se_op om_mod (se_var 0) se_int))) (sss_cons (ss_set (i := 4) sc_law_names.nd rfl (by first | exact Or.inl rfl | exact Or.inr rfl) (se_op om_mod (se_op om_div (se_var 0) se_int) (se_var 3))) (sss_cons (ss_setLc (i := 5) (own := [("_law_j", 6)]) rfl sc_law_names.nd rfl rfl (sw_true rfl rfl rfl (by decide +kernel)) (si_rng1 (by rfl) T.z_range (sa_cons (se_var 3) sa_nil)) (blkOk_by (own := [("_law_j", 6)]) (N := n_law_names) (sc := defScope s_law_names) (by decide +kernel)) (gonly_name (by decide)) (fun _ _ _ _ _ => pg_name (i := 6) sc_law_names.nd rfl (by first | exact Or.inl rfl | exact Or.inr rfl)) (fun _ _ _ _ _ => sts_nil) (fun _ _ _ _ _ => (se_ix (im_ix (hu65 hr)) (se_var 2) (se_op om_mod (se_op om_div (se_var 0) (se_op om_add se_int (se_op om_mul se_int (se_var 6)))) (se_ix (im_ix (hu65 hr)) (se_lst (sa_cons se_int (sa_cons se_int sa_nil))) (se_callTy cm_int (by rfl) T.z_int bo_int (sa_cons (se_cmp om_gt (se_var 6) se_int (nomark _)) sa_nil)) (fun _ _ => rfl))) (fun _ _ => rfl)))) (sss_cons (ss_set (i := 7) sc_law_names.nd rfl (by first | exact Or.inl rfl | exact Or.inr rfl) (se_lst sa_nil)) (sss_cons (ss_for PassesOwn.never rfl (si_rng1 (by rfl) T.z_range (sa_cons (se_var 1) sa_nil)) (sg_name (i := 8) sc_law_names.nd rfl (by first | exact Or.inl rfl | exact Or.inr rfl)) (sss_cons (ss_asg (se_ix (im_ix (hu65 hr)) (se_var 2) (se_op om_mod (se_op om_add (se_op om_div (se_var 0) se_int) (se_var 8)) se_int) (fun _ _ => rfl)) (sg_sub (hu65 hr) (se_var 5) (se_var 4))) (sss_cons (ss_set (i := 9) sc_law_names.nd rfl (by first | exact Or.inl rfl | exact Or.inr rfl) (se_mt PySem.F.plainAttrs_str PySem.F.slot_str_join PySem.F.type_str_join mm_join ty_str (se_str q_x9_) (sa_cons (se_var 5) sa_nil))) (sss_cons (ss_if (st_cmp (om_in (hu65 hr)) (se_var 9) (se_tup (sa_cons (se_str q_say) (sa_cons (se_str q_go) (sa_cons (se_str q_part) (sa_cons (se_str q_end) sa_nil))))) rfl) (sss_one (ss_set (i := 9) sc_law_names.nd rfl (by first | exact Or.inl rfl | exact Or.inr rfl) (se_op om_add (se_var 9) (se_str q_x10_0)))) sss_nil) (sss_one (ss_expr (se_mt PySem.F.plainAttrs_list PySem.F.slot_list_append PySem.F.type_list_append mm_append ty_list (se_var 7) (sa_cons (se_var 9) sa_nil)))))))) (sss_one (ss_ret (se_var 7)))))))))
theorem ok_law_any_sign (T : Txt K mg) : FnOk P w K mg base CX0 1 T.f_law_any_sign T.fd_law_any_sign ["_law_cell_here"] (spM ⟨K, mg⟩ m_law_any_sign) :=
  fn_ok (N := n_law_any_sign) (b := b_law_any_sign) T.F_law_any_sign sc_law_any_sign fun cdv A outer s H E hr =>
    (sss_cons (ss_set (i := 1) sc_law_any_sign.nd rfl (by first | exact Or.inl rfl | exact Or.inr rfl) (se_str q_x11_0123456789ab)) (sss_one (ss_ret (se_ix (im_ix (hu65 hr)) (se_var 1) (se_op om_mod (se_var 0) se_int) (fun _ _ => rfl)))))
theorem ok_law_text (T : Txt K mg) : FnOk P w K mg base CX0 2 T.f_law_text T.fd_law_text ["_law_script"] (spM ⟨K, mg⟩ m_law_text) :=
  fn_ok (N := n_law_text) (b := b_law_text) T.F_law_text sc_law_text fun cdv A outer s H E hr =>
    (sss_cons (ss_set (i := 1) sc_law_text.nd rfl (by first | exact Or.inl rfl | exact Or.inr rfl) (se_str q_x8_abcdefghijkl)) (sss_cons (ss_set (i := 2) sc_law_text.nd rfl (by first | exact Or.inl rfl | exact Or.inr rfl) (se_call (ok_law_cell T) (hr.mono (by decide)) (by rfl) T.g_law_cell T.F_law_cell.kp T.b_law_cell pass0 (sa_cons (se_var 0) (sa_cons se_int sa_nil)))) (sss_cons (ss_setLc (i := 3) (own := [("_law_k", 4)]) rfl sc_law_text.nd rfl rfl (sw_true rfl rfl rfl (by decide +kernel)) (si_rng1 (by rfl) T.z_range (sa_cons (se_op om_mod (se_op om_div (se_var 2) se_int) se_int) sa_nil)) (blkOk_by (own := [("_law_k", 4)]) (N := n_law_text) (sc := defScope s_law_text) (by decide +kernel)) (gonly_name (by decide)) (fun _ _ _ _ _ => pg_name (i := 4) sc_law_text.nd rfl (by first | exact Or.inl rfl | exact Or.inr rfl)) (fun _ _ _ _ _ => sts_nil) (fun _ _ _ _ _ => (se_ix (im_ix (hu65 hr)) (se_var 1) (se_op om_mod (se_call (ok_law_cell T) (hr.mono (by decide)) (by rfl) T.g_law_cell T.F_law_cell.kp T.b_law_cell pass0 (sa_cons (se_var 0) (sa_cons (se_op om_add se_int (se_var 4)) sa_nil))) se_int) (fun _ _ => rfl)))) (sss_cons (ss_if (st_w (sw_and (st_cmp (om_eqX (hu65 hr)) (se_op om_mod (se_var 2) se_int) se_int (nomark _)) (sw_and1 (st_cmp om_gt (se_callB cm_len (by rfl) T.z_len bo_len (sa_cons (se_var 3) sa_nil)) se_int (nomark _))))) (sss_one (ss_asg (se_call (ok_law_any_sign T) (hr.mono (by decide)) (by rfl) T.g_law_any_sign T.F_law_any_sign.kp T.b_law_any_sign pass0 (sa_cons (se_call (ok_law_cell T) (hr.mono (by decide)) (by rfl) T.g_law_cell T.F_law_cell.kp T.b_law_cell pass0 (sa_cons (se_var 0) (sa_cons se_int sa_nil))) sa_nil)) (sg_sub (hu65 hr) (se_var 3) (se_op om_mod (se_op om_div (se_var 2) se_int) (se_callB cm_len (by rfl) T.z_len bo_len (sa_cons (se_var 3) sa_nil)))))) sss_nil) (sss_one (ss_ret (se_mt PySem.F.plainAttrs_str PySem.F.slot_str_join PySem.F.type_str_join mm_join ty_str (se_str q_x9_) (sa_cons (se_var 3) sa_nil))))))))
theorem ok_law_due_name (T : Txt K mg) : FnOk P w K mg base CX0 1 T.f_law_due_name T.fd_law_due_name ["_law_text_here"] (spM ⟨K, mg⟩ m_law_due_name) :=
  fn_ok (N := n_law_due_name) (b := b_law_due_name) T.F_law_due_name sc_law_due_name fun cdv A outer s H E hr =>
    (sss_cons (ss_if (st_w (sw_or (st_cmp (om_in (hu65 hr)) (se_var 0) (se_tup (sa_cons (se_str q_say) (sa_cons (se_str q_go) (sa_cons (se_str q_part) (sa_cons (se_str q_end) sa_nil))))) rfl) (sw_or (st_not (st_chain om_le om_le se_int (se_callB cm_len (by rfl) T.z_len bo_len (sa_cons (se_var 0) sa_nil)) se_int)) (sw_or1 (st_cmp (om_in (hu65 hr)) (se_ix (im_ix (hu65 hr)) (se_var 0) se_int (fun _ _ => rfl)) (se_str q_x1_0123456789) rfl))))) (sss_one (ss_ret se_bl)) sss_nil) (sss_cons (ss_for PassesOwn.never rfl (si_str (se_var 0)) (sg_name (i := 1) sc_law_due_name.nd rfl (by first | exact Or.inl rfl | exact Or.inr rfl)) (sss_one (ss_if (st_cmp (om_notin (hu65 hr)) (se_var 1) (se_str q_x8_abcdefghijkl) rfl) (sss_one (ss_ret se_bl)) sss_nil))) (sss_one (ss_ret se_bl))))
theorem ok_law_operand (T : Txt K mg) : FnOk P w K mg base CX0 1 T.f_law_operand T.fd_law_operand ["_law_cell_here", "_law_names_here"] (spM ⟨K, mg⟩ m_law_operand) :=
  fn_ok (N := n_law_operand) (b := b_law_operand) T.F_law_operand sc_law_operand fun cdv A outer s H E hr =>
    (sss_cons (ss_set (i := 2) sc_law_operand.nd rfl (by first | exact Or.inl rfl | exact Or.inr rfl) (se_lst (sa_cons (se_ix (im_ix (hu65 hr)) (se_var 1) (se_op om_mod (se_op om_div (se_var 0) se_int) (se_callB cm_len (by rfl) T.z_len bo_len (sa_cons (se_var 1) sa_nil))) (fun _ _ => rfl)) (sa_cons (se_op om_mod (se_op om_div (se_var 0) se_int) se_int) (sa_cons (se_op om_mod (se_op om_div (se_var 0) se_int) se_int) (sa_cons se_int sa_nil)))))) (sss_one (ss_ret (se_ix (im_ix (hu65 hr)) (se_var 2) (se_op om_mod (se_var 0) se_int) (fun _ _ => rfl)))))
theorem ok_law_no_operand (T : Txt K mg) : FnOk P w K mg base CX0 1 T.f_law_no_operand T.fd_law_no_operand ["_law_cell_here"] (spM ⟨K, mg⟩ m_law_no_operand) :=
  fn_ok (N := n_law_no_operand) (b := b_law_no_operand) T.F_law_no_operand sc_law_no_operand fun cdv A outer s H E hr =>
    (sss_cons (ss_set (i := 1) sc_law_no_operand.nd rfl (by first | exact Or.inl rfl | exact Or.inr rfl) (se_op om_add se_int (se_op om_mod (se_op om_div (se_var 0) se_int) (se_op om_pow se_int se_int)))) (sss_cons (ss_set (i := 2) sc_law_no_operand.nd rfl (by first | exact Or.inl rfl | exact Or.inr rfl) (se_lst (sa_cons se_non (sa_cons se_bl (sa_cons (se_op om_sub (se_neg se_int) (se_op om_mod (se_op om_div (se_var 0) se_int) (se_op om_pow se_int se_int))) (sa_cons (se_var 1) (sa_cons se_int (sa_cons (se_str q_x14_a) (sa_cons (se_str q_x9_) (sa_cons (se_str q_x13_9a) (sa_cons (se_str q_part) (sa_cons (se_str q_abcdefghi) sa_nil)))))))))))) (sss_one (ss_ret (se_ix (im_ix (hu65 hr)) (se_op om_add (se_var 2) (se_lst (sa_cons (se_tup (sa_cons (se_str q_a) sa_nil)) (sa_cons (se_lst (sa_cons (se_str q_a) sa_nil)) sa_nil)))) (se_op om_mod (se_var 0) se_int) (fun _ _ => rfl))))))
theorem ok_law_row (T : Txt K mg) : FnOk P w K mg base CX0 2 T.f_law_row T.fd_law_row ["_law_kind", "_law_cells", "_law_names_here"] (spM ⟨K, mg⟩ m_law_row) :=
  fn_ok (N := n_law_row) (b := b_law_row) T.F_law_row sc_law_row fun cdv A outer s H E hr =>
    (sss_cons (ss_set (i := 3) sc_law_row.nd rfl (by first | exact Or.inl rfl | exact Or.inr rfl) (se_ix (im_ix (hu65 hr)) (se_var 2) (se_op om_mod (se_ix (im_ix (hu65 hr)) (se_var 1) se_int (fun _ _ => rfl)) (se_callB cm_len (by rfl) T.z_len bo_len (sa_cons (se_var 2) sa_nil))) (fun _ _ => rfl))) (sss_cons (ss_set (i := 4) sc_law_row.nd rfl (by first | exact Or.inl rfl | exact Or.inr rfl) (se_call (ok_law_operand T) (hr.mono (by decide)) (by rfl) T.g_law_operand T.F_law_operand.kp T.b_law_operand pass0 (sa_cons (se_ix (im_ix (hu65 hr)) (se_var 1) se_int (fun _ _ => rfl)) (sa_cons (se_var 2) sa_nil)))) (sss_cons (ss_set (i := 5) sc_law_row.nd rfl (by first | exact Or.inl rfl | exact Or.inr rfl) (se_call (ok_law_operand T) (hr.mono (by decide)) (by rfl) T.g_law_operand T.F_law_operand.kp T.b_law_operand pass0 (sa_cons (se_ix (im_ix (hu65 hr)) (se_var 1) se_int (fun _ _ => rfl)) (sa_cons (se_var 2) sa_nil)))) (sss_cons (ss_if (st_cmp (om_eqX (hu65 hr)) (se_var 0) se_int (nomark _)) (sss_one (ss_ret (se_tup (sa_cons (se_str q_reckon) (sa_cons (se_var 3) (sa_cons (se_ix (im_ix (hu65 hr)) (se_str q_x16_) (se_op om_mod (se_ix (im_ix (hu65 hr)) (se_var 1) se_int (fun _ _ => rfl)) se_int) (fun _ _ => rfl)) (sa_cons (se_var 4) (sa_cons (se_var 5) sa_nil)))))))) sss_nil) (sss_cons (ss_if (st_cmp (om_eqX (hu65 hr)) (se_var 0) se_int (nomark _)) (sss_one (ss_ret (se_tup (sa_cons (se_str q_copy) (sa_cons (se_var 3) (sa_cons (se_var 4) sa_nil)))))) sss_nil) (sss_cons (ss_if (st_cmp (om_eqX (hu65 hr)) (se_var 0) se_int (nomark _)) (sss_one (ss_ret (se_tup (sa_cons (se_str q_say) (sa_cons (se_var 4) sa_nil))))) sss_nil) (sss_cons (ss_if (st_cmp (om_eqX (hu65 hr)) (se_var 0) se_int (nomark _)) (sss_one (ss_ret (se_tup (sa_cons (se_str q_go) (sa_cons (se_op om_mod (se_ix (im_ix (hu65 hr)) (se_var 1) se_int (fun _ _ => rfl)) (se_op om_pow se_int se_int)) sa_nil))))) sss_nil) (sss_one (ss_ret (se_ix (im_ix (hu65 hr)) (se_lst (sa_cons (se_tup (sa_cons (se_str q_part) (sa_cons (se_var 4) (sa_cons (se_op om_mod (se_ix (im_ix (hu65 hr)) (se_var 1) se_int (fun _ _ => rfl)) (se_op om_pow se_int se_int)) sa_nil)))) (sa_cons (se_tup (sa_cons (se_str q_end) sa_nil)) sa_nil))) (se_op om_sub (se_var 0) se_int) (fun _ _ => rfl)))))))))))
theorem ok_law_wrong (T : Txt K mg) : FnOk P w K mg base CX0 2 T.f_law_wrong T.fd_law_wrong ["_law_kind", "_law_spot", "_law_cell_here"] (spM ⟨K, mg⟩ m_law_wrong) :=
  fn_ok (N := n_law_wrong) (b := b_law_wrong) T.F_law_wrong sc_law_wrong fun cdv A outer s H E hr =>
    (sss_cons (ss_set (i := 3) sc_law_wrong.nd rfl (by first | exact Or.inl rfl | exact Or.inr rfl) (se_ix (im_ix (hu65 hr)) (se_lst (sa_cons (se_str q_reckon) (sa_cons (se_str q_copy) (sa_cons (se_str q_say) (sa_cons (se_str q_go) (sa_cons (se_str q_part) (sa_cons (se_str q_end) sa_nil))))))) (se_var 0) (fun _ _ => rfl))) (sss_cons (ss_if (st_cmp (om_eqX (hu65 hr)) (se_var 1) se_int (nomark _)) (sss_one (ss_ret (se_ix (im_ix (hu65 hr)) (se_lst (sa_cons (se_op om_add (se_var 3) (se_str q_s)) (sa_cons (se_mt0 PySem.F.plainAttrs_str PySem.F.slot_str_upper PySem.F.type_str_upper mm_upper ty_str (se_var 3)) (sa_cons (se_str q_x9_) (sa_cons (se_sl slm (se_var 3) so_none (so_some (se_neg se_int))) (sa_cons se_non (sa_cons (se_tup (sa_cons (se_var 3) sa_nil)) (sa_cons se_int (sa_cons (se_lst (sa_cons (se_var 3) sa_nil)) (sa_cons se_newK sa_nil)))))))))) (se_op om_mod (se_var 2) se_int) (fun _ _ => rfl)))) sss_nil) (sss_cons (ss_if (st_w (sw_and (st_cmp (om_eqX (hu65 hr)) (se_var 1) se_int (nomark _)) (sw_and1 (st_cmp om_lt (se_var 0) se_int (nomark _))))) (sss_one (ss_ret (se_ix (im_ix (hu65 hr)) (se_lst (sa_cons (se_op om_mod (se_op om_div (se_var 2) se_int) se_int) (sa_cons (se_call (ok_law_no_operand T) (hr.mono (by decide)) (by rfl) T.g_law_no_operand T.F_law_no_operand.kp T.b_law_no_operand pass0 (sa_cons (se_var 2) sa_nil)) sa_nil))) (se_op om_mod (se_op om_div (se_var 2) se_int) se_int) (fun _ _ => rfl)))) sss_nil) (sss_cons (ss_if (st_w (sw_and (st_cmp (om_eqX (hu65 hr)) (se_var 0) se_int (nomark _)) (sw_and1 (st_cmp (om_eqX (hu65 hr)) (se_var 1) se_int (nomark _))))) (sss_one (ss_ret (se_ix (im_ix (hu65 hr)) (se_lst (sa_cons (se_str q_x22_) (sa_cons (se_str q_x21_) (sa_cons (se_str q_x9_) (sa_cons (se_str q_x20_) (sa_cons se_non (sa_cons se_int (sa_cons (se_str q_x19_) (sa_cons (se_tup (sa_cons (se_str q_x18_) sa_nil)) (sa_cons (se_str q_a) (sa_cons (se_lst (sa_cons (se_str q_x18_) sa_nil)) sa_nil))))))))))) (se_op om_mod (se_var 2) se_int) (fun _ _ => rfl)))) sss_nil) (sss_cons (ss_if (st_w (sw_or (st_cmp (om_eqX (hu65 hr)) (se_var 0) se_int (nomark _)) (sw_or1 (st_w (sw_and (st_cmp (om_eqX (hu65 hr)) (se_var 0) se_int (nomark _)) (sw_and1 (st_cmp (om_eqX (hu65 hr)) (se_var 1) se_int (nomark _)))))))) (sss_one (ss_ret (se_ix (im_ix (hu65 hr)) (se_lst (sa_cons se_non (sa_cons se_bl (sa_cons (se_op om_sub (se_neg se_int) (se_op om_mod (se_op om_div (se_var 2) se_int) (se_op om_pow se_int se_int))) (sa_cons (se_str q_x10_0) (sa_cons (se_str q_a) sa_nil)))))) (se_op om_mod (se_var 2) se_int) (fun _ _ => rfl)))) sss_nil) (sss_one (ss_ret (se_call (ok_law_no_operand T) (hr.mono (by decide)) (by rfl) T.g_law_no_operand T.F_law_no_operand.kp T.b_law_no_operand pass0 (sa_cons (se_var 2) sa_nil)))))))))
theorem ok_law_made (T : Txt K mg) : FnOk P w K mg base CX0 3 T.f_law_made T.fd_law_made ["_law_row_here", "_law_kind", "_law_way", "_law_cell_here"] (spM ⟨K, mg⟩ m_law_made) :=
  fn_ok (N := n_law_made) (b := b_law_made) T.F_law_made sc_law_made fun cdv A outer s H E hr =>
    (sss_cons (ss_set (i := 4) sc_law_made.nd rfl (by first | exact Or.inl rfl | exact Or.inr rfl) (se_op om_mod (se_op om_div (se_var 3) se_int) (se_callB cm_len (by rfl) T.z_len bo_len (sa_cons (se_var 0) sa_nil)))) (sss_cons (ss_if (st_cmp (om_eqX (hu65 hr)) (se_var 2) se_int (nomark _)) (sss_one (ss_ret (se_op om_addA (se_slA slmA (se_var 0) so_none (so_some (se_var 4))) (se_slA slmA (se_var 0) (so_some (se_op om_addA (se_var 4) se_int)) so_none)))) sss_nil) (sss_cons (ss_if (st_cmp (om_eqX (hu65 hr)) (se_var 2) se_int (nomark _)) (sss_one (ss_ret (se_op om_addA (se_op om_addA (se_slA slmA (se_var 0) so_none (so_some (se_op om_addA (se_var 4) se_int))) (se_tup (sa_cons (se_call (ok_law_operand T) (hr.mono (by decide)) (by rfl) T.g_law_operand T.F_law_operand.kp T.b_law_operand pass0 (sa_cons (se_var 3) (sa_cons (se_lst (sa_cons (se_str q_a) sa_nil)) sa_nil))) sa_nil))) (se_slA slmA (se_var 0) (so_some (se_op om_addA (se_var 4) se_int)) so_none)))) sss_nil) (sss_cons (ss_if (st_cmp (om_eqX (hu65 hr)) (se_var 2) se_int (nomark _)) (sss_one (ss_ret (se_ix (im_ix (hu65 hr)) (se_lst (sa_cons (se_callTy (cm_list rfl) (by rfl) T.z_list bo_list (sa_cons (se_var 0) sa_nil)) (sa_cons (se_ix (im_ix (hu65 hr)) (se_var 0) se_int (fun _ _ => rfl)) (sa_cons (se_tup (sa_cons (se_var 0) sa_nil)) (sa_cons se_non (sa_cons se_newK sa_nil)))))) (se_op om_mod (se_op om_div (se_var 3) se_int) se_int) (fun _ _ => rfl)))) sss_nil) (sss_one (ss_ret (se_op om_addA (se_op om_addA (se_slA slmA (se_var 0) so_none (so_some (se_var 4))) (se_tup (sa_cons (se_call (ok_law_wrong T) (hr.mono (by decide)) (by rfl) T.g_law_wrong T.F_law_wrong.kp T.b_law_wrong pass0 (sa_cons (se_var 1) (sa_cons (se_var 4) (sa_cons (se_op om_div (se_var 3) se_int) sa_nil)))) sa_nil))) (se_slA slmA (se_var 0) (so_some (se_op om_addA (se_var 4) se_int)) so_none))))))))
theorem ok_law_good (T : Txt K mg) : FnOk P w K mg base CX0 5 T.f_law_good T.fd_law_good ["_law_thing", "_law_name", "_law_row_here"] (spM ⟨K, mg⟩ m_law_good) :=
  fn_ok (N := n_law_good) (b := b_law_good) T.F_law_good sc_law_good fun cdv A outer s H E hr =>
    (sss_cons (ss_set (i := 3) sc_law_good.nd rfl (by first | exact Or.inl rfl | exact Or.inr rfl) (se_call (ok_is_name T) (hr.mono (by decide)) (by rfl) T.g_is_name T.F_is_name.kp T.b_is_name pass0 (sa_cons (se_var 0) sa_nil))) (sss_cons (ss_set (i := 4) sc_law_good.nd rfl (by first | exact Or.inl rfl | exact Or.inr rfl) (se_call (ok_is_row T) (hr.mono (by decide)) (by rfl) T.g_is_row T.F_is_row.kp T.b_is_row pass0 (sa_cons (se_var 0) sa_nil))) (sss_one (ss_ret (se_and (se_isi .bool (by rfl) T.z_isinstance (by rfl) T.z_bool PyProof.Rows.boot_bool (se_var 3)) (se_and (se_isi .bool (by rfl) T.z_isinstance (by rfl) T.z_bool PyProof.Rows.boot_bool (se_var 4)) (se_one (se_cmp (om_eqX (hu65 hr)) (se_lst (sa_cons (se_var 3) (sa_cons (se_var 4) sa_nil))) (se_lst (sa_cons (se_var 1) (sa_cons (se_var 2) sa_nil))) (nomark _)))))))))
theorem ok_law (T : Txt K mg) : FnOk P w K mg base CX0 6 T.f_law T.fd_law ["_law_script"] (spM ⟨K, mg⟩ m_law) :=
  fn_ok (N := n_law) (b := b_law) T.F_law sc_law fun cdv A outer s H E hr =>
    (sss_cons (ss_set (i := 1) sc_law.nd rfl (by first | exact Or.inl rfl | exact Or.inr rfl) (se_call (ok_law_text T) (hr.mono (by decide)) (by rfl) T.g_law_text T.F_law_text.kp T.b_law_text pass0 (sa_cons (se_var 0) sa_nil))) (sss_cons (ss_set (i := 2) sc_law.nd rfl (by first | exact Or.inl rfl | exact Or.inr rfl) (se_call (ok_law_names T) (hr.mono (by decide)) (by rfl) T.g_law_names T.F_law_names.kp T.b_law_names pass0 (sa_cons (se_call (ok_law_cell T) (hr.mono (by decide)) (by rfl) T.g_law_cell T.F_law_cell.kp T.b_law_cell pass0 (sa_cons (se_var 0) (sa_cons se_int sa_nil))) (sa_cons se_int sa_nil)))) (sss_cons (ss_set (i := 3) sc_law.nd rfl (by first | exact Or.inl rfl | exact Or.inr rfl) (se_op om_mod (se_call (ok_law_cell T) (hr.mono (by decide)) (by rfl) T.g_law_cell T.F_law_cell.kp T.b_law_cell pass0 (sa_cons (se_var 0) (sa_cons se_int sa_nil))) se_int)) (sss_cons (ss_set (i := 4) sc_law.nd rfl (by first | exact Or.inl rfl | exact Or.inr rfl) (se_call (ok_law_row T) (hr.mono (by decide)) (by rfl) T.g_law_row T.F_law_row.kp T.b_law_row pass0 (sa_cons (se_var 3) (sa_cons (se_lc (own := [("_law_k", 5)]) rfl sc_law.nd (si_rng1 (by rfl) T.z_range (sa_cons se_int sa_nil)) (blkOk_by (own := [("_law_k", 5)]) (N := n_law) (sc := defScope s_law) (by decide +kernel)) (gonly_name (by decide)) (fun _ _ _ _ _ => pg_name (i := 5) sc_law.nd rfl (by first | exact Or.inl rfl | exact Or.inr rfl)) (fun _ _ _ _ _ => sts_nil) (fun _ _ _ _ _ => (se_call (ok_law_cell T) (hr.mono (by decide)) (by rfl) T.g_law_cell T.F_law_cell.kp T.b_law_cell pass0 (sa_cons (se_var 0) (sa_cons (se_op om_add se_int (se_var 5)) sa_nil))))) (sa_cons (se_var 2) sa_nil))))) (sss_cons (ss_set (i := 6) sc_law.nd rfl (by first | exact Or.inl rfl | exact Or.inr rfl) (se_op om_mod (se_op om_div (se_call (ok_law_cell T) (hr.mono (by decide)) (by rfl) T.g_law_cell T.F_law_cell.kp T.b_law_cell pass0 (sa_cons (se_var 0) (sa_cons se_int sa_nil))) se_int) se_int)) (sss_cons (ss_set (i := 7) sc_law.nd rfl (by first | exact Or.inl rfl | exact Or.inr rfl) (se_call (ok_law_made T) (hr.mono (by decide)) (by rfl) T.g_law_made T.F_law_made.kp T.b_law_made pass0 (sa_cons (se_var 4) (sa_cons (se_var 3) (sa_cons (se_var 6) (sa_cons (se_call (ok_law_cell T) (hr.mono (by decide)) (by rfl) T.g_law_cell T.F_law_cell.kp T.b_law_cell pass0 (sa_cons (se_var 0) (sa_cons se_int sa_nil))) sa_nil)))))) (sss_cons (ss_for PassesOwn.never rfl (si_rng1 (by rfl) T.z_range (sa_cons se_int sa_nil)) (sg_name (i := 8) sc_law.nd rfl (by first | exact Or.inl rfl | exact Or.inr rfl)) (sss_cons (ss_if (st_w (sw_or (st_not (st_tru (se_call (ok_law_good T) (hr.mono (by decide)) (by rfl) T.g_law_good T.F_law_good.kp T.b_law_good pass0 (sa_cons (se_var 1) (sa_cons (se_call (ok_law_due_name T) (hr.mono (by decide)) (by rfl) T.g_law_due_name T.F_law_due_name.kp T.b_law_due_name pass0 (sa_cons (se_var 1) sa_nil)) (sa_cons se_bl sa_nil)))))) (sw_or1 (st_not (st_tru (se_call (ok_law_good T) (hr.mono (by decide)) (by rfl) T.g_law_good T.F_law_good.kp T.b_law_good pass0 (sa_cons (se_var 4) (sa_cons se_bl (sa_cons se_bl sa_nil))))))))) (sss_one (ss_ret se_bl)) sss_nil) (sss_cons (ss_if (st_w (sw_and (st_cmp om_gt (se_var 6) se_int (nomark _)) (sw_and (st_cmp om_lt (se_var 6) se_int (nomark _)) (sw_and1 (st_not (st_tru (se_call (ok_law_good T) (hr.mono (by decide)) (by rfl) T.g_law_good T.F_law_good.kp T.b_law_good pass0 (sa_cons (se_var 7) (sa_cons (se_and (se_isi .str (by rfl) T.z_isinstance (by rfl) T.z_str PyProof.Rows.boot_str (se_var 7)) (se_one (se_call (ok_law_due_name T) (hr.mono (by decide)) (by rfl) T.g_law_due_name T.F_law_due_name.kp T.b_law_due_name pass0 (sa_cons (se_var 7) sa_nil)))) (sa_cons se_bl sa_nil)))))))))) (sss_one (ss_ret se_bl)) sss_nil) (sss_cons (ss_if (st_w (sw_and (st_cmp (om_eqX (hu65 hr)) (se_var 6) se_int (nomark _)) (sw_and1 (st_not (st_tru (se_call (ok_law_good T) (hr.mono (by decide)) (by rfl) T.g_law_good T.F_law_good.kp T.b_law_good pass0 (sa_cons (se_var 7) (sa_cons se_bl (sa_cons se_bl sa_nil))))))))) (sss_one (ss_ret se_bl)) sss_nil) (sss_cons (ss_for PassesOwn.never rfl (si_seq (se_lst (sa_cons se_non (sa_cons se_bl (sa_cons se_int (sa_cons (se_lst (sa_cons (se_var 1) sa_nil)) (sa_cons (se_tup (sa_cons (se_tup (sa_cons (se_var 1) sa_nil)) sa_nil)) (sa_cons se_newK (sa_cons (se_tup sa_nil) (sa_cons (se_lst sa_nil) (sa_cons (se_tup (sa_cons (se_str q_go) sa_nil)) (sa_cons (se_tup (sa_cons (se_str q_end) (sa_cons se_int sa_nil))) (sa_cons (se_str q_say) (sa_cons (se_str q_go) (sa_cons (se_str q_part) (sa_cons (se_str q_end) sa_nil)))))))))))))))) (sg_name (i := 9) sc_law.nd rfl (by first | exact Or.inl rfl | exact Or.inr rfl)) (sss_one (ss_if (st_not (st_tru (se_call (ok_law_good T) (hr.mono (by decide)) (by rfl) T.g_law_good T.F_law_good.kp T.b_law_good pass0 (sa_cons (se_var 9) (sa_cons se_bl (sa_cons se_bl sa_nil)))))) (sss_one (ss_ret se_bl)) sss_nil))) (sss_one (ss_if (st_w (sw_or (st_not (st_tru (se_call (ok_law_good T) (hr.mono (by decide)) (by rfl) T.g_law_good T.F_law_good.kp T.b_law_good pass0 (sa_cons (se_str q_abcdefgh) (sa_cons se_bl (sa_cons se_bl sa_nil)))))) (sw_or1 (st_not (st_tru (se_call (ok_law_good T) (hr.mono (by decide)) (by rfl) T.g_law_good T.F_law_good.kp T.b_law_good pass0 (sa_cons (se_tup (sa_cons (se_str q_end) sa_nil)) (sa_cons se_bl (sa_cons se_bl sa_nil))))))))) (sss_one (ss_ret se_bl)) sss_nil))))))) (sss_one (ss_ret se_bl)))))))))
end
theorem all_mk {P : Program} {w : World} {K : PySem.W.Frag} {h : Heap} {mg : Str → Option Value} {fa : Addr} (X : K.In h) (G : h.Ns mainGlobals mg) (hfa : mg "law" = some (.ref fa))
    {od1 an1 : Option Addr} {sl1 : Array (Option Value)} {oc1 kV1 dc1 pm1 cd1 ct1 : Value} {f1 : Addr}
    {od2 an2 : Option Addr} {sl2 : Array (Option Value)} {oc2 kV2 dc2 pm2 cd2 ct2 : Value} {f2 : Addr}
    {od3 an3 : Option Addr} {sl3 : Array (Option Value)} {oc3 kV3 dc3 pm3 cd3 ct3 : Value} {f3 : Addr}
    {od4 an4 : Option Addr} {sl4 : Array (Option Value)} {oc4 kV4 dc4 pm4 cd4 ct4 : Value} {f4 : Addr}
    {od5 an5 : Option Addr} {sl5 : Array (Option Value)} {oc5 kV5 dc5 pm5 cd5 ct5 : Value} {f5 : Addr}
    {od6 an6 : Option Addr} {sl6 : Array (Option Value)} {oc6 kV6 dc6 pm6 cd6 ct6 : Value} {f6 : Addr}
    {od7 an7 : Option Addr} {sl7 : Array (Option Value)} {oc7 kV7 dc7 pm7 cd7 ct7 : Value} {f7 : Addr}
    {od8 an8 : Option Addr} {sl8 : Array (Option Value)} {oc8 kV8 dc8 pm8 cd8 ct8 : Value} {f8 : Addr}
    {od9 an9 : Option Addr} {sl9 : Array (Option Value)} {oc9 kV9 dc9 pm9 cd9 ct9 : Value} {f9 : Addr}
    {od10 an10 : Option Addr} {sl10 : Array (Option Value)} {oc10 kV10 dc10 pm10 cd10 ct10 : Value} {f10 : Addr}
    {od11 an11 : Option Addr} {sl11 : Array (Option Value)} {oc11 kV11 dc11 pm11 cd11 ct11 : Value} {f11 : Addr}
    {od12 an12 : Option Addr} {sl12 : Array (Option Value)} {oc12 kV12 dc12 pm12 cd12 ct12 : Value} {f12 : Addr}
    {od13 an13 : Option Addr} {sl13 : Array (Option Value)} {oc13 kV13 dc13 pm13 cd13 ct13 : Value} {f13 : Addr}
    {od14 an14 : Option Addr} {sl14 : Array (Option Value)} {oc14 kV14 dc14 pm14 cd14 ct14 : Value} {f14 : Addr}
    {od15 an15 : Option Addr} {sl15 : Array (Option Value)} {oc15 kV15 dc15 pm15 cd15 ct15 : Value} {f15 : Addr}
    {od16 an16 : Option Addr} {sl16 : Array (Option Value)} {oc16 kV16 dc16 pm16 cd16 ct16 : Value} {f16 : Addr}
    {od17 an17 : Option Addr} {sl17 : Array (Option Value)} {oc17 kV17 dc17 pm17 cd17 ct17 : Value} {f17 : Addr}
    {tk1 : Tok}
    {tk2 : Tok}
    {tk3 : Tok}
    {ta4 : Addr} {tn4 : Nat} {tdd4 : Option Addr} {tsl4 : Array (Option Value)} {tk4_0 tk4_1 tk4_2 tk4_3 tk4_4 tk4_5 tk4_6 tk4_7 : Tok}
    {ta5 : Addr} {tn5 : Nat} {tdd5 : Option Addr} {tsl5 : Array (Option Value)} {tk5_0 tk5_1 tk5_2 tk5_3 : Tok}
    {tk6 : Tok}
    (a1 : PySem.W.nsIn K mainGlobals "is_name" = some (some (.ref f1))) (l1 : K.lookup f1 = some ⟨oc1, od1, .func (PySem.W.fnOf "is_name" "is_name" (defArgs s_is_name) (defBody s_is_name) (defScope s_is_name) .none kV1 dc1 pm1 an1 cd1 ct1), sl1⟩) (c1 : PySem.W.codeIn K cd1 "is_name" = true) (k1 : PySem.W.keepIn K (.ref f1) = true)
    (a2 : PySem.W.nsIn K mainGlobals "is_whole_number" = some (some (.ref f2))) (l2 : K.lookup f2 = some ⟨oc2, od2, .func (PySem.W.fnOf "is_whole_number" "is_whole_number" (defArgs s_is_whole_number) (defBody s_is_whole_number) (defScope s_is_whole_number) .none kV2 dc2 pm2 an2 cd2 ct2), sl2⟩) (c2 : PySem.W.codeIn K cd2 "is_whole_number" = true) (k2 : PySem.W.keepIn K (.ref f2) = true)
    (a3 : PySem.W.nsIn K mainGlobals "is_worth" = some (some (.ref f3))) (l3 : K.lookup f3 = some ⟨oc3, od3, .func (PySem.W.fnOf "is_worth" "is_worth" (defArgs s_is_worth) (defBody s_is_worth) (defScope s_is_worth) .none kV3 dc3 pm3 an3 cd3 ct3), sl3⟩) (c3 : PySem.W.codeIn K cd3 "is_worth" = true) (k3 : PySem.W.keepIn K (.ref f3) = true)
    (a4 : PySem.W.nsIn K mainGlobals "is_operand" = some (some (.ref f4))) (l4 : K.lookup f4 = some ⟨oc4, od4, .func (PySem.W.fnOf "is_operand" "is_operand" (defArgs s_is_operand) (defBody s_is_operand) (defScope s_is_operand) .none kV4 dc4 pm4 an4 cd4 ct4), sl4⟩) (c4 : PySem.W.codeIn K cd4 "is_operand" = true) (k4 : PySem.W.keepIn K (.ref f4) = true)
    (a5 : PySem.W.nsIn K mainGlobals "is_row" = some (some (.ref f5))) (l5 : K.lookup f5 = some ⟨oc5, od5, .func (PySem.W.fnOf "is_row" "is_row" (defArgs s_is_row) (defBody s_is_row) (defScope s_is_row) .none kV5 dc5 pm5 an5 cd5 ct5), sl5⟩) (c5 : PySem.W.codeIn K cd5 "is_row" = true) (k5 : PySem.W.keepIn K (.ref f5) = true)
    (a6 : PySem.W.nsIn K mainGlobals "_law_cell" = some (some (.ref f6))) (l6 : K.lookup f6 = some ⟨oc6, od6, .func (PySem.W.fnOf "_law_cell" "_law_cell" (defArgs s_law_cell) (defBody s_law_cell) (defScope s_law_cell) .none kV6 dc6 pm6 an6 cd6 ct6), sl6⟩) (c6 : PySem.W.codeIn K cd6 "_law_cell" = true) (k6 : PySem.W.keepIn K (.ref f6) = true)
    (a7 : PySem.W.nsIn K mainGlobals "_law_names" = some (some (.ref f7))) (l7 : K.lookup f7 = some ⟨oc7, od7, .func (PySem.W.fnOf "_law_names" "_law_names" (defArgs s_law_names) (defBody s_law_names) (defScope s_law_names) .none kV7 dc7 pm7 an7 cd7 ct7), sl7⟩) (c7 : PySem.W.codeIn K cd7 "_law_names" = true) (k7 : PySem.W.keepIn K (.ref f7) = true)
    (a8 : PySem.W.nsIn K mainGlobals "_law_any_sign" = some (some (.ref f8))) (l8 : K.lookup f8 = some ⟨oc8, od8, .func (PySem.W.fnOf "_law_any_sign" "_law_any_sign" (defArgs s_law_any_sign) (defBody s_law_any_sign) (defScope s_law_any_sign) .none kV8 dc8 pm8 an8 cd8 ct8), sl8⟩) (c8 : PySem.W.codeIn K cd8 "_law_any_sign" = true) (k8 : PySem.W.keepIn K (.ref f8) = true)
    (a9 : PySem.W.nsIn K mainGlobals "_law_text" = some (some (.ref f9))) (l9 : K.lookup f9 = some ⟨oc9, od9, .func (PySem.W.fnOf "_law_text" "_law_text" (defArgs s_law_text) (defBody s_law_text) (defScope s_law_text) .none kV9 dc9 pm9 an9 cd9 ct9), sl9⟩) (c9 : PySem.W.codeIn K cd9 "_law_text" = true) (k9 : PySem.W.keepIn K (.ref f9) = true)
    (a10 : PySem.W.nsIn K mainGlobals "_law_due_name" = some (some (.ref f10))) (l10 : K.lookup f10 = some ⟨oc10, od10, .func (PySem.W.fnOf "_law_due_name" "_law_due_name" (defArgs s_law_due_name) (defBody s_law_due_name) (defScope s_law_due_name) .none kV10 dc10 pm10 an10 cd10 ct10), sl10⟩) (c10 : PySem.W.codeIn K cd10 "_law_due_name" = true) (k10 : PySem.W.keepIn K (.ref f10) = true)
    (a11 : PySem.W.nsIn K mainGlobals "_law_operand" = some (some (.ref f11))) (l11 : K.lookup f11 = some ⟨oc11, od11, .func (PySem.W.fnOf "_law_operand" "_law_operand" (defArgs s_law_operand) (defBody s_law_operand) (defScope s_law_operand) .none kV11 dc11 pm11 an11 cd11 ct11), sl11⟩) (c11 : PySem.W.codeIn K cd11 "_law_operand" = true) (k11 : PySem.W.keepIn K (.ref f11) = true)
    (a12 : PySem.W.nsIn K mainGlobals "_law_no_operand" = some (some (.ref f12))) (l12 : K.lookup f12 = some ⟨oc12, od12, .func (PySem.W.fnOf "_law_no_operand" "_law_no_operand" (defArgs s_law_no_operand) (defBody s_law_no_operand) (defScope s_law_no_operand) .none kV12 dc12 pm12 an12 cd12 ct12), sl12⟩) (c12 : PySem.W.codeIn K cd12 "_law_no_operand" = true) (k12 : PySem.W.keepIn K (.ref f12) = true)
    (a13 : PySem.W.nsIn K mainGlobals "_law_row" = some (some (.ref f13))) (l13 : K.lookup f13 = some ⟨oc13, od13, .func (PySem.W.fnOf "_law_row" "_law_row" (defArgs s_law_row) (defBody s_law_row) (defScope s_law_row) .none kV13 dc13 pm13 an13 cd13 ct13), sl13⟩) (c13 : PySem.W.codeIn K cd13 "_law_row" = true) (k13 : PySem.W.keepIn K (.ref f13) = true)
    (a14 : PySem.W.nsIn K mainGlobals "_law_wrong" = some (some (.ref f14))) (l14 : K.lookup f14 = some ⟨oc14, od14, .func (PySem.W.fnOf "_law_wrong" "_law_wrong" (defArgs s_law_wrong) (defBody s_law_wrong) (defScope s_law_wrong) .none kV14 dc14 pm14 an14 cd14 ct14), sl14⟩) (c14 : PySem.W.codeIn K cd14 "_law_wrong" = true) (k14 : PySem.W.keepIn K (.ref f14) = true)
    (a15 : PySem.W.nsIn K mainGlobals "_law_made" = some (some (.ref f15))) (l15 : K.lookup f15 = some ⟨oc15, od15, .func (PySem.W.fnOf "_law_made" "_law_made" (defArgs s_law_made) (defBody s_law_made) (defScope s_law_made) .none kV15 dc15 pm15 an15 cd15 ct15), sl15⟩) (c15 : PySem.W.codeIn K cd15 "_law_made" = true) (k15 : PySem.W.keepIn K (.ref f15) = true)
    (a16 : PySem.W.nsIn K mainGlobals "_law_good" = some (some (.ref f16))) (l16 : K.lookup f16 = some ⟨oc16, od16, .func (PySem.W.fnOf "_law_good" "_law_good" (defArgs s_law_good) (defBody s_law_good) (defScope s_law_good) .none kV16 dc16 pm16 an16 cd16 ct16), sl16⟩) (c16 : PySem.W.codeIn K cd16 "_law_good" = true) (k16 : PySem.W.keepIn K (.ref f16) = true)
    (a17 : PySem.W.nsIn K mainGlobals "law" = some (some (.ref f17))) (l17 : K.lookup f17 = some ⟨oc17, od17, .func (PySem.W.fnOf "law" "law" (defArgs s_law) (defBody s_law) (defScope s_law) .none kV17 dc17 pm17 an17 cd17 ct17), sl17⟩) (c17 : PySem.W.codeIn K cd17 "law" = true) (k17 : PySem.W.keepIn K (.ref f17) = true)
    (z1 : PySem.W.nsIn K mainGlobals "abs" = some none)
    (z2 : PySem.W.nsIn K mainGlobals "bool" = some none)
    (z3 : PySem.W.nsIn K mainGlobals "int" = some none)
    (z4 : PySem.W.nsIn K mainGlobals "isinstance" = some none)
    (z5 : PySem.W.nsIn K mainGlobals "len" = some none)
    (z6 : PySem.W.nsIn K mainGlobals "list" = some none)
    (z7 : PySem.W.nsIn K mainGlobals "range" = some none)
    (z8 : PySem.W.nsIn K mainGlobals "str" = some none)
    (z9 : PySem.W.nsIn K mainGlobals "tuple" = some none)
    (u1 : PySem.W.nsIn K mainGlobals "FIGURES" = some (some (.str "0123456789" tk1)))
    (u2 : PySem.W.nsIn K mainGlobals "LETTERS" = some (some (.str "abcdefghijklmnopqrstuvwxyz" tk2)))
    (u3 : PySem.W.nsIn K mainGlobals "LONGEST" = some (some (.int 8 tk3)))
    (u4 : PySem.W.nsIn K mainGlobals "SIGNS" = some (some (.ref ta4))) (v4 : K.lookup ta4 = some ⟨.type "tuple", tdd4, .seq #[.str "+" tk4_0, .str "-" tk4_1, .str "*" tk4_2, .str "&" tk4_3, .str "|" tk4_4, .str "^" tk4_5, .str "<" tk4_6, .str "=" tk4_7] tn4, tsl4⟩)
    (u5 : PySem.W.nsIn K mainGlobals "TAKEN" = some (some (.ref ta5))) (v5 : K.lookup ta5 = some ⟨.type "tuple", tdd5, .seq #[.str "say" tk5_0, .str "go" tk5_1, .str "part" tk5_2, .str "end" tk5_3] tn5, tsl5⟩)
    (u6 : PySem.W.nsIn K mainGlobals "WORTHS" = some (some (.int 18446744073709551616 tk6)))
    (pure : ∀ ns : List Int, ns.length ≤ 63 → ∃ S, m_law [.ref 0] [.fls (ns.map .int)] = .ok (.bl true) S) :
    ∃ fd : FuncData, (∀ (s : Shared) (v : Value), BindsTo s fd ⟨[v], []⟩ [("_law_script", v)]) ∧ ∀ base : Heap, K.In base → base.Ns mainGlobals mg → FnOk P w K mg base CX0 6 fa fd ["_law_script"] (spLaw K) := by
  have e := hfa.symm.trans (PySem.W.mg_of X G a17)
  cases e
  have F1 := fun_mk (st := s_is_name) l1 c1 k1
  have F2 := fun_mk (st := s_is_whole_number) l2 c2 k2
  have F3 := fun_mk (st := s_is_worth) l3 c3 k3
  have F4 := fun_mk (st := s_is_operand) l4 c4 k4
  have F5 := fun_mk (st := s_is_row) l5 c5 k5
  have F6 := fun_mk (st := s_law_cell) l6 c6 k6
  have F7 := fun_mk (st := s_law_names) l7 c7 k7
  have F8 := fun_mk (st := s_law_any_sign) l8 c8 k8
  have F9 := fun_mk (st := s_law_text) l9 c9 k9
  have F10 := fun_mk (st := s_law_due_name) l10 c10 k10
  have F11 := fun_mk (st := s_law_operand) l11 c11 k11
  have F12 := fun_mk (st := s_law_no_operand) l12 c12 k12
  have F13 := fun_mk (st := s_law_row) l13 c13 k13
  have F14 := fun_mk (st := s_law_wrong) l14 c14 k14
  have F15 := fun_mk (st := s_law_made) l15 c15 k15
  have F16 := fun_mk (st := s_law_good) l16 c16 k16
  have F17 := fun_mk (st := s_law) l17 c17 k17
  let T : Txt K mg := {
    f_is_name := f1, fd_is_name := _, F_is_name := F1, g_is_name := PySem.W.mg_of X G a1, b_is_name := F1.binds (ps := ["thing"]) fun _ _ _ _ _ _ us hl => match us, hl with | [_], _ => rfl,
    f_is_whole_number := f2, fd_is_whole_number := _, F_is_whole_number := F2, g_is_whole_number := PySem.W.mg_of X G a2, b_is_whole_number := F2.binds (ps := ["thing"]) fun _ _ _ _ _ _ us hl => match us, hl with | [_], _ => rfl,
    f_is_worth := f3, fd_is_worth := _, F_is_worth := F3, g_is_worth := PySem.W.mg_of X G a3, b_is_worth := F3.binds (ps := ["thing"]) fun _ _ _ _ _ _ us hl => match us, hl with | [_], _ => rfl,
    f_is_operand := f4, fd_is_operand := _, F_is_operand := F4, g_is_operand := PySem.W.mg_of X G a4, b_is_operand := F4.binds (ps := ["thing"]) fun _ _ _ _ _ _ us hl => match us, hl with | [_], _ => rfl,
    f_is_row := f5, fd_is_row := _, F_is_row := F5, g_is_row := PySem.W.mg_of X G a5, b_is_row := F5.binds (ps := ["thing"]) fun _ _ _ _ _ _ us hl => match us, hl with | [_], _ => rfl,
    f_law_cell := f6, fd_law_cell := _, F_law_cell := F6, g_law_cell := PySem.W.mg_of X G a6, b_law_cell := F6.binds (ps := ["_law_script", "_law_k"]) fun _ _ _ _ _ _ us hl => match us, hl with | [_, _], _ => rfl,
    f_law_names := f7, fd_law_names := _, F_law_names := F7, g_law_names := PySem.W.mg_of X G a7, b_law_names := F7.binds (ps := ["_law_cell_here", "_law_many"]) fun _ _ _ _ _ _ us hl => match us, hl with | [_, _], _ => rfl,
    f_law_any_sign := f8, fd_law_any_sign := _, F_law_any_sign := F8, g_law_any_sign := PySem.W.mg_of X G a8, b_law_any_sign := F8.binds (ps := ["_law_cell_here"]) fun _ _ _ _ _ _ us hl => match us, hl with | [_], _ => rfl,
    f_law_text := f9, fd_law_text := _, F_law_text := F9, g_law_text := PySem.W.mg_of X G a9, b_law_text := F9.binds (ps := ["_law_script"]) fun _ _ _ _ _ _ us hl => match us, hl with | [_], _ => rfl,
    f_law_due_name := f10, fd_law_due_name := _, F_law_due_name := F10, g_law_due_name := PySem.W.mg_of X G a10, b_law_due_name := F10.binds (ps := ["_law_text_here"]) fun _ _ _ _ _ _ us hl => match us, hl with | [_], _ => rfl,
    f_law_operand := f11, fd_law_operand := _, F_law_operand := F11, g_law_operand := PySem.W.mg_of X G a11, b_law_operand := F11.binds (ps := ["_law_cell_here", "_law_names_here"]) fun _ _ _ _ _ _ us hl => match us, hl with | [_, _], _ => rfl,
    f_law_no_operand := f12, fd_law_no_operand := _, F_law_no_operand := F12, g_law_no_operand := PySem.W.mg_of X G a12, b_law_no_operand := F12.binds (ps := ["_law_cell_here"]) fun _ _ _ _ _ _ us hl => match us, hl with | [_], _ => rfl,
    f_law_row := f13, fd_law_row := _, F_law_row := F13, g_law_row := PySem.W.mg_of X G a13, b_law_row := F13.binds (ps := ["_law_kind", "_law_cells", "_law_names_here"]) fun _ _ _ _ _ _ us hl => match us, hl with | [_, _, _], _ => rfl,
    f_law_wrong := f14, fd_law_wrong := _, F_law_wrong := F14, g_law_wrong := PySem.W.mg_of X G a14, b_law_wrong := F14.binds (ps := ["_law_kind", "_law_spot", "_law_cell_here"]) fun _ _ _ _ _ _ us hl => match us, hl with | [_, _, _], _ => rfl,
    f_law_made := f15, fd_law_made := _, F_law_made := F15, g_law_made := PySem.W.mg_of X G a15, b_law_made := F15.binds (ps := ["_law_row_here", "_law_kind", "_law_way", "_law_cell_here"]) fun _ _ _ _ _ _ us hl => match us, hl with | [_, _, _, _], _ => rfl,
    f_law_good := f16, fd_law_good := _, F_law_good := F16, g_law_good := PySem.W.mg_of X G a16, b_law_good := F16.binds (ps := ["_law_thing", "_law_name", "_law_row_here"]) fun _ _ _ _ _ _ us hl => match us, hl with | [_, _, _], _ => rfl,
    f_law := fa, fd_law := _, F_law := F17, g_law := PySem.W.mg_of X G a17, b_law := F17.binds (ps := ["_law_script"]) fun _ _ _ _ _ _ us hl => match us, hl with | [_], _ => rfl,
    z_abs := PySem.W.mg_none_of X G z1,
    z_bool := PySem.W.mg_none_of X G z2,
    z_int := PySem.W.mg_none_of X G z3,
    z_isinstance := PySem.W.mg_none_of X G z4,
    z_len := PySem.W.mg_none_of X G z5,
    z_list := PySem.W.mg_none_of X G z6,
    z_range := PySem.W.mg_none_of X G z7,
    z_str := PySem.W.mg_none_of X G z8,
    z_tuple := PySem.W.mg_none_of X G z9,
    tk_FIGURES := tk1, g_FIGURES := PySem.W.mg_of X G u1,
    tk_LETTERS := tk2, g_LETTERS := PySem.W.mg_of X G u2,
    tk_LONGEST := tk3, g_LONGEST := PySem.W.mg_of X G u3,
    a_SIGNS := ta4, xs_SIGNS := [.str (sOf t_x18_), .str (sOf t_x24_), .str (sOf t_x25_), .str (sOf t_x26_), .str (sOf t_x27_), .str (sOf t_x28_), .str (sOf t_x29_), .str (sOf t_x30_)], g_SIGNS := PySem.W.mg_of X G u4, k_SIGNS := .inr ⟨_, _, _, v4, rfl, rfl, (by show (8 : Nat) ≤ sizeLine; decide), .cons ⟨_, congrArg (fun z => Value.str z _) q_x18_⟩ (.cons ⟨_, congrArg (fun z => Value.str z _) q_x24_⟩ (.cons ⟨_, congrArg (fun z => Value.str z _) q_x25_⟩ (.cons ⟨_, congrArg (fun z => Value.str z _) q_x26_⟩ (.cons ⟨_, congrArg (fun z => Value.str z _) q_x27_⟩ (.cons ⟨_, congrArg (fun z => Value.str z _) q_x28_⟩ (.cons ⟨_, congrArg (fun z => Value.str z _) q_x29_⟩ (.cons ⟨_, congrArg (fun z => Value.str z _) q_x30_⟩ (.nil))))))))⟩, r_SIGNS := .cons (.str _) (.cons (.str _) (.cons (.str _) (.cons (.str _) (.cons (.str _) (.cons (.str _) (.cons (.str _) (.cons (.str _) (.nil)))))))),
    a_TAKEN := ta5, xs_TAKEN := [.str (sOf t_say), .str (sOf t_go), .str (sOf t_part), .str (sOf t_end)], g_TAKEN := PySem.W.mg_of X G u5, k_TAKEN := .inr ⟨_, _, _, v5, rfl, rfl, (by show (4 : Nat) ≤ sizeLine; decide), .cons ⟨_, congrArg (fun z => Value.str z _) q_say⟩ (.cons ⟨_, congrArg (fun z => Value.str z _) q_go⟩ (.cons ⟨_, congrArg (fun z => Value.str z _) q_part⟩ (.cons ⟨_, congrArg (fun z => Value.str z _) q_end⟩ (.nil))))⟩, r_TAKEN := .cons (.str _) (.cons (.str _) (.cons (.str _) (.cons (.str _) (.nil)))),
    tk_WORTHS := tk6, g_WORTHS := PySem.W.mg_of X G u6 }
  exact ⟨T.fd_law, fun s v => .of_eq rfl, fun base _ _ => (ok_law T).imp (law_sp pure)⟩
end Lk10
open PySem PySem.W PyProof.Rows
set_option maxRecDepth 100000 in
set_option maxHeartbeats 0 in
theorem PySem.Challenge.cw_lazyhoist_k10_names_and_rows_holds : PySem.Challenge.rw_lazyhoist_k10_names_and_rows.Holds := by
  w_on; o_law; k_head; (case hw => w_witness2)
  k_fill
  refine L2.walk_of (l := PySem.Challenge.rw_lazyhoist_k10_names_and_rows) (n := 63) (k := 6) (x := "_law_script") (CX := fun _ => L2.CX0) (sp := fun w => Sm.spLaw _) rfl (by decide) rfl ⟨rfl, by decide, by decide⟩ (fun w h Y => PySem.W.kIn_of Y) ?F (fun _ _ a ns hl hO hS => ⟨a, ns, rfl, hS, hO, hl, fun _ => rfl⟩) (fun _ _ _ _ _ h => h)
  case F =>
    intro w mg fa h KX G hmg
    refine' Lk10.all_mk KX G hmg ?a1 ?l1 ?c1 ?k1 ?a2 ?l2 ?c2 ?k2 ?a3 ?l3 ?c3 ?k3 ?a4 ?l4 ?c4 ?k4 ?a5 ?l5 ?c5 ?k5 ?a6 ?l6 ?c6 ?k6 ?a7 ?l7 ?c7 ?k7 ?a8 ?l8 ?c8 ?k8 ?a9 ?l9 ?c9 ?k9 ?a10 ?l10 ?c10 ?k10 ?a11 ?l11 ?c11 ?k11 ?a12 ?l12 ?c12 ?k12 ?a13 ?l13 ?c13 ?k13 ?a14 ?l14 ?c14 ?k14 ?a15 ?l15 ?c15 ?k15 ?a16 ?l16 ?c16 ?k16 ?a17 ?l17 ?c17 ?k17 ?z1 ?z2 ?z3 ?z4 ?z5 ?z6 ?z7 ?z8 ?z9 ?u1 ?u2 ?u3 ?u4 ?v4 ?u5 ?v5 ?u6 ?pure
    (case a1 => k_is); (case l1 => k_is); (case c1 => k_is); (case k1 => k_is); (case a2 => k_is); (case l2 => k_is); (case c2 => k_is); (case k2 => k_is)
    (case a3 => k_is); (case l3 => k_is); (case c3 => k_is); (case k3 => k_is); (case a4 => k_is); (case l4 => k_is); (case c4 => k_is); (case k4 => k_is)
    (case a5 => k_is); (case l5 => k_is); (case c5 => k_is); (case k5 => k_is); (case a6 => k_is); (case l6 => k_is); (case c6 => k_is); (case k6 => k_is)
    (case a7 => k_is); (case l7 => k_is); (case c7 => k_is); (case k7 => k_is); (case a8 => k_is); (case l8 => k_is); (case c8 => k_is); (case k8 => k_is)
    (case a9 => k_is); (case l9 => k_is); (case c9 => k_is); (case k9 => k_is); (case a10 => k_is); (case l10 => k_is); (case c10 => k_is); (case k10 => k_is)
    (case a11 => k_is); (case l11 => k_is); (case c11 => k_is); (case k11 => k_is); (case a12 => k_is); (case l12 => k_is); (case c12 => k_is); (case k12 => k_is)
    (case a13 => k_is); (case l13 => k_is); (case c13 => k_is); (case k13 => k_is); (case a14 => k_is); (case l14 => k_is); (case c14 => k_is); (case k14 => k_is)
    (case a15 => k_is); (case l15 => k_is); (case c15 => k_is); (case k15 => k_is); (case a16 => k_is); (case l16 => k_is); (case c16 => k_is); (case k16 => k_is)
    (case a17 => k_is); (case l17 => k_is); (case c17 => k_is); (case k17 => k_is); (case z1 => k_is); (case z2 => k_is); (case z3 => k_is); (case z4 => k_is)
    (case z5 => k_is); (case z6 => k_is); (case z7 => k_is); (case z8 => k_is); (case z9 => k_is); (case u1 => k_is); (case u2 => k_is); (case u3 => k_is)
    (case u4 => k_is); (case v4 => k_is); (case u5 => k_is); (case v5 => k_is); (case u6 => k_is)
    (case pure => exact Lk10.law_pure)
